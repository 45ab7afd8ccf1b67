import PyProof.Rows.All
import Wide.All
import OpenK.AllK
import Wide.FinOn
import PyProof.EqAt
import HandS.ForMost
import HandS.ForExc
import KE.GoesMore
import HandS.Conv
import KE.KMathGC
import KE.SortData
import KE.DataMinMax
import HandS.List
import KE.DatumOrd
import KE.KMathG
import HandS.Wide
import HandS.Deep
import HandS.Style
import HandS.TupAny
import HandS.TupMul
import HandS.IsInst
import HandS.Gcd
import HandS.Defaults
import HandS.ExcIs
import HandS.ExcField
import HandS.TryMany
import KE.KExcIs
import HandS.Flow
import HandS.ExcInit
import HandS.NoneIn
import KE.KStateDown
import Lean
import HandS.Ends
import HandS.More
import HandS.Words
import HandS.WordsExc
import HandS.Head0
import HandS.Head1
import HandS.Head2
import HandS.HeadEnd
import HandS.HeadHook1
import HandS.HeadHook2
import KE.HD3
import PySem.Challenge.RW_onlywhatvaries_k72_fences_reckoned
set_option Elab.async false
set_option linter.all false
set_option maxRecDepth 100000
set_option maxHeartbeats 4000000
/-! enumerate of a tuple, walked. -/
namespace PI
open PySem PySem.Spec PyProof.Rows L2
theorem enum_newT (l : Addr) (items : Array Value) (n : Nat) (dct : Option Addr) (sl : Array (Option Value)) :
    Meets (Builtin.«enumerate.__new__» ⟨[.type "enumerate", .ref l], []⟩) (fun _ R s => s.heap.get? l = some { cls := .type "tuple", dict := dct, data := .seq items n, slots := sl } ∧
      R (.ok (.ret (.ref (s.heap.push { cls := .type "tuple_iterator", data := .fields #[.ref l, .int 0 0] }).objs.size)))
        { s with heap := (s.heap.push { cls := .type "tuple_iterator", data := .fields #[.ref l, .int 0 0] }).push { cls := .type "enumerate", data := .fields #[.none, .bool false, .ref s.heap.objs.size, rawInt 0, .none, .none] } }) :=
  .of_wp fun prog w A R s q => by
    obtain ⟨hp, g, d, tk, os⟩ := s
    obtain ⟨hl, q⟩ := q
    have hsub := sub_enumerate
    have hT : Heap.IsTuple (Shared.heap ⟨hp, g, d, tk, os⟩) l items := ⟨_, hl, rfl, n, rfl⟩
    wp_walk using wpAny_loadPart' hl
    refine wpAny_stack_any fun st => wpAny_pure ?_
    split
    · rename_i c _ _ _ _ _
      cases (c == Value.type "enumerate") <;> (wp_walk using wpAny_loadPart' hl, wpAny_pyIter_tuple hT; exact ⟨_, rfl, q⟩)
    · wp_walk using wpAny_loadPart' hl, wpAny_pyIter_tuple hT
      exact ⟨_, rfl, q⟩
theorem call_enumT {prog : Program} {w : World} {A : Around} {E : Value → Shared → Prop} {s : Shared} {l : Addr} {items : Array Value} {Q : Value → Shared → Prop} (hL : s.heap.IsTuple l items)
    (k : ∀ h', IsEnum h' (s.heap.objs.size + 1) s.heap.objs.size 0 .none → h'.IsTupleIter s.heap.objs.size l 0 → h'.objs.size = s.heap.objs.size + 2 → (∀ b o, s.heap.get? b = some o → h'.get? b = some o) → Q (.ref (s.heap.objs.size + 1)) { s with heap := h' }) :
    wpAny (model prog w) A (call (.type "enumerate") [.ref l]) Q E s := by
  obtain ⟨⟨c, dct, dt, sl⟩, hl, hc, n, hd⟩ := hL
  simp only at hc hd
  subst hc hd
  refine callType_new F.called_enumerate (by decide) (F.typeCall_enumerate_1 _) (F.newCall_enumerate_1 _) (fun obj => F.args_object_init_2 obj _) F.entry_enumerate_new (enum_newT l items n dct sl) ⟨hl, ?_⟩
  have hz : (s.heap.push { cls := .type "tuple_iterator", data := .fields #[.ref l, .int 0 0] }).objs.size = s.heap.objs.size + 1 := Heap.size_push ..
  show _ ∧ _
  rw [hz]
  have he := Heap.get?_push_size (s.heap.push { cls := .type "tuple_iterator", data := .fields #[.ref l, .int 0 0] }) (o := { cls := .type "enumerate", data := .fields #[.none, .bool false, .ref s.heap.objs.size, rawInt 0, .none, .none] }) rfl
  rw [hz] at he
  exact ⟨⟨_, he, rfl⟩, k _ he ⟨_, Heap.get?_push_of_some _ (Heap.get?_push_size _ rfl), rfl, rfl⟩ (by rw [Heap.size_push, hz]) fun b o x => Heap.get?_push_of_some _ (Heap.get?_push_of_some _ x)⟩
/-- behind the last item nothing is drawn -/
theorem draws_end {prog : Program} {w : World} {A : Around} (hh : A.handled = none) (it t : Addr) (items : Array Value) (n : Nat) (hn : items.size ≤ n) :
    Draws prog w A it [it, t] n (fun _ _ => False) (fun i h => i = n ∧ h.IsTupleIter it t n ∧ h.IsTuple t items) where
  live := fun _ _ st => let ⟨o, ho, _⟩ := st.2.1; ⟨o, ho⟩
  frame := fun _ _ _ st hk => ⟨st.1, st.2.1.at fun o e => hk it (by simp) o e, st.2.2.at fun o e => hk t (by simp) o e⟩
  item := fun i s Q E hi st hQ => absurd st.1 (Nat.ne_of_lt hi)
  done := fun s Q E st hE => wpAny_nextOf_tuple_end hh st.2.1 st.2.2 (by simpa using hn) hE
/-- the tuple at a, each item in a new pair -/
def IteT (K : PySem.W.Frag) (a : Addr) : It where
  go := fun i H => ∃ (xs : List V) (x : V), SqT K H a xs ∧ xs[i]? = some x
  yld := fun i H v H' => ∃ T x, v = .ref T ∧ H T = none ∧ H' = upd H T (.tup [.int (i : Nat), x]) ∧ ∀ xs, SqT K H a xs → xs[i]? = some x
  stop := fun i H => ∃ xs : List V, SqT K H a xs ∧ xs.length ≤ i
theorem turn_enT {P : Program} {w : World} {K : PySem.W.Frag} {elts : List Expr} {kk : Nat} {tpos : Pos} (a e it : Addr) :
    Turn P w K (.Tuple elts kk tpos) (IteT K a) [e, it] e (fun i h => (∃ old, IsEnum h e it ((i : Nat) : Int) old) ∧ h.IsTupleIter it a i ∧ e ≠ it) where
  mem := by simp
  obj := fun i h st b hb => by
    obtain ⟨⟨old, he⟩, ⟨o, ho, hc, hd⟩, _⟩ := st
    simp only [List.mem_cons, List.not_mem_nil, or_false] at hb
    rcases hb with rfl | rfl
    · exact ⟨_, he, fun v q => nomatch q⟩
    · exact ⟨o, ho, fun v q => by rw [hd] at q; cases q⟩
  keep := fun i h h' st k => let ⟨⟨old, he⟩, hi, hne⟩ := st; ⟨⟨old, k e (by simp) _ he⟩, hi.at fun o q => k it (by simp) o q, hne⟩
  item := by
    intro X hP hw hK hc i pins s σ H E I hf st hg
    subst hP hw hK
    obtain ⟨⟨old, he⟩, hit, hne⟩ := st
    obtain ⟨xs, x, hq, hx⟩ := hg
    obtain ⟨its, rv, p, hz⟩ := I.tuple hq
    obtain ⟨u, hu, ru⟩ := rv.get hx
    have pT : s.heap.IsTuple a its.toArray := p
    have hel : e < s.heap.objs.size := Heap.lt_size he
    have hil : it < s.heap.objs.size := by obtain ⟨_, q, _⟩ := hit; exact Heap.lt_size q
    have hae : a ≠ e := fun z => by
      obtain ⟨o, q1, q2, _⟩ := p
      rw [z, he] at q1; cases q1; exact absurd (show Value.type "enumerate" = Value.type "tuple" from q2) (by decide)
    have hai : a ≠ it := fun z => by
      obtain ⟨o, q1, q2, _⟩ := p
      obtain ⟨o', q3, q4, _⟩ := hit
      rw [z, q3] at q1; cases q1; rw [q2] at q4; exact absurd q4 (by decide)
    refine wpAny_pyNext_enum_itemD (Draws.tuple (A := X.A.in1) (I.ok.hd hc) it a hai its.toArray) he ⟨hit, pT⟩ (by have := (List.getElem?_eq_some_iff.mp hu).1; simpa using this) hne (by simp [hne, Ne.symm hae]) fun y h' tk hy ho hit' hT hsz hk => ?_
    have hy' : y = u := by
      have h2 : its[i]? = some y := by simpa using hy
      rw [hu] at h2; exact (Option.some.inj h2).symm
    subst hy'
    refine ⟨_, rfl, wpAny_letOwnedTupleGo_enum (s := { s with heap := h', toks := tk + 1 }) ho fun h'' he' sb => ?_⟩
    have hT2 : h''.get? s.heap.objs.size = some { cls := .type "tuple", data := .seq #[.int i tk, y] } := (sb.2 _ (Nat.ne_of_gt hel)).trans hT
    have new : ObjOk X.prog X.w (upd H s.heap.objs.size (.tup [.int (i : Nat), x])) h'' s.heap.objs.size (.tup [.int (i : Nat), x]) :=
      ⟨by rw [sizeLine_eq]; show 2 ≤ 16777216; decide, [.int i tk, y], .cons ⟨_, rfl⟩ (.cons ru .nil), ⟨_, hT2, rfl, _, rfl⟩⟩
    have I1 : Inv X pins σ (upd H s.heap.objs.size (.tup [.int (i : Nat), x])) { s with heap := h'', toks := tk + 1 } :=
      I.turnedNew (ch := [e, it]) (fun b ob hb q => (sb.2 b fun z => hb (by simp [z])).trans (hk b ob (fun z => hb (by simp [z])) (fun z => hb (by simp [z])) q)) hf (Nat.le_refl _) new
    refine ⟨.ref s.heap.objs.size, _, I1, rfl, ⟨_, x, rfl, I.hok.fresh (Nat.le_refl _), rfl, fun ys hy => by rw [I.tuple_inj hy hq]; exact hx⟩, ⟨⟨y, by rw [show ((i + 1 : Nat) : Int) = (i : Int) + 1 by omega]; exact he'⟩, hit'.1.at fun o q => (sb.2 it (Ne.symm hne)).trans q, hne⟩, fun b hb => ?_⟩
    have hb' : b < s.heap.objs.size := by
      simp only [List.mem_cons, List.not_mem_nil, or_false] at hb
      rcases hb with rfl | rfl
      · exact hel
      · exact hil
    rw [upd_ne (Nat.ne_of_lt hb')]
    exact (hf b hb).1
  done := by
    intro X hP hw hK hc i pins s σ H E I hf st hg
    subst hP hw hK
    obtain ⟨⟨old, he⟩, hit, hne⟩ := st
    obtain ⟨xs, hq, hx⟩ := hg
    obtain ⟨its, rv, p, hz⟩ := I.tuple hq
    have pT : s.heap.IsTuple a its.toArray := p
    obtain ⟨f0, f1, f2, f3, f4, f5⟩ := hf it (by simp)
    have hl := rv.length
    exact wpAny_pyNext_enum_endD (draws_end (A := X.A.in1) (I.ok.hd hc) it a its.toArray i (by simp; omega)) he ⟨rfl, hit, pT⟩ fun h' eb => ⟨rfl, I.turned (t' := s.toks) (fun b o hb q => eb b o hb q) f0 f1 f3 f4 f5⟩
  self := fun A i s Q E st h => let ⟨⟨_, he⟩, _⟩ := st; wpAny_pyIter_enum he h
def iEnT (K : PySem.W.Frag) (ta : TA) : TI := fun σ H R => ta σ H fun vs H1 => ∃ a xs, vs = [.ref a] ∧ SqT K H1 a xs ∧ R (IteT K a) H1
theorem pi_enT {X : L2.Cx} {e : Expr} {ta : TA} {p pos tpos : Pos} {elts : List Expr} {kk : Nat} (hg : Gl X "enumerate") (hm : X.mg "enumerate" = none) (ha : PA X [e] ta) (hs : starEach [e] X.env = [(false, eval e X.env)]) :
    PI X (.Tuple elts kk tpos) (.Call (.Name "enumerate" p) [e] [] pos) (iEnT X.K ta) := by
  refine ⟨fun pins s σ H R I h => Call_ (ld_blt I hg hm boot_enumerate (PyProof.Rows.callWith_type1 (thn (ha.run pos pins s σ H _ I h) fun us s1 ⟨vs, H1, I1, r1, q1⟩ => ?_) hs rfl))⟩
  obtain ⟨a, xs, rfl, hq, q⟩ := q1
  obtain ⟨u, rfl, r⟩ := vals1 r1
  cases r
  obtain ⟨its, rv, p', hz⟩ := I1.tuple hq
  refine call_enumT (show s1.heap.IsTuple a its.toArray from p') fun h' he hit hsz hk => wpAny_pyIter_enum he ?_
  have I2 : Inv X pins σ H1 { s1 with heap := h' } := I1.kept (t' := s1.toks) hk
  refine ⟨s1.heap.objs.size + 1, [s1.heap.objs.size + 1, s1.heap.objs.size], _, _, H1, rfl, I2, turn_enT a (s1.heap.objs.size + 1) s1.heap.objs.size, ⟨⟨.none, he⟩, hit, Nat.succ_ne_self _⟩, fun b hb => ?_, q⟩
  have hle : s1.heap.objs.size ≤ b := by
    simp only [List.mem_cons, List.not_mem_nil, or_false] at hb
    rcases hb with rfl | rfl <;> omega
  exact I1.fpOk hle (I1.hok.fresh hle)
end PI


set_option Elab.async false
set_option linter.all false
set_option maxRecDepth 100000
set_option maxHeartbeats 4000000
/-! list(range(a, b, c)), tuple(range(a, b, c)) -/
namespace PI
open PySem PySem.Spec PyProof.Rows PySem.W L2
/-- how many -/
def rgN (i j c : Int) : Nat := (Builtin.Range.rangeSize i j c).toNat
def rg3Ok (i j c : Int) : Bool := decide (c ≠ 0) && decide (c.natAbs < 1073741824) && Builtin.Range.small i j c && decide (rgN i j c ≤ 2 ^ 24)
def rg3V (i j c : Int) : List L2.V := (List.range (rgN i j c)).map fun k => L2.V.int (i + (k : Nat) * c)
theorem rg3V_length (i j c : Int) : (rg3V i j c).length = rgN i j c := by simp [rg3V]
theorem vals_rg3 {i j c : Int} {acc : Array Value} (h : ItemsOf (fun k v => ∃ t, v = .int (i + k * c) t) acc (rgN i j c)) : Vals (rg3V i j c) acc.toList := by
  have n : acc.toList.length = rgN i j c := by rw [Array.length_toList]; exact h.1
  unfold rg3V
  rw [← n]
  exact vals_of_get acc.toList _ fun k u hk => by
    obtain ⟨t, rfl⟩ := h.2 k u (by rw [← hk, Array.getElem?_toList])
    exact ⟨t, rfl⟩
/-- an expression that makes a range with a step -/
def PRg3 (X : L2.Cx) (e : Expr) (f : L2.St → Hp → (Int → Int → Int → Hp → Prop) → Prop) : Prop :=
  ∀ (pins : List (Addr × Obj)) (s : Shared) (σ : L2.St) (H : Hp) (Q : Int → Int → Int → Hp → Prop), Inv X pins σ H s → f σ H Q →
    wpAny (model X.prog X.w) X.A (eval e X.env)
      (fun x s' => ∃ r i j c t u v H', x = .ref r ∧ IsRange s'.heap r i j c t u v ∧ Inv X pins σ H' s' ∧ Q i j c H') X.xe s
section
variable {X : L2.Cx} {a b c e : Expr} {f : L2.St → Hp → (Int → Int → Int → Hp → Prop) → Prop}
theorem prg_3 {ta : TA} {p pos : Pos} (hg : Gl X "range") (hm : X.mg "range" = none) (ha : PA X [a, b, c] ta)
    (hs : starEach [a, b, c] X.env = (false, eval a X.env) :: starEach [b, c] X.env) (hpl : (backTo pos (starEach [b, c] X.env)).any (·.1) = false) :
    PRg3 X (.Call (.Name "range" p) [a, b, c] [] pos) fun σ H Q => ta σ H fun vs H1 => ∃ i j k, vs = [.int i, .int j, .int k] ∧ rg3Ok i j k = true ∧ Q i j k H1 := by
  intro pins s σ H Q I h
  refine Call_ (ld_blt I hg hm boot_range (PyProof.Rows.callWith_type1 (thn (ha.run pos pins s σ H _ I h) fun us s1 ⟨vs, H1, I1, r1, q1⟩ => ?_) hs hpl))
  obtain ⟨i, j, k, e, ok, q⟩ := q1
  subst e
  unfold rg3Ok at ok
  simp only [Bool.and_eq_true, decide_eq_true_eq] at ok
  obtain ⟨⟨⟨c0, c1⟩, c2⟩, c3⟩ := ok
  cases r1 with
  | cons r rr =>
    cases rr with
    | cons r' rr =>
      cases rr with
      | cons r'' rr =>
        cases rr
        obtain ⟨t, rfl⟩ := r
        obtain ⟨t', rfl⟩ := r'
        obtain ⟨t'', rfl⟩ := r''
        exact call_range_3 c0 ⟨_, i, j, k, _, _, _, H1, rfl, IsRange.new _ _ _ _ _ _ _, I1.kept (t' := s1.toks) fun b o e => Heap.get?_push_of_some _ e, q⟩ (.inl (PyProof.noPylong_small c1))
theorem rg3_size {i j k : Int} : Builtin.Range.rangeSize i j k = (rgN i j k : Int) := rangeSize_toNat i j k
theorem pe_listRg3 {p pos : Pos} (hc : X.calm = true) (hg : Gl X "list") (hm : X.mg "list" = none) (he : PRg3 X e f) (na : starEach [e] X.env = (false, eval e X.env) :: starEach [] X.env) :
    PE X (.Call (.Name "list" p) [e] [] pos) fun σ H Q => f σ H fun i j k H1 => rg3Ok i j k = true ∧ ∀ q, H1 q = none → Q (.ref q) (upd H1 q (.lst (rg3V i j k))) := by
  refine ⟨fun pins s σ H Q I h => ?_⟩
  refine Call_ (ld_blt I hg hm boot_list (PyProof.Rows.callWith_type1 (args_cons (thn (he pins s σ H _ I h) fun x s1 ⟨r, i, j, k, t, u, v, H1, ex, hr, I1, ok, q⟩ => args_nil ?_) na) na))
  subst ex
  unfold rg3Ok at ok
  simp only [Bool.and_eq_true, decide_eq_true_eq] at ok
  obtain ⟨⟨⟨c0, c1⟩, c2⟩, c3⟩ := ok
  refine call_list_range (n := rgN i j k) (I1.ok.hd hc) hr c2 rg3_size c3 fun h' tk acc c' hk e' hi => ?_
  refine ⟨.ref s1.heap.objs.size, upd H1 s1.heap.objs.size (.lst (rg3V i j k)), I1.laid hk (Nat.le_refl _) (show ObjOk X.prog X.w _ _ _ (.lst (rg3V i j k)) from ?_), rfl, q _ (I1.hok.fresh (Nat.le_refl _))⟩
  exact ⟨by rw [rg3V_length, sizeLine_eq]; omega, acc.toList, c', vals_rg3 hi, by rw [Array.toArray_toList]; exact e'⟩
theorem pe_tupRg3 {p pos : Pos} (hc : X.calm = true) (hg : Gl X "tuple") (hm : X.mg "tuple" = none) (he : PRg3 X e f) (na : starEach [e] X.env = (false, eval e X.env) :: starEach [] X.env) :
    PE X (.Call (.Name "tuple" p) [e] [] pos) fun σ H Q => f σ H fun i j k H1 => rg3Ok i j k = true ∧ ∀ q, H1 q = none → Q (.ref q) (upd H1 q (.tup (rg3V i j k))) := by
  refine ⟨fun pins s σ H Q I h => ?_⟩
  refine Call_ (ld_blt I hg hm boot_tuple (PyProof.Rows.callWith_type1 (args_cons (thn (he pins s σ H _ I h) fun x s1 ⟨r, i, j, k, t, u, v, H1, ex, hr, I1, ok, q⟩ => args_nil ?_) na) na))
  subst ex
  unfold rg3Ok at ok
  simp only [Bool.and_eq_true, decide_eq_true_eq] at ok
  obtain ⟨⟨⟨c0, c1⟩, c2⟩, c3⟩ := ok
  refine call_tuple_range (n := rgN i j k) (I1.ok.hd hc) hr c2 rg3_size c3 fun h' tk acc hk hi => ?_
  have I2 : Inv X pins σ H1 { s1 with heap := h', toks := tk } := I1.kept hk
  refine ⟨.ref h'.objs.size, upd H1 h'.objs.size (.tup (rg3V i j k)), I2.laid (t' := tk) (fun c o e => Heap.get?_push_of_some _ e) (Nat.le_refl _) (show ObjOk X.prog X.w _ _ _ (.tup (rg3V i j k)) from ?_), rfl, q _ (I2.hok.fresh (Nat.le_refl _))⟩
  exact ⟨by rw [rg3V_length, sizeLine_eq]; omega, acc.toList, vals_rg3 hi, by rw [Array.toArray_toList]; exact IsTup.new _ _⟩
end
end PI

set_option Elab.async false
set_option linter.all false
set_option maxRecDepth 100000
/-! A small total interpreter for the part of Python that the programs use. Values, a heap of lists, compact code, evaluation. -/
namespace PI
open PySem

/-- a value: data, or the place of a list in the own heap -/
inductive D where
  | non | bl (b : Bool) | int (i : Int) | str (s : Str) | tup (ds : List D) | ref (n : Nat)
/-- what lies in the own heap: a list that may change; one that is only read -/
inductive HObj where
  | lst (ds : List D) | con (ds : List D)
abbrev HP := List HObj
abbrev Env := List (Option D)
def SL : Nat := 16777216

inductive Res (α : Type) where
  | ok (a : α) (h : HP) | exc (c : Nat) (d : D) (h : HP) | stuck
def Res.bind {α β : Type} : Res α → (α → HP → Res β) → Res β
  | .ok a h, f => f a h
  | .exc c d h, _ => .exc c d h
  | .stuck, _ => .stuck
/-- behind a statement -/
inductive Fl where
  | nx (e : Env) (h : HP) | rt (d : D) (h : HP) | bk (e : Env) (h : HP) | ct (e : Env) (h : HP)
  | ex (c : Nat) (d : D) (e : Env) (h : HP) | stuck
def Res.fl {α : Type} : Res α → Env → (α → HP → Fl) → Fl
  | .ok a h, _, f => f a h
  | .exc c d h, e, _ => .ex c d e h
  | .stuck, _, _ => .stuck
def Fl.then : Fl → (Env → HP → Fl) → Fl
  | .nx e h, f => f e h
  | r, _ => r

/-! ### code -/
inductive BOp where | add | sub | mul | div | mod | pow
  deriving DecidableEq
inductive COp where | eq | ne | lt | le | gt | ge | inn | nin | is | isn
  deriving DecidableEq
inductive BI where | len | int | max2 | min2 | abs | all | any | tuple | list | repr | comb | sorted | sum | gcd | lcm
  deriving DecidableEq
inductive Mt where | append | pop | popAt | reverse
  deriving DecidableEq
inductive Ty where | int | str | bool | list | tuple
  deriving DecidableEq
inductive Tgt where | v (i : Nat) | tp (is : List Nat)
  deriving DecidableEq
mutual
inductive E where
  | var (i : Nat) | int (i : Int) | str (s : Str) | bl (b : Bool) | non
  | bin (op : BOp) (a b : E) | neg (a : E) | not (a : E)
  | cmp (op : COp) (a b : E) | chain (o1 o2 : COp) (a b c : E)
  | boo (isAnd : Bool) (es : Es) | ife (c a b : E)
  | tup (es : Es) | lst (es : Es)
  | call (f : Nat) (es : Es) | bi (b : BI) (es : Es) | isin (a : E) (ts : List Ty) (tupled : Bool)
  | ix (a i : E) | sl (a : E) (lo hi : OE) | meth (m : Mt) (o : E) (es : Es)
  | comp (own : List (Str × Nat)) (t : Tgt) (it : It) (c : OE) (e : E)
  | cst (n : Str) (v : Int) | lrg1 (tp : Bool) (a : E) | lrg2 (tp : Bool) (a b : E) | lrg3 (tp : Bool) (es : Es)
  | xfld | xis (cs : List Nat) (tupled : Bool)
inductive Es where
  | nil | cons (e : E) (es : Es)
inductive OE where
  | none | some (e : E)
inductive It where
  | seq (e : E) | rng1 (a : E) | rng2 (a b : E) | enum (e : E)
end
mutual
inductive S where
  | asg (t : Tgt) (e : E) | unl (is : List Nat) (e : E) | put (o i : E) (e : E) | expr (e : E) | ret (e : E) | retN
  | iff (c : E) (a b : B) | forr (t : Tgt) (it : It) (body : B) (kill : List Nat) | whl (c : E) (body : B) (kill : List Nat)
  | brk | cnt | pass | rais (c : Nat) (e : E) | tryy (body : B) (hs : Hs)
inductive B where
  | nil | cons (s : S) (b : B)
inductive Hs where
  | nil | cons (c : Nat) (slot : Option Nat) (body : B) (hs : Hs)
end

/-! ### values -/
def toPy : Nat → HP → D → Option PyData
  | 0, _, _ => none
  | f + 1, h, d => match d with
    | .non => some .none
    | .bl b => some (.bool b)
    | .int i => some (.int i)
    | .str s => some (.str s)
    | .tup ds => (ds.mapM (toPy f h)).map .tuple
    | .ref n => match h[n]? with
      | some (.lst ds) => (ds.mapM (toPy f h)).map .list
      | some (.con ds) => (ds.mapM (toPy f h)).map .list
      | none => none
def datEq (h : HP) (a b : D) : Option Bool := match toPy 66 h a, toPy 66 h b with
  | some x, some y => if SeqAt.shaped x && SeqAt.shaped y then some (PyData.eqv x y) else none
  | _, _ => none
def strEq : D → D → Option Bool
  | .str a, .str b => some (decide (a = b))
  | _, _ => none
def eqD (h : HP) (a b : D) : Option Bool := match strEq a b with
  | some k => some k
  | none => datEq h a b
def seqOf (h : HP) : D → Option (List D)
  | .tup ds => some ds
  | .ref n => match h[n]? with
    | some (.lst ds) => some ds
    | some (.con ds) => some ds
    | none => none
  | _ => none
def truth (h : HP) : D → Option Bool
  | .non => some false
  | .bl b => some b
  | .int i => some (i != 0)
  | .str s => if s.length ≤ SL then some (s.length != 0) else none
  | .tup ds => some (!ds.isEmpty)
  | .ref n => match h[n]? with
    | some (.lst ds) => some (!ds.isEmpty)
    | some (.con ds) => some (!ds.isEmpty)
    | none => none
def small (i : Int) : Bool := decide (-(2 ^ 64) < i) && decide (i < 2 ^ 64)
/-- great numbers, by names that nobody unfolds -/
@[irreducible] def big : Nat := 2 ^ 400000
@[irreducible] def big9 : Nat := 2 ^ 8999
def mulOk (a b : Int) : Bool := small a || small b || (decide (a.natAbs < big) && decide (b.natAbs < big))
def repTup (ds : List D) (k : Int) : List D := (List.replicate k.toNat ds).flatten
def repStr (s : Str) (k : Int) : Str := ⟨(List.replicate k.toNat s.cps).foldl (· ++ ·) #[]⟩
def binD : BOp → D → D → HP → Res D
  | .add, .int a, .int b, h => .ok (.int (a + b)) h
  | .add, .str a, .str b, h => if a.length + b.length ≤ SL then .ok (.str (a ++ b)) h else .stuck
  | .add, .tup a, .tup b, h => if a.length + b.length ≤ SL then .ok (.tup (a ++ b)) h else .stuck
  | .add, .ref m, .ref n, h => match h[m]?, h[n]? with
    | some (.lst a), some (.lst b) => if a.length + b.length ≤ SL then .ok (.ref h.length) (h ++ [.lst (a ++ b)]) else .stuck
    | _, _ => .stuck
  | .sub, .int a, .int b, h => .ok (.int (a - b)) h
  | .mul, .int a, .int b, h => if mulOk a b then .ok (.int (a * b)) h else .stuck
  | .mul, .tup a, .int k, h => if a.length ≤ 1000 ∧ k ≤ 1000 ∧ -1000 ≤ k then .ok (.tup (repTup a k)) h else .stuck
  | .mul, .str a, .int k, h => if 2 ≤ k ∧ k ≤ 1000 ∧ 1 ≤ a.length ∧ a.length ≤ 1000 ∧ (repStr a k).length ≤ SL then .ok (.str (repStr a k)) h else .stuck
  | .div, .int a, .int b, h => if 0 < b ∧ b.natAbs < big9 then .ok (.int (a / b)) h else .stuck
  | .mod, .int a, .int b, h => if 0 < b then .ok (.int (a % b)) h else .stuck
  | .pow, .int a, .int b, h => if 0 ≤ b ∧ b ≤ 1000000 ∧ a.natAbs < 2 ^ 64 then .ok (.int (a ^ b.toNat)) h else .stuck
  | _, _, _, _ => .stuck
def ltD : D → D → Option Bool
  | .int a, .int b => some (decide (a < b))
  | .str a, .str b => some (decide (a.cps.toList < b.cps.toList))
  | _, _ => none
def leD : D → D → Option Bool
  | .int a, .int b => some (decide (a ≤ b))
  | .str a, .str b => some (!decide (b.cps.toList < a.cps.toList))
  | _, _ => none
def inD (h : HP) (x y : D) : Option Bool := match toPy 66 h x, toPy 66 h y with
  | some d, some (.list ds) => if SeqAt.shaped d && SeqAt.shaped (.list ds) then some (ds.any fun z => PyData.eqv z d) else none
  | some d, some (.tuple ds) => if SeqAt.shaped d && SeqAt.shaped (.tuple ds) then some (ds.any fun z => PyData.eqv z d) else none
  | _, _ => none
def isBl (b : Bool) : D → Option Bool
  | .bl c => some (decide (c = b))
  | _ => none
def isNon : D → Bool
  | .non => true
  | _ => false
def cmpD (h : HP) : COp → D → D → Option Bool
  | .eq, a, b => eqD h a b
  | .ne, a, b => (eqD h a b).map (!·)
  | .lt, a, b => ltD a b
  | .le, a, b => leD a b
  | .gt, a, b => ltD b a
  | .ge, a, b => leD b a
  | .inn, a, b => inD h a b
  | .nin, a, b => (inD h a b).map (!·)
  | .is, a, .non => some (isNon a)
  | .isn, a, .non => some (!isNon a)
  | .is, a, .bl b => isBl b a
  | .isn, a, .bl b => (isBl b a).map (!·)
  | _, _, _ => none
def tyD (h : HP) : D → Option (List Ty)
  | .non => some []
  | .bl _ => some [.bool, .int]
  | .int _ => some [.int]
  | .str _ => some [.str]
  | .tup _ => some [.tuple]
  | .ref n => match h[n]? with
    | some _ => some [.list]
    | none => none
def ixD (h : HP) (a i : D) : Option D := match i with
  | .int i => match a with
    | .str s => if s.length ≤ SL then (L2.atI s.cps.toList i).map fun c => .str ⟨#[c]⟩ else none
    | a => (seqOf h a).bind fun ds => L2.atI ds i
  | _ => none
def cut {α : Type} (xs : List α) (lo hi : Option Int) : List α :=
  let i := _root_.HT.sIx xs.length 0 lo
  (xs.drop i).take (_root_.HT.sIx xs.length xs.length hi - i)
def slD (h : HP) (a : D) (lo hi : Option Int) : Res D := match a with
  | .tup ds => .ok (.tup (cut ds lo hi)) h
  | .ref n => match h[n]? with
    | some (.lst ds) => .ok (.ref h.length) (h ++ [.lst (cut ds lo hi)])
    | _ => .stuck
  | _ => .stuck
def bools : List D → Option (List Bool)
  | [] => some []
  | .bl b :: r => (bools r).map (b :: ·)
  | _ :: _ => none
def intsD : List D → Option (List Int)
  | [] => some []
  | .int i :: r => (intsD r).map (i :: ·)
  | _ :: _ => none
def tup1 : PyData → Bool
  | .tuple (_ :: _) => true
  | _ => false
def ntup : PyData → Bool
  | .none => false
  | .tuple _ => false
  | _ => true
/-- what can be sorted -/
def srtOk (ps : List PyData) : Bool := ps.all (fun x => ps.all fun y => PySem.W.alike x y) && ((ps.all tup1 || ps.all ntup) && ps.all SeqAt.shaped)
def pyD (h : HP) (d : D) : PyData := (toPy 66 h d).getD .none
def bi1 : BI → D → HP → Res D
  | .len, a, h => match a with
    | .str s => if s.length ≤ SL then .ok (.int s.length) h else .stuck
    | a => match seqOf h a with
      | some ds => .ok (.int ds.length) h
      | none => .stuck
  | .int, a, h => match a with
    | .int i => .ok (.int i) h
    | .bl b => .ok (.int (if b then 1 else 0)) h
    | _ => .stuck
  | .abs, a, h => match a with
    | .int i => .ok (.int (if i < 0 then -i else i)) h
    | _ => .stuck
  | .all, a, h => match a with
    | .ref n => (match (seqOf h (.ref n)).bind bools with
      | some bs => .ok (.bl (bs.all id)) h
      | none => .stuck)
    | _ => .stuck
  | .any, a, h => match a with
    | .ref n => (match (seqOf h (.ref n)).bind bools with
      | some bs => .ok (.bl (bs.any id)) h
      | none => .stuck)
    | _ => .stuck
  | .tuple, a, h => match seqOf h a with
    | some ds => .ok (.tup ds) h
    | none => .stuck
  | .list, a, h => match seqOf h a with
    | some ds => .ok (.ref h.length) (h ++ [.lst ds])
    | none => .stuck
  | .repr, a, h => match toPy 66 h a with
    | some x => if SeqAt.shaped x && x.showable && decide (x.shown.length + 64 ≤ SL) then .ok (.str x.shown) h else .stuck
    | none => .stuck
  | .max2, a, h => match (seqOf h a).bind intsD with
    | some (i :: is) => .ok (.int (is.foldl max i)) h
    | _ => .stuck
  | .min2, a, h => match (seqOf h a).bind intsD with
    | some (i :: is) => .ok (.int (is.foldl min i)) h
    | _ => .stuck
  | .sum, a, h => match a with
    | .ref n => (match (seqOf h (.ref n)).bind intsD with
      | some is => .ok (.int is.sum) h
      | none => .stuck)
    | _ => .stuck
  | .sorted, a, h => match seqOf h a with
    | some ds => (match ds.mapM (toPy 66 h) with
      | some ps => if srtOk ps then .ok (.ref h.length) (h ++ [.lst (ds.mergeSort (PySem.W.dataLe false (pyD h)))]) else .stuck
      | none => .stuck)
    | none => .stuck
  | _, _, _ => .stuck
def bi2 : BI → Int → Int → HP → Res D
  | .max2, i, j, h => .ok (.int (if j > i then j else i)) h
  | .min2, i, j, h => .ok (.int (if j < i then j else i)) h
  | .comb, a, b, h => if 0 ≤ a ∧ 0 ≤ b ∧ a < 2 ^ 64 ∧ (b ≤ 9000 ∨ a ≤ 18000) then .ok (.int (PySem.W.mcComb a b)) h else .stuck
  | .gcd, a, b, h => .ok (.int ((Nat.gcd a.natAbs b.natAbs : Nat) : Int)) h
  | .lcm, a, b, h => if a.natAbs < big9 ∧ b.natAbs < big9 then .ok (.int ((Nat.lcm a.natAbs b.natAbs : Nat) : Int)) h else .stuck
  | _, _, _, _ => .stuck
def biD (b : BI) (ds : List D) (h : HP) : Res D := match ds with
  | [a] => bi1 b a h
  | [a, c] => match a, c with
    | .int i, .int j => bi2 b i j h
    | _, _ => .stuck
  | _ => .stuck
/-- a method of a list -/
def mtL : Mt → List D → List D → Option (D × List D)
  | .append, ds, xs => match xs with
    | [x] => if ds.length < SL then some (.non, ds ++ [x]) else none
    | _ => none
  | .pop, ds, xs => match xs with
    | [] => ds.getLast?.map fun x => (x, ds.dropLast)
    | _ => none
  | .popAt, ds, xs => match xs with
    | [.int i] => (L2.ixN ds.length i).bind fun j => ds[j]?.map fun x => (x, ds.eraseIdx j)
    | _ => none
  | .reverse, ds, xs => match xs with
    | [] => some (.non, ds.reverse)
    | _ => none
def mtD (m : Mt) (o : D) (xs : List D) (h : HP) : Res D := match o with
  | .ref n => match h[n]? with
    | some (.lst ds) => (match mtL m ds xs with
      | some (d, es) => .ok d (h.set n (.lst es))
      | none => .stuck)
    | _ => .stuck
  | _ => .stuck

def isLst (h : HP) : D → Bool
  | .ref n => match h[n]? with
    | some (.lst _) => true
    | _ => false
  | _ => false

/-! ### what a loop walks -/
inductive Itr where
  | fix (ds : List D) | lst (n : Nat) | enf (ds : List D) | enl (n : Nat)
def Itr.at : Itr → HP → Nat → Option (Option D)
  | .fix ds, _, i => some ds[i]?
  | .lst n, h, i => (seqOf h (.ref n)).map fun ds => ds[i]?
  | .enf ds, _, i => some (ds[i]?.map fun d => .tup [.int i, d])
  | .enl n, h, i => (seqOf h (.ref n)).map fun ds => ds[i]?.map fun d => .tup [.int i, d]
def bindT : Tgt → D → Env → Option Env
  | .v i, d, e => if i < e.length then some (e.set i (some d)) else none
  | .tp is, .tup ds, e => if is.length = ds.length then some ((is.zip ds).foldl (fun e p => e.set p.1 (some p.2)) e) else none
  | _, _, _ => none
def killE (ks : List Nat) (e : Env) : Env := ks.foldl (fun e i => e.set i none) e
theorem fuel_ex : ∃ n : Nat, n = 1000000000000 := ⟨_, rfl⟩
/-- the loops' fuel: a number that no checker ever takes apart -/
noncomputable def fuel : Nat := Classical.choose fuel_ex
theorem fuel_eq : fuel = 1000000000000 := Classical.choose_spec fuel_ex
theorem SL_fuel : SL < fuel := by rw [fuel_eq]; decide
noncomputable section
/-- a loop from turn i on -/
def loopI (it : Itr) (t : Tgt) (step : Env → HP → Fl) : Nat → Nat → Env → HP → Fl
  | 0, _, _, _ => .stuck
  | f + 1, i, e, h => match it.at h i with
    | none => .stuck
    | some none => .nx e h
    | some (some d) => match bindT t d e with
      | none => .stuck
      | some e1 => match step e1 h with
        | .nx e2 h2 => loopI it t step f (i + 1) e2 h2
        | .ct e2 h2 => loopI it t step f (i + 1) e2 h2
        | .bk e2 h2 => .nx e2 h2
        | r => r
/-- a comprehension's turns: the env is the same at each -/
def compI (it : Itr) (t : Tgt) (e : Env) (step : Env → HP → Res (Option D)) : Nat → Nat → List D → HP → Res (List D)
  | 0, _, _, _ => .stuck
  | f + 1, i, acc, h => match it.at h i with
    | none => .stuck
    | some none => .ok acc h
    | some (some d) => match bindT t d e with
      | none => .stuck
      | some e1 => match step e1 h with
        | .ok none h2 => compI it t e step f (i + 1) acc h2
        | .ok (some x) h2 => if acc.length < SL then compI it t e step f (i + 1) (acc ++ [x]) h2 else .stuck
        | _ => .stuck
def whileI (cond : Env → HP → Res Bool) (step : Env → HP → Fl) : Nat → Env → HP → Fl
  | 0, _, _ => .stuck
  | f + 1, e, h => (cond e h).fl e fun b h1 => if b then (match step e h1 with
      | .nx e2 h2 => whileI cond step f e2 h2
      | .ct e2 h2 => whileI cond step f e2 h2
      | .bk e2 h2 => .nx e2 h2
      | r => r) else .nx e h1

/-! ### evaluation -/
/-- the def's calls; the error that is being handled; which class is below which -/
structure Cx where
  C : Nat → List D → HP → Res D
  x : Option (Nat × D)
  sub : Nat → Nat → Bool
def ofO (o : Option Bool) (h : HP) : Res D := match o with
  | some b => .ok (.bl b) h
  | none => .stuck
def ofB (o : Option Bool) (h : HP) : Res Bool := match o with
  | some b => .ok b h
  | none => .stuck
def tupR (ds : List D) (h : HP) : Res D := if ds.length ≤ SL then .ok (.tup ds) h else .stuck
def lstR (ds : List D) (h : HP) : Res D := if ds.length ≤ SL then .ok (.ref h.length) (h ++ [.lst ds]) else .stuck
def tstR (r : Res D) : Res Bool := r.bind fun d h => match truth h d with
  | some b => .ok b h
  | none => .stuck
def negD (x : D) (h : HP) : Res D := match x with
  | .int i => .ok (.int (-i)) h
  | _ => .stuck
def isinD (ts : List Ty) (x : D) (h : HP) : Res D := match tyD h x with
  | some tt => .ok (.bl (tt.any ts.contains)) h
  | none => .stuck
def ixR (x y : D) (h : HP) : Res D := match ixD h x y with
  | some d => .ok d h
  | none => .stuck
def intO (x : D) (h : HP) : Res (Option Int) := match x with
  | .int i => .ok (some i) h
  | _ => .stuck
def seqI (x : D) (h : HP) : Res Itr := match x with
  | .tup ds => .ok (.fix ds) h
  | .ref n => .ok (.lst n) h
  | .str s => if s.length ≤ SL then .ok (.fix (s.cps.toList.map fun c => .str ⟨#[c]⟩)) h else .stuck
  | _ => .stuck
def enumI (x : D) (h : HP) : Res Itr := match x with
  | .tup ds => .ok (.enf ds) h
  | .ref n => .ok (.enl n) h
  | _ => .stuck
def okRng (i : Int) : Bool := decide (-(2 ^ 62) ≤ i) && decide (i < 2 ^ 62)
def rngL (lo hi : Int) : List D := (List.range (hi - lo).toNat).map fun (k : Nat) => .int (lo + (k : Int))
def lrgOk (i j : Int) : Bool := decide (-(2 ^ 62) ≤ i ∧ i < 2 ^ 62 ∧ -(2 ^ 62) ≤ j ∧ j < 2 ^ 62 ∧ (j - i).toNat ≤ 2 ^ 24)
/-- list(range(i, j)), tuple(range(i, j)) -/
def lrgD (tp : Bool) (i j : Int) (h : HP) : Res D := if lrgOk i j then (if tp then .ok (.tup (rngL i j)) h else .ok (.ref h.length) (h ++ [.lst (rngL i j)])) else .stuck
def lrgR1 (tp : Bool) (x : D) (h : HP) : Res D := match x with
  | .int j => lrgD tp 0 j h
  | _ => .stuck
def lrgR2 (tp : Bool) (x y : D) (h : HP) : Res D := match x with
  | .int i => (match y with
    | .int j => lrgD tp i j h
    | _ => .stuck)
  | _ => .stuck
def rng3L (i j c : Int) : List D := (List.range (rgN i j c)).map fun (k : Nat) => .int (i + (k : Int) * c)
def lrgR3 (tp : Bool) (ds : List D) (h : HP) : Res D := match ds with
  | [.int i, .int j, .int c] => if rg3Ok i j c then (if tp then .ok (.tup (rng3L i j c)) h else .ok (.ref h.length) (h ++ [.lst (rng3L i j c)])) else .stuck
  | _ => .stuck
def rngI1 (x : D) (h : HP) : Res Itr := match x with
  | .int n => if okRng n then .ok (.fix (rngL 0 n)) h else .stuck
  | _ => .stuck
def rngI2 (x y : D) (h : HP) : Res Itr := match x with
  | .int m => (match y with
    | .int n => if okRng m && okRng n then .ok (.fix (rngL m n)) h else .stuck
    | _ => .stuck)
  | _ => .stuck
def fin (t : Bool) (r : Res D) : Res D := if t then (tstR r).bind fun b h => .ok (.bl b) h else r
def asB (r : Res D) : Res Bool := r.bind fun d h => match d with
  | .bl b => .ok b h
  | _ => .stuck
mutual
/-- an expression: its value (t false), its truth (t true) -/
def ev (K : Cx) : E → Bool → Env → HP → Res D
  | .var i, t, e, h => fin t (match e[i]? with
    | some (some d) => .ok d h
    | _ => .stuck)
  | .int i, t, _, h => fin t (.ok (.int i) h)
  | .str s, t, _, h => fin t (.ok (.str s) h)
  | .bl b, t, _, h => fin t (.ok (.bl b) h)
  | .non, t, _, h => fin t (.ok .non h)
  | .bin op a b, t, e, h => fin t ((ev K a false e h).bind fun x h1 => (ev K b false e h1).bind fun y h2 => binD op x y h2)
  | .neg a, t, e, h => fin t ((ev K a false e h).bind negD)
  | .not a, t, e, h => (if t then asB (ev K a true e h) else tstR (ev K a false e h)).bind fun b h1 => .ok (.bl !b) h1
  | .cmp op a b, t, e, h => fin t ((ev K a false e h).bind fun x h1 => (ev K b false e h1).bind fun y h2 => ofO (cmpD h2 op x y) h2)
  | .chain o1 o2 a b c, t, e, h => fin t ((ev K a false e h).bind fun x h1 => (ev K b false e h1).bind fun y h2 => (ofB (cmpD h2 o1 x y) h2).bind fun k h3 =>
      if k then (ev K c false e h3).bind fun z h4 => ofO (cmpD h4 o2 y z) h4 else .ok (.bl false) h3)
  | .boo k es, t, e, h => evBs K k t es e h
  | .ife c a b, t, e, h => (asB (ev K c true e h)).bind fun k h1 => if k then ev K a t e h1 else ev K b t e h1
  | .tup es, t, e, h => fin t ((evEs K es e h).bind tupR)
  | .lst es, t, e, h => fin t ((evEs K es e h).bind lstR)
  | .call f es, t, e, h => fin t (if K.x.isSome then .stuck else (evEs K es e h).bind fun ds h1 => K.C f ds h1)
  | .bi b es, t, e, h => fin t ((evEs K es e h).bind fun ds h1 => biD b ds h1)
  | .isin a ts _, t, e, h => fin t ((ev K a false e h).bind (isinD ts))
  | .ix a i, t, e, h => fin t ((ev K a false e h).bind fun x h1 => (ev K i false e h1).bind fun y h2 => ixR x y h2)
  | .sl a lo hi, t, e, h => fin t ((ev K a false e h).bind fun x h1 => (evO K lo e h1).bind fun l h2 => (evO K hi e h2).bind fun u h3 => slD h3 x l u)
  | .meth m o es, t, e, h => fin t ((ev K o false e h).bind fun x h1 => if isLst h1 x then (evEs K es e h1).bind fun ds h2 => mtD m x ds h2 else .stuck)
  | .comp own tg it c el, t, e, h => fin t ((evIt K it e h).bind fun J h1 =>
      (compI J tg (killE (own.map (·.2)) e) (fun e1 h2 => (evC K c e1 h2).bind fun b h3 => if b then (ev K el false e1 h3).bind fun d h4 => .ok (some d) h4 else .ok none h3) fuel 0 [] h1).bind
      fun ds h2 => .ok (.ref h2.length) (h2 ++ [.lst ds]))
  | .cst _ v, t, _, h => fin t (.ok (.int v) h)
  | .lrg1 tp a, t, e, h => fin t ((ev K a false e h).bind (lrgR1 tp))
  | .lrg2 tp a b, t, e, h => fin t ((ev K a false e h).bind fun x h1 => (ev K b false e h1).bind fun y h2 => lrgR2 tp x y h2)
  | .lrg3 tp es, t, e, h => fin t ((evEs K es e h).bind (lrgR3 tp))
  | .xfld, t, _, h => fin t (match K.x with
    | some (_, d) => .ok d h
    | none => .stuck)
  | .xis cs _, t, _, h => fin t (match K.x with
    | some (c, _) => .ok (.bl (cs.any (K.sub c))) h
    | none => .stuck)
def evEs (K : Cx) : Es → Env → HP → Res (List D)
  | .nil, _, h => .ok [] h
  | .cons a r, e, h => (ev K a false e h).bind fun x h1 => (evEs K r e h1).bind fun xs h2 => .ok (x :: xs) h2
/-- and, or: k is whether it is and -/
def evBs (K : Cx) (k t : Bool) : Es → Env → HP → Res D
  | .nil, _, _ => .stuck
  | .cons a r, e, h => match r with
    | .nil => ev K a t e h
    | .cons _ _ => (asB (ev K a t e h)).bind fun b h1 => if b == k then evBs K k t r e h1 else .ok (.bl b) h1
def evO (K : Cx) : OE → Env → HP → Res (Option Int)
  | .none, _, h => .ok none h
  | .some a, e, h => (ev K a false e h).bind intO
/-- a comprehension's test, if it has one -/
def evC (K : Cx) : OE → Env → HP → Res Bool
  | .none, _, h => .ok true h
  | .some a, e, h => asB (ev K a true e h)
def evIt (K : Cx) : It → Env → HP → Res Itr
  | .seq a, e, h => (ev K a false e h).bind seqI
  | .rng1 a, e, h => (ev K a false e h).bind rngI1
  | .rng2 a b, e, h => (ev K a false e h).bind fun x h1 => (ev K b false e h1).bind fun y h2 => rngI2 x y h2
  | .enum a, e, h => (ev K a false e h).bind enumI
end
def slOk (sl : Option Nat) (e : Env) : Bool := match sl with
  | some i => decide (i < e.length)
  | none => true
def wipeE (sl : Option Nat) (e : Env) : Env := match sl with
  | some i => e.set i none
  | none => e
/-- behind an except suite -/
def Fl.sui (sl : Option Nat) : Fl → Fl
  | .nx e h => .nx (wipeE sl e) h
  | .bk e h => .bk (wipeE sl e) h
  | .ct e h => .ct (wipeE sl e) h
  | .rt d h => .rt d h
  | _ => .stuck
abbrev evE (K : Cx) (c : E) (e : Env) (h : HP) : Res D := ev K c false e h
abbrev evT (K : Cx) (c : E) (e : Env) (h : HP) : Res Bool := asB (ev K c true e h)
/-- x[i] = d -/
def setD (o i d : D) (h : HP) : Option HP := match o with
  | .ref n => match i with
    | .int j => match h[n]? with
      | some (.lst ds) => (L2.ixN ds.length j).map fun k => h.set n (.lst (ds.set k d))
      | _ => none
    | _ => none
  | _ => none
/-- a list is unpacked as a tuple of what it holds -/
def unlD (h : HP) : D → D
  | .ref n => match seqOf h (.ref n) with
    | some ds => .tup ds
    | none => .ref n
  | d => d
mutual
def evS (K : Cx) : S → Env → HP → Fl
  | .unl is a, e, h => (evE K a e h).fl e fun d h1 => match bindT (.tp is) (unlD h1 d) e with
    | some e1 => .nx e1 h1
    | none => .stuck
  | .asg t a, e, h => (evE K a e h).fl e fun d h1 => match bindT t d e with
    | some e1 => .nx e1 h1
    | none => .stuck
  | .put o i a, e, h => (evE K a e h).fl e fun d h1 => (evE K o e h1).fl e fun od h2 => (evE K i e h2).fl e fun id h3 => match setD od id d h3 with
    | some h4 => .nx e h4
    | none => .stuck
  | .expr a, e, h => (evE K a e h).fl e fun _ h1 => .nx e h1
  | .ret a, e, h => (evE K a e h).fl e fun d h1 => .rt d h1
  | .retN, _, h => .rt .non h
  | .iff c a b, e, h => (evT K c e h).fl e fun k h1 => if k then evB K a e h1 else evB K b e h1
  | .forr t it body ks, e, h => (evIt K it e h).fl e fun J h1 => (loopI J t (fun e1 h2 => evB K body e1 h2) fuel 0 e h1).then fun e2 h2 => .nx (killE ks e2) h2
  | .whl c body ks, e, h => (whileI (fun e1 h1 => evT K c e1 h1) (fun e1 h1 => evB K body e1 h1) fuel e h).then fun e2 h2 => .nx (killE ks e2) h2
  | .brk, e, h => .bk e h
  | .cnt, e, h => .ct e h
  | .pass, e, h => .nx e h
  | .rais c a, e, h => (evE K a e h).fl e fun d h1 => if K.x.isSome then .stuck else .ex c d e h1
  | .tryy body hs, e, h => match evB K body e h with
    | .ex c d e1 h1 => if K.x.isSome then .stuck else evH K c d hs e1 h1
    | r => r
def evB (K : Cx) : B → Env → HP → Fl
  | .nil, e, h => .nx e h
  | .cons s b, e, h => (evS K s e h).then fun e1 h1 => evB K b e1 h1
def evH (K : Cx) (c : Nat) (d : D) : Hs → Env → HP → Fl
  | .nil, e, h => .ex c d e h
  | .cons c1 sl body r, e, h => if K.sub c c1 then (if slOk sl e then (evB { K with x := some (c, d) } body (wipeE sl e) h).sui sl else .stuck) else evH K c d r e h
end
example (K : Cx) (e : Env) (h : HP) : evE K (.bin .add (.int 3) (.int 4)) e h = .ok (.int 7) h := rfl
example (K : Cx) (e : Env) (h : HP) : evB K (.cons (.ret (.int 3)) .nil) e h = .rt (.int 3) h := rfl
/-! ### a program -/
structure Fn where
  np : Nat
  ns : Nat
  body : B
structure Prg where
  fns : List Fn
  sub : Nat → Nat → Bool
def runFn (K : Cx) (f : Fn) (ds : List D) (h : HP) : Res D := if ds.length = f.np then
    (match evB K f.body (ds.map some ++ List.replicate (f.ns - f.np) none) h with
    | .nx _ h1 => .ok .non h1
    | .rt d h1 => .ok d h1
    | .ex c d _ h1 => .exc c d h1
    | _ => .stuck) else .stuck
def callI (P : Prg) : Nat → Nat → List D → HP → Res D
  | 0, _, _, _ => .stuck
  | n + 1, f, ds, h => match P.fns[f]? with
    | some fd => runFn ⟨callI P n, none, P.sub⟩ fd ds h
    | none => .stuck
end
end PI

set_option Elab.async false
set_option linter.all false
set_option maxRecDepth 100000
set_option maxHeartbeats 4000000
/-! sorted over a tuple, as over a list. -/
namespace PI
open PySem PySem.Spec PySem.Calls PyProof.Rows PySem.W PySem.SeqAt
section
variable {prog : Program} {w : World} {A : Around} {E : Value → Shared → Prop} {s : Shared}
/-- what stands in a tuple, gathered -/
theorem gather_tup {p : Addr} {us : List Value} {R : List Value → Shared → Prop} (ht : s.heap.IsTuple p us.toArray) (room : us.length ≤ sizeLine) (goal : R us { s with heap := (s.heap.push (seqObj "list" #[] 0)).update s.heap.objs.size (Obj.mapSeq (· ++ us.toArray)) }) :
    wpAny (model prog w) A (collect (.ref p)) R E s := by
  obtain ⟨ob, g, tc, m, td⟩ := id ht
  unfold collect
  refine wpAny_bind (wpAny_runValue (codeAny_builtin entry_proto_collect' ?one))
  case one =>
    show wpAny _ _ (do again (.builtin "list.__iadd__" ⟨[← newList [], .ref p], []⟩)) _ _ s
    refine wpAny_bind (wpAny_newList (wpAny_pure ⟨Code.quiet_builtin _ (by decide +kernel), codeAny_builtin entry_list_iadd' ?two⟩))
    case two =>
      show wpAny _ _ (Builtin.List.listExtendWith (.ref s.heap.objs.size) (.ref p) (.ref s.heap.objs.size)) _ _ { s with heap := s.heap.push (seqObj "list" #[] 0) }
      unfold Builtin.List.listExtendWith
      have g2 : (s.heap.push (seqObj "list" #[] 0)).get? p = some ob := Heap.get?_push_of_some _ g
      refine wpAny_bind (wpAny_typeOf (T := "tuple") ⟨ob, g2, tc⟩ ?three)
      case three =>
        have eqT : (Value.type "tuple" == Value.type "tuple") = true := by rfl
        rw [if_pos (by rw [eqT]; simp)]
        refine wpAny_bind (listItems_at g2 td ?_)
        refine wpAny_bind (listItems_at (n := 0) (xs := #[]) (Heap.get?_push_size _ rfl) rfl ?four)
        case four =>
          rw [if_neg (by simp)]
          have fits : (#[] ++ us.toArray).size ≤ sizeLine + 1 := by
            rw [Array.size_append]
            simp
            omega
          refine wpAny_bind (listUpdate_at (n := 0) (xs := #[]) (Heap.get?_push_size _ rfl) rfl ?five (Nat.zero_le _) fits)
          case five =>
            refine wpAny_pure ?_
            show wpAny (model prog w) A (do
                let ob ← load s.heap.objs.size
                match ob.data with
                | .seq ys _ => pure ys.toList
                | _ => unsupported "internal:collect") R E { s with heap := (s.heap.push (seqObj "list" #[] 0)).update s.heap.objs.size (Obj.mapSeq (· ++ us.toArray)) }
            refine wpAny_bind (wpAny_load (get?_update_seq (Heap.get?_push_size _ rfl) _) ?six)
            case six =>
              have back : ((#[] : Array Value) ++ us.toArray).toList = us := by simp
              show wpAny _ _ (pure ((#[] : Array Value) ++ us.toArray).toList) R E _
              rw [back]
              exact wpAny_pure goal
/-- sorted of a tuple: a new list -/
theorem sorted_tupD {β : Type} {us : List Value} {bs : List β} {enc : β → PyData} {R : Value → β → Prop} {p : Addr} {Q : Value → Shared → Prop} (ht : s.heap.IsTuple p us.toArray) (each : EachIs R us bs) (reads : EachIs (fun v b => ∃ as, Reads s.heap v (enc b) as) us bs)
    (al : AllAlike (bs.map enc)) (so : Sortable (bs.map enc)) (room : bs.length ≤ sizeLine) (un : ∀ b, b ∈ bs → A.units + 2 + (enc b).depth < cLine)
    (goal : ∀ out, out.length = bs.length → EachIs R out (bs.mergeSort (dataLe false enc)) → Q (.ref (s.heap.objs.size + 1)) { s with heap := sortedAll s.heap us (List.toArray out) }) :
    wpAny (model prog w) A (call (.builtin "sorted") [.ref p]) Q E s := by
  have lu : us.length ≤ sizeLine := by rw [each.length]; exact room
  have reads2 : EachIs (fun v b => ∃ as, Reads (sortingHeap (copyHeap s.heap us) (s.heap.objs.size + 1) us) v (enc b) as) us bs := reads.mono fun _ _ ⟨as, r⟩ => ⟨as, PyProof.Rows.Reads.keeps (fun _ _ => sorting_copy_old) r⟩
  have S := SortsAt.data (prog := prog) (w := w) (A := A.in1.in1) (s := { s with heap := sortingHeap (copyHeap s.heap us) (s.heap.objs.size + 1) us }) (each_map (R := fun v d => ∃ as, Reads (sortingHeap (copyHeap s.heap us) (s.heap.objs.size + 1) us) v d as) enc reads2) al so (bound_map un)
  refine call_function_entry_kw kind_sorted plain_sorted entry_sorted (args_sorted1 _) ?_
  unfold Builtin.«sorted»
  refine wpAny_bind (m := checkCount "sorted" 1 1 _) (wpAny_pure ?_)
  refine wpAny_bind (gather_tup ht lu ?_)
  refine wpAny_bind (wpAny_newList ?_ lu)
  have sized : ((s.heap.push (seqObj "list" #[] 0)).update s.heap.objs.size (Obj.mapSeq (· ++ us.toArray))).objs.size = s.heap.objs.size + 1 := by
    rw [Heap.size_update, size_push']
  show wpAny _ _ _ _ _ { s with heap := copyHeap s.heap us }
  rw [sized]
  refine wpAny_bind (wpAny_holding (wpAny_call_entry_kw slot_list_sort ⟨_, copyHeap_at s.heap us, rfl⟩ entry_list_sort ?run (args_list_sort _)))
  case run =>
    show wpAny (model prog w) A.in1.in1 (Builtin.«list.sort» ⟨[.ref (s.heap.objs.size + 1)], []⟩) _ _ _
    refine list_sort_vals (s := { s with heap := copyHeap s.heap us }) (copyHeap_at s.heap us) S lu ?_
    refine ⟨_, rfl, wpAny_pure ⟨_, rfl, ?_⟩⟩
    exact goal _ (by rw [sortVals_length false rfl]; exact each.length) (sortVals_data false each reads2 al)
end
section
variable {prog : Program} {w : World} {A : Around} {E : Value → Shared → Prop} {s : Shared} {Q : Value → Shared → Prop} {a b : Int} {t u : Tok}
theorem log_le {n m : Nat} (h : n < 2 ^ m) (hm : 0 < m) : n.log2 ≤ m - 1 := by
  by_cases z : n = 0
  · subst z; simp
  · have := (Nat.log2_lt z).mpr h
    omega
/-- lcm of ints below 2 ** 9000 -/
theorem lcm_any (ha : a.natAbs < 2 ^ 9000) (hb : b.natAbs < 2 ^ 9000) (h : Q (.int ((Nat.lcm a.natAbs b.natAbs : Nat) : Int) s.toks) { s with toks := s.toks + 1 }) : wpAny (model prog w) A (call (.builtin "math.lcm") [.int a t, .int b u]) Q E s := by
  have one : (Nat.lcm 1 a.natAbs).lcm b.natAbs = Nat.lcm a.natAbs b.natAbs := by rw [Nat.lcm_one_left]
  have h1 : (max 1 a.natAbs).log2 ≤ 8999 := log_le (m := 9000) (Nat.max_lt.mpr ⟨Nat.one_lt_two_pow (by decide), ha⟩) (by decide)
  have h2 : (max a.natAbs b.natAbs).log2 ≤ 8999 := log_le (m := 9000) (Nat.max_lt.mpr ⟨ha, hb⟩) (by decide)
  have prod : Nat.lcm a.natAbs b.natAbs < 2 ^ 18000 := by
    have d : Nat.lcm a.natAbs b.natAbs ≤ a.natAbs * b.natAbs := by
      rw [← Nat.gcd_mul_lcm a.natAbs b.natAbs]
      by_cases z : Nat.gcd a.natAbs b.natAbs = 0
      · have := Nat.gcd_eq_zero_iff.mp z
        simp [this.1, this.2]
      · exact Nat.le_mul_of_pos_left _ (by omega)
    refine Nat.lt_of_le_of_lt d ?_
    rw [show (18000 : Nat) = 9000 + 9000 from rfl, Nat.pow_add]
    exact Nat.mul_lt_mul'' ha hb
  have sized : ((((Nat.lcm 1 a.natAbs).lcm b.natAbs : Nat) : Int)).natAbs.log2 < bitsLine := by
    rw [one, Int.natAbs_natCast]
    have := log_le (m := 18000) prod (by decide)
    exact Nat.lt_of_le_of_lt this (by decide)
  refine call_function_meets MGF.kind_lcm MGF.plain_lcm MGF.entry_lcm (MGF.args_lcm _ _) (mg_run_lcm a t b u (by omega) (by omega) sized).meets ?_
  rw [one]
  exact h
end
end PI

set_option Elab.async false
set_option linter.all false
set_option maxRecDepth 100000
set_option maxHeartbeats 4000000
/-! The relation between the own values and heap and the layer's; what an evaluation promises. -/
namespace PI
open PySem PySem.Spec PyProof.Rows L2

/-- what does not change with the code: the written part, the error classes, where the handled error is (its name's slot, itself, its dict), the evaluator's context -/
structure Par where
  K : PySem.W.Frag
  cls : Nat → Addr
  att : Nat → Str
  xh : Option (Option Nat × Addr × Addr)
  cx : PI.Cx
def Stay : HO → Prop
  | .tup _ => True
  | .frz _ _ => True
  | .xd _ => True
  | _ => False
structure Ext (n n' : Nat) (H : Hp) (μ : Nat → Addr) (H' : Hp) (μ' : Nat → Addr) : Prop where
  le : n ≤ n'
  mu : ∀ k, k < n → μ' k = μ k
  keepA : ∀ b o, H b = some o → (Stay o ∨ ∀ k, 0 < k → k < n → b ≠ μ k) → H' b = some o
  new : ∀ k, n ≤ k → k < n' → H (μ' k) = none
  there : ∀ b, H' b = none → H b = none
theorem Ext.keep {n n' : Nat} {H H' : Hp} {μ μ' : Nat → Addr} (x : Ext n n' H μ H' μ') : ∀ b o, H b = some o → Stay o → H' b = some o := fun b o h s => x.keepA b o h (.inl s)
theorem Ext.refl {n : Nat} {H : Hp} {μ : Nat → Addr} : Ext n n H μ H μ := ⟨Nat.le_refl _, fun _ _ => rfl, fun _ _ h _ => h, fun k a b => by omega, fun _ h => h⟩
theorem Ext.trans {n n1 n2 : Nat} {H H1 H2 : Hp} {μ μ1 μ2 : Nat → Addr} (a : Ext n n1 H μ H1 μ1) (b : Ext n1 n2 H1 μ1 H2 μ2) : Ext n n2 H μ H2 μ2 := by
  refine ⟨Nat.le_trans a.le b.le, fun k hk => (b.mu k (Nat.lt_of_lt_of_le hk a.le)).trans (a.mu k hk), fun c o h s => ?_, fun k h1 h2 => ?_, fun c h => a.there c (b.there c h)⟩
  · refine b.keepA c o (a.keepA c o h s) ?_
    rcases s with s | s
    · exact .inl s
    · refine .inr fun k h0 hk => ?_
      by_cases q : k < n
      · rw [a.mu k q]; exact s k h0 q
      · intro z
        have := a.new k (by omega) hk
        rw [← z, h] at this; cases this
  · by_cases q : k < n1
    · rw [b.mu k q]; exact a.new k h1 q
    · exact a.there _ (b.new k (by omega) h2)
section
variable (K : PySem.W.Frag)
mutual
def RV (H : Hp) (μ : Nat → Addr) (n : Nat) : D → V → Prop
  | .non, v => v = .non
  | .bl b, v => v = .bl b
  | .int i, v => v = .int i
  | .str s, v => v = .str s
  | .tup ds, v => ∃ a vs, v = .ref a ∧ SqT K H a vs ∧ RVs H μ n ds vs
  | .ref k, v => k < n ∧ v = .ref (μ k)
def RVs (H : Hp) (μ : Nat → Addr) (n : Nat) : List D → List V → Prop
  | [], vs => vs = []
  | d :: ds, vs => ∃ v r, vs = v :: r ∧ RV H μ n d v ∧ RVs H μ n ds r
end
/-- a list that is only read: locked, or of the written part -/
def SqC (H : Hp) (a : Addr) (vs : List V) : Prop := (∃ o, H a = some (.frz o (.lst vs))) ∨
  ∃ (o : Obj) (its : Array Value) (n : Nat), K.lookup a = some o ∧ o.cls = .type "list" ∧ o.dict = none ∧ o.data = .seq its n ∧ its.size ≤ sizeLine ∧ Vals vs its.toList
def RO (H : Hp) (μ : Nat → Addr) (n : Nat) (a : Addr) : HObj → Prop
  | .lst ds => ∃ vs, H a = some (.lst vs) ∧ RVs K H μ n ds vs
  | .con ds => ∃ vs, SqC K H a vs ∧ RVs K H μ n ds vs
structure RH (H : Hp) (μ : Nat → Addr) (h : HP) : Prop where
  obj : ∀ k o, h[k]? = some o → RO K H μ h.length (μ k) o
  inj : ∀ j k ds es, h[j]? = some (.lst ds) → h[k]? = some (.lst es) → μ j = μ k → j = k
  zero : ∃ ds, h[0]? = some (.con ds)
  con0 : ∀ k ds, h[k]? = some (.con ds) → k = 0
end
section
variable {K : PySem.W.Frag} {H H' : Hp} {μ μ' : Nat → Addr} {n n' : Nat}
theorem RH.pos {h : HP} (r : RH K H μ h) {k : Nat} {ds : List D} (e : h[k]? = some (.lst ds)) : 0 < k := by
  rcases Nat.eq_zero_or_pos k with z | z
  · subst z
    obtain ⟨es, e'⟩ := r.zero
    rw [e] at e'; cases e'
  · exact z
theorem RH.app {h : HP} (r : RH K H μ h) (ds : List D) : (∃ es, (h ++ [HObj.lst ds])[0]? = some (.con es)) ∧ ∀ k es, (h ++ [HObj.lst ds])[k]? = some (.con es) → k = 0 := by
  refine ⟨?_, fun k es e => ?_⟩
  · obtain ⟨es, e⟩ := r.zero
    exact ⟨es, by rw [List.getElem?_append_left (List.getElem?_eq_some_iff.mp e).1]; exact e⟩
  · by_cases hk : k < h.length
    · rw [List.getElem?_append_left hk] at e; exact r.con0 k es e
    · rw [List.getElem?_append_right (by omega)] at e
      by_cases h0 : k - h.length = 0
      · rw [h0] at e; cases e
      · rw [List.getElem?_eq_none (by simp; omega)] at e; cases e
theorem sqT_mono (k : ∀ b o, H b = some o → Stay o → H' b = some o) {a : Addr} {vs : List V} (h : SqT K H a vs) : SqT K H' a vs := by
  rcases h with (h | ⟨o, h⟩) | h
  · exact .inl (.inl (k _ _ h trivial))
  · exact .inl (.inr ⟨o, k _ _ h trivial⟩)
  · exact .inr h
mutual
theorem RV.mono0 (l : n ≤ n') (e : ∀ k, k < n → μ' k = μ k) (q : ∀ b o, H b = some o → Stay o → H' b = some o) : ∀ (d : D) (v : V), RV K H μ n d v → RV K H' μ' n' d v
  | .non, v, h => by simpa [RV] using h
  | .bl _, v, h => by simpa [RV] using h
  | .int _, v, h => by simpa [RV] using h
  | .str _, v, h => by simpa [RV] using h
  | .tup ds, v, h => by
    rw [RV] at h ⊢
    obtain ⟨a, vs, e1, s, r⟩ := h
    exact ⟨a, vs, e1, sqT_mono q s, RVs.mono0 l e q ds vs r⟩
  | .ref k, v, h => by
    rw [RV] at h ⊢
    exact ⟨Nat.lt_of_lt_of_le h.1 l, by rw [e k h.1]; exact h.2⟩
theorem RVs.mono0 (l : n ≤ n') (e : ∀ k, k < n → μ' k = μ k) (q : ∀ b o, H b = some o → Stay o → H' b = some o) : ∀ (ds : List D) (vs : List V), RVs K H μ n ds vs → RVs K H' μ' n' ds vs
  | [], vs, h => by simpa [RVs] using h
  | d :: ds, vs, h => by
    rw [RVs] at h ⊢
    obtain ⟨v, r, e1, h1, h2⟩ := h
    exact ⟨v, r, e1, RV.mono0 l e q d v h1, RVs.mono0 l e q ds r h2⟩
end
theorem RV.mono (x : Ext n n' H μ H' μ') (d : D) (v : V) (h : RV K H μ n d v) : RV K H' μ' n' d v := RV.mono0 x.le x.mu x.keep d v h
theorem RVs.mono (x : Ext n n' H μ H' μ') (d : List D) (v : List V) (h : RVs K H μ n d v) : RVs K H' μ' n' d v := RVs.mono0 x.le x.mu x.keep d v h
theorem RVs.nil : RVs K H μ n [] [] := by rw [RVs]
theorem RVs.cons {d : D} {ds : List D} {v : V} {vs : List V} (a : RV K H μ n d v) (b : RVs K H μ n ds vs) : RVs K H μ n (d :: ds) (v :: vs) := by
  rw [RVs]; exact ⟨v, vs, rfl, a, b⟩
theorem RVs.inv {d : D} {ds : List D} {vs : List V} (h : RVs K H μ n (d :: ds) vs) : ∃ v r, vs = v :: r ∧ RV K H μ n d v ∧ RVs K H μ n ds r := by
  rw [RVs] at h; exact h
theorem RVs.inv0 {vs : List V} (h : RVs K H μ n [] vs) : vs = [] := by rw [RVs] at h; exact h
theorem RVs.length : ∀ {ds : List D} {vs : List V}, RVs K H μ n ds vs → vs.length = ds.length
  | [], vs, h => by rw [h.inv0]; rfl
  | d :: ds, vs, h => by
    obtain ⟨v, r, e, _, h2⟩ := h.inv
    rw [e, List.length_cons, List.length_cons, RVs.length h2]
theorem RVs.get : ∀ {ds : List D} {vs : List V} {i : Nat} {d : D}, RVs K H μ n ds vs → ds[i]? = some d → ∃ v, vs[i]? = some v ∧ RV K H μ n d v
  | [], _, _, _, _, e => by simp at e
  | x :: ds, vs, i, d, h, e => by
    obtain ⟨v, r, rfl, h1, h2⟩ := h.inv
    cases i with
    | zero => simp at e; subst e; exact ⟨v, rfl, h1⟩
    | succ i =>
      obtain ⟨w, a, b⟩ := RVs.get (i := i) (d := d) h2 (by simpa using e)
      exact ⟨w, by simpa using a, b⟩
theorem RVs.get_none {ds : List D} {vs : List V} {i : Nat} (h : RVs K H μ n ds vs) (e : ds[i]? = none) : vs[i]? = none := by
  have := h.length
  rw [List.getElem?_eq_none_iff] at e ⊢
  omega
theorem RVs.append : ∀ {ds es : List D} {vs ws : List V}, RVs K H μ n ds vs → RVs K H μ n es ws → RVs K H μ n (ds ++ es) (vs ++ ws)
  | [], _, vs, _, h, k => by rw [h.inv0]; exact k
  | d :: ds, _, vs, _, h, k => by
    obtain ⟨v, r, rfl, h1, h2⟩ := h.inv
    exact .cons h1 (RVs.append h2 k)
theorem RVs.take : ∀ {ds : List D} {vs : List V} (i : Nat), RVs K H μ n ds vs → RVs K H μ n (ds.take i) (vs.take i)
  | _, _, 0, _ => by simpa using RVs.nil
  | [], vs, i + 1, h => by rw [h.inv0]; simpa using RVs.nil
  | d :: ds, vs, i + 1, h => by
    obtain ⟨v, r, rfl, h1, h2⟩ := h.inv
    simpa using RVs.cons h1 (RVs.take i h2)
theorem RVs.drop : ∀ {ds : List D} {vs : List V} (i : Nat), RVs K H μ n ds vs → RVs K H μ n (ds.drop i) (vs.drop i)
  | ds, vs, 0, h => by simpa using h
  | [], vs, i + 1, h => by rw [h.inv0]; simpa using RVs.nil
  | d :: ds, vs, i + 1, h => by
    obtain ⟨v, r, rfl, h1, h2⟩ := h.inv
    simpa using RVs.drop i h2
theorem RVs.reverse : ∀ {ds : List D} {vs : List V}, RVs K H μ n ds vs → RVs K H μ n ds.reverse vs.reverse
  | [], vs, h => by rw [h.inv0]; simpa using RVs.nil
  | d :: ds, vs, h => by
    obtain ⟨v, r, rfl, h1, h2⟩ := h.inv
    simpa using (RVs.reverse h2).append (.cons h1 .nil)
theorem RVs.set : ∀ {ds : List D} {vs : List V} (i : Nat) {d : D} {v : V}, RVs K H μ n ds vs → RV K H μ n d v → RVs K H μ n (ds.set i d) (vs.set i v)
  | [], vs, i, d, v, h, _ => by rw [h.inv0]; simpa using RVs.nil
  | x :: ds, vs, 0, d, v, h, k => by
    obtain ⟨w, r, rfl, _, h2⟩ := h.inv
    simpa using RVs.cons k h2
  | x :: ds, vs, i + 1, d, v, h, k => by
    obtain ⟨w, r, rfl, h1, h2⟩ := h.inv
    simpa using RVs.cons h1 (RVs.set i h2 k)
theorem RVs.eraseIdx : ∀ {ds : List D} {vs : List V} (i : Nat), RVs K H μ n ds vs → RVs K H μ n (ds.eraseIdx i) (vs.eraseIdx i)
  | [], vs, i, h => by rw [h.inv0]; simpa using RVs.nil
  | x :: ds, vs, 0, h => by
    obtain ⟨w, r, rfl, _, h2⟩ := h.inv
    simpa using h2
  | x :: ds, vs, i + 1, h => by
    obtain ⟨w, r, rfl, h1, h2⟩ := h.inv
    simpa using RVs.cons h1 (RVs.eraseIdx i h2)
theorem RVs.dropLast {ds : List D} {vs : List V} (h : RVs K H μ n ds vs) : RVs K H μ n ds.dropLast vs.dropLast := by
  rw [List.dropLast_eq_take, List.dropLast_eq_take, h.length]
  exact h.take _
theorem RVs.one {d : D} {v : V} (a : RV K H μ n d v) : RVs K H μ n [d] [v] := .cons a .nil
theorem RVs.rep {ds : List D} {vs : List V} (h : RVs K H μ n ds vs) : ∀ k : Nat, RVs K H μ n (List.replicate k ds).flatten (List.replicate k vs).flatten
  | 0 => by simpa using RVs.nil
  | k + 1 => by simpa [List.replicate_succ] using h.append (RVs.rep h k)
theorem RVs.mapI : ∀ (l : List Nat) (f : Nat → Int), RVs K H μ n (l.map fun k => D.int (f k)) (l.map fun k => V.int (f k))
  | [], _ => by simpa using RVs.nil
  | a :: l, f => by
    simp only [List.map_cons]
    exact .cons (by rw [RV]) (RVs.mapI l f)
theorem RVs.ints : ∀ (l : List Int), RVs K H μ n (l.map D.int) (l.map V.int)
  | [] => by simpa using RVs.nil
  | a :: l => by
    simp only [List.map_cons]
    exact .cons (by rw [RV]) (RVs.ints l)

/-! ### the heap grows, changes -/
theorem SqC.sq {a : Addr} {vs : List V} (h : SqC K H a vs) : SqL K H a vs := by
  rcases h with h | h
  · exact .inl (.inr h)
  · exact .inr h
theorem RO.mono {a : Addr} {o : HObj} (x : Ext n n' H μ H' μ') (same : ∀ vs, H a = some (.lst vs) → H' a = some (.lst vs)) (h : RO K H μ n a o) : RO K H' μ' n' a o := by
  cases o with
  | lst ds =>
    obtain ⟨vs, e, r⟩ := h
    exact ⟨vs, same vs e, RVs.mono x _ _ r⟩
  | con ds =>
    obtain ⟨vs, e, r⟩ := h
    refine ⟨vs, ?_, RVs.mono x _ _ r⟩
    rcases e with ⟨o, e⟩ | e
    · exact .inl ⟨o, x.keep _ _ e trivial⟩
    · exact .inr e
/-- an address that is free in H is no own list's, where the list is tracked -/
theorem upd_free_keep {p : Addr} {o : HO} {P : HO → Addr → Prop} (hp : H p = none) : ∀ b u, H b = some u → P u b → (upd H p o) b = some u := fun b u h _ => by
  rw [upd_ne (ne_of_none h hp)]; exact h
theorem upd_there {p : Addr} {o : HO} : ∀ b, (upd H p o) b = none → H b = none := fun b h => by
  by_cases z : b = p
  · subst z; rw [upd_same] at h; cases h
  · rw [upd_ne z] at h; exact h
def muAt (μ : Nat → Addr) (k : Nat) (p : Addr) : Nat → Addr := fun j => if j = k then p else μ j
theorem muAt_same {μ : Nat → Addr} {k : Nat} {p : Addr} : muAt μ k p k = p := if_pos rfl
theorem muAt_ne {μ : Nat → Addr} {k j : Nat} {p : Addr} (h : j ≠ k) : muAt μ k p j = μ j := if_neg h
/-- a new object that is not an own list's -/
theorem Ext.fresh {p : Addr} {o : HO} (hp : H p = none) : Ext n n H μ (upd H p o) μ :=
  ⟨Nat.le_refl _, fun _ _ => rfl, fun b u h _ => by rw [upd_ne (ne_of_none h hp)]; exact h, fun k a b => by omega, upd_there⟩
theorem Ext.freshL {p : Addr} {o : HO} (hp : H p = none) : Ext n (n + 1) H μ (upd H p o) (muAt μ n p) :=
  ⟨Nat.le_succ _, fun k hk => muAt_ne (Nat.ne_of_lt hk), fun b u h _ => by rw [upd_ne (ne_of_none h hp)]; exact h, fun k a b => by
    have : k = n := by omega
    subst this; rw [muAt_same]; exact hp, upd_there⟩
theorem RO.upd_other {a p : Addr} {o : HObj} {u : HO} {m : Nat} (x : Ext n m H μ (upd H p u) μ') (hp : H p = none) (h : RO K H μ n a o) : RO K (upd H p u) μ' m a o :=
  h.mono x fun vs e => by rw [upd_ne (ne_of_none e hp)]; exact e
theorem RH.fresh {h : HP} {p : Addr} {o : HO} (r : RH K H μ h) (hp : H p = none) : RH K (upd H p o) μ h :=
  ⟨fun k ob e => (r.obj k ob e).upd_other (Ext.fresh hp) hp, r.inj, r.zero, r.con0⟩
theorem lt_of_get {α : Type} {l : List α} {i : Nat} {x : α} (h : l[i]? = some x) : i < l.length := (List.getElem?_eq_some_iff.mp h).1
/-- a new list of the own heap -/
theorem RH.freshL {h : HP} {p : Addr} {vs : List V} {ds : List D} (r : RH K H μ h) (hp : H p = none) (rv : RVs K H μ h.length ds vs) : RH K (upd H p (.lst vs)) (muAt μ h.length p) (h ++ [.lst ds]) := by
  have x : Ext h.length (h ++ [HObj.lst ds]).length H μ (upd H p (.lst vs)) (muAt μ h.length p) := by
    rw [List.length_append]; exact Ext.freshL hp
  have old : ∀ {k : Nat} {o : HObj}, h[k]? = some o → muAt μ h.length p k = μ k := fun e => muAt_ne (Nat.ne_of_lt (lt_of_get e))
  have cs : ∀ {k : Nat} {o : HObj}, (h ++ [HObj.lst ds])[k]? = some o → h[k]? = some o ∨ (k = h.length ∧ o = .lst ds) := fun {k o} e => by
    by_cases hk : k < h.length
    · rw [List.getElem?_append_left hk] at e; exact .inl e
    · rw [List.getElem?_append_right (by omega)] at e
      by_cases h0 : k - h.length = 0
      · rw [h0] at e
        exact .inr ⟨by omega, (Option.some.inj e).symm⟩
      · rw [List.getElem?_eq_none (by simp; omega)] at e; cases e
  refine ⟨fun k o e => ?_, fun j k d1 d2 e1 e2 em => ?_, (r.app ds).1, (r.app ds).2⟩
  · rcases cs e with e | ⟨rfl, rfl⟩
    · rw [old e]; exact (r.obj k o e).upd_other x hp
    · rw [muAt_same]; exact ⟨vs, upd_same, RVs.mono x _ _ rv⟩
  · have tr : ∀ {k : Nat} {d : List D}, h[k]? = some (.lst d) → μ k ≠ p := fun {k d} e z => by
      obtain ⟨vs, e', _⟩ := r.obj k _ e
      rw [z, hp] at e'; cases e'
    rcases cs e1 with q1 | ⟨rfl, _⟩ <;> rcases cs e2 with q2 | ⟨rfl, _⟩
    · rw [old q1, old q2] at em; exact r.inj j k _ _ q1 q2 em
    · rw [old q1, muAt_same] at em; exact absurd em (tr q1)
    · rw [old q2, muAt_same] at em; exact absurd em.symm (tr q2)
    · rfl
/-- a list of the own heap is changed -/
theorem Ext.write {k : Nat} {vs ws : List V} (hk : H (μ k) = some (.lst vs)) (lk : k < n) (l0 : 0 < k) : Ext n n H μ (upd H (μ k) (.lst ws)) μ :=
  ⟨Nat.le_refl _, fun _ _ => rfl, fun b o e s => by
    by_cases z : b = μ k
    · subst z; rw [hk] at e; cases e
      rcases s with s | s
      · exact s.elim
      · exact absurd rfl (s k l0 lk)
    · rw [upd_ne z]; exact e, fun k a b => by omega, upd_there⟩
theorem RH.write {h : HP} {k : Nat} {vs ws : List V} {ds es : List D} (r : RH K H μ h) (hk : h[k]? = some (.lst ds)) (hH : H (μ k) = some (.lst vs)) (rv : RVs K H μ h.length es ws) :
    RH K (upd H (μ k) (.lst ws)) μ (h.set k (.lst es)) := by
  have x : Ext h.length (h.set k (.lst es)).length H μ (upd H (μ k) (.lst ws)) μ := by rw [List.length_set]; exact Ext.write hH (lt_of_get hk) (r.pos hk)
  have lk := lt_of_get hk
  have cs : ∀ {j : Nat} {o : HObj}, (h.set k (.lst es))[j]? = some o → (j = k ∧ o = .lst es) ∨ (j ≠ k ∧ h[j]? = some o) := fun {j o} e => by
    by_cases z : j = k
    · subst z
      rw [List.getElem?_set_self lk] at e
      exact .inl ⟨rfl, (Option.some.inj e).symm⟩
    · rw [List.getElem?_set_ne (Ne.symm z)] at e
      exact .inr ⟨z, e⟩
  refine ⟨fun j o e => ?_, fun i j d1 d2 e1 e2 em => ?_, ?_, fun j d e => ?_⟩
  rotate_left 2
  · obtain ⟨d, e⟩ := r.zero
    exact ⟨d, by rw [List.getElem?_set_ne (Nat.ne_of_gt (r.pos hk))]; exact e⟩
  · rcases cs e with ⟨_, e⟩ | ⟨_, e⟩
    · cases e
    · exact r.con0 j d e
  · rcases cs e with ⟨rfl, rfl⟩ | ⟨hn, e⟩
    · exact ⟨ws, upd_same, RVs.mono x _ _ rv⟩
    · cases o with
      | lst d =>
        have ne : μ j ≠ μ k := fun z => hn (r.inj j k _ _ e hk z)
        exact (r.obj j _ e).mono x fun vs' e' => by rw [upd_ne ne]; exact e'
      | con d =>
        obtain ⟨us, s, q⟩ := r.obj j _ e
        refine ⟨us, ?_, RVs.mono x _ _ q⟩
        rcases s with ⟨o, s⟩ | s
        · exact .inl ⟨o, x.keep _ _ s trivial⟩
        · exact .inr s
  · have back : ∀ {j : Nat} {d : List D}, (h.set k (.lst es))[j]? = some (.lst d) → ∃ d', h[j]? = some (.lst d') := fun {j d} e => by
      rcases cs e with ⟨rfl, _⟩ | ⟨_, e⟩
      · exact ⟨_, hk⟩
      · exact ⟨_, e⟩
    obtain ⟨a, ha⟩ := back e1
    obtain ⟨b, hb⟩ := back e2
    exact r.inj i j _ _ ha hb em
theorem RV.weaken (a : n ≤ n') (e : ∀ k, k < n → μ' k = μ k) (d : D) (v : V) (h : RV K H μ n d v) : RV K H μ' n' d v := RV.mono0 a e (fun _ _ h _ => h) d v h
theorem RVs.weaken (a : n ≤ n') (e : ∀ k, k < n → μ' k = μ k) (d : List D) (v : List V) (h : RVs K H μ n d v) : RVs K H μ' n' d v := RVs.mono0 a e (fun _ _ h _ => h) d v h
/-- a list that is laid already, and is no own list's, becomes the own heap's next place -/
theorem RH.adopt {h : HP} {p : Addr} {vs : List V} {ds : List D} (r : RH K H μ h) (hp : H p = some (.lst vs)) (ne : ∀ k, 0 < k → k < h.length → p ≠ μ k) (rv : RVs K H μ h.length ds vs) :
    RH K H (muAt μ h.length p) (h ++ [.lst ds]) := by
  have old : ∀ {k : Nat} {o : HObj}, h[k]? = some o → muAt μ h.length p k = μ k := fun e => muAt_ne (Nat.ne_of_lt (lt_of_get e))
  have wk : ∀ k, k < h.length → muAt μ h.length p k = μ k := fun k hk => muAt_ne (Nat.ne_of_lt hk)
  have le : h.length ≤ (h ++ [HObj.lst ds]).length := by simp
  have cs : ∀ {k : Nat} {o : HObj}, (h ++ [HObj.lst ds])[k]? = some o → h[k]? = some o ∨ (k = h.length ∧ o = .lst ds) := fun {k o} e => by
    by_cases hk : k < h.length
    · rw [List.getElem?_append_left hk] at e; exact .inl e
    · rw [List.getElem?_append_right (by omega)] at e
      by_cases h0 : k - h.length = 0
      · rw [h0] at e
        exact .inr ⟨by omega, (Option.some.inj e).symm⟩
      · rw [List.getElem?_eq_none (by simp; omega)] at e; cases e
  refine ⟨fun k o e => ?_, fun j k d1 d2 e1 e2 em => ?_, (r.app ds).1, (r.app ds).2⟩
  · rcases cs e with e | ⟨rfl, rfl⟩
    · rw [old e]
      cases o with
      | lst d => obtain ⟨us, a, b⟩ := r.obj k _ e; exact ⟨us, a, RVs.weaken le wk _ _ b⟩
      | con d => obtain ⟨us, a, b⟩ := r.obj k _ e; exact ⟨us, a, RVs.weaken le wk _ _ b⟩
    · rw [muAt_same]; exact ⟨vs, hp, RVs.weaken le wk _ _ rv⟩
  · rcases cs e1 with q1 | ⟨rfl, _⟩ <;> rcases cs e2 with q2 | ⟨rfl, _⟩
    · rw [old q1, old q2] at em; exact r.inj j k _ _ q1 q2 em
    · rw [old q1, muAt_same] at em; exact absurd em.symm (ne _ (r.pos q1) (lt_of_get q1))
    · rw [old q2, muAt_same] at em; exact absurd em (ne _ (r.pos q2) (lt_of_get q2))
    · rfl
/-- a list that is no own list's changes -/
theorem keep_tweak {p : Addr} {vs ws : List V} (hp : H p = some (.lst vs)) : ∀ b o, H b = some o → Stay o → (upd H p (.lst ws)) b = some o := fun b o e s => by
  by_cases z : b = p
  · subst z; rw [hp] at e; cases e; exact s.elim
  · rw [upd_ne z]; exact e
theorem RVs.tweak {p : Addr} {vs ws us : List V} {ds : List D} (hp : H p = some (.lst vs)) (h : RVs K H μ n ds us) : RVs K (upd H p (.lst ws)) μ n ds us := RVs.mono0 (Nat.le_refl _) (fun _ _ => rfl) (keep_tweak hp) _ _ h
theorem RV.tweak {p : Addr} {vs ws : List V} {u : V} {d : D} (hp : H p = some (.lst vs)) (h : RV K H μ n d u) : RV K (upd H p (.lst ws)) μ n d u := RV.mono0 (Nat.le_refl _) (fun _ _ => rfl) (keep_tweak hp) _ _ h
theorem RH.tweak {h : HP} {p : Addr} {vs ws : List V} (r : RH K H μ h) (hp : H p = some (.lst vs)) (ne : ∀ k, 0 < k → k < h.length → p ≠ μ k) : RH K (upd H p (.lst ws)) μ h := by
  refine ⟨fun k o e => ?_, r.inj, r.zero, r.con0⟩
  cases o with
  | lst ds =>
    obtain ⟨us, a, b⟩ := r.obj k _ e
    exact ⟨us, by rw [upd_ne (Ne.symm (ne k (r.pos e) (lt_of_get e)))]; exact a, b.tweak hp⟩
  | con ds =>
    obtain ⟨us, a, b⟩ := r.obj k _ e
    refine ⟨us, ?_, b.tweak hp⟩
    rcases a with ⟨o, a⟩ | a
    · exact .inl ⟨o, keep_tweak hp _ _ a trivial⟩
    · exact .inr a
theorem Ext.tweak {p : Addr} {o : HO} (x : Ext n n' H μ H' μ') (hp : H p = none) : Ext n n' H μ (upd H' p o) μ' :=
  ⟨x.le, x.mu, fun b u e s => by rw [upd_ne (ne_of_none e hp)]; exact x.keepA b u e s, x.new, fun b e => x.there b (upd_there b e)⟩
/-- and becomes the next place -/
theorem Ext.adopt {p : Addr} (x : Ext n n' H μ H' μ') (hp : H p = none) : Ext n (n' + 1) H μ H' (muAt μ' n' p) := by
  have l := x.le
  refine ⟨Nat.le_succ_of_le x.le, fun k hk => ?_, x.keepA, fun k h1 h2 => ?_, x.there⟩
  · rw [muAt_ne (by omega)]; exact x.mu k hk
  · by_cases z : k = n'
    · subst z; rw [muAt_same]; exact hp
    · rw [muAt_ne z]; exact x.new k h1 (by omega)
/-- a sequence that is read -/
theorem RH.seq {h : HP} {n : Nat} {ds : List D} (r : RH K H μ h) (e : seqOf h (.ref n) = some ds) : ∃ vs, SqL K H (μ n) vs ∧ RVs K H μ h.length ds vs := by
  cases q : h[n]? with
  | none => simp [seqOf, q] at e
  | some o =>
    simp only [seqOf, q] at e
    cases o with
    | lst d =>
      cases e
      obtain ⟨vs, e1, r1⟩ := r.obj n _ q
      exact ⟨vs, SqL.of e1, r1⟩
    | con d =>
      cases e
      obtain ⟨vs, e1, r1⟩ := r.obj n _ q
      exact ⟨vs, e1.sq, r1⟩
end
end PI

set_option Elab.async false
set_option linter.all false
set_option maxRecDepth 100000
set_option maxHeartbeats 4000000
/-! What an evaluation promises to the layer's readings; how two of them follow one another. -/
namespace PI
open PySem PySem.Spec PyProof.Rows L2

/-- the slots -/
structure RE (K : PySem.W.Frag) (σ : L2.St) (H : Hp) (μ : Nat → Addr) (n : Nat) (e : Env) : Prop where
  len : σ.length = e.length
  at_ : ∀ (i : Nat) (d : D), e[i]? = some (some d) → ∃ v, σ[i]? = some (some v) ∧ RV K H μ n d v
/-- the handled error -/
def RX (P : Par) (σ : L2.St) (H : Hp) (μ : Nat → Addr) (n : Nat) : Prop := match P.cx.x with
  | none => True
  | some (c, d) => ∃ sl a dx u, P.xh = some (sl, a, dx) ∧ (∀ i, sl = some i → σ[i]? = some (some (.ref a))) ∧ H dx = some (.xd [(P.att c, u)]) ∧ RV P.K H μ n d u
structure Rel (P : Par) (σ : L2.St) (H : Hp) (e : Env) (h : HP) (μ : Nat → Addr) : Prop where
  env : RE P.K σ H μ h.length e
  heap : RH P.K H μ h
  x : RX P σ H μ h.length
section
variable {P : Par} {σ : L2.St} {H H' : Hp} {μ μ' : Nat → Addr} {n n' : Nat} {e : Env} {h h' : HP}
theorem RE.mono (r : RE P.K σ H μ n e) (x : Ext n n' H μ H' μ') : RE P.K σ H' μ' n' e :=
  ⟨r.len, fun i d q => let ⟨v, a, b⟩ := r.at_ i d q; ⟨v, a, RV.mono x d v b⟩⟩
theorem RX.mono (r : RX P σ H μ n) (x : Ext n n' H μ H' μ') : RX P σ H' μ' n' := by
  unfold RX at r ⊢
  cases q : P.cx.x with
  | none => trivial
  | some cd =>
    rw [q] at r
    obtain ⟨sl, a, dx, u, h1, h2, b, c⟩ := r
    exact ⟨sl, a, dx, u, h1, h2, x.keep _ _ b trivial, RV.mono x _ _ c⟩
theorem Rel.mono (r : Rel P σ H e h μ) (x : Ext h.length h'.length H μ H' μ') (rh : RH P.K H' μ' h') : Rel P σ H' e h' μ' := ⟨r.env.mono x, rh, r.x.mono x⟩
theorem RE.set {i : Nat} {d : D} {v : V} (r : RE P.K σ H μ n e) (rv : RV P.K H μ n d v) : RE P.K (σ.set i (some v)) H μ n (e.set i (some d)) := by
  refine ⟨by rw [List.length_set, List.length_set]; exact r.len, fun j d' q => ?_⟩
  by_cases z : i = j
  · subst z
    have hj := lt_of_get q
    rw [List.length_set] at hj
    rw [List.getElem?_set_self hj] at q
    cases q
    exact ⟨v, List.getElem?_set_self (by rw [r.len]; exact hj), rv⟩
  · rw [List.getElem?_set_ne z] at q
    obtain ⟨v', a, b⟩ := r.at_ j d' q
    exact ⟨v', by rw [List.getElem?_set_ne z]; exact a, b⟩
theorem RE.kill {i : Nat} (r : RE P.K σ H μ n e) : RE P.K σ H μ n (e.set i none) := by
  refine ⟨by rw [List.length_set]; exact r.len, fun j d' q => ?_⟩
  by_cases z : i = j
  · subst z
    have hj := lt_of_get q
    rw [List.length_set] at hj
    rw [List.getElem?_set_self hj] at q
    cases q
  · rw [List.getElem?_set_ne z] at q
    exact r.at_ j d' q
theorem RE.killE : ∀ (ks : List Nat) {e : Env}, RE P.K σ H μ n e → RE P.K σ H μ n (killE ks e)
  | [], _, r => r
  | k :: ks, e, r => RE.killE ks (e := e.set k none) r.kill
/-- both sides forget a slot -/
theorem RE.kill2 {i : Nat} (r : RE P.K σ H μ n e) : RE P.K (σ.set i none) H μ n (e.set i none) := by
  refine ⟨by rw [List.length_set, List.length_set]; exact r.len, fun j d' q => ?_⟩
  by_cases z : i = j
  · subst z
    have hj := lt_of_get q
    rw [List.length_set] at hj
    rw [List.getElem?_set_self hj] at q
    cases q
  · rw [List.getElem?_set_ne z] at q ⊢
    exact r.at_ j d' q
theorem killE_length (ks : List Nat) : ∀ e : Env, (killE ks e).length = e.length := by
  induction ks with
  | nil => intro e; rfl
  | cons k ks ih => intro e; show (killE ks (e.set k none)).length = _; rw [ih, List.length_set]
end

/-! ### what is promised -/
abbrev Rp (α β : Type) := PySem.W.Frag → Hp → (Nat → Addr) → Nat → α → β → Prop
section
variable {α β γ δ : Type}
def Post (P : Par) (R : Rp α β) (W : XK) (H : Hp) (μ : Nat → Addr) (n : Nat) (r : Res α) (Q : β → Hp → Prop) : Prop := match r with
  | .ok a h' => ∀ v μ' H', Ext n h'.length H μ H' μ' → R P.K H' μ' h'.length a v → RH P.K H' μ' h' → Q v H'
  | .exc c d h' => ∀ dx u μ' H', Ext n h'.length H μ H' μ' → H' dx = some (.xd [(P.att c, u)]) → RV P.K H' μ' h'.length d u → RH P.K H' μ' h' → W (.ref (P.cls c)) (some dx) H'
  | .stuck => False
/-- the reading of an evaluation -/
def tR (P : Par) (R : Rp α β) (W : WX) (m : Env → HP → Res α) : L2.St → Hp → (β → Hp → Prop) → Prop := fun σ H Q => ∃ e h μ, Rel P σ H e h μ ∧ Post P R (fun c d H => W c d σ H) H μ h.length (m e h) Q
def rD : Rp D V := RV
def rB : Rp Bool Bool := fun _ _ _ _ a b => a = b
def rDs : Rp (List D) (List V) := RVs
def rO : Rp (Option Int) (Option Int) := fun _ _ _ _ a b => a = b
variable {P : Par} {R : Rp α β} {R' : Rp γ δ} {W : XK} {H H1 : Hp} {μ μ1 : Nat → Addr} {n n1 : Nat}
theorem Post.ext {r : Res α} {Q : β → Hp → Prop} (x : Ext n n1 H μ H1 μ1) (p : Post P R W H μ n r Q) : Post P R W H1 μ1 n1 r Q := by
  cases r with
  | ok a h => exact fun v μ' H' y => p v μ' H' (x.trans y)
  | exc c d h => exact fun dx u μ' H' y => p dx u μ' H' (x.trans y)
  | stuck => exact p
theorem Post.bind {m : Res α} {f : α → HP → Res γ} {Q : δ → Hp → Prop} (p : Post P R' W H μ n (m.bind f) Q) :
    Post P R W H μ n m (fun v H1 => ∃ a h1 μ1, Ext n h1.length H μ H1 μ1 ∧ R P.K H1 μ1 h1.length a v ∧ RH P.K H1 μ1 h1 ∧ Post P R' W H1 μ1 h1.length (f a h1) Q) := by
  cases m with
  | ok a h => exact fun v μ' H' y r rh => ⟨a, h, μ', y, r, rh, Post.ext y p⟩
  | exc c d h => exact p
  | stuck => exact p
theorem Post.ok {a : α} {h : HP} {v : β} {Q : β → Hp → Prop} (p : Post P R W H μ h.length (.ok a h) Q) (r : R P.K H μ h.length a v) (rh : RH P.K H μ h) : Q v H := p v μ H Ext.refl r rh
theorem Post.mono {r : Res α} {Q Q' : β → Hp → Prop} (p : Post P R W H μ n r Q) (k : ∀ v H, Q v H → Q' v H) : Post P R W H μ n r Q' := by
  cases r with
  | ok a h => exact fun v μ' H' y q rh => k v H' (p v μ' H' y q rh)
  | exc c d h => exact p
  | stuck => exact p
/-- one evaluation, then the rest -/
theorem tR_one {W : WX} {σ : L2.St} {m : Env → HP → Res α} {f : Env → α → HP → Res γ} {Q : δ → Hp → Prop} (t : tR P R' W (fun e h => (m e h).bind (f e)) σ H Q) :
    tR P R W m σ H (fun v H1 => ∃ e h1 μ1 a, Rel P σ H1 e h1 μ1 ∧ R P.K H1 μ1 h1.length a v ∧ Post P R' (fun c d H => W c d σ H) H1 μ1 h1.length (f e a h1) Q) := by
  obtain ⟨e, h, μ, r, p⟩ := t
  refine ⟨e, h, μ, r, (Post.bind (R := R) p).mono fun v H1 ⟨a, h1, μ1, x, ra, rh, q⟩ => ⟨e, h1, μ1, a, r.mono x rh, ra, q⟩⟩
/-- two, then the rest -/
theorem tR_two {ε ζ : Type} {R2 : Rp ε ζ} {W : WX} {σ : L2.St} {m : Env → HP → Res α} {m2 : Env → HP → Res ε} {f : α → ε → HP → Res γ} {Q : δ → Hp → Prop} (mono : ∀ {n n' : Nat} {H H' : Hp} {μ μ' : Nat → Addr} {a : α} {b : β}, Ext n n' H μ H' μ' → R P.K H μ n a b → R P.K H' μ' n' a b)
    (t : tR P R' W (fun e h => (m e h).bind fun a h1 => (m2 e h1).bind fun b h2 => f a b h2) σ H Q) :
    tR P R W m σ H (fun v H1 => tR P R2 W m2 σ H1 (fun w H2 => ∃ h2 μ2 a b, R P.K H2 μ2 h2.length a v ∧ R2 P.K H2 μ2 h2.length b w ∧ RH P.K H2 μ2 h2 ∧ (∃ e, RE P.K σ H2 μ2 h2.length e) ∧ Post P R' (fun c d H => W c d σ H) H2 μ2 h2.length (f a b h2) Q)) := by
  obtain ⟨e, h, μ, r, p⟩ := t
  refine ⟨e, h, μ, r, (Post.bind (R := R) p).mono fun v H1 ⟨a, h1, μ1, x, ra, rh, q⟩ => ?_⟩
  refine ⟨e, h1, μ1, r.mono x rh, (Post.bind (R := R2) q).mono fun w H2 ⟨b, h2, μ2, y, rb, rh2, q2⟩ => ?_⟩
  exact ⟨h2, μ2, a, b, mono y ra, rb, rh2, ⟨e, (r.mono x rh).env.mono y⟩, q2⟩
end
/-- a reading may be taken for a weaker one -/
theorem pe_imp {X : L2.Cx} {e : Expr} {t t' : TE} (h : PE X e t) (k : ∀ σ H Q, t' σ H Q → t σ H Q) : PE X e t' := ⟨fun pins s σ H Q I q => h.run pins s σ H Q I (k σ H Q q)⟩
theorem pt_imp {X : L2.Cx} {e : Expr} {t t' : TT} (h : PT X e t) (k : ∀ σ H Q, t' σ H Q → t σ H Q) : PT X e t' := ⟨fun pins s σ H Q I q => h.run pins s σ H Q I (k σ H Q q)⟩
theorem pa_imp {X : L2.Cx} {e : List Expr} {t t' : TA} (h : PA X e t) (k : ∀ σ H Q, t' σ H Q → t σ H Q) : PA X e t' := ⟨fun pos pins s σ H Q I q => h.run pos pins s σ H Q I (k σ H Q q)⟩
theorem ps_imp {X : L2.Cx} {e : Stmt} {t t' : TS} (h : PS X e t) (k : ∀ D σ H, t' D σ H → t D σ H) : PS X e t' := ⟨fun pins s σ H D I q => h.run pins s σ H D I (k D σ H q)⟩
theorem pss_imp {X : L2.Cx} {e : List Stmt} {t t' : TS} (h : PSs X e t) (k : ∀ D σ H, t' D σ H → t D σ H) : PSs X e t' := ⟨fun pins s σ H D I q => h.run pins s σ H D I (k D σ H q)⟩
theorem po_imp {X : L2.Cx} {e : Option Expr} {t t' : TO} (h : PO X e t) (k : ∀ σ H Q, t' σ H Q → t σ H Q) : PO X e t' := ⟨fun pins s σ H Q I q => h.run pins s σ H Q I (k σ H Q q)⟩
theorem pi_imp {X : L2.Cx} {tg e : Expr} {t t' : TI} (h : PI X tg e t) (k : ∀ σ H Q, t' σ H Q → t σ H Q) : PI X tg e t' := ⟨fun pins s σ H Q I q => h.run pins s σ H Q I (k σ H Q q)⟩
end PI

set_option Elab.async false
set_option linter.all false
set_option maxRecDepth 100000
set_option maxHeartbeats 4000000
/-! Operators and comparisons by own values. -/
namespace PI
open PySem PySem.Spec PyProof.Rows L2
section
variable {K : PySem.W.Frag} {H : Hp} {μ : Nat → Addr} {n : Nat}
theorem RV.int_ {i : Int} {v : V} (h : RV K H μ n (.int i) v) : v = .int i := by rw [RV] at h; exact h
theorem RV.str_ {i : Str} {v : V} (h : RV K H μ n (.str i) v) : v = .str i := by rw [RV] at h; exact h
theorem RV.bl_ {i : Bool} {v : V} (h : RV K H μ n (.bl i) v) : v = .bl i := by rw [RV] at h; exact h
theorem RV.non_ {v : V} (h : RV K H μ n .non v) : v = .non := by rw [RV] at h; exact h
theorem RV.ref_ {k : Nat} {v : V} (h : RV K H μ n (.ref k) v) : k < n ∧ v = .ref (μ k) := by rw [RV] at h; exact h
theorem RV.tup_ {ds : List D} {v : V} (h : RV K H μ n (.tup ds) v) : ∃ a vs, v = .ref a ∧ SqT K H a vs ∧ RVs K H μ n ds vs := by rw [RV] at h; exact h
theorem rv_int {i : Int} : RV K H μ n (.int i) (.int i) := by rw [RV]
theorem rv_str {i : Str} : RV K H μ n (.str i) (.str i) := by rw [RV]
theorem rv_bl {i : Bool} : RV K H μ n (.bl i) (.bl i) := by rw [RV]
theorem rv_non : RV K H μ n .non .non := by rw [RV]
theorem rv_tup {a : Addr} {ds : List D} {vs : List V} (s : SqT K H a vs) (r : RVs K H μ n ds vs) : RV K H μ n (.tup ds) (.ref a) := by rw [RV]; exact ⟨a, vs, rfl, s, r⟩
theorem rv_ref {k : Nat} (h : k < n) : RV K H μ n (.ref k) (.ref (μ k)) := by rw [RV]; exact ⟨h, rfl⟩
/-- a new tuple -/
theorem new_tup {p : Addr} {ds : List D} {vs : List V} (hp : H p = none) (r : RVs K H μ n ds vs) : RV K (upd H p (.tup vs)) μ n (.tup ds) (.ref p) := rv_tup (SqT.of upd_same) (RVs.mono (Ext.fresh hp) _ _ r)
end
theorem sl_line : SL = sizeLine := by rw [sizeLine_eq]; rfl
section
variable {P : Par} {W : XK} {H : Hp} {μ : Nat → Addr} {h : HP} {Q : VK}
/-- an answer without a new object -/
theorem ans {d : D} {v : V} (p : Post P rD W H μ h.length (.ok d h) Q) (rh : RH P.K H μ h) (r : RV P.K H μ h.length d v) : Q v H := p v μ H Ext.refl r rh
/-- a new tuple is the answer -/
theorem ansT {ds : List D} {vs : List V} {p : Addr} (q : Post P rD W H μ h.length (.ok (.tup ds) h) Q) (rh : RH P.K H μ h) (r : RVs P.K H μ h.length ds vs) (hp : H p = none) : Q (.ref p) (upd H p (.tup vs)) :=
  q _ μ _ (Ext.fresh hp) (new_tup hp r) (rh.fresh hp)
/-- a new list is the answer -/
theorem ansL {ds : List D} {vs : List V} {p : Addr} (q : Post P rD W H μ h.length (.ok (.ref h.length) (h ++ [.lst ds])) Q) (rh : RH P.K H μ h) (r : RVs P.K H μ h.length ds vs) (hp : H p = none) : Q (.ref p) (upd H p (.lst vs)) := by
  have z : (h ++ [HObj.lst ds]).length = h.length + 1 := by simp
  have x : Ext h.length (h ++ [HObj.lst ds]).length H μ (upd H p (.lst vs)) (muAt μ h.length p) := by rw [z]; exact Ext.freshL hp
  refine q _ (muAt μ h.length p) _ x ?_ (rh.freshL hp r)
  have e : muAt μ h.length p h.length = p := muAt_same
  show RV P.K _ _ _ (.ref h.length) (.ref p)
  rw [RV, e]
  exact ⟨by rw [z]; exact Nat.lt_succ_self _, rfl⟩
end

/-! ### binary operators -/
/-- what an own operation asks and gives -/
def r2D (P : Par) (f : D → D → HP → Res D) : R2 := fun x y H Q => ∃ h μ a b W, RV P.K H μ h.length a x ∧ RV P.K H μ h.length b y ∧ RH P.K H μ h ∧ Post P rD W H μ h.length (f a b h) Q
def BOp.py : BOp → Operator
  | .add => .Add | .sub => .Sub | .mul => .Mult | .div => .FloorDiv | .mod => .Mod | .pow => .Pow
theorem big_le : big ≤ 2 ^ 400000 := by unfold big; exact Nat.le_refl _
theorem big9_eq : big9 = 2 ^ 8999 := by unfold big9; rfl
theorem mulOk_ok {a b : Int} (h : mulOk a b = true) : IntMulOk a b := by
  unfold mulOk at h
  simp only [Bool.or_eq_true, Bool.and_eq_true, decide_eq_true_eq] at h
  rcases h with (h | h) | ⟨h1, h2⟩
  · unfold small at h
    simp only [Bool.and_eq_true, decide_eq_true_eq] at h
    exact CMul.ok (.inl ⟨h.1, h.2⟩)
  · unfold small at h
    simp only [Bool.and_eq_true, decide_eq_true_eq] at h
    exact CMul.ok (.inr ⟨h.1, h.2⟩)
  · exact (wide_mul (a := 400000) (b := 400000) (Nat.lt_of_lt_of_le h1 big_le) (Nat.lt_of_lt_of_le h2 big_le) (by decide) (by decide) (by decide)).ok
section
variable {X : L2.Cx}
/-- t * k, k below 2: t itself, or the empty tuple -/
theorem op_bin {P : Par} (hK : P.K = X.K) (op : BOp) (hm : op ≠ .mul) : OpR X (binaryOp op.py) (r2D P (binD op)) := by
  intro pins s σ H x y v u Q I rx ry hh
  obtain ⟨h, μ, a, b, W, ra, rb, rh, p⟩ := hh
  cases op with
  | mul => exact absurd rfl hm
  | add =>
    cases a <;> cases b <;> try exact p.elim
    · rename_i i j
      exact op_add pins s σ H x y v u Q I rx ry ⟨i, j, ra.int_, rb.int_, ans p rh rv_int⟩
    · rename_i i j
      simp only [binD] at p
      split at p
      · rename_i hz
        exact op_add_str pins s σ H x y v u Q I rx ry ⟨i, j, ra.str_, rb.str_, by rw [← sl_line]; exact hz, ans p rh rv_str⟩
      · exact p.elim
    · rename_i ds es
      simp only [binD] at p
      split at p
      · rename_i hz
        obtain ⟨a1, vs, rfl, s1, r1⟩ := ra.tup_
        obtain ⟨b1, ws, rfl, s2, r2⟩ := rb.tup_
        rw [hK] at s1 s2
        refine op_catA pins s σ H _ _ v u Q I rx ry ⟨a1, b1, vs, ws, rfl, rfl, s1, s2, by rw [r1.length, r2.length, ← sl_line]; exact hz, fun e => ?_, fun _ e => ?_, fun _ _ q hq => ?_⟩
        · have : ds = [] := by have := r1.length; rw [e] at this; exact List.eq_nil_of_length_eq_zero this.symm
          subst this
          exact ans p rh (by simpa using rb)
        · have : es = [] := by have := r2.length; rw [e] at this; exact List.eq_nil_of_length_eq_zero this.symm
          subst this
          exact ans p rh (by simpa using ra)
        · exact ansT p rh (r1.append r2) hq
      · exact p.elim
    · rename_i m k
      simp only [binD] at p
      split at p
      · rename_i ds es e1 e2
        split at p
        · rename_i hz
          obtain ⟨vs, h1, r1⟩ := rh.obj m _ e1
          obtain ⟨ws, h2, r2⟩ := rh.obj k _ e2
          exact op_cat pins s σ H x y v u Q I rx ry ⟨μ m, μ k, vs, ws, ra.ref_.2, rb.ref_.2, h1, h2, by rw [r1.length, r2.length, ← sl_line]; exact hz, fun q hq => ansL p rh (r1.append r2) hq⟩
        · exact p.elim
      · exact p.elim
  | sub =>
    cases a <;> cases b <;> try exact p.elim
    rename_i i j
    exact op_sub pins s σ H x y v u Q I rx ry ⟨i, j, ra.int_, rb.int_, ans p rh rv_int⟩
  | div =>
    cases a <;> cases b <;> try exact p.elim
    rename_i i j
    simp only [binD] at p
    split at p
    · rename_i hz
      exact op_fdivW pins s σ H x y v u Q I rx ry ⟨i, j, ra.int_, rb.int_, wide_div hz.1 (by rw [← big9_eq]; exact hz.2) (by decide) (by decide), ans p rh rv_int⟩
    · exact p.elim
  | mod =>
    cases a <;> cases b <;> try exact p.elim
    rename_i i j
    simp only [binD] at p
    split at p
    · rename_i hz
      exact op_mod pins s σ H x y v u Q I rx ry ⟨i, j, ra.int_, rb.int_, hz, ans p rh rv_int⟩
    · exact p.elim
  | pow =>
    cases a <;> cases b <;> try exact p.elim
    rename_i i j
    simp only [binD] at p
    split at p
    · rename_i hz
      exact op_pow pins s σ H x y v u Q I rx ry ⟨i, j, ra.int_, rb.int_, hz, ans p rh rv_int⟩
    · exact p.elim
end
end PI

set_option Elab.async false
set_option linter.all false
set_option maxRecDepth 100000
set_option maxHeartbeats 4000000
/-! A tuple times a number; comparisons. -/
namespace PI
open PySem PySem.Spec PyProof.Rows L2
/-- times one, or an empty tuple: the same object -/
theorem mulT_same (l : Addr) (items : Array Value) (n : Nat) (dd : Option Addr) (sl : Array (Option Value)) (x : Int) (u : Tok) (c0 : (decide (x < -(2 ^ 63)) || decide (x ≥ 2 ^ 63)) = false) (c1 : (items.isEmpty || x == 1) = true) :
    Meets (Builtin.«tuple.__mul__» ⟨[.ref l, .int x u], []⟩) (fun _ R s => s.heap.get? l = some { cls := .type "tuple", dict := dd, data := .seq items n, slots := sl } ∧ R (.ok (.ret (Value.ref l))) s) :=
  .of_wp fun prog w A R s q => by
    obtain ⟨hp, g, d, tk, os⟩ := s
    obtain ⟨hl, q⟩ := q
    have f1 := AutoSeq1.idx_int
    wp_walk using wpAny_loadPart' hl
    repeat (first
      | (refine wpAny_ite_false (decide_eq_false (by rw [c0]; exact Bool.false_ne_true)) ?_; wp_walk using wpAny_loadPart' hl)
      | (refine wpAny_ite_true (decide_eq_true c1) ?_; wp_walk using wpAny_loadPart' hl))
    exact ⟨_, rfl, q⟩
/-- times nought or less: an empty one -/
theorem mulT_none (l : Addr) (items : Array Value) (n : Nat) (dd : Option Addr) (sl : Array (Option Value)) (x : Int) (u : Tok) (c0 : (decide (x < -(2 ^ 63)) || decide (x ≥ 2 ^ 63)) = false) (c1 : (items.isEmpty || x == 1) = false) (c2 : (decide (x ≤ 0) || items.isEmpty) = true) :
    Meets (Builtin.«tuple.__mul__» ⟨[.ref l, .int x u], []⟩) (fun _ R s => s.heap.get? l = some { cls := .type "tuple", dict := dd, data := .seq items n, slots := sl } ∧
      R (.ok (.ret (Value.ref s.heap.objs.size))) { s with heap := s.heap.push { cls := Value.type "tuple", data := Data.seq #[] }, toks := s.toks }) :=
  .of_wp fun prog w A R s q => by
    obtain ⟨hp, g, d, tk, os⟩ := s
    obtain ⟨hl, q⟩ := q
    have f1 := AutoSeq1.idx_int
    wp_walk using wpAny_loadPart' hl
    repeat (first
      | (refine wpAny_ite_false (decide_eq_false (by rw [c0]; exact Bool.false_ne_true)) ?_; wp_walk using wpAny_loadPart' hl)
      | (refine wpAny_ite_false (decide_eq_false (by rw [c1]; exact Bool.false_ne_true)) ?_; wp_walk using wpAny_loadPart' hl)
      | (refine wpAny_ite_true (decide_eq_true c2) ?_; wp_walk using wpAny_loadPart' hl))
    exact ⟨_, rfl, q⟩
section
variable {X : L2.Cx}
/-- t * k, whatever k is (small) -/
def rRepA (K : PySem.W.Frag) : R2 := fun x y H Q => ∃ l k xs, x = .ref l ∧ y = .int k ∧ SqT K H l xs ∧ -1000 ≤ k ∧ k ≤ 1000 ∧ xs.length ≤ 1000 ∧ (xs = [] ∨ k = 1 → Q (.ref l) H) ∧ (xs ≠ [] → k ≤ 0 → ∀ p, H p = none → Q (.ref p) (upd H p (.tup []))) ∧
  (xs ≠ [] → 2 ≤ k → ∀ p, H p = none → Q (.ref p) (upd H p (.tup (List.replicate k.toNat xs).flatten)))
theorem op_repA : OpR X (binaryOp .Mult) (rRepA X.K) := by
  intro pins s σ H x y v u Q I rx ry hh
  obtain ⟨l, k, xs, rfl, rfl, hT, lo, hi, hz, q0, q1, q2⟩ := hh
  by_cases h2 : xs ≠ [] ∧ 2 ≤ k
  · exact op_repT pins s σ H _ _ v u Q I rx ry ⟨l, k, xs, rfl, rfl, hT, h2.1, h2.2, hi, hz, q2 h2.1 h2.2⟩
  cases rx
  obtain ⟨t, rfl⟩ := ry
  obtain ⟨its, r, ⟨⟨cls, dd, data, sl⟩, ho, hc, n, hd⟩, hs⟩ := I.tuple hT
  simp only at hc hd
  subst hc hd
  have c0 : (decide (k < -(2 ^ 63)) || decide (k ≥ 2 ^ 63)) = false := by
    rw [decide_eq_false (by omega), decide_eq_false (by omega)]
    rfl
  have emp : its.toArray.isEmpty = xs.isEmpty := by
    cases r with
    | nil => rfl
    | cons a b => rfl
  by_cases h1 : xs = [] ∨ k = 1
  · have c1 : (its.toArray.isEmpty || k == 1) = true := by
      rw [emp]
      rcases h1 with h1 | h1
      · rw [h1]; rfl
      · rw [h1]; simp
    exact wpAny_binaryOp_repeat_ref (T := "tuple") (U := "int") (by decide) ⟨_, ho, rfl⟩ (fun s' => typeIs_int s' k t) noFill_tuple_mul F.fills_int_mul F.slot_int_rmul repeat_tuple F.slot_int_index.lookup
      (call_meets F.slot_int_rmul (typeIs_int s k t) F.entry_int_rmul (F.args_int_rmul_2 _ _) (int_rmul_tuple k t l its.toArray n dd sl)
        ⟨ho, rfl, ⟨_, ho, rfl⟩, call_meets F.slot_tuple_mul ⟨_, ho, rfl⟩ F.entry_tuple_mul (F.args_tuple_mul_2 _ _) (mulT_same l its.toArray n dd sl k t c0 c1) ⟨ho, ⟨.ref l, H, I, rfl, q0 h1⟩⟩⟩)
  · have hne : xs ≠ [] := fun e => h1 (.inl e)
    have hk1 : k ≠ 1 := fun e => h1 (.inr e)
    have hk : k ≤ 0 := by
      have : ¬ 2 ≤ k := fun e => h2 ⟨hne, e⟩
      omega
    have em : its.toArray.isEmpty = false := by
      rw [emp]
      cases xs with
      | nil => exact absurd rfl hne
      | cons a b => rfl
    have c1 : (its.toArray.isEmpty || k == 1) = false := by rw [em, Bool.false_or]; exact beq_eq_false_iff_ne.mpr hk1
    have c2 : (decide (k ≤ 0) || its.toArray.isEmpty) = true := by rw [decide_eq_true hk]; rfl
    refine wpAny_binaryOp_repeat_ref (T := "tuple") (U := "int") (by decide) ⟨_, ho, rfl⟩ (fun s' => typeIs_int s' k t) noFill_tuple_mul F.fills_int_mul F.slot_int_rmul repeat_tuple F.slot_int_index.lookup
      (call_meets F.slot_int_rmul (typeIs_int s k t) F.entry_int_rmul (F.args_int_rmul_2 _ _) (int_rmul_tuple k t l its.toArray n dd sl)
        ⟨ho, rfl, ⟨_, ho, rfl⟩, call_meets F.slot_tuple_mul ⟨_, ho, rfl⟩ F.entry_tuple_mul (F.args_tuple_mul_2 _ _) (mulT_none l its.toArray n dd sl k t c0 c1 c2) ⟨ho, ?_⟩⟩)
    exact ⟨.ref s.heap.objs.size, _, I.laid (t' := s.toks) (o := .tup []) (fun b ob q => Heap.get?_push_of_some _ q) (Nat.le_refl _) ⟨by simp, [], .nil, IsTup.new _ _⟩, rfl, q1 hne hk _ (I.hok.fresh (Nat.le_refl _))⟩
theorem op_bin_mul {P : Par} (hK : P.K = X.K) : OpR X (binaryOp .Mult) (r2D P (binD .mul)) := by
  intro pins s σ H x y v u Q I rx ry hh
  obtain ⟨h, μ, a, b, W, ra, rb, rh, p⟩ := hh
  cases a <;> cases b <;> try exact p.elim
  · rename_i i j
    simp only [binD] at p
    split at p
    · rename_i hz
      have e1 := ra.int_
      have e2 := rb.int_
      subst e1 e2
      obtain ⟨t, rfl⟩ := rx
      obtain ⟨t', rfl⟩ := ry
      exact mul_int ⟨.int _, H, I.tok _, ⟨_, rfl⟩, ans p rh rv_int⟩ (mulOk_ok hz)
    · exact p.elim
  · rename_i z k
    simp only [binD] at p
    split at p
    · rename_i hz
      obtain ⟨z1, z2, z3, z4, z5⟩ := hz
      have e1 := ra.str_
      have e2 := rb.int_
      subst e1 e2
      obtain ⟨t, rfl⟩ := rx
      obtain ⟨t', rfl⟩ := ry
      have n1 : ¬ k < 1 := by omega
      have n2 : (k == 1 || z.length == 0) = false := by
        rw [beq_eq_false_iff_ne.mpr (show k ≠ 1 by omega), beq_eq_false_iff_ne.mpr (show z.length ≠ 0 by omega)]
        rfl
      have hp : z.length * k.toNat ≤ 1000 * 1000 := Nat.mul_le_mul z4 (by omega)
      refine PySem.P.mul_str (by rw [decide_eq_false (by omega), decide_eq_false (by omega)]; rfl) (fun _ _ => ?_) (fun _ _ => ?_) ?_
      · have : (1000 : Int) ≤ (2 ^ 63 - 1) / k := by
          rw [Int.le_ediv_iff_mul_le (by omega)]
          omega
        omega
      · show decide (z.length * k.toNat > sizeLine) = false
        rw [sizeLine_eq]
        exact decide_eq_false (by omega)
      · rw [if_neg n1, n2, if_neg Bool.false_ne_true]
        exact ⟨by rw [sizeLine_eq]; exact z5, .str (repStr z k), H, I.tok _, ⟨_, rfl⟩, ans p rh rv_str⟩
    · exact p.elim
  · rename_i ds k
    simp only [binD] at p
    split at p
    · rename_i hz
      obtain ⟨a1, vs, rfl, s1, r1⟩ := ra.tup_
      rw [hK] at s1
      have e2 := rb.int_
      subst e2
      refine op_repA pins s σ H _ _ v u Q I rx ry ⟨a1, k, vs, rfl, rfl, s1, hz.2.2, hz.2.1, by rw [r1.length]; exact hz.1, fun e => ?_, fun hne hk q hq => ?_, fun hne hk q hq => ?_⟩
      · have : repTup ds k = ds := by
          rcases e with e | e
          · have : ds = [] := by have := r1.length; rw [e] at this; exact List.eq_nil_of_length_eq_zero this.symm
            subst this
            simp [repTup]
          · subst e; simp [repTup]
        rw [this] at p
        exact ans p rh ra
      · have : repTup ds k = [] := by
          have : k.toNat = 0 := by omega
          simp [repTup, this]
        rw [this] at p
        exact ansT p rh RVs.nil hq
      · exact ansT p rh (r1.rep k.toNat) hq
    · exact p.elim
theorem op_binA {P : Par} (hK : P.K = X.K) (op : BOp) : OpR X (binaryOp op.py) (r2D P (binD op)) := by
  by_cases h : op = .mul
  · subst h; exact op_bin_mul hK
  · exact op_bin hK op h
end
end PI

set_option Elab.async false
set_option linter.all false
set_option maxRecDepth 100000
set_option maxHeartbeats 4000000
/-! Comparisons by own values. -/
namespace PI
open PySem PySem.Spec PyProof.Rows L2
section
variable {K : PySem.W.Frag} {H : Hp} {μ : Nat → Addr} {h : HP}
theorem mapM_cons_some {α β : Type} {f : α → Option β} {a : α} {l : List α} {r : List β} (e : (a :: l).mapM f = some r) : ∃ b bs, f a = some b ∧ l.mapM f = some bs ∧ r = b :: bs := by
  rw [List.mapM_cons] at e
  cases q : f a with
  | none => rw [q] at e; cases e
  | some b =>
    rw [q] at e
    cases q2 : l.mapM f with
    | none => rw [q2] at e; cases e
    | some bs => rw [q2] at e; cases e; exact ⟨b, bs, rfl, rfl, rfl⟩
theorem dpAll_of {f : D → Option PyData} (ih : ∀ d v p, f d = some p → RV K H μ h.length d v → Dp K H v p) : ∀ (ds : List D) (vs : List V) (ps : List PyData), ds.mapM f = some ps → RVs K H μ h.length ds vs → DpAll K H vs ps
  | [], vs, ps, e, r => by
    rw [r.inv0]
    have : ps = [] := by simpa using e.symm
    rw [this]
    exact .nil
  | d :: ds, vs, ps, e, r => by
    obtain ⟨b, bs, e1, e2, rfl⟩ := mapM_cons_some e
    obtain ⟨v, r', rfl, h1, h2⟩ := r.inv
    exact .cons (ih d v b e1 h1) (dpAll_of ih ds r' bs e2 h2)
/-- data, read through the own heap, is the layer's data -/
theorem dp_of (rh : RH K H μ h) : ∀ (f : Nat) (d : D) (v : V) (p : PyData), toPy f h d = some p → RV K H μ h.length d v → Dp K H v p
  | 0, d, v, p, e, r => by cases e
  | f + 1, d, v, p, e, r => by
    cases d with
    | non => cases e; rw [r.non_]; exact .non
    | bl b => cases e; rw [r.bl_]; exact .bl b
    | int i => cases e; rw [r.int_]; exact .int i
    | str s => cases e; rw [r.str_]; exact .str s
    | tup ds =>
      simp only [toPy, Option.map_eq_some_iff] at e
      obtain ⟨ps, e1, rfl⟩ := e
      obtain ⟨a, vs, rfl, s, r1⟩ := r.tup_
      exact .tup s (dpAll_of (dp_of rh f) ds vs ps e1 r1)
    | ref n =>
      obtain ⟨_, rfl⟩ := r.ref_
      cases q : h[n]? with
      | none => simp [toPy, q] at e
      | some o =>
        have hs : ∃ ds ps, seqOf h (.ref n) = some ds ∧ ds.mapM (toPy f h) = some ps ∧ p = .list ps := by
          cases o with
          | lst ds =>
            simp only [toPy, q, Option.map_eq_some_iff] at e
            obtain ⟨ps, e1, rfl⟩ := e
            exact ⟨ds, ps, by simp [seqOf, q], e1, rfl⟩
          | con ds =>
            simp only [toPy, q, Option.map_eq_some_iff] at e
            obtain ⟨ps, e1, rfl⟩ := e
            exact ⟨ds, ps, by simp [seqOf, q], e1, rfl⟩
        obtain ⟨ds, ps, e1, e2, rfl⟩ := hs
        obtain ⟨vs, s, r1⟩ := rh.seq e1
        exact .lst s (dpAll_of (dp_of rh f) ds vs ps e2 r1)
end
/-- what an own comparison asks and gives -/
def rC (P : Par) (op : COp) : R2 := fun x y H Q => ∃ h μ a b k, RV P.K H μ h.length a x ∧ RV P.K H μ h.length b y ∧ RH P.K H μ h ∧ cmpD h op a b = some k ∧ Q (.bl k) H
def COp.py : COp → CmpOp
  | .eq => .Eq | .ne => .NotEq | .lt => .Lt | .le => .LtE | .gt => .Gt | .ge => .GtE | .inn => .In | .nin => .NotIn | .is => .Is | .isn => .IsNot
theorem rv_isN {K : PySem.W.Frag} {H : Hp} {μ : Nat → Addr} {n : Nat} {d : D} {v : V} (r : RV K H μ n d v) : isNon d = decide (v = .non) := by
  cases d with
  | non => rw [r.non_]; rfl
  | bl b => rw [r.bl_]; simp [isNon]
  | int b => rw [r.int_]; simp [isNon]
  | str b => rw [r.str_]; simp [isNon]
  | tup ds => obtain ⟨a, vs, rfl, _⟩ := r.tup_; simp [isNon]
  | ref k => rw [r.ref_.2]; simp [isNon]
theorem strEq_some {a b : D} {k : Bool} (e : strEq a b = some k) : ∃ i j, a = .str i ∧ b = .str j ∧ k = decide (i = j) := by
  cases a <;> cases b <;> first | exact ⟨_, _, rfl, rfl, (Option.some.inj e).symm⟩ | cases e
section
variable {X : L2.Cx}
theorem op_cmp {P : Par} (hK : P.K = X.K) (hu : X.A.units + 65 < cLine) (op : COp) : OpR X (compareOp op.py) (rC P op) := by
  intro pins s σ H x y v u Q I rx ry hh
  obtain ⟨h, μ, a, b, k, ra, rb, rh, e, q⟩ := hh
  have hu4 : X.A.units + 64 < cLine := by omega
  cases op with
  | eq =>
    simp only [cmpD, eqD] at e
    cases qs : strEq a b with
    | some k0 =>
      obtain ⟨i, j, rfl, rfl, rfl⟩ := strEq_some qs
      rw [qs] at e
      cases e
      rw [ra.str_] at rx
      rw [rb.str_] at ry
      refine op_eq pins s σ H (.str i) (.str j) v u Q I rx ry ⟨rfl, ?_⟩
      have : decide (V.str i = V.str j) = decide (i = j) := by simp
      rw [this]
      exact q
    | none =>
    simp only [qs, datEq] at e
    cases qa : toPy 66 h a with
    | none => rw [qa] at e; cases e
    | some pa =>
      cases qb : toPy 66 h b with
      | none => rw [qa, qb] at e; cases e
      | some pb =>
        rw [qa, qb] at e
        simp only at e
        split at e
        · rename_i hs
          simp only [Bool.and_eq_true] at hs
          cases e
          have d1 := dp_of rh 66 a x pa qa ra
          have d2 := dp_of rh 66 b y pb qb rb
          rw [hK] at d1 d2
          exact op_eqD hu4 pins s σ H x y v u Q I rx ry ⟨pa, pb, d1, d2, hs.1, hs.2, q⟩
        · cases e
  | ne =>
    simp only [cmpD, eqD] at e
    cases qs : strEq a b with
    | some k0 =>
      obtain ⟨i, j, rfl, rfl, rfl⟩ := strEq_some qs
      rw [qs] at e
      cases e
      rw [ra.str_] at rx
      rw [rb.str_] at ry
      refine op_ne pins s σ H (.str i) (.str j) v u Q I rx ry ⟨rfl, ?_⟩
      have : decide (V.str i = V.str j) = decide (i = j) := by simp
      rw [this]
      exact q
    | none =>
    simp only [qs, datEq] at e
    cases qa : toPy 66 h a with
    | none => rw [qa] at e; cases e
    | some pa =>
      cases qb : toPy 66 h b with
      | none => rw [qa, qb] at e; cases e
      | some pb =>
        rw [qa, qb] at e
        simp only at e
        split at e
        · rename_i hs
          simp only [Bool.and_eq_true] at hs
          cases e
          have d1 := dp_of rh 66 a x pa qa ra
          have d2 := dp_of rh 66 b y pb qb rb
          rw [hK] at d1 d2
          exact op_neD hu4 pins s σ H x y v u Q I rx ry ⟨pa, pb, d1, d2, hs.1, hs.2, q⟩
        · cases e
  | lt =>
    cases a <;> cases b <;> try cases e
    · exact op_lt pins s σ H x y v u Q I rx ry ⟨_, _, ra.int_, rb.int_, q⟩
    · exact op_lt_str pins s σ H x y v u Q I rx ry ⟨_, _, ra.str_, rb.str_, q⟩
  | le =>
    cases a <;> cases b <;> try cases e
    · exact op_le pins s σ H x y v u Q I rx ry ⟨_, _, ra.int_, rb.int_, q⟩
    · exact op_le_str pins s σ H x y v u Q I rx ry ⟨_, _, ra.str_, rb.str_, q⟩
  | gt =>
    cases a <;> cases b <;> try cases e
    · exact op_gt pins s σ H x y v u Q I rx ry ⟨_, _, ra.int_, rb.int_, q⟩
    · exact op_gt_str pins s σ H x y v u Q I rx ry ⟨_, _, ra.str_, rb.str_, q⟩
  | ge =>
    cases a <;> cases b <;> try cases e
    · exact op_ge pins s σ H x y v u Q I rx ry ⟨_, _, ra.int_, rb.int_, q⟩
    · exact op_ge_str pins s σ H x y v u Q I rx ry ⟨_, _, ra.str_, rb.str_, q⟩
  | inn =>
    simp only [cmpD, inD] at e
    cases qa : toPy 66 h a with
    | none => rw [qa] at e; cases e
    | some pa =>
      cases qb : toPy 66 h b with
      | none => rw [qa, qb] at e; cases e
      | some pb =>
        rw [qa, qb] at e
        cases pb with
        | list ds =>
          simp only at e
          split at e
          · rename_i hs
            simp only [Bool.and_eq_true] at hs
            cases e
            have d1 := dp_of rh 66 a x pa qa ra
            have d2 := dp_of rh 66 b y _ qb rb
            rw [hK] at d1 d2
            exact op_inD hu pins s σ H x y v u Q I rx ry ⟨pa, ds, d1, d2, hs.1, hs.2, q⟩
          · cases e
        | tuple ds =>
          simp only at e
          split at e
          · rename_i hs
            simp only [Bool.and_eq_true] at hs
            cases e
            have d1 := dp_of rh 66 a x pa qa ra
            have d2 := dp_of rh 66 b y _ qb rb
            rw [hK] at d1 d2
            obtain ⟨as, r1⟩ := Dp.reads I pa x v d1 rx
            obtain ⟨bs, r2⟩ := Dp.reads I (.tuple ds) y u d2 ry
            exact SeqAt.in_tuple_reads r2 r1 (SeqAt.canLay_of_shaped hs.2) (SeqAt.canLay_of_shaped hs.1) (room_in_shaped hs.1 hu) ⟨.bl _, H, I, rfl, q⟩
          · cases e
        | _ => cases e
  | nin =>
    simp only [cmpD, inD] at e
    cases qa : toPy 66 h a with
    | none => rw [qa] at e; cases e
    | some pa =>
      cases qb : toPy 66 h b with
      | none => rw [qa, qb] at e; cases e
      | some pb =>
        rw [qa, qb] at e
        cases pb with
        | list ds =>
          simp only at e
          split at e
          · rename_i hs
            simp only [Bool.and_eq_true] at hs
            cases e
            have d1 := dp_of rh 66 a x pa qa ra
            have d2 := dp_of rh 66 b y _ qb rb
            rw [hK] at d1 d2
            exact op_notInD hu pins s σ H x y v u Q I rx ry ⟨pa, ds, d1, d2, hs.1, hs.2, q⟩
          · cases e
        | tuple ds =>
          simp only at e
          split at e
          · rename_i hs
            simp only [Bool.and_eq_true] at hs
            cases e
            have d1 := dp_of rh 66 a x pa qa ra
            have d2 := dp_of rh 66 b y _ qb rb
            rw [hK] at d1 d2
            obtain ⟨as, r1⟩ := Dp.reads I pa x v d1 rx
            obtain ⟨bs, r2⟩ := Dp.reads I (.tuple ds) y u d2 ry
            exact SeqAt.notIn_tuple_reads r2 r1 (SeqAt.canLay_of_shaped hs.2) (SeqAt.canLay_of_shaped hs.1) (room_in_shaped hs.1 hu) ⟨.bl _, H, I, rfl, q⟩
          · cases e
        | _ => cases e
  | is =>
    cases b with
    | non =>
      simp only [cmpD, Option.some.injEq] at e
      rw [rv_isN ra] at e
      subst e
      exact op_isN pins s σ H x y v u Q I rx ry ⟨rb.non_, q⟩
    | bl c =>
      cases a with
      | bl c2 =>
        simp only [cmpD, isBl, Option.some.injEq] at e
        subst e
        exact op_isBl pins s σ H x y v u Q I rx ry ⟨c2, c, ra.bl_, rb.bl_, q⟩
      | _ => cases e
    | _ => cases e
  | isn =>
    cases b with
    | non =>
      simp only [cmpD, Option.some.injEq] at e
      rw [rv_isN ra] at e
      subst e
      exact op_notN pins s σ H x y v u Q I rx ry ⟨rb.non_, q⟩
    | bl c =>
      cases a with
      | bl c2 =>
        simp only [cmpD, isBl, Option.map_some, Option.some.injEq] at e
        subst e
        exact op_notBl pins s σ H x y v u Q I rx ry ⟨c2, c, ra.bl_, rb.bl_, q⟩
      | _ => cases e
    | _ => cases e
end
end PI

set_option Elab.async false
set_option linter.all false
set_option maxRecDepth 100000
set_option maxHeartbeats 4000000
/-! Built-in functions, methods, subscripts, slices, isinstance by own values. -/
namespace PI
open PySem PySem.Spec PyProof.Rows L2
section
variable {K : PySem.W.Frag} {H : Hp} {μ : Nat → Addr} {h : HP}
/-- a sequence that is read: a list or a tuple -/
theorem seq_of (rh : RH K H μ h) {a : D} {x : V} {ds : List D} (ra : RV K H μ h.length a x) (e : seqOf h a = some ds) : ∃ p vs, x = .ref p ∧ (SqL K H p vs ∨ SqT K H p vs) ∧ RVs K H μ h.length ds vs := by
  cases a with
  | tup es =>
    simp only [seqOf, Option.some.injEq] at e
    subst e
    obtain ⟨p, vs, rfl, s, r⟩ := ra.tup_
    exact ⟨p, vs, rfl, .inr s, r⟩
  | ref n =>
    obtain ⟨_, rfl⟩ := ra.ref_
    obtain ⟨vs, s, r⟩ := rh.seq e
    exact ⟨_, vs, rfl, .inl s, r⟩
  | _ => simp [seqOf] at e
theorem bools_of : ∀ {ds : List D} {bs : List Bool} {vs : List V} {n : Nat}, bools ds = some bs → RVs K H μ n ds vs → vs = bs.map V.bl
  | [], bs, vs, n, e, r => by
    have : bs = [] := by simpa [bools] using e.symm
    rw [this, r.inv0]; rfl
  | .bl b :: ds, bs, vs, n, e, r => by
    simp only [bools, Option.map_eq_some_iff] at e
    obtain ⟨cs, e1, rfl⟩ := e
    obtain ⟨v, r', rfl, h1, h2⟩ := r.inv
    rw [h1.bl_, bools_of e1 h2]; rfl
  | .non :: _, _, _, _, e, _ => by simp [bools] at e
  | .int _ :: _, _, _, _, e, _ => by simp [bools] at e
  | .str _ :: _, _, _, _, e, _ => by simp [bools] at e
  | .tup _ :: _, _, _, _, e, _ => by simp [bools] at e
  | .ref _ :: _, _, _, _, e, _ => by simp [bools] at e
theorem ints_of : ∀ {ds : List D} {is : List Int} {vs : List V} {n : Nat}, intsD ds = some is → RVs K H μ n ds vs → vs = is.map V.int
  | [], is, vs, n, e, r => by
    have : is = [] := by simpa [intsD] using e.symm
    rw [this, r.inv0]; rfl
  | .int b :: ds, is, vs, n, e, r => by
    simp only [intsD, Option.map_eq_some_iff] at e
    obtain ⟨cs, e1, rfl⟩ := e
    obtain ⟨v, r', rfl, h1, h2⟩ := r.inv
    rw [h1.int_, ints_of e1 h2]; rfl
  | .non :: _, _, _, _, e, _ => by simp [intsD] at e
  | .bl _ :: _, _, _, _, e, _ => by simp [intsD] at e
  | .str _ :: _, _, _, _, e, _ => by simp [intsD] at e
  | .tup _ :: _, _, _, _, e, _ => by simp [intsD] at e
  | .ref _ :: _, _, _, _, e, _ => by simp [intsD] at e
theorem RVs.inv1 {n : Nat} {d : D} {vs : List V} (r : RVs K H μ n [d] vs) : ∃ v, vs = [v] ∧ RV K H μ n d v := by
  obtain ⟨v, r', rfl, h1, h2⟩ := r.inv
  exact ⟨v, by rw [h2.inv0], h1⟩
theorem RVs.inv2 {n : Nat} {d e : D} {vs : List V} (r : RVs K H μ n [d, e] vs) : ∃ v w, vs = [v, w] ∧ RV K H μ n d v ∧ RV K H μ n e w := by
  obtain ⟨v, r', rfl, h1, h2⟩ := r.inv
  obtain ⟨w, rfl, h3⟩ := h2.inv1
  exact ⟨v, w, rfl, h1, h3⟩
end
/-- what an own built-in asks and gives -/
def rBI (P : Par) (b : BI) : List V → Hp → VK → Prop := fun xs H Q => ∃ h μ ds W, RVs P.K H μ h.length ds xs ∧ RH P.K H μ h ∧ Post P rD W H μ h.length (biD b ds h) Q
def BI.val : BI → Value
  | .len => .builtin "len" | .int => .type "int" | .max2 => .builtin "max" | .min2 => .builtin "min" | .abs => .builtin "abs" | .all => .builtin "all" | .any => .builtin "any"
  | .tuple => .type "tuple" | .list => .type "list" | .repr => .builtin "repr" | .comb => .builtin "math.comb" | .sorted => .builtin "sorted" | .sum => .builtin "sum" | .gcd => .builtin "math.gcd" | .lcm => .builtin "math.lcm"
section
variable {X : L2.Cx}
theorem reads_ints {hp : Heap} : ∀ {ns : List Int} {its : List Value}, Vals (ns.map V.int) its → ∃ as, ReadsAll hp its (ns.map PyData.int) as
  | [], _, r => by cases r; exact ⟨_, .nil⟩
  | n :: ns, _, r => by
    cases r with
    | cons r t =>
      obtain ⟨tk, rfl⟩ := r
      obtain ⟨as, q⟩ := reads_ints t
      exact ⟨_, .cons (.int n tk) q⟩
theorem alike_ints (ns : List Int) : PySem.W.AlikeAll (ns.map PyData.int) := by
  constructor
  · intro x hx y hy
    obtain ⟨a, _, rfl⟩ := List.mem_map.mp hx
    obtain ⟨b, _, rfl⟩ := List.mem_map.mp hy
    rfl
  · intro x hx
    obtain ⟨a, _, rfl⟩ := List.mem_map.mp hx
    exact fun e => by cases e
theorem cr_maxA (hc : X.calm = true) (hu : X.A.units + 10 < cLine) : CallR X (.builtin "max") (fun xs H Q => ∃ p i is, xs = [.ref p] ∧ (SqL X.K H p ((i :: is).map V.int) ∨ SqT X.K H p ((i :: is).map V.int)) ∧ Q (.int (is.foldl max i)) H) := by
  intro pins s σ H vs us Q I r hh
  obtain ⟨p, i, is, rfl, hs, q⟩ := hh
  rw [Vals.ref1 r]
  have du : X.A.units + 1 + PyData.depthAll (PyData.int i :: is.map PyData.int) < cLine := by
    have := PySem.W.depth_ints (i :: is)
    rw [List.map_cons] at this
    rw [this]
    omega
  have fin : ∀ (j : Nat) (its : Array Value) v h' tk bs, its[j]? = some v → Reads h' v (PySem.W.maxD (.int i) (is.map .int)) bs → (∀ b o, s.heap.get? b = some o → h'.get? b = some o) → EP X pins σ Q v { s with heap := h', toks := tk } := by
    intro j its v h' tk bs _ rd hk
    rw [PySem.W.maxD_ints] at rd
    cases rd with
    | int n t => exact ⟨.int _, H, I.kept hk, ⟨_, rfl⟩, q⟩
  rcases hs with hs | hs
  · obtain ⟨its, rv, hl, _⟩ := I.list hs
    obtain ⟨as, ra⟩ := reads_ints (hp := s.heap) rv
    exact PySem.W.max_list_data (I.ok.hd hc) hl.isList (by simpa using ra) (by simpa using alike_ints (i :: is)) du fun j v h' tk bs => fin j _ v h' tk bs
  · obtain ⟨its, rv, hl, _⟩ := I.tuple hs
    obtain ⟨as, ra⟩ := reads_ints (hp := s.heap) rv
    exact PySem.W.max_tuple_data (I.ok.hd hc) hl (by simpa using ra) (by simpa using alike_ints (i :: is)) du fun j v h' tk bs => fin j _ v h' tk bs
theorem cr_minA (hc : X.calm = true) (hu : X.A.units + 10 < cLine) : CallR X (.builtin "min") (fun xs H Q => ∃ p i is, xs = [.ref p] ∧ (SqL X.K H p ((i :: is).map V.int) ∨ SqT X.K H p ((i :: is).map V.int)) ∧ Q (.int (is.foldl min i)) H) := by
  intro pins s σ H vs us Q I r hh
  obtain ⟨p, i, is, rfl, hs, q⟩ := hh
  rw [Vals.ref1 r]
  have du : X.A.units + 1 + PyData.depthAll (PyData.int i :: is.map PyData.int) < cLine := by
    have := PySem.W.depth_ints (i :: is)
    rw [List.map_cons] at this
    rw [this]
    omega
  have fin : ∀ (j : Nat) (its : Array Value) v h' tk bs, its[j]? = some v → Reads h' v (PySem.W.minD (.int i) (is.map .int)) bs → (∀ b o, s.heap.get? b = some o → h'.get? b = some o) → EP X pins σ Q v { s with heap := h', toks := tk } := by
    intro j its v h' tk bs _ rd hk
    rw [PySem.W.minD_ints] at rd
    cases rd with
    | int n t => exact ⟨.int _, H, I.kept hk, ⟨_, rfl⟩, q⟩
  rcases hs with hs | hs
  · obtain ⟨its, rv, hl, _⟩ := I.list hs
    obtain ⟨as, ra⟩ := reads_ints (hp := s.heap) rv
    exact PySem.W.min_list_data (I.ok.hd hc) hl.isList (by simpa using ra) (by simpa using alike_ints (i :: is)) du fun j v h' tk bs => fin j _ v h' tk bs
  · obtain ⟨its, rv, hl, _⟩ := I.tuple hs
    obtain ⟨as, ra⟩ := reads_ints (hp := s.heap) rv
    exact PySem.W.min_tuple_data (I.ok.hd hc) hl (by simpa using ra) (by simpa using alike_ints (i :: is)) du fun j v h' tk bs => fin j _ v h' tk bs
theorem big9_le : big9 ≤ 2 ^ 9000 := by unfold big9; decide +kernel
/-- the data of own values -/
theorem mapM_py {h : HP} : ∀ {ds : List D} {ps : List PyData}, ds.mapM (toPy 66 h) = some ps → ps = ds.map (pyD h) ∧ ∀ d ∈ ds, toPy 66 h d = some (pyD h d)
  | [], ps, e => by cases e; exact ⟨rfl, fun d h => by cases h⟩
  | d :: ds, ps, e => by
    rw [List.mapM_cons] at e
    obtain ⟨p, e1, e2⟩ := Option.bind_eq_some_iff.mp e
    obtain ⟨qs, e3, e4⟩ := Option.bind_eq_some_iff.mp e2
    cases e4
    obtain ⟨r1, r2⟩ := mapM_py e3
    have ed : pyD h d = p := by unfold pyD; rw [e1]; rfl
    refine ⟨by rw [r1, List.map_cons, ed], fun x hx => ?_⟩
    rcases List.mem_cons.mp hx with rfl | hx
    · rw [ed]; exact e1
    · exact r2 x hx
/-- a value of the machine stands for an own one -/
def VD (P : Par) (H : Hp) (μ : Nat → Addr) (n : Nat) (v : Value) (d : D) : Prop := ∃ x : L2.V, RelV x v ∧ RV P.K H μ n d x
theorem vd_each {P : Par} {H : Hp} {μ : Nat → Addr} {n : Nat} : ∀ {ds : List D} {xs : List L2.V} {its : List Value}, RVs P.K H μ n ds xs → Vals xs its → PySem.W.EachIs (VD P H μ n) its ds
  | [], xs, its, r, q => by rw [r.inv0] at q; cases q; exact .nil
  | d :: ds, xs, its, r, q => by
    obtain ⟨v, r', rfl, h1, h2⟩ := r.inv
    cases q with
    | cons a b => exact .cons ⟨v, a, h1⟩ (vd_each h2 b)
theorem each_vd {P : Par} {H : Hp} {μ : Nat → Addr} {n : Nat} : ∀ {ds : List D} {its : List Value}, PySem.W.EachIs (VD P H μ n) its ds → ∃ xs, RVs P.K H μ n ds xs ∧ Vals xs its
  | _, _, .nil => ⟨[], rfl, .nil⟩
  | _, _, .cons ⟨x, a, b⟩ t => by
    obtain ⟨xs, r, q⟩ := each_vd t
    exact ⟨x :: xs, ⟨x, xs, rfl, b, r⟩, .cons a q⟩
theorem call_bi1 {P : Par} (hK : P.K = X.K) (hc : X.calm = true) (hg : X.A.guards = some []) (hu : X.A.units + 100 < cLine) (b : BI) {pins : List (Addr × Obj)} {s : Shared} {σ : L2.St} {H : Hp} {x : V} {us : List Value} {Q : VK} (I : Inv X pins σ H s) (r : Vals [x] us)
    {h : HP} {μ : Nat → Addr} {a : D} {W : XK} (ra : RV P.K H μ h.length a x) (rh : RH P.K H μ h) (p : Post P rD W H μ h.length (bi1 b a h) Q) : wpAny (model X.prog X.w) X.A (call b.val us) (EP X pins σ Q) X.xe s := by
  cases b with
  | comb => exact p.elim
  | gcd => exact p.elim
  | lcm => exact p.elim
  | max2 =>
    simp only [bi1] at p
    split at p
    · rename_i i is w
      obtain ⟨ds, e1, e2⟩ := Option.bind_eq_some_iff.mp w
      obtain ⟨q, vs, rfl, s1, r1⟩ := seq_of rh ra e1
      rw [ints_of e2 r1, hK] at s1
      exact cr_maxA hc (by omega) pins s σ H _ us Q I r ⟨q, i, is, rfl, s1, ans p rh rv_int⟩
    · exact p.elim
  | min2 =>
    simp only [bi1] at p
    split at p
    · rename_i i is w
      obtain ⟨ds, e1, e2⟩ := Option.bind_eq_some_iff.mp w
      obtain ⟨q, vs, rfl, s1, r1⟩ := seq_of rh ra e1
      rw [ints_of e2 r1, hK] at s1
      exact cr_minA hc (by omega) pins s σ H _ us Q I r ⟨q, i, is, rfl, s1, ans p rh rv_int⟩
    · exact p.elim
  | sum =>
    cases a with
    | ref n =>
      simp only [bi1] at p
      cases q : (seqOf h (.ref n)).bind intsD with
      | none => rw [q] at p; exact p.elim
      | some is =>
        rw [q] at p
        obtain ⟨ds, e1, e2⟩ := Option.bind_eq_some_iff.mp q
        obtain ⟨vs, s1, r2⟩ := rh.seq e1
        rw [ints_of e2 r2, hK] at s1
        exact cr_sum hc pins s σ H _ us Q I r ⟨μ n, is, by rw [ra.ref_.2], s1, ans p rh rv_int⟩
    | _ => exact p.elim
  | sorted =>
    simp only [bi1] at p
    cases hs : seqOf h a with
    | none => rw [hs] at p; exact p.elim
    | some ds =>
      rw [hs] at p
      simp only at p
      cases hm : ds.mapM (toPy 66 h) with
      | none => rw [hm] at p; exact p.elim
      | some ps =>
        rw [hm] at p
        simp only at p
        split at p
        · rename_i so
          obtain ⟨q, vs, rfl, s1, r1⟩ := seq_of rh ra hs
          rw [hK] at s1
          rw [Vals.ref1 r]
          obtain ⟨e1, e2⟩ := mapM_py hm
          unfold srtOk at so
          simp only [Bool.and_eq_true, Bool.or_eq_true, List.all_eq_true] at so
          obtain ⟨so1, so2, so3⟩ := so
          have al : PySem.W.AllAlike (ds.map (pyD h)) := by rw [← e1]; exact fun d hd d' hd' => so1 d hd d' hd'
          have srt : PySem.W.Sortable (ds.map (pyD h)) := by
            rw [← e1]
            rcases so2 with so2 | so2
            · refine .inl fun d hd => ?_
              have := so2 d hd
              unfold tup1 at this
              split at this
              · exact ⟨_, _, rfl⟩
              · cases this
            · refine .inr fun d hd => ?_
              have := so2 d hd
              unfold ntup at this
              split at this
              · cases this
              · cases this
              · rename_i n1 n2
                exact ⟨n1, n2⟩
          have un : ∀ b, b ∈ ds → X.A.units + 2 + (pyD h b).depth < cLine := fun b hb => by
            have := so3 (pyD h b) (by rw [e1]; exact List.mem_map_of_mem hb)
            unfold SeqAt.shaped at this
            simp only [Bool.and_eq_true, decide_eq_true_eq] at this
            omega
          have rd : ∀ {ds' : List D} {xs : List V} {its : List Value}, (∀ d ∈ ds', d ∈ ds) → RVs P.K H μ h.length ds' xs → Vals xs its → PySem.W.EachIs (fun v b => ∃ as, Reads s.heap v (pyD h b) as) its ds' := by
            intro ds'
            induction ds' with
            | nil =>
              intro xs its _ rv q
              rw [rv.inv0] at q; cases q; exact .nil
            | cons d ds' ih =>
              intro xs its hm rv q
              obtain ⟨v, r', rfl, h1, h2⟩ := rv.inv
              cases q with
              | cons a b =>
                refine .cons ?_ (ih (fun x hx => hm x (List.mem_cons_of_mem _ hx)) h2 b)
                have dp := dp_of rh 66 d v _ (e2 d (hm d List.mem_cons_self)) h1
                rw [hK] at dp
                exact Dp.reads I _ v _ dp a
          have fin : ∀ (its out : List Value), out.length = ds.length → ds.length ≤ sizeLine → PySem.W.EachIs (VD P H μ h.length) out (ds.mergeSort (PySem.W.dataLe false (pyD h))) → EP X pins σ Q (.ref (s.heap.objs.size + 1)) { s with heap := PyProof.Rows.sortedAll s.heap its (List.toArray out) } := by
            intro its out ho hl eo
            obtain ⟨xs, rx, vx⟩ := each_vd eo
            obtain ⟨ep, he'⟩ := PyProof.Rows.sortedAll_at s.heap its out.toArray
            have hlen : xs.length ≤ sizeLine := by rw [rx.length, List.length_mergeSort]; exact hl
            exact ⟨.ref _, upd H (s.heap.objs.size + 1) (.lst xs), I.laid (t' := s.toks) (fun _ _ => PyProof.Rows.sortedAll_old) (Nat.le_succ _) ⟨hlen, out, ep, vx, he'⟩, rfl, ansL p rh rx (I.hok.fresh (Nat.le_succ _))⟩
          rcases s1 with s1 | s1
          · obtain ⟨its, rv, hl, hz⟩ := I.list s1
            have hdl : ds.length ≤ sizeLine := by have := r1.length; omega
            exact PySem.W.sorted_data (R := VD P H μ h.length) (enc := pyD h) hl.isList (vd_each r1 rv) (rd (fun _ h => h) r1 rv) al srt hdl un fun out ho eo => fin its out ho hdl eo
          · obtain ⟨its, rv, hl, hz⟩ := I.tuple s1
            have hdl : ds.length ≤ sizeLine := by have := r1.length; omega
            exact sorted_tupD (R := VD P H μ h.length) (enc := pyD h) hl (vd_each r1 rv) (rd (fun _ h => h) r1 rv) al srt hdl un fun out ho eo => fin its out ho hdl eo
        · exact p.elim
  | len =>
    cases hs : seqOf h a with
    | some ds =>
      obtain ⟨q, vs, rfl, s1, r1⟩ := seq_of rh ra hs
      have e : bi1 .len a h = .ok (.int ds.length) h := by
        cases a <;> simp [seqOf] at hs <;> simp [bi1, seqOf, hs]
      rw [e] at p
      rw [hK] at s1
      refine call_len_seq pins s σ H _ us Q I r ⟨q, vs, rfl, s1, ?_⟩
      rw [r1.length]
      exact ans p rh rv_int
    | none =>
      cases a with
      | str z =>
        simp only [bi1] at p
        split at p
        · rename_i hz
          rw [ra.str_] at r
          exact call_len_str pins s σ H _ us Q I r ⟨z, rfl, by rw [← sl_line]; exact hz, ans p rh rv_int⟩
        · exact p.elim
      | _ => simp only [bi1, hs] at p; exact p.elim
  | int =>
    cases a with
    | int i =>
      rw [ra.int_] at r
      exact call_int1 pins s σ H _ us Q I r (.inl ⟨i, rfl, ans p rh rv_int⟩)
    | bl b =>
      rw [ra.bl_] at r
      refine call_int1 pins s σ H _ us Q I r (.inr ⟨b, rfl, ?_⟩)
      exact ans p rh rv_int
    | _ => exact p.elim
  | abs =>
    cases a with
    | int i => exact call_abs pins s σ H _ us Q I r ⟨i, by rw [ra.int_], ans p rh rv_int⟩
    | _ => exact p.elim
  | all =>
    cases a with
    | ref n =>
      simp only [bi1] at p
      cases q : (seqOf h (.ref n)).bind bools with
      | none => rw [q] at p; exact p.elim
      | some bs =>
        rw [q] at p
        obtain ⟨ds, e1, e2⟩ := Option.bind_eq_some_iff.mp q
        obtain ⟨vs, s1, r2⟩ := rh.seq e1
        rw [bools_of e2 r2, hK] at s1
        exact cr_all hc pins s σ H _ us Q I r ⟨μ n, bs, by rw [ra.ref_.2], s1, ans p rh rv_bl⟩
    | _ => exact p.elim
  | any =>
    cases a with
    | ref n =>
      simp only [bi1] at p
      cases q : (seqOf h (.ref n)).bind bools with
      | none => rw [q] at p; exact p.elim
      | some bs =>
        rw [q] at p
        obtain ⟨ds, e1, e2⟩ := Option.bind_eq_some_iff.mp q
        obtain ⟨vs, s1, r2⟩ := rh.seq e1
        rw [bools_of e2 r2, hK] at s1
        exact cr_any hc pins s σ H _ us Q I r ⟨μ n, bs, by rw [ra.ref_.2], s1, ans p rh rv_bl⟩
    | _ => exact p.elim
  | tuple =>
    simp only [bi1] at p
    cases hs : seqOf h a with
    | none => rw [hs] at p; exact p.elim
    | some ds =>
      rw [hs] at p
      cases a with
      | tup es =>
        simp only [seqOf, Option.some.injEq] at hs
        subst hs
        obtain ⟨q, vs, rfl, s1, r1⟩ := ra.tup_
        rw [hK] at s1
        exact call_tuple_of pins s σ H _ us Q I r ⟨q, vs, rfl, .inr ⟨s1, ans p rh ra⟩⟩
      | ref n =>
        obtain ⟨vs, s1, r1⟩ := rh.seq hs
        rw [hK] at s1
        exact call_tuple_of pins s σ H _ us Q I r ⟨μ n, vs, by rw [ra.ref_.2], .inl ⟨s1, fun l hl => ansT p rh r1 hl⟩⟩
      | _ => simp [seqOf] at hs
  | list =>
    simp only [bi1] at p
    cases hs : seqOf h a with
    | none => rw [hs] at p; exact p.elim
    | some ds =>
      rw [hs] at p
      obtain ⟨q, vs, rfl, s1, r1⟩ := seq_of rh ra hs
      rw [hK] at s1
      exact call_list_of pins s σ H _ us Q I r ⟨q, vs, rfl, s1, fun l hl => ansL p rh r1 hl⟩
  | repr =>
    simp only [bi1] at p
    cases qa : toPy 66 h a with
    | none => rw [qa] at p; exact p.elim
    | some pa =>
      rw [qa] at p
      simp only at p
      split at p
      · rename_i hz
        simp only [Bool.and_eq_true, decide_eq_true_eq] at hz
        obtain ⟨⟨hz1, hz2⟩, hz3⟩ := hz
        have d1 := dp_of rh 66 a x pa qa ra
        rw [hK] at d1
        obtain ⟨u, rfl, rx⟩ := vals1 r
        obtain ⟨as, rd⟩ := Dp.reads I pa x u d1 rx
        have hdp := SeqAt.depth_of_shaped hz1
        have hnd := PyData.hasDict_of_canLay pa (SeqAt.canLay_of_shaped hz1)
        have hsz : pa.shown.length ≤ sizeLine := by rw [← sl_line]; omega
        have fin : ∀ s', Inv X pins σ H s' → ∀ t, EP X pins σ Q (.str pa.shown t) s' := fun s' I' t => ⟨.str pa.shown, H, I', ⟨t, rfl⟩, ans p rh rv_str⟩
        show wpAny (model X.prog X.w) X.A (call (.builtin "repr") [u]) (EP X pins σ Q) X.xe s
        cases pa with
        | none => cases rd; exact PySem.P.repr_of_none (fin _ (I.tok _) _)
        | bool b => cases rd; exact PySem.P.repr_of_bool (fin _ (I.tok _) _)
        | int i => cases rd; exact PySem.P.repr_of_int (by simpa [PyData.showable] using hz2) (fin _ (I.tok _) _)
        | str z => cases rd; exact PySem.P.repr_of_str (fin _ (I.tok _) _) hsz
        | list xs =>
          obtain ⟨a1, rfl⟩ := isRef_of_reads rd rfl
          exact repr_of_reads' rd hz2 (PyData.noDict_hsm hnd) hg (by omega) (fun _ _ e => e) (fun h' u tk hk => fin _ (I.kept hk) _) hsz
        | tuple xs =>
          obtain ⟨a1, rfl⟩ := isRef_of_reads rd rfl
          exact repr_of_reads' rd hz2 (PyData.noDict_hsm hnd) hg (by omega) (fun _ _ e => e) (fun h' u tk hk => fin _ (I.kept hk) _) hsz
        | dict kvs => simp [PyData.hasDict] at hnd
      · exact p.elim
theorem call_bi2 {P : Par} (hc : X.calm = true) (b : BI) {pins : List (Addr × Obj)} {s : Shared} {σ : L2.St} {H : Hp} {us : List Value} {Q : VK} (I : Inv X pins σ H s) {i j : Int} (r : Vals [V.int i, V.int j] us)
    {h : HP} {μ : Nat → Addr} {W : XK} (rh : RH P.K H μ h) (p : Post P rD W H μ h.length (bi2 b i j h) Q) : wpAny (model X.prog X.w) X.A (call b.val us) (EP X pins σ Q) X.xe s := by
  cases b with
  | max2 => exact call_max2 hc pins s σ H _ us Q I r ⟨i, j, rfl, ans p rh rv_int⟩
  | min2 => exact call_min2 hc pins s σ H _ us Q I r ⟨i, j, rfl, ans p rh rv_int⟩
  | comb =>
    simp only [bi2] at p
    split at p
    · rename_i hz
      obtain ⟨t, u, rfl⟩ := Vals.int2 r
      exact PySem.W.mc_comb hz.1 hz.2.1 hz.2.2.1 hz.2.2.2 fun _ => ⟨.int _, H, I.tok _, ⟨_, rfl⟩, ans p rh rv_int⟩
    · exact p.elim
  | gcd =>
    obtain ⟨t, u, rfl⟩ := Vals.int2 r
    exact PySem.W.mg_gcd fun _ => ⟨.int _, H, I.tok _, ⟨_, rfl⟩, ans p rh rv_int⟩
  | lcm =>
    simp only [bi2] at p
    split at p
    · rename_i hz
      obtain ⟨t, u, rfl⟩ := Vals.int2 r
      exact lcm_any (Nat.lt_of_lt_of_le hz.1 big9_le) (Nat.lt_of_lt_of_le hz.2 big9_le) ⟨.int _, H, I.tok _, ⟨_, rfl⟩, ans p rh rv_int⟩
    · exact p.elim
  | _ => exact p.elim
theorem call_bi {P : Par} (hK : P.K = X.K) (hc : X.calm = true) (hg : X.A.guards = some []) (hu : X.A.units + 100 < cLine) (b : BI) : CallR X b.val (rBI P b) := by
  intro pins s σ H xs us Q I r hh
  obtain ⟨h, μ, ds, W, rv, rh, p⟩ := hh
  cases ds with
  | nil => exact p.elim
  | cons a t =>
    cases t with
    | nil =>
      obtain ⟨x, rfl, ra⟩ := rv.inv1
      exact call_bi1 hK hc hg hu b I r ra rh p
    | cons c t =>
      cases t with
      | cons _ _ => exact p.elim
      | nil =>
        obtain ⟨x, y, rfl, r1, r2⟩ := rv.inv2
        cases a with
        | int i =>
          cases c with
          | int j =>
            rw [r1.int_, r2.int_] at r
            exact call_bi2 hc b I r rh p
          | _ => exact p.elim
        | _ => exact p.elim
end
end PI

set_option Elab.async false
set_option linter.all false
set_option maxRecDepth 100000
set_option maxHeartbeats 4000000
/-! Subscripts, slices, methods, isinstance by own values. -/
namespace PI
open PySem PySem.Spec PyProof.Rows L2
section
variable {K : PySem.W.Frag} {H : Hp} {μ : Nat → Addr} {n : Nat}
theorem atI_rv {ds : List D} {vs : List V} {i : Int} {d : D} (r : RVs K H μ n ds vs) (e : atI ds i = some d) : ∃ v, atI vs i = some v ∧ RV K H μ n d v := by
  unfold atI at e ⊢
  obtain ⟨j, e1, e2⟩ := Option.bind_eq_some_iff.mp e
  obtain ⟨v, a, b⟩ := r.get e2
  exact ⟨v, by rw [r.length, e1]; exact a, b⟩
theorem cut_rv {ds : List D} {vs : List V} {lo hi : Option Int} (r : RVs K H μ n ds vs) : RVs K H μ n (cut ds lo hi) (cutV vs lo hi) := by
  unfold cut cutV
  rw [r.length]
  exact (r.drop _).take _
theorem cut_whole {ds : List D} {lo hi : Option Int} (h : _root_.HT.sIx ds.length 0 lo = 0 ∧ _root_.HT.sIx ds.length ds.length hi = ds.length) : cut ds lo hi = ds := by
  unfold cut
  simp [h.1, h.2]
end
def rIxA (P : Par) : R2 := fun x y H Q => ∃ h μ a b d, RV P.K H μ h.length a x ∧ RV P.K H μ h.length b y ∧ RH P.K H μ h ∧ ixD h a b = some d ∧ ∀ v, RV P.K H μ h.length d v → Q v H
def rSlD (P : Par) : V → Option Int → Option Int → Hp → VK → Prop := fun x lo hi H Q => ∃ h μ a W, RV P.K H μ h.length a x ∧ RH P.K H μ h ∧ Post P rD W H μ h.length (slD h a lo hi) Q
def rMt (P : Par) (m : Mt) : V → List V → Hp → VK → Prop := fun x xs H Q => ∃ h μ a ds W, RV P.K H μ h.length a x ∧ RVs P.K H μ h.length ds xs ∧ RH P.K H μ h ∧ Post P rD W H μ h.length (mtD m a ds h) Q
def Mt.id : Mt → String
  | .append => "list.append" | .pop => "list.pop" | .popAt => "list.pop" | .reverse => "list.reverse"
theorem Post.weaken {P : Par} {W W' : XK} {H : Hp} {μ : Nat → Addr} {n : Nat} {r : Res D} {Q : VK} (hn : ∀ c d h, r ≠ .exc c d h) (p : Post P rD W H μ n r Q) : Post P rD W' H μ n r Q := by
  cases r with
  | ok d h => exact p
  | exc c d h => exact absurd rfl (hn c d h)
  | stuck => exact p
section
variable {X : L2.Cx}
theorem ix_own {P : Par} (hK : P.K = X.K) : IxR X (rIxA P) := by
  intro value slice pins s σ H x y v u Q I rx ry hh hs
  obtain ⟨h, μ, a, b, d, ra, rb, rh, e, q⟩ := hh
  cases b with
  | int i =>
    cases hsq : seqOf h a with
    | some ds =>
      have e1 : atI ds i = some d := by cases a <;> simp [seqOf] at hsq <;> simpa [ixD, seqOf, hsq] using e
      obtain ⟨p, vs, rfl, s1, r1⟩ := seq_of rh ra hsq
      obtain ⟨w, e2, rw'⟩ := atI_rv r1 e1
      rw [hK] at s1
      rcases s1 with s1 | s1
      · exact ix_list value slice pins s σ H _ y v u Q I rx ry ⟨p, vs, i, w, rfl, rb.int_, s1, e2, q w rw'⟩ hs
      · exact ix_tup value slice pins s σ H _ y v u Q I rx ry ⟨p, vs, i, w, rfl, rb.int_, s1, e2, q w rw'⟩ hs
    | none =>
      cases a with
      | str z =>
        simp only [ixD] at e
        split at e
        · rename_i hz
          simp only [Option.map_eq_some_iff] at e
          obtain ⟨c, e1, rfl⟩ := e
          exact ix_str value slice pins s σ H _ y v u Q I rx ry ⟨z, i, c, ra.str_, rb.int_, by rw [← sl_line]; exact hz, e1, q _ rv_str⟩ hs
        · cases e
      | _ => simp [ixD, hsq] at e
  | _ => simp [ixD] at e
theorem sl_own {P : Par} (hK : P.K = X.K) : SlR X (rSlD P) := by
  intro pins s σ H x v vl vu lo hi sl Q I rx hs pl pu hh
  obtain ⟨h, μ, a, W, ra, rh, p⟩ := hh
  cases a with
  | tup ds =>
    obtain ⟨a1, vs, rfl, s1, r1⟩ := ra.tup_
    rw [hK] at s1
    have p' : Post P rD W H μ h.length (.ok (.tup (cut ds lo hi)) h) Q := p
    refine sl_tupA pins s σ H _ v vl vu lo hi sl Q I rx hs pl pu ⟨a1, vs, rfl, s1, fun hw => ?_, fun _ q hq => ?_⟩
    · rw [cut_whole (by rw [← r1.length]; exact hw)] at p'
      exact ans p' rh ra
    · exact ansT p' rh (cut_rv r1) hq
  | ref k =>
    simp only [slD] at p
    cases q : h[k]? with
    | none => rw [q] at p; exact p.elim
    | some o =>
      cases o with
      | con ds => rw [q] at p; exact p.elim
      | lst ds =>
        rw [q] at p
        obtain ⟨vs, e1, r1⟩ := rh.obj k _ q
        exact sl_list pins s σ H _ v vl vu lo hi sl Q I rx hs pl pu ⟨μ k, vs, ra.ref_.2, SqL.of e1, fun q' hq => ansL p rh (cut_rv r1) hq⟩
  | _ => exact p.elim
/-- a list is changed, and something is handed back -/
theorem ansW {P : Par} {W : XK} {H : Hp} {μ : Nat → Addr} {h : HP} {Q : VK} {k : Nat} {d : D} {v : V} {ds es : List D} {vs ws : List V} (p : Post P rD W H μ h.length (.ok d (h.set k (.lst es))) Q) (rh : RH P.K H μ h) (hk : h[k]? = some (.lst ds)) (e1 : H (μ k) = some (.lst vs))
    (rd : RV P.K H μ h.length d v) (re : RVs P.K H μ h.length es ws) : Q v (upd H (μ k) (.lst ws)) := by
  have x : Ext h.length (h.set k (.lst es)).length H μ (upd H (μ k) (.lst ws)) μ := by rw [List.length_set]; exact Ext.write e1 (lt_of_get hk) (rh.pos hk)
  exact p v μ _ x (RV.mono x _ _ rd) (rh.write hk e1 re)
theorem mt_own {P : Par} (m : Mt) : MtR X m.id (rMt P m) := by
  intro pins s σ H x xs v us Q I rx rxs hh
  obtain ⟨h, μ, a, ds, W, ra, rds, rh, p⟩ := hh
  cases a with
  | ref k =>
    simp only [mtD] at p
    cases q : h[k]? with
    | none => rw [q] at p; exact p.elim
    | some o =>
      cases o with
      | con _ => rw [q] at p; exact p.elim
      | lst es =>
        rw [q] at p
        simp only at p
        obtain ⟨vs, e1, r1⟩ := rh.obj k _ q
        cases m with
        | append =>
          cases ds with
          | nil => exact p.elim
          | cons d t =>
            cases t with
            | cons _ _ => exact p.elim
            | nil =>
              obtain ⟨w, rfl, rw'⟩ := rds.inv1
              simp only [mtL] at p
              by_cases hz : es.length < SL
              · rw [if_pos hz] at p
                exact mt_append pins s σ H x _ v us Q I rx rxs ⟨μ k, vs, w, ra.ref_.2, rfl, e1, by rw [r1.length, ← sl_line]; exact hz, ansW p rh q e1 rv_non (r1.append (RVs.one rw'))⟩
              · rw [if_neg hz] at p
                exact p.elim
        | pop =>
          cases ds with
          | cons _ _ => exact p.elim
          | nil =>
            have e0 := rds.inv0
            subst e0
            simp only [mtL] at p
            cases g : es.getLast? with
            | none => rw [g] at p; exact p.elim
            | some d =>
              rw [g] at p
              simp only [Option.map_some] at p
              rw [List.getLast?_eq_getElem?] at g
              obtain ⟨w, e2, rw'⟩ := r1.get g
              exact mt_pop pins s σ H x _ v us Q I rx rxs ⟨μ k, vs, w, ra.ref_.2, rfl, e1, by rw [r1.length]; exact e2, ansW p rh q e1 rw' r1.dropLast⟩
        | popAt =>
          cases ds with
          | nil => exact p.elim
          | cons d t =>
            cases t with
            | cons _ _ => cases d <;> exact p.elim
            | nil =>
              cases d with
              | int i =>
                obtain ⟨w, rfl, rw'⟩ := rds.inv1
                simp only [mtL] at p
                cases g : ixN es.length i with
                | none => rw [g] at p; exact p.elim
                | some j =>
                  rw [g] at p
                  simp only [Option.bind_some] at p
                  cases g2 : es[j]? with
                  | none => rw [g2] at p; exact p.elim
                  | some d =>
                    rw [g2] at p
                    simp only [Option.map_some] at p
                    obtain ⟨w2, e2, rw2⟩ := r1.get g2
                    obtain ⟨f1, f2, f3, f4⟩ := ixN_seq g
                    have hl := (I.lstM e1).1
                    rw [r1.length, sizeLine_eq] at hl
                    exact mt_popAt pins s σ H x _ v us Q I rx rxs ⟨μ k, vs, i, j, w2, ra.ref_.2, by rw [rw'.int_], e1, by omega, by omega, by rw [r1.length]; exact f1, e2, ansW p rh q e1 rw2 (r1.eraseIdx j)⟩
              | _ => exact p.elim
        | reverse =>
          cases ds with
          | cons _ _ => exact p.elim
          | nil =>
            have e0 := rds.inv0
            subst e0
            exact mt_reverse pins s σ H x _ v us Q I rx rxs ⟨μ k, vs, ra.ref_.2, rfl, e1, ansW p rh q e1 rv_non r1.reverse⟩
  | _ => exact p.elim

/-! ### isinstance -/
def Ty.name : Ty → String
  | .int => "int" | .str => "str" | .bool => "bool" | .list => "list" | .tuple => "tuple"
def tyN : D → String
  | .non => "NoneType" | .bl _ => "bool" | .int _ => "int" | .str _ => "str" | .tup _ => "tuple" | .ref _ => "list"
theorem ty_of {K : PySem.W.Frag} {H : Hp} {μ : Nat → Addr} {h : HP} (rh : RH K H μ h) {a : D} {x : V} {tt : List Ty} (ra : RV K H μ h.length a x) (e : tyD h a = some tt) : TyX K H x (.type (tyN a)) := by
  cases a with
  | non => rw [ra.non_]; exact .base .non
  | bl b => rw [ra.bl_]; exact .base (.bl b)
  | int b => rw [ra.int_]; exact .base (.int b)
  | str b => rw [ra.str_]; exact .base (.str b)
  | tup ds =>
    obtain ⟨a1, vs, rfl, s1, r1⟩ := ra.tup_
    rcases s1 with (s1 | ⟨o, s1⟩) | ⟨o, its, n, s1, s2, _⟩
    · exact .base (.tup s1)
    · exact .fTuple s1
    · exact .kTuple s1 s2
  | ref k =>
    rw [ra.ref_.2]
    cases q : h[k]? with
    | none => simp [tyD, q] at e
    | some o =>
      have ok := rh.obj k _ q
      cases o with
      | lst ds =>
        obtain ⟨vs, e1, _⟩ := ok
        exact .base (.lst e1)
      | con ds =>
        obtain ⟨vs, e1, _⟩ := ok
        rcases e1 with ⟨o, e1⟩ | ⟨o, its, n, s1, s2, _⟩
        · exact .base (.frz e1)
        · exact .kList s1 s2
/-- the six types of own values -/
inductive TN where | non | bl | int | str | tup | ref
  deriving DecidableEq
def TN.nm : TN → String
  | .non => "NoneType" | .bl => "bool" | .int => "int" | .str => "str" | .tup => "tuple" | .ref => "list"
def TN.tt : TN → List Ty
  | .non => [] | .bl => [.bool, .int] | .int => [.int] | .str => [.str] | .tup => [.tuple] | .ref => [.list]
theorem kit_tn : ∀ (n : TN) (t : Ty), kitB n.nm t.name = some (n.tt.contains t) := by
  intro n t
  cases n <;> cases t <;> decide +kernel
def tnOf : D → TN
  | .non => .non | .bl _ => .bl | .int _ => .int | .str _ => .str | .tup _ => .tup | .ref _ => .ref
theorem kit_tt {K : PySem.W.Frag} {h : HP} {a : D} {tt : List Ty} (e : tyD h a = some tt) (t : Ty) : PySem.W.kitOne K (.type (tyN a)) (.type t.name) = some (tt.contains t) := by
  have e1 : tyN a = (tnOf a).nm := by cases a <;> rfl
  have e2 : tt = (tnOf a).tt := by
    cases a with
    | ref k =>
      simp only [tyD] at e
      split at e
      · exact (Option.some.inj e).symm
      · cases e
    | _ => exact (Option.some.inj e).symm
  rw [e1, e2]
  exact kit_ty (kit_tn _ t)
theorem kit_any {K : PySem.W.Frag} {h : HP} {a : D} {tt : List Ty} (e : tyD h a = some tt) : ∀ ts : List Ty, PySem.W.kitAny K (.type (tyN a)) (ts.map fun t => Value.type t.name) = some (tt.any ts.contains)
  | [] => by
    have : tt.any ([] : List Ty).contains = false := by simp
    rw [this]; exact kitAny_nil
  | t :: ts => by
    have e1 : tt.any (t :: ts).contains = (tt.contains t || tt.any ts.contains) := by
      rw [Bool.eq_iff_iff]
      simp only [List.any_eq_true, List.contains_eq_mem, decide_eq_true_eq, Bool.or_eq_true, List.mem_cons]
      constructor
      · rintro ⟨x, h1, h2 | h2⟩
        · exact .inl (h2 ▸ h1)
        · exact .inr ⟨x, h1, h2⟩
      · rintro (h1 | ⟨x, h1, h2⟩)
        · exact ⟨t, h1, .inl rfl⟩
        · exact ⟨x, h1, .inr h2⟩
    have k1 := kit_tt (K := K) e t
    cases hc : tt.contains t with
    | true =>
      rw [hc] at k1
      rw [e1, hc]
      exact kitAny_cons k1 (fun z => by cases z) (fun _ => rfl)
    | false =>
      rw [hc] at k1
      rw [e1, hc, Bool.false_or]
      exact kitAny_cons k1 (fun _ => kit_any e ts) (fun z => by cases z)
end
end PI

set_option Elab.async false
set_option linter.all false
set_option maxRecDepth 100000
set_option maxHeartbeats 4000000
/-! Defs: what one promises where no repr is under way (guards), its body, its call. -/
namespace PI
open PySem PySem.Spec PyProof.Rows L2

/-- FnOk, asked only where no guarded built-in runs around -/
structure FnG (P : Program) (w : World) (K : PySem.W.Frag) (mg : Str → Option Value) (base : Heap) (k : Nat) (f : Addr) (fd : FuncData) (ps : List Str) (sp : Sp) : Prop where
  len : ∀ vs H Q E, sp vs H Q E → vs.length = ps.length
  run : ∀ (A : Around) (outer : List PySem.Env) (s : Shared) (H : Hp) (args : Args) (us : List Value) (vs : List V) (Q : VK) (E : XK), Room k A → A.guards = some [] → Env0 P w K mg base A outer s H →
    BindsTo s fd args (ps.zip us) → Vals vs us → sp vs H Q E → codeAny (model P w) A (.call (.ref f) args) (CR (L2.CX P w) outer P w H s Q E) s
section
variable {P : Program} {w : World} {K : PySem.W.Frag} {mg : Str → Option Value} {base : Heap}
theorem FnG.mono {j k : Nat} {f : Addr} {fd : FuncData} {ps : List Str} {sp : Sp} (F : FnG P w K mg base j f fd ps sp) (h : j ≤ k) : FnG P w K mg base k f fd ps sp :=
  ⟨F.len, fun A outer s H args us vs Q E hr => F.run A outer s H args us vs Q E (hr.mono h)⟩
/-- a def by its body -/
theorem fnG_of {k : Nat} {x qual : Str} {params : Arguments} {body : List Stmt} {scope : Scope} {dvs : List V} {kws : List (Str × V)} {f : Addr} {fd : FuncData} {N ps : List Str} {sp : Sp} (F : FunD K x qual params body scope dvs kws f fd) (S : FnScope N ps scope)
    (len : ∀ vs H Q E, sp vs H Q E → vs.length = ps.length)
    (hb : ∀ (cdv : Value) (A : Around) (outer : List PySem.Env) (s : Shared) (H : Hp) (vs : List V) (Q : VK) (E : XK), Room k (A.deeper (envOfC qual scope s.heap.objs.size f cdv)) → A.guards = some [] → sp vs H Q E →
      ∃ t, PSs (cxOf (L2.CX P w) P w K mg base N qual scope f cdv A outer s H E) body t ∧ t { nx := fun _ H' => Q .non H', rt := Q } (start N vs) H) : FnG P w K mg base (k + 1) f fd ps sp := by
  obtain ⟨oc, od, dV, kV, doc, pm, an, cdv, ct, osl, rfl, lk, hcd, _, _⟩ := F.ex
  refine ⟨len, fun A outer s H args us vs Q E hr hg e0 bnd r hsp => ?_⟩
  have KX : K.In s.heap := e0.mod.kin.keeps fun b o e => (e0.bs b o e).1
  have nol : s.heap.NoLimit := e0.mod.nolimit.keeps fun b o e => (e0.bs b o e).1
  refine codeAny_call_function hr.depth (KX _ _ lk) rfl S.co S.gen rfl (PySem.W.codeRec_of KX hcd) (bnd _ _ _ _ ?_)
  have kinds : ∀ y ∈ ps.zip us, scope.names.lookup y.1 = some .local ∨ (scope.names.lookup y.1 = some .cell ∧ ((cellsFrom (s.heap.objs.size + 1) scope.names []).lookup y.1).isSome = true) := by
    rintro ⟨m, v⟩ hy
    rcases S.par m (List.of_mem_zip hy).1 with q | q
    · exact .inl q
    · exact .inr ⟨q, PySem.W.cellsFrom_some _ _ _ (.inl q)⟩
  refine wpAny_newFunctionEnv_cells S.kind kinds fun env he s1 x => ?_
  subst he
  obtain ⟨t, ht, hq⟩ := hb cdv A outer s H vs Q E (hr.deeper _) hg hsp
  have I := inv_start (CX := L2.CX P w) (cd := cdv) (f := f) (qual := qual) (outer := outer) (E := E) S hr.hd e0 (len _ _ _ _ hsp) r x
  refine ⟨nol.keeps x.toInCall.keep, codeAny_func (wpAny_mono (ht.run [] s1 (start N vs) H _ I hq) (fun fl s' hs => ?_) fun e s' hs => hs)⟩
  cases fl with
  | next => obtain ⟨σ', H', J, q⟩ := hs; exact ⟨.non, H', J.os, J.bare, J.base, J.hok, rfl, q⟩
  | ret u => obtain ⟨v, σ', H', J, rv, q⟩ := hs; exact ⟨v, H', J.os, J.bare, J.base, J.hok, rv, q⟩
  | brk => obtain ⟨_, _, _, q⟩ := hs; exact q.elim
  | cont => obtain ⟨_, _, _, q⟩ := hs; exact q.elim
end
section
variable {X : L2.Cx} {k : Nat} {f : Addr} {fd : FuncData} {ps : List Str} {sp : Sp} {W : WX} {x : Str} {p pos : Pos} {e : Expr} {es : List Expr} {t : TA}
theorem run_fnG {pins : List (Addr × Obj)} {σ : L2.St} {H : Hp} {s : Shared} {Q : VK} {us : List Value} {vs : List V} (F : FnG X.prog X.w X.K X.mg X.base k f fd ps sp) (hr : Room k X.A) (hg : X.A.guards = some []) (hb : Binds X.K fd ps []) (tk : Takes X W)
    (I : Inv X pins σ H s) (r : Vals vs us) (h : sp vs H Q (WE W σ)) : wpAny (model X.prog X.w) X.A (call (.ref f) us) (EP X pins σ Q) X.xe s := by
  have hl : us.length = ps.length := by rw [← r.length]; exact F.len _ _ _ _ h
  have b := hb s us I.kIn (by rw [List.append_nil]; exact hl)
  rw [List.append_nil] at b
  refine wpAny_call (codeAny_mono (F.run X.A X.stack s H ⟨us, []⟩ us vs Q (WE W σ) hr hg I.env0 b r h) fun r s' hq => ?_)
  cases r with
  | error e => exact passAt tk σ pins H s e s' I hq
  | ok fl =>
    cases fl with
    | ret u => exact I.after hq
    | _ => exact False.elim hq
def tCallG (sp : Sp) (W : WX) (t : TA) : TE := fun σ H Q => t σ H fun vs H1 => sp vs H1 Q (WE W σ)
theorem pe_callG (F : FnG X.prog X.w X.K X.mg X.base k f fd ps sp) (hr : Room k X.A) (hg : X.A.guards = some []) (gl : Gl X x) (hm : X.mg x = some (.ref f)) (hk : PySem.W.keepIn X.K (.ref f) = true) (hb : Binds X.K fd ps []) (tk : Takes X W)
    (ha : PA X (e :: es) t) (hdb : (x == ("__debug__" : Str)) = false) (he : starEach (e :: es) X.env = (false, eval e X.env) :: starEach es X.env) (hpl : (backTo pos (starEach es X.env)).any (·.1) = false) : PE X (.Call (.Name x p) (e :: es) [] pos) (tCallG sp W t) := by
  refine ⟨fun pins s σ H Q I h => wpAny_Call_Name_kw (ld_glob I gl hm ?_ hdb)⟩
  refine PySem.W.callWith_K (h₀ := X.base) I.ok.mod.kin hk (thn (ha.run pos pins s σ H _ I h) fun us s1 ⟨vs, H1, I1, r, q⟩ => ?_) he hpl
  exact ⟨I1.kIn, run_fnG F hr hg hb tk I1 r q⟩
theorem pe_callG0 (F : FnG X.prog X.w X.K X.mg X.base k f fd ps sp) (hr : Room k X.A) (hg : X.A.guards = some []) (gl : Gl X x) (hm : X.mg x = some (.ref f)) (hk : PySem.W.keepIn X.K (.ref f) = true) (hb : Binds X.K fd ps []) (tk : Takes X W)
    (hdb : (x == ("__debug__" : Str)) = false) : PE X (.Call (.Name x p) [] [] pos) (tCallG sp W tNil) := by
  refine ⟨fun pins s σ H Q I h => wpAny_Call_Name_kw (ld_glob I gl hm ?_ hdb)⟩
  exact PySem.W.callWith_K0 I.kIn hk (run_fnG (us := []) F hr hg hb tk I .nil h)
/-- a built-in that the module holds by a name of its own -/
theorem pe_callBG {id : String} {r : List V → Hp → VK → Prop} (hc : CallR X (.builtin id) r) (gl : Gl X x) (hm : X.mg x = some (.builtin id)) (ha : PA X (e :: es) t) (hdb : (x == ("__debug__" : Str)) = false)
    (he : starEach (e :: es) X.env = (false, eval e X.env) :: starEach es X.env) (hpl : (backTo pos (starEach es X.env)).any (·.1) = false) : PE X (.Call (.Name x p) (e :: es) [] pos) (tCB r t) := by
  refine ⟨fun pins s σ H Q I h => wpAny_Call_Name_kw (ld_glob I gl hm ?_ hdb)⟩
  exact PyProof.Rows.callWith_builtin1 (thn (ha.run pos pins s σ H _ I h) fun us s1 ⟨vs, H1, I1, r1, q1⟩ => hc pins s1 σ H1 vs us Q I1 r1 q1) he hpl
end
end PI

set_option Elab.async false
set_option linter.all false
set_option maxRecDepth 100000
set_option maxHeartbeats 4000000
/-! try with several clauses, each with a name or without; isinstance of an error that has fields. -/
namespace PI
open PySem PySem.Spec PyProof.Rows L2
abbrev SuT := Addr → Value → Option Addr → TS
/-- behind a suite: its name is gone -/
def endsX (D : Ends) : Option Nat → Ends
  | none => D
  | some i => { nx := fun σ H => D.nx (σ.set i none) H, rt := D.rt, bk := fun σ H => D.bk (σ.set i none) H, ct := fun σ H => D.ct (σ.set i none) H }
def slotX (σ : L2.St) (a : Addr) : Option Nat → L2.St
  | none => σ
  | some i => σ.set i (some (.ref a))
/-- what the clauses wish -/
def wX (K : PySem.W.Frag) (Wo : WX) (D : Ends) : List (Value × Option Nat × SuT) → WX
  | [] => Wo
  | (c, sl, ts) :: r => fun cls d σ H => ∃ b, PySem.W.exmOne K cls c = some b ∧ (b = true → ∀ a, H a = none → ts a cls d (endsX D sl) (slotX σ a sl) H) ∧ (b = false → wX K Wo D r cls d σ H)
/-- a clause's name, if it has one -/
def NmOk (X : L2.Cx) : Option Str → Option Nat → Prop
  | none, none => True
  | some n, some i => X.N[i]? = some n ∧ X.env.kindOf n = some .local
  | _, _ => False
inductive HdX (X : L2.Cx) : List ExceptHandler → List (Value × Option Nat × SuT) → Prop
  | nil : HdX X [] []
  | cons {x : Str} {c : Value} {nm : Option Str} {sl : Option Nat} {ts : SuT} {s0 : Stmt} {suite : List Stmt} {np p : Pos} {hs : List ExceptHandler} {l : List (Value × Option Nat × SuT)} (hc : Names X x c) (hn : NmOk X nm sl)
      (su : ∀ (a : Addr) (oe : Obj) (cls : Value) (d : Option Addr) (pn : List (Addr × Obj)), Zc cls d oe → (∃ vs, oe.data = .fields vs) → PSs (X.suite a ((a, oe) :: pn)) (s0 :: suite) (ts a cls d)) (r : HdX X hs l) :
      HdX X (.ExceptHandler (some (.Name x np)) nm (s0 :: suite) p :: hs) ((c, sl, ts) :: l)
section
variable {X : L2.Cx} {pins : List (Addr × Obj)} {σ : L2.St} {H : Hp}
/-- out of a suite -/
theorem sp_unsuite {a : Addr} {q : Addr × Obj} {D : Ends} {f : Flow} {s : Shared} (ok : X.Ok) (h : SP (X.suite a (q :: (X.pn ++ pins))) [] D f s) : SP X pins D f s := by
  cases f with
  | ret u => obtain ⟨v, σ6, H6, S6, r6, q6⟩ := h; exact ⟨v, σ6, H6, Inv.unsuite S6 ok, r6, q6⟩
  | next => obtain ⟨σ6, H6, S6, q6⟩ := h; exact ⟨σ6, H6, Inv.unsuite S6 ok, q6⟩
  | brk => obtain ⟨σ6, H6, S6, q6⟩ := h; exact ⟨σ6, H6, Inv.unsuite S6 ok, q6⟩
  | cont => obtain ⟨σ6, H6, S6, q6⟩ := h; exact ⟨σ6, H6, Inv.unsuite S6 ok, q6⟩
/-- out of a try's body -/
theorem sp_untry {D : Ends} {f : Flow} {s : Shared} {xe : Value → Shared → Prop} (ok : X.Ok) (h : SP (X.tr (X.pn ++ pins) xe) [] D f s) : SP X pins D f s := by
  cases f with
  | ret u => obtain ⟨v, σ6, H6, J, r6, q6⟩ := h; exact ⟨v, σ6, H6, Inv.ofTry J ok, r6, q6⟩
  | next => obtain ⟨σ6, H6, J, q6⟩ := h; exact ⟨σ6, H6, Inv.ofTry J ok, q6⟩
  | brk => obtain ⟨σ6, H6, J, q6⟩ := h; exact ⟨σ6, H6, Inv.ofTry J ok, q6⟩
  | cont => obtain ⟨σ6, H6, J, q6⟩ := h; exact ⟨σ6, H6, Inv.ofTry J ok, q6⟩
/-- an error's record is no frame -/
theorem not_frame {B h : Heap} {l : List PySem.Env} {a : Addr} {o : Obj} {vs : Array Value} (ff : h.FunFrames B l) (e : h.get? a = some o) (hd : o.data = .fields vs) : a ∉ frs l := fun hm => by
  obtain ⟨_, o', e', hnf⟩ := ff.mem hm
  rw [e] at e'
  cases e'
  exact hnf _ hd
/-- the error has landed: nothing is bent yet, and the clauses are asked -/
structure Landed (X : L2.Cx) (pins : List (Addr × Obj)) (σ : L2.St) (H : Hp) (a : Addr) (B : Heap) (cls : Value) (d : Option Addr) (sI s : Shared) : Prop where
  fl : HandSPX.FlyingZ B (X.env :: X.outer) a (Zc cls d) s.heap
  up : sI.heap.UpToSlots s.heap
  inv : Inv X pins σ H sI
  nb : ∀ b o, sI.heap.get? b = some o → b ∉ frs X.stack → B.get? b = some o
  na : H a = none
  os : s.os = sI.os
  ag : AllBare s.gens
theorem Landed.here {a : Addr} {B : Heap} {cls : Value} {d : Option Addr} {sI s : Shared} (hs : X.stack = X.env :: X.outer) (hf : X.env.frame = some X.env.locals) (L : Landed X pins σ H a B cls d sI s) :
    Inv X pins σ H s ∧ ∃ oe vs, s.heap.get? a = some oe ∧ Zc cls d oe ∧ oe.data = .fields vs ∧ Inv (X.suite a ((a, oe) :: (X.pn ++ pins))) [] σ H s := by
  have J : Inv X pins σ H { s with heap := s.heap } := Inv.landed L.inv L.nb L.fl.1 L.up L.os L.ag
  obtain ⟨oe, vs, he, hz, hd⟩ := L.fl.there
  have nf := not_frame L.fl.2.2.1 he hd
  have nL : a ≠ X.env.locals := fun z => nf (List.mem_filterMap.mpr ⟨X.env, List.mem_cons_self, by rw [hf, z]⟩)
  have nF : a ∉ X.fs := fun hm => by
    obtain ⟨e, h1, h2⟩ := List.mem_filterMap.mp hm
    exact nf (List.mem_filterMap.mpr ⟨e, List.mem_cons_of_mem _ h1, h2⟩)
  exact ⟨J, oe, vs, he, hz, hd, Inv.suite J he hd L.na nL nF⟩
theorem Landed.asked {Wo : WX} {D : Ends} {a : Addr} {B : Heap} {cls : Value} {d : Option Addr} {sI s : Shared} (hs : X.stack = X.env :: X.outer) (hf : X.env.frame = some X.env.locals) (hN : X.N.Nodup) (tk : Takes X Wo)
    (L : Landed X pins σ H a B cls d sI s) : ∀ {hds : List ExceptHandler} {l : List (Value × Option Nat × SuT)}, HdX X hds l → wX X.K Wo D l cls d σ H →
      wpAny (model X.prog X.w) X.A (handleBy (.ref a) X.env hds) (SP X pins D) X.xe s := by
  intro hds l hk
  induction hk with
  | nil =>
    intro w
    refine wpAny_handleBy_nil ?_
    have fl := L.fl
    obtain ⟨_, _, _, oe, vs, T, oT, tx, he, hz, hd, h1, hr⟩ := id fl
    unfold PySem.passOn
    refine wpAny_bind (wpAny_field he hd h1 ?_)
    rw [if_neg (show ¬ ((Value.ref T == Value.none) = true) by simp)]
    have up : wpAny (model X.prog X.w) X.A (setFlight (.ref a) X.env.frame) (fun _ s5 => wpAny (model X.prog X.w) X.A (throw (.ref a) : Sem Flow) (SP X pins D) X.xe s5) X.xe s := by
      rw [hf]
      refine HandSPX.setFlight_upZ fl fun h5 hh5 up5 => wpAny_throw (tk _ _ ?_)
      refine ⟨a, B, sI, pins, σ, H, cls, d, rfl, L.inv, L.nb, L.up.trans up5, ?_, L.na, L.os, L.ag, w⟩
      rw [hs]
      exact .inr (.inr hh5)
    first | exact wpAny_bind (wpAny_pure (wpAny_bind up)) | exact wpAny_bind up
  | @cons x c nm sl ts s0 suite np p hds2 l2 hc hn su r ih =>
    intro w
    obtain ⟨b, hb, yes, no⟩ := w
    obtain ⟨J, oe, vs, he, hz, hd, S⟩ := L.here hs hf
    refine wpAny_handleBy_cons (codeAny_handlers_test ?_) (by intro q; cases q)
    have LT : PySem.W.Looks (model X.prog X.w) s.heap (typeOf (.ref a)) cls := fun A Q E t k q => wpAny_typeOf_ref (k _ _ he) (by rw [hz.1]; exact q)
    have LM := PySem.W.exm_one (M := model X.prog X.w) J.kIn LT hb
    have ask : ∀ {Q E : Value → Shared → Prop}, Q c s → wpAny (model X.prog X.w) (X.A.mark (some (.ref a))) (eval (.Name x np) X.env) Q E s := fun {Q E} q => by
      obtain ⟨g1, g2, g3 | ⟨g3, g4, g5⟩⟩ := hc
      · exact ld_glob (X := X.suite a ((a, oe) :: (X.pn ++ pins))) S g1 g3 q g2
      · exact ld_blt (X := X.suite a ((a, oe) :: (X.pn ++ pins))) S g1 g3 g4 q g5 g2
    refine ask (LM.here ?_)
    cases b with
    | false =>
      show wpAny _ X.A (handleBy (.ref a) X.env hds2) _ _ _
      exact ih (no rfl)
    | true =>
      cases nm with
      | none =>
        cases sl with
        | some i => exact (show False from hn).elim
        | none =>
          refine codeAny_handlers_suite (HandSPX.lands_againZ L.fl fun h4 fl4 up4 => ?_)
          obtain ⟨J4, oe4, vs4, he4, hz4, hd4, S4⟩ := Landed.here (s := { s with heap := h4 }) hs hf ⟨fl4, L.up.trans up4, L.inv, L.nb, L.na, L.os, L.ag⟩
          exact wpAny_mono ((su a oe4 cls d (X.pn ++ pins) hz4 ⟨_, hd4⟩).run [] _ _ H _ S4 (yes rfl a L.na)) (fun f s6 z => sp_unsuite J.ok z) (fun _ _ z => False.elim z)
      | some n =>
        cases sl with
        | none => exact (show False from hn).elim
        | some i =>
          obtain ⟨hi, hl⟩ : X.N[i]? = some n ∧ X.env.kindOf n = some .local := hn
          refine codeAny_handlers_suite_as (HandSPX.lands_againZ L.fl fun h4 fl4 up4 => ?_)
          obtain ⟨J4, oe4, vs4, he4, hz4, hd4, S4⟩ := Landed.here (s := { s with heap := h4 }) hs hf ⟨fl4, L.up.trans up4, L.inv, L.nb, L.na, L.os, L.ag⟩
          refine store_ok (X := X.suite a ((a, oe4) :: (X.pn ++ pins))) (v := .ref a) S4 hN hi (.inl hl) rfl (fun s5 S5 => ?_) (.inr hl)
          refine wpAny_mono ((su a oe4 cls d (X.pn ++ pins) hz4 ⟨_, hd4⟩).run [] s5 _ H _ S5 (yes rfl a L.na)) (fun f s6 z => ?_) (fun _ _ z => False.elim z)
          have z2 := sp_unsuite J.ok z
          cases f with
          | ret u => obtain ⟨v6, σ6, H6, J6, r6, q6⟩ := z2; exact gone_ok J6 hN hi hl fun s7 J7 => ⟨_, _, _, J7, r6, q6⟩
          | next => obtain ⟨σ6, H6, J6, q6⟩ := z2; exact gone_ok J6 hN hi hl fun s7 J7 => ⟨_, _, J7, q6⟩
          | brk => obtain ⟨σ6, H6, J6, q6⟩ := z2; exact gone_ok J6 hN hi hl fun s7 J7 => ⟨_, _, J7, q6⟩
          | cont => obtain ⟨σ6, H6, J6, q6⟩ := z2; exact gone_ok J6 hN hi hl fun s7 J7 => ⟨_, _, J7, q6⟩
/-- try: body / except ..: .. / except .. as ..: .. -/
theorem ps_tryX {body : List Stmt} {h0 : ExceptHandler} {hds : List ExceptHandler} {l : List (Value × Option Nat × SuT)} {pos : Pos} {tb : WX → TS} {Wo : WX} (hs : X.stack = X.env :: X.outer) (hf : X.env.frame = some X.env.locals) (hN : X.N.Nodup) (tk : Takes X Wo)
    (hb : ∀ (W : WX) (pn : List (Addr × Obj)) (xe : Value → Shared → Prop), Takes (X.tr pn xe) W → PassesOwn (model X.prog X.w) X.A X.env xe → PSs (X.tr pn xe) body (tb W)) (hh : HdX X (h0 :: hds) l) :
    PS X (.Try body (h0 :: hds) [] [] pos) (fun D σ H => tb (wX X.K Wo D l) D σ H) := by
  refine ⟨fun pins s σ H D I h => wpAny_Try_except ?_⟩
  have ok := I.ok
  have hfr : X.A.frames = some (X.env :: X.outer) := by rw [ok.frames, hs]
  refine wpAny_mono ((hb (wX X.K Wo D l) (X.pn ++ pins) (fun e s1 => wpAny (model X.prog X.w) X.A (noteFrame e X.env) (fun _ s2 => wpAny (model X.prog X.w) X.A (setFlight e none) (fun _ s3 =>
    wpAny (model X.prog X.w) X.A (handleBy e X.env (h0 :: hds)) (SP X pins D) X.xe s3) X.xe s2) X.xe s1) (fun u s' xx => ?_) PassesOwn.looking).run [] s σ H D (I.toTry _) h) (fun f s1 hsp => ?_) (fun _ _ z => z)
  · obtain ⟨a, B, sI, pins', σ', H', cls, d, rfl, J', nb, up, sky, na, os, ag, w⟩ := xx
    have sky2 : Sky B (X.env :: X.outer) a (Zc cls d) X.env.locals s'.heap := by rw [← hs]; exact sky
    show wpAny (model X.prog X.w) X.A (noteFrame (.ref a) X.env) _ _ _
    refine Sky.land Zc.steady hfr hf sky2 fun h3 fl3 up3 => ?_
    exact Landed.asked (s := { s' with heap := h3 }) hs hf hN tk ⟨fl3, up.trans up3, Inv.ofTry J' ok, nb, na, os, ag⟩ hh w
  · have z := sp_untry ok hsp
    cases f with
    | ret u => exact z
    | brk => exact z
    | cont => exact z
    | next => exact wpAny_execs_nil z
end
/-! ### isinstance of the error of the suite -/
def rIsO (K : PySem.W.Frag) (D a dx : Addr) : List V → Hp → VK → Prop := fun xs H Q => ∃ (c : V) (cv : Value) (b : Bool) (fs : List (Str × V)), xs = [.ref a, c] ∧ (∀ u, RelV c u → u = cv) ∧ H dx = some (.xd fs) ∧ PySem.W.kitOne K (.ref D) cv = some b ∧ Q (.bl b) H
def rIsOT (K : PySem.W.Frag) (D a dx : Addr) : List V → Hp → VK → Prop := fun xs H Q => ∃ (tp : Addr) (cs : List Addr) (b : Bool) (fs : List (Str × V)), xs = [.ref a, .ref tp] ∧ H tp = some (.tup (cs.map V.ref)) ∧ H dx = some (.xd fs) ∧ PySem.W.kitAny K (.ref D) (cs.map Value.ref) = some b ∧ Q (.bl b) H
theorem refs_vals : ∀ {cs : List Addr} {us : List Value}, Vals (cs.map V.ref) us → us = cs.map Value.ref
  | [], us, h => by cases h; rfl
  | c :: cs, us, h => by
    simp only [List.map_cons] at h
    cases h with
    | cons a b =>
      cases (show _ = Value.ref c from a)
      rw [refs_vals b]
      rfl
section
variable {X : L2.Cx} {a D dx : Addr} {oe : Obj} {pn : List (Addr × Obj)}
theorem inst_here {pins : List (Addr × Obj)} {σ : L2.St} {H : Hp} {s : Shared} {fs : List (Str × V)} (I : Inv (X.suite a ((a, oe) :: pn)) pins σ H s) (hz : Zc (.ref D) (some dx) oe) (hf : ∃ vs, oe.data = .fields vs) (e : H dx = some (.xd fs)) :
    ∃ od, PySem.W.InstAt s.heap a oe D (some od) := by
  obtain ⟨hg, _⟩ := I.pin (a, oe) (List.mem_append_left _ List.mem_cons_self)
  obtain ⟨vs, hd⟩ := hf
  obtain ⟨mA, hns, _⟩ := (show ObjOk X.prog X.w H s.heap dx (.xd fs) from I.hok dx _ e)
  obtain ⟨od, ho, _⟩ := lookIn_ns hns
  exact ⟨od, hg, hz.1, by unfold PySem.W.notCls; rw [hd] <;> rfl, by rw [hz.2]; exact ho⟩
theorem kit_here (C : ExcC X.K D) {od : Option Obj} : PySem.W.KitX X.K (.ref a) (.ref D) (fun h => PySem.W.InstAt h a oe D od) :=
  PySem.W.kitx_exc (by obtain ⟨cd, hc, _⟩ := PySem.W.any_some C.hd; rw [hc]; rfl) C.hg C.hk C.hs C.ha C.hn C.ht C.hm
theorem call_isO (C : ExcC X.K D) (hz : Zc (.ref D) (some dx) oe) (hf : ∃ vs, oe.data = .fields vs) : CallR (X.suite a ((a, oe) :: pn)) (.builtin "isinstance") (rIsO X.K D a dx) := by
  intro pins s σ H xs us Q I r h
  obtain ⟨c, cv, b, fs, rfl, hcv, hx, e, q⟩ := h
  obtain ⟨u1, u2, rfl, r1, r2⟩ := vals2 r
  cases (show u1 = Value.ref a from r1)
  cases hcv _ r2
  obtain ⟨od, J⟩ := inst_here I hz hf hx
  exact PySem.W.kia_one (kit_here C) I.kIn J e (fun z => nomatch z) fun tk => ⟨.bl b, H, I.tok tk, rfl, q⟩
theorem call_isOT (C : ExcC X.K D) (hz : Zc (.ref D) (some dx) oe) (hf : ∃ vs, oe.data = .fields vs) : CallR (X.suite a ((a, oe) :: pn)) (.builtin "isinstance") (rIsOT X.K D a dx) := by
  intro pins s σ H xs us Q I r h
  obtain ⟨tp, cs, b, fs, rfl, hT, hx, e, q⟩ := h
  obtain ⟨u1, u2, rfl, r1, r2⟩ := vals2 r
  cases (show u1 = Value.ref a from r1)
  cases (show u2 = Value.ref tp from r2)
  obtain ⟨od, J⟩ := inst_here I hz hf hx
  obtain ⟨_, its, rv, o, h1, h2, n, h3⟩ := (show ObjOk X.prog X.w H s.heap tp (.tup (cs.map V.ref)) from I.hok tp _ hT)
  have e3 := refs_vals rv
  subst e3
  obtain ⟨oc, oo, dt, sl⟩ := o
  simp only at h2 h3
  subst h2 h3
  exact PySem.W.kia_tup (kit_here C) I.kIn J h1 e (fun z => nomatch z) fun tk => ⟨.bl b, H, I.tok tk, rfl, q⟩
end
end PI

set_option Elab.async false
set_option linter.all false
set_option maxRecDepth 100000
set_option maxHeartbeats 4000000
/-! The checker's static part; what must hold of a context; shapes of expressions. -/
namespace PI
open PySem PySem.Spec PyProof.Rows L2

/-- the program's names: its defs, its error classes with their field, which is below which, the built-ins that the module holds by name -/
structure Sig where
  fns : List Str
  ecs : List (Str × Str)
  sub : Nat → Nat → Bool
  gbi : List BI
  csts : List (Str × Int)
/-- where a piece of code stands -/
structure Sco where
  sc : Scope
  fn : Str → Bool
  N : List Str
  calm : Bool
  ex : Option (Option (Str × Nat) × Nat)
def BI.nm : BI → Str
  | .len => "len" | .int => "int" | .max2 => "max" | .min2 => "min" | .abs => "abs" | .all => "all" | .any => "any"
  | .tuple => "tuple" | .list => "list" | .repr => "repr" | .comb => "comb" | .sorted => "sorted" | .sum => "sum" | .gcd => "gcd" | .lcm => "lcm"
/-- from a module -/
def BI.isImp : BI → Bool
  | .comb => true
  | .gcd => true
  | .lcm => true
  | _ => false
/-- what a def's call promises -/
def spI (P : Par) (f : Nat) : Sp := fun vs H Q E => ∃ ds h μ, RVs P.K H μ h.length ds vs ∧ RH P.K H μ h ∧ Post P rD E H μ h.length (P.cx.C f ds h) Q
def bltN : List Str := ["len", "int", "max", "min", "abs", "all", "any", "tuple", "list", "repr", "isinstance", "range", "enumerate", "bool", "str", "sorted", "set", "zip", "reversed", "sum", "dict"]
/-- what an error class's own init promises: the field is laid -/
def spX (C : Addr) (f : Str) : Sp := fun vs H Q _ => ∃ a y, vs = [.ref a, y] ∧ H a = some (exo a C none) ∧ ∀ dx, H dx = none → dx ≠ a → Q .non (upd (upd H dx (exd dx [(f, y)])) a (exo a C (some dx)))
/-- an error class that is raised with one value -/
structure MkX (P : Par) (X : L2.Cx) (c : Nat) (f : Str) : Prop where
  oex : OexC X.K (P.cls c)
  ini : ∃ (fI : Addr) (k : Nat) (fd : FuncData) (ps : List Str), PySem.W.findIn X.K (.ref (P.cls c)) "__init__" = some (some (.ref fI)) ∧ PySem.W.typeIn X.K (.ref fI) = some (.type "function") ∧
    FnOk X.prog X.w X.K X.mg X.base (L2.CX X.prog X.w) k fI fd ps (spX (P.cls c) f) ∧ Room (k + 1) X.A ∧ Binds X.K fd ps []
/-- the error classes, by the written part -/
structure ErrK (S : Sig) (P : Par) (K : PySem.W.Frag) : Prop where
  ec : ∀ c, ExcC K (P.cls c)
  no : ∀ c, PySem.W.findIn K (.ref (P.cls c)) (P.att c) = some none
  kit : ∀ c c', PySem.W.kitOne K (.ref (P.cls c)) (.ref (P.cls c')) = some (S.sub c c')
  exm : ∀ c c', PySem.W.exmOne K (.ref (P.cls c)) (.ref (P.cls c')) = some (S.sub c c')
  leaf : ∀ c c1, c1 ≠ 0 → c1 < S.ecs.length → S.sub c c1 = true → c = c1
  att : ∀ c n f, S.ecs[c]? = some (n, f) → P.att c = f
structure Calls (S : Sig) (P : Par) (X : L2.Cx) : Prop where
  noex : P.cx.x = none
  mks : ∀ (c : Nat) (n f : Str), S.ecs[c]? = some (n, f) → f ≠ "" → MkX P X c f
  fns : ∀ (f : Nat) (x : Str), S.fns[f]? = some x → ∃ k a fd ps, Room k X.A ∧ X.mg x = some (.ref a) ∧ PySem.W.keepIn X.K (.ref a) = true ∧ Binds X.K fd ps [] ∧ FnG X.prog X.w X.K X.mg X.base k a fd ps (spI P f)
structure Good (S : Sig) (P : Par) (X : L2.Cx) (Z : Sco) : Prop where
  hN : X.N = Z.N
  nd : Z.N.Nodup
  hsc : X.env.scope = Z.sc
  hK : P.K = X.K
  gd : X.A.guards = some []
  un : X.A.units + 150 < cLine
  calm : Z.calm = true → X.calm = true
  fn : ∀ x, Z.fn x = true → X.fn x = true
  kind : X.env.scope.kind = .function
  calls : Z.calm = true → Calls S P X
  blt : ∀ x ∈ bltN, X.mg x = none
  gbi : ∀ b ∈ S.gbi, X.mg b.nm = some b.val
  cst : ∀ c ∈ S.csts, ∃ t, X.mg c.1 = some (.int c.2 t)
  sub : P.cx.sub = S.sub
  errs : ErrK S P X.K
  mgs : ∀ (c : Nat) (n f : Str), S.ecs[c]? = some (n, f) → X.mg n = some (.ref (P.cls c))
  xs : ∀ (c : Nat) (d : D), P.cx.x = some (c, d) → ∃ (sl : Option Nat) (a dx : Addr) (nm : Option (Str × Nat)) (c1 : Nat) (X0 : L2.Cx) (oe : Obj) (pn : List (Addr × Obj)), P.xh = some (sl, a, dx) ∧ Z.ex = some (nm, c1) ∧ sl = nm.map (·.2) ∧ S.sub c c1 = true ∧
    X = X0.suite a ((a, oe) :: pn) ∧ Zc (.ref (P.cls c)) (some dx) oe ∧ ∃ vs, oe.data = .fields vs
theorem Good.xh {S : Sig} {P : Par} {X : L2.Cx} {Z : Sco} (g : Good S P X Z) (h : P.cx.x.isSome = true) : ∃ sl a dx nm c, P.xh = some (sl, a, dx) ∧ Z.ex = some (nm, c) ∧ sl = nm.map (·.2) := by
  obtain ⟨⟨c, d⟩, e⟩ := Option.isSome_iff_exists.mp h
  obtain ⟨sl, a, dx, nm, c1, _, _, _, h1, h2, h3, _⟩ := g.xs c d e
  exact ⟨sl, a, dx, nm, c1, h1, h2, h3⟩
def glB (Z : Sco) (x : Str) : Bool := decide (Z.sc.names.lookup x = some .globalImplicit) && !(x == ("__debug__" : Str))
def visB (Z : Sco) (i : Nat) (x : Str) : Bool := decide (Z.N[i]? = some x) && (decide (Z.sc.names.lookup x = some .local) || decide (Z.sc.names.lookup x = some .cell) || decide (Z.sc.names.lookup x = some .free)) &&
  (!(x == ("__debug__" : Str)) && !(x == ("__classdict__" : Str)))
def stoB (Z : Sco) (i : Nat) (x : Str) : Bool := decide (Z.N[i]? = some x) && (decide (Z.sc.names.lookup x = some .local) || (decide (Z.sc.names.lookup x = some .cell) && Z.fn x)) &&
  (match Z.ex with | some (some (_, j), _) => !decide (i = j) | _ => true)
/-- shapes that stand as arguments -/
def okX : Expr → Bool
  | .Starred .. => false
  | .Set .. => false
  | .Slice .. => false
  | _ => true
/-- shapes whose truth is asked plainly -/
def plainX : Expr → Bool
  | .UnaryOp .Not _ _ => false
  | .BoolOp .. => false
  | .IfExp .. => false
  | .Compare .. => false
  | _ => true
/-- a receiver of a method -/
def recvX : Expr → Bool
  | .Call _ _ _ _ => false
  | _ => true
section
variable {S : Sig} {P : Par} {X : L2.Cx} {Z : Sco}
theorem Good.gl (g : Good S P X Z) {x : Str} (h : glB Z x = true) : Gl X x ∧ (x == ("__debug__" : Str)) = false := by
  unfold glB at h
  simp only [Bool.and_eq_true, decide_eq_true_eq, Bool.not_eq_true'] at h
  refine ⟨?_, h.2⟩
  show X.env.scope.names.lookup x = some .globalImplicit
  rw [g.hsc]; exact h.1
theorem Good.vis (g : Good S P X Z) {i : Nat} {x : Str} (h : visB Z i x = true) : X.N[i]? = some x ∧ Vis X.env.scope x ∧ (x == ("__debug__" : Str)) = false ∧ (x == ("__classdict__" : Str)) = false := by
  unfold visB at h
  simp only [Bool.and_eq_true, Bool.or_eq_true, decide_eq_true_eq, Bool.not_eq_true'] at h
  obtain ⟨⟨h1, h2⟩, h3, h4⟩ := h
  refine ⟨by rw [g.hN]; exact h1, ?_, h3, h4⟩
  unfold Vis
  rw [g.hsc]
  rcases h2 with (h2 | h2) | h2
  · exact .inl h2
  · exact .inr (.inl h2)
  · exact .inr (.inr h2)
theorem Good.sto (g : Good S P X Z) {i : Nat} {x : Str} (h : stoB Z i x = true) : X.N[i]? = some x ∧ L2.Loc X.env.scope x ∧ (X.fn x = true ∨ X.env.scope.names.lookup x = some .local) := by
  unfold stoB at h
  simp only [Bool.and_eq_true, Bool.or_eq_true, decide_eq_true_eq] at h
  obtain ⟨⟨h1, h2⟩, h3⟩ := h
  unfold L2.Loc
  rw [g.hN, g.hsc]
  rcases h2 with h2 | ⟨h2, h4⟩
  · exact ⟨h1, .inl h2, .inr h2⟩
  · exact ⟨h1, .inr h2, .inl (g.fn x h4)⟩
theorem star_cons {e : Expr} {es : List Expr} {env : PySem.Env} (h : okX e = true) : starEach (e :: es) env = (false, eval e env) :: starEach es env := by
  cases e <;> first | rfl | cases h
theorem star_plain {env : PySem.Env} {pos : Pos} : ∀ {es : List Expr}, es.all okX = true → (backTo pos (starEach es env)).any (·.1) = false
  | [], _ => by simp [starEach, backTo]
  | e :: es, h => by
    simp only [List.all_cons, Bool.and_eq_true] at h
    rw [star_cons h.1]
    have ih := star_plain (env := env) (pos := pos) h.2
    unfold backTo at ih ⊢
    simpa using ih
theorem true_plain {e : Expr} {env : PySem.Env} (h : plainX e = true) : ∀ whole, isTrue e env whole = (do let v ← whole; standAt e.pos; holding [v] (truthy v)) := by
  intro whole
  cases e <;> first | rfl | cases h | (rename_i o _ _; cases o <;> first | rfl | cases h)
theorem base_recv {e : Expr} {f : Str} {env : PySem.Env} {whole : Sem Value} (h : recvX e = true) : attributeBase e f env whole = whole := by
  cases e <;> first | rfl | cases h
theorem folded_ok {e : Expr} {env : PySem.Env} (h : okX e = true) : ∀ x, foldedSetIterable e env x = pure x := by
  intro x
  cases e <;> first | rfl | cases h
theorem marks_ok {op : CmpOp} {e : Expr} (h : okX e = true) : behindInMarks op e = false := by
  cases e <;> first | rfl | cases h
end
/-! ### truth -/
section
variable {P : Par} {W : XK} {H : Hp} {μ : Nat → Addr} {h : HP}
theorem tru_own {K : PySem.W.Frag} {d : D} {v : V} {k : Bool} (rh : RH K H μ h) (r : RV K H μ h.length d v) (e : truth h d = some k) : TruV K v H k := by
  cases d with
  | non => cases e; rw [r.non_]; exact rfl
  | bl b => cases e; rw [r.bl_]; exact rfl
  | int i => cases e; rw [r.int_]; exact rfl
  | str s =>
    simp only [truth] at e
    split at e
    · rename_i hz
      cases e
      rw [r.str_]
      refine ⟨by rw [← sl_line]; exact hz, ?_⟩
      rw [Bool.eq_iff_iff]
      simp
    · cases e
  | tup ds =>
    cases e
    obtain ⟨a, vs, rfl, s, r1⟩ := r.tup_
    refine .inr (.inl ⟨vs, s, ?_⟩)
    have := r1.length
    cases ds <;> cases vs <;> simp at this ⊢
  | ref n =>
    have hs : ∃ ds, seqOf h (.ref n) = some ds ∧ k = !ds.isEmpty := by
      cases q : h[n]? with
      | none => simp [truth, q] at e
      | some o =>
        cases o with
        | lst ds => simp only [truth, q, Option.some.injEq] at e; exact ⟨ds, by simp [seqOf, q], e.symm⟩
        | con ds => simp only [truth, q, Option.some.injEq] at e; exact ⟨ds, by simp [seqOf, q], e.symm⟩
    obtain ⟨ds, e1, rfl⟩ := hs
    obtain ⟨vs, s, r1⟩ := rh.seq e1
    rw [r.ref_.2]
    refine .inl ⟨vs, s, ?_⟩
    have := r1.length
    cases ds <;> cases vs <;> simp at this ⊢
theorem asB_fin (r : Res D) : asB (fin true r) = tstR r := by
  cases r with
  | ok d h =>
    show asB ((match truth h d with | some b => Res.ok b h | none => .stuck).bind fun b h => .ok (.bl b) h) = (match truth h d with | some b => Res.ok b h | none => .stuck)
    cases truth h d <;> rfl
  | exc c d h => rfl
  | stuck => rfl
/-- from a value to its truth -/
theorem Post.tst {n : Nat} {r : Res D} {Q : Bool → Hp → Prop} (p : Post P rB W H μ n (tstR r) Q) : Post P rD W H μ n r (fun v H1 => ∃ k, TruV P.K v H1 k ∧ Q k H1) := by
  refine (Post.bind (R := rD) p).mono fun v H1 ⟨d, h1, μ1, x, rd, rh, q⟩ => ?_
  cases e : truth h1 d with
  | none => rw [e] at q; exact q.elim
  | some k =>
    rw [e] at q
    exact ⟨k, tru_own rh rd e, Post.ok q rfl rh⟩
end
/-- the test of an expression of a plain shape -/
theorem pt_own {P : Par} {X : L2.Cx} {W : WX} {x : Expr} {m : Env → HP → Res D} (hK : P.K = X.K) (h : PE X x (tR P rD W m)) (hp : plainX x = true) : PT X x (tR P rB W (fun e h => asB (fin true (m e h)))) := by
  refine pt_imp (pt_truth h (true_plain hp)) fun σ H Q ⟨e, hh, μ, r, p⟩ => ?_
  simp only [asB_fin] at p
  rw [← hK]
  exact ⟨e, hh, μ, r, p.tst⟩
end PI

set_option Elab.async false
set_option linter.all false
set_option maxRecDepth 100000
set_option maxHeartbeats 4000000
/-! The checker of expressions; each kind of expression keeps what it promises. -/
namespace PI
open PySem PySem.Spec PyProof.Rows L2

def Mt.nm : Mt → Str
  | .append => "append" | .pop => "pop" | .popAt => "pop" | .reverse => "reverse"
/-- the scope of a comprehension's block -/
def Sco.blk (Z : Sco) (scope : Scope) : Sco := { sc := relS scope Z.sc, fn := fun x => scope.names.lookup x == some .cell, N := Z.N, calm := Z.calm, ex := none }
def chkN (Z : Sco) : List Nat → List Expr → Bool
  | [], [] => true
  | i :: is, .Name x _ :: xs => stoB Z i x && chkN Z is xs
  | _, _ => false
def chkT (Z : Sco) : Tgt → Expr → Bool
  | .v i, x => (match x with | .Name n _ => stoB Z i n | _ => false)
  | .tp is, x => (match x with | .Tuple xs _ _ => Z.calm && chkN Z is xs | _ => false)
def Tgt.slots : Tgt → List Nat
  | .v i => [i]
  | .tp is => is
/-- a class that isinstance is asked about -/
def tyX (Z : Sco) (t : Ty) : Expr → Bool
  | .Name x _ => glB Z x && decide (x = (t.name : Str)) && bltN.contains x
  | _ => false
def tysX (Z : Sco) : List Ty → List Expr → Bool
  | [], [] => true
  | t :: ts, x :: xs => tyX Z t x && tysX Z ts xs
  | _, _ => false
/-- an error class by its name -/
def n2 (S : Sig) (c : Nat) : Str := match S.ecs[c]? with
  | some (n, _) => n
  | none => ""
def ecX (S : Sig) (Z : Sco) (c : Nat) : Expr → Bool
  | .Name x _ => glB Z x && decide (n2 S c = x) && decide (c < S.ecs.length)
  | _ => false
def ecsX (S : Sig) (Z : Sco) : List Nat → List Expr → Bool
  | [], [] => true
  | c :: cs, x :: xs => ecX S Z c x && ecsX S Z cs xs
  | _, _ => false
mutual
def chkE (S : Sig) : E → Sco → Expr → Bool
  | .var i, Z, x => (match x with | .Name n _ => visB Z i n | _ => false)
  | .int i, _, x => (match x with | .Constant (.int j) _ _ => decide (i = j) | _ => false)
  | .str s, _, x => (match x with | .Constant (.str z) _ _ => decide (s = z) | _ => false)
  | .bl b, _, x => (match x with | .Constant (.bool c) _ _ => b == c | _ => false)
  | .non, _, x => (match x with | .Constant .none _ _ => true | _ => false)
  | .bin op a b, Z, x => (match x with | .BinOp l o r _ => decide (o = op.py) && chkE S a Z l && chkE S b Z r | _ => false)
  | .neg a, Z, x => (match x with | .UnaryOp .USub y _ => chkE S a Z y | _ => false)
  | .not a, Z, x => (match x with | .UnaryOp .Not y _ => chkE S a Z y | _ => false)
  | .cmp op a b, Z, x => (match x with | .Compare l [o] [r] _ => decide (o = op.py) && okX r && chkE S a Z l && chkE S b Z r | _ => false)
  | .chain p q a b c, Z, x => (match x with | .Compare l [o, o2] [r, r2] _ => decide (o = p.py) && decide (o2 = q.py) && okX r2 && chkE S a Z l && chkE S b Z r && chkE S c Z r2 | _ => false)
  | .boo k es, Z, x => (match x with | .BoolOp o xs _ => decide (o = if k then .And else .Or) && !xs.isEmpty && chkEs S es Z xs | _ => false)
  | .ife c a b, Z, x => (match x with | .IfExp t y z _ => chkE S c Z t && chkE S a Z y && chkE S b Z z | _ => false)
  | .tup es, Z, x => (match x with | .Tuple xs _ _ => chkEs S es Z xs | _ => false)
  | .lst es, Z, x => (match x with | .List xs _ => chkEs S es Z xs | _ => false)
  | .call f es, Z, x => (match x with | .Call (.Name n _) xs [] _ => Z.calm && glB Z n && decide (S.fns[f]? = some n) && chkEs S es Z xs | _ => false)
  | .bi b es, Z, x => (match x with | .Call (.Name n _) xs [] _ => Z.calm && glB Z n && decide (n = b.nm) && (if b.isImp then S.gbi.contains b else true) && !xs.isEmpty && chkEs S es Z xs | _ => false)
  | .isin a ts tupled, Z, x => (match x with
    | .Call (.Name n _) [y, t] [] _ => glB Z n && decide (n = ("isinstance" : Str)) && okX y && decide (ts.length < 100) && chkE S a Z y && (if tupled then (match t with | .Tuple xs _ _ => tysX Z ts xs | _ => false) else (match ts with | [u] => tyX Z u t | _ => false))
    | _ => false)
  | .ix a i, Z, x => (match x with | .Subscript y j _ => okX j && chkE S a Z y && chkE S i Z j | _ => false)
  | .sl a lo hi, Z, x => (match x with | .Subscript y (.Slice l u none _) _ => chkE S a Z y && chkO S lo Z l && chkO S hi Z u | _ => false)
  | .meth m o es, Z, x => (match x with | .Call (.Attribute y n ap) xs [] cp => recvX y && decide (n = m.nm) && (ap.endLine == cp.line) && decide (xs.length < 20) && chkE S o Z y && chkEs S es Z xs | _ => false)
  | .comp own tg it c el, Z, x => (match x with
    | .ListComp y [⟨t, iter, ifs, 0⟩] scope _ => Z.calm && okX iter && chkI S it Z t iter && blkC Z.N Z.sc scope own && chkT (Z.blk scope) tg t && tg.slots.all (fun i => (own.map (·.2)).contains i) &&
      chkC S c (Z.blk scope) ifs && chkE S el (Z.blk scope) y
    | _ => false)
  | .cst n v, Z, x => (match x with | .Name m _ => glB Z m && decide (m = n) && S.csts.contains (n, v) | _ => false)
  | .lrg1 tp a, Z, x => (match x with
    | .Call (.Name n _) [.Call (.Name m _) [y] [] _] [] _ => Z.calm && glB Z n && glB Z m && decide (n = if tp then ("tuple" : Str) else "list") && decide (m = ("range" : Str)) && okX y && chkE S a Z y
    | _ => false)
  | .lrg2 tp a b, Z, x => (match x with
    | .Call (.Name n _) [.Call (.Name m _) [y, z] [] _] [] _ => Z.calm && glB Z n && glB Z m && decide (n = if tp then ("tuple" : Str) else "list") && decide (m = ("range" : Str)) && okX y && okX z && chkE S a Z y && chkE S b Z z
    | _ => false)
  | .lrg3 tp es, Z, x => (match x with
    | .Call (.Name n _) [.Call (.Name m _) [y1, y2, y3] [] _] [] _ => Z.calm && glB Z n && glB Z m && decide (n = if tp then ("tuple" : Str) else "list") && decide (m = ("range" : Str)) && chkEs S es Z [y1, y2, y3]
    | _ => false)
  | .xfld, Z, x => (match x with
    | .Attribute (.Name n _) f _ => (match Z.ex with
      | some (some (m, i), c) => decide (n = m) && visB Z i n && decide (S.ecs[c]? = some (n2 S c, f)) && decide (c ≠ 0)
      | _ => false)
    | _ => false)
  | .xis cs tupled, Z, x => (match x with
    | .Call (.Name n _) [.Name m _, t] [] _ => (match Z.ex with
      | some (some (m2, i), _) => glB Z n && decide (n = ("isinstance" : Str)) && decide (m = m2) && visB Z i m && decide (cs.length < 100) && (if tupled then (match t with | .Tuple xs _ _ => ecsX S Z cs xs | _ => false) else (match cs with | [c] => ecX S Z c t | _ => false))
      | _ => false)
    | _ => false)
def chkEs (S : Sig) : Es → Sco → List Expr → Bool
  | .nil, _, xs => xs.isEmpty
  | .cons a r, Z, xs => (match xs with | y :: ys => okX y && chkE S a Z y && chkEs S r Z ys | [] => false)
def chkO (S : Sig) : OE → Sco → Option Expr → Bool
  | .none, _, x => x.isNone
  | .some a, Z, x => (match x with | some y => chkE S a Z y | none => false)
/-- a comprehension's test -/
def chkC (S : Sig) : OE → Sco → List Expr → Bool
  | .none, _, xs => xs.isEmpty
  | .some a, Z, xs => (match xs with | [y] => chkE S a Z y | _ => false)
def chkI (S : Sig) : It → Sco → Expr → Expr → Bool
  | .seq a, Z, _, x => chkE S a Z x
  | .rng1 a, Z, _, x => (match x with | .Call (.Name n _) [y] [] _ => glB Z n && decide (n = ("range" : Str)) && okX y && chkE S a Z y | _ => false)
  | .rng2 a b, Z, _, x => (match x with | .Call (.Name n _) [y, z] [] _ => glB Z n && decide (n = ("range" : Str)) && okX y && okX z && chkE S a Z y && chkE S b Z z | _ => false)
  | .enum a, Z, t, x => (match t, x with | .Tuple _ _ _, .Call (.Name n _) [y] [] _ => glB Z n && decide (n = ("enumerate" : Str)) && okX y && chkE S a Z y | _, _ => false)
end
end PI

set_option Elab.async false
set_option linter.all false
set_option maxRecDepth 100000
set_option maxHeartbeats 4000000
/-! Each kind of expression keeps what it promises: names, constants, operators, comparisons, displays, calls. -/
namespace PI
open PySem PySem.Spec PyProof.Rows L2
/-- an expression's code is right: its value, its truth -/
def SE (S : Sig) (c : E) : Prop := ∀ {x : Expr} {P : Par} {X : L2.Cx} {Z : Sco} {W : WX}, Good S P X Z → Takes X W → chkE S c Z x = true → PE X x (tR P rD W (ev P.cx c false)) ∧ PT X x (tR P rB W (fun e h => asB (ev P.cx c true e h)))
def SEs (S : Sig) (c : Es) : Prop := ∀ {x : List Expr} {P : Par} {X : L2.Cx} {Z : Sco} {W : WX}, Good S P X Z → Takes X W → chkEs S c Z x = true → PA X x (tR P rDs W (evEs P.cx c)) ∧ x.all okX = true
def SO (S : Sig) (c : OE) : Prop := ∀ {x : Option Expr} {P : Par} {X : L2.Cx} {Z : Sco} {W : WX}, Good S P X Z → Takes X W → chkO S c Z x = true → PO X x (tR P rO W (evO P.cx c))
section
variable {S : Sig} {P : Par} {X : L2.Cx} {Z : Sco} {W : WX}
/-- where the expression has a plain shape -/
theorem both {x : Expr} {m : Env → HP → Res D} {f : Bool → Env → HP → Res D} (g : Good S P X Z) (h : PE X x (tR P rD W m)) (hp : plainX x = true) (hf : ∀ t e h, f t e h = fin t (m e h)) :
    PE X x (tR P rD W (f false)) ∧ PT X x (tR P rB W (fun e h => asB (f true e h))) := by
  have e1 : f false = m := by funext e h; rw [hf]; rfl
  have e2 : (fun e h => asB (f true e h)) = fun e h => asB (fin true (m e h)) := by funext e h; rw [hf]
  rw [e1, e2]
  exact ⟨h, pt_own g.hK h hp⟩
theorem se_var (i : Nat) : SE S (.var i) := by
  intro x P X Z W g tk h
  unfold chkE at h
  split at h
  · rename_i n pos
    obtain ⟨h1, h2, h3, h4⟩ := g.vis h
    refine both g (m := fun e h => match e[i]? with | some (some d) => .ok d h | _ => .stuck) (pe_imp (pe_var h1 h2 h3 h4) fun σ H Q ⟨e, hh, μ, r, p⟩ => ?_) rfl (fun t e h => rfl)
    simp only at p
    split at p
    · rename_i d q
      obtain ⟨v, e1, rv⟩ := r.env.at_ i d q
      exact ⟨v, e1, ans p r.heap rv⟩
    · exact p.elim
  · cases h
theorem se_int (i : Int) : SE S (.int i) := by
  intro x P X Z W g tk h
  unfold chkE at h
  split at h
  · have e := of_decide_eq_true h
    subst e
    exact both g (m := fun e h => .ok (.int i) h) (pe_imp pe_int fun σ H Q ⟨e, hh, μ, r, p⟩ => ans p r.heap rv_int) rfl fun t e h => rfl
  · cases h
theorem se_str (i : Str) : SE S (.str i) := by
  intro x P X Z W g tk h
  unfold chkE at h
  split at h
  · have e := of_decide_eq_true h
    subst e
    exact both g (m := fun e h => .ok (.str i) h) (pe_imp pe_str fun σ H Q ⟨e, hh, μ, r, p⟩ => ans p r.heap rv_str) rfl fun t e h => rfl
  · cases h
theorem se_bl (i : Bool) : SE S (.bl i) := by
  intro x P X Z W g tk h
  unfold chkE at h
  split at h
  · have e := eq_of_beq h
    subst e
    exact both g (m := fun e h => .ok (.bl i) h) (pe_imp pe_bl fun σ H Q ⟨e, hh, μ, r, p⟩ => ans p r.heap rv_bl) rfl fun t e h => rfl
  · cases h
theorem se_non : SE S .non := by
  intro x P X Z W g tk h
  unfold chkE at h
  split at h
  · exact both g (m := fun e h => .ok .non h) (pe_imp pe_non fun σ H Q ⟨e, hh, μ, r, p⟩ => ans p r.heap rv_non) rfl fun t e h => rfl
  · cases h
theorem se_bin {op : BOp} {a b : E} (ha : SE S a) (hb : SE S b) : SE S (.bin op a b) := by
  intro x P X Z W g tk h
  unfold chkE at h
  split at h
  · simp only [Bool.and_eq_true, decide_eq_true_eq] at h
    obtain ⟨⟨rfl, h1⟩, h2⟩ := h
    refine both g (m := fun e h => (ev P.cx a false e h).bind fun x h1 => (ev P.cx b false e h1).bind fun y h2 => binD op x y h2)
      (pe_imp (pe_op (op_binA g.hK op) (ha g tk h1).1 (hb g tk h2).1) fun σ H Q t => ?_) rfl fun t e h => rfl
    have t2 := tR_two (R := rD) (R2 := rD) (fun x r => RV.mono x _ _ r) t
    obtain ⟨e, hh, μ, r, p⟩ := t2
    refine ⟨e, hh, μ, r, p.mono fun v H1 ⟨e, hh, μ, r, p⟩ => ⟨e, hh, μ, r, p.mono fun w H2 ⟨h2, μ2, d1, d2, r1, r2, rh, _, p⟩ => ?_⟩⟩
    exact ⟨h2, μ2, d1, d2, _, r1, r2, rh, p⟩
  · cases h
theorem se_neg {a : E} (ha : SE S a) : SE S (.neg a) := by
  intro x P X Z W g tk h
  unfold chkE at h
  split at h
  · refine both g (m := fun e h => (ev P.cx a false e h).bind negD) (pe_imp (pe_un un_neg (ha g tk h).1) fun σ H Q t => ?_) rfl fun t e h => rfl
    obtain ⟨e, hh, μ, r, p⟩ := tR_one (R := rD) (f := fun _ => negD) t
    refine ⟨e, hh, μ, r, p.mono fun v H1 ⟨e, h1, μ1, d, r, rd, p⟩ => ?_⟩
    cases d with
    | int i => exact ⟨i, RV.int_ rd, ans p r.heap rv_int⟩
    | _ => exact p.elim
  · cases h
/-- an answer that is a truth value -/
theorem Post.ofO {P : Par} {W : XK} {H : Hp} {μ : Nat → Addr} {h : HP} {Q : VK} {o : Option Bool} (p : Post P rD W H μ h.length (ofO o h) Q) (rh : RH P.K H μ h) : ∃ k, o = some k ∧ Q (.bl k) H := by
  cases o with
  | none => exact p.elim
  | some k => exact ⟨k, rfl, ans p rh rv_bl⟩
/-- what comes, if anything, is a truth value -/
def Blv (r : Res D) : Prop := ∀ d h, r = .ok d h → ∃ k, d = .bl k
theorem Blv.bind {α : Type} {r : Res α} {f : α → HP → Res D} (k : ∀ a h, Blv (f a h)) : Blv (r.bind f) := by
  intro d h e
  cases r with
  | ok a h1 => exact k a h1 d h e
  | exc c d h => cases e
  | stuck => cases e
theorem Blv.ofO {o : Option Bool} {h : HP} : Blv (ofO o h) := by
  intro d h' e
  cases o with
  | none => cases e
  | some k => cases e; exact ⟨k, rfl⟩
theorem Post.blv {P : Par} {W : XK} {H : Hp} {μ : Nat → Addr} {n : Nat} {r : Res D} {Q : Bool → Hp → Prop} (hr : Blv r) (q : Post P rB W H μ n (tstR r) Q) : Post P rD W H μ n r (fun v H' => ∃ k, v = .bl k ∧ Q k H') := by
  cases r with
  | ok d h =>
    obtain ⟨k, rfl⟩ := hr d h rfl
    exact fun v μ' H' y rv rh => ⟨k, RV.bl_ rv, q k μ' H' y rfl rh⟩
  | exc c d h => exact q
  | stuck => exact q
theorem se_cmp {op : COp} {a b : E} (ha : SE S a) (hb : SE S b) : SE S (.cmp op a b) := by
  intro x P X Z W g tk h
  unfold chkE at h
  split at h
  · rename_i l o r pos
    simp only [Bool.and_eq_true, decide_eq_true_eq] at h
    obtain ⟨⟨⟨rfl, h0⟩, h1⟩, h2⟩ := h
    have un := g.un
    have R := op_cmp (X := X) g.hK (by omega) op
    have key : ∀ {σ : L2.St} {H : Hp} {Q : VK} {m : Env → HP → Res D}, (∀ e h, m e h = (ev P.cx a false e h).bind fun x h1 => (ev P.cx b false e h1).bind fun y h2 => ofO (cmpD h2 op x y) h2) → tR P rD W m σ H Q → tOp (rC P op) (tR P rD W (ev P.cx a false)) (tR P rD W (ev P.cx b false)) σ H Q := by
      intro σ H Q m hm t
      have t : tR P rD W (fun e h => (ev P.cx a false e h).bind fun x h1 => (ev P.cx b false e h1).bind fun y h2 => ofO (cmpD h2 op x y) h2) σ H Q := by
        have : m = fun e h => (ev P.cx a false e h).bind fun x h1 => (ev P.cx b false e h1).bind fun y h2 => ofO (cmpD h2 op x y) h2 := by funext e h; exact hm e h
        rw [← this]; exact t
      obtain ⟨e, hh, μ, r, p⟩ := tR_two (R := rD) (R2 := rD) (fun x r => RV.mono x _ _ r) t
      refine ⟨e, hh, μ, r, p.mono fun v H1 ⟨e, hh, μ, r, p⟩ => ⟨e, hh, μ, r, p.mono fun w H2 ⟨h2, μ2, d1, d2, r1, r2, rh, _, p⟩ => ?_⟩⟩
      obtain ⟨k, e1, q⟩ := p.ofO rh
      exact ⟨h2, μ2, d1, d2, k, r1, r2, rh, e1, q⟩
    have hpe : PE X (.Compare l [op.py] [r] pos) (tR P rD W (ev P.cx (.cmp op a b) false)) := pe_imp (pe_cmpR R (ha g tk h1).1 (hb g tk h2).1 (marks_ok h0)) fun σ H Q t => key (fun e h => rfl) t
    refine ⟨hpe, pt_imp (pt_cmpR R (ha g tk h1).1 (hb g tk h2).1 (marks_ok h0)) fun σ H Q ⟨e, hh, μ, r, p⟩ => ?_⟩
    have p2 : Post P rB (fun c d H => W c d σ H) H μ hh.length (tstR ((ev P.cx a false e hh).bind fun x h1 => (ev P.cx b false e h1).bind fun y h2 => ofO (cmpD h2 op x y) h2)) Q := by rw [← asB_fin]; exact p
    refine key (m := fun e h => (ev P.cx a false e h).bind fun x h1 => (ev P.cx b false e h1).bind fun y h2 => ofO (cmpD h2 op x y) h2) (fun e h => rfl) ⟨e, hh, μ, r, ?_⟩
    exact p2.blv (Blv.bind fun _ _ => Blv.bind fun _ _ => Blv.ofO)
  · cases h
end
end PI

set_option Elab.async false
set_option linter.all false
set_option maxRecDepth 100000
set_option maxHeartbeats 4000000
/-! Each kind of expression keeps what it promises: not, if-else, and, or, chains, displays, calls, subscripts, methods. -/
namespace PI
open PySem PySem.Spec PyProof.Rows L2
section
variable {S : Sig}
theorem ses_nil : SEs S .nil := by
  intro x P X Z W g tk h
  unfold chkEs at h
  have e : x = [] := by simpa using h
  subst e
  exact ⟨pa_imp pa_nil fun σ H Q ⟨e, hh, μ, r, p⟩ => p [] μ H Ext.refl RVs.nil r.heap, rfl⟩
theorem ses_cons {a : E} {r : Es} (ha : SE S a) (hr : SEs S r) : SEs S (.cons a r) := by
  intro x P X Z W g tk h
  cases x with
  | nil => unfold chkEs at h; cases h
  | cons y ys =>
    unfold chkEs at h
    simp only [Bool.and_eq_true] at h
    obtain ⟨⟨h0, h1⟩, h2⟩ := h
    obtain ⟨k1, k2⟩ := hr g tk h2
    refine ⟨pa_imp (pa_cons (ha g tk h1).1 k1 (star_cons h0)) fun σ H Q t => ?_, by rw [List.all_cons, h0, k2]; rfl⟩
    obtain ⟨e, hh, μ, r, p⟩ := tR_two (R := rD) (R2 := rDs) (f := fun a b h => .ok (a :: b) h) (fun x r => RV.mono x _ _ r) t
    refine ⟨e, hh, μ, r, p.mono fun v H1 ⟨e, hh, μ, r, p⟩ => ⟨e, hh, μ, r, p.mono fun w H2 ⟨h2, μ2, d1, d2, r1, r2, rh, _, p⟩ => ?_⟩⟩
    exact p _ μ2 H2 Ext.refl (RVs.cons r1 r2) rh
theorem se_not {a : E} (ha : SE S a) : SE S (.not a) := by
  intro x P X Z W g tk h
  unfold chkE at h
  split at h
  · obtain ⟨k1, k2⟩ := ha g tk h
    refine ⟨pe_imp (pe_notT k1) fun σ H Q ⟨e, hh, μ, r, p⟩ => ?_, pt_imp (pt_not k2) fun σ H Q ⟨e, hh, μ, r, p⟩ => ?_⟩
    · have p0 : Post P rD (fun c d H => W c d σ H) H μ hh.length ((tstR (ev P.cx a false e hh)).bind fun b h1 => Res.ok (D.bl !b) h1) Q := p
      have p1 := Post.bind (R := rB) p0
      refine ⟨e, hh, μ, r, p1.tst.mono fun v H1 ⟨k, tr, b, h1, μ1, x1, rb, rh, q⟩ => ?_⟩
      have rb' : b = k := rb
      subst rb'
      rw [g.hK] at tr
      exact ⟨b, tr, ans q rh rv_bl⟩
    · have e1 : asB ((asB (ev P.cx a true e hh)).bind fun b h1 => Res.ok (D.bl !b) h1) = (asB (ev P.cx a true e hh)).bind fun b h1 => Res.ok (!b) h1 := by
        cases asB (ev P.cx a true e hh) <;> rfl
      have p' : Post P rB (fun c d H => W c d σ H) H μ hh.length ((asB (ev P.cx a true e hh)).bind fun b h1 => Res.ok (!b) h1) Q := by rw [← e1]; exact p
      refine ⟨e, hh, μ, r, (Post.bind (R := rB) p').mono fun k H1 ⟨b, h1, μ1, x1, rb, rh, q⟩ => ?_⟩
      have rb' : b = k := rb
      subst rb'
      exact q _ μ1 H1 Ext.refl rfl rh
  · cases h
/-- a if c else b, its truth -/
theorem pt_ifx {X : L2.Cx} {c a b : Expr} {pos : Pos} {tc ta tb : TT} (hc : PT X c tc) (ha : PT X a ta) (hb : PT X b tb) : PT X (.IfExp c a b pos) (fun σ H Q => tc σ H fun k H1 => if k = true then ta σ H1 Q else tb σ H1 Q) := by
  refine ⟨fun pins s σ H Q I h => ?_⟩
  show wpAny _ _ (do if ← isTrue c X.env (eval c X.env) then isTrue a X.env (eval a X.env) else isTrue b X.env (eval b X.env)) _ _ s
  refine wpAny_bind (thn (hc.run pins s σ H _ I h) fun k s1 ⟨H1, I1, q⟩ => ?_)
  cases k with
  | true => exact ha.run pins s1 σ H1 Q I1 q
  | false => exact hb.run pins s1 σ H1 Q I1 q
theorem asB_bind {α : Type} (r : Res α) (f : α → HP → Res D) : asB (r.bind f) = r.bind fun a h => asB (f a h) := by cases r <;> rfl
theorem se_ife {c a b : E} (hc : SE S c) (ha : SE S a) (hb : SE S b) : SE S (.ife c a b) := by
  intro x P X Z W g tk h
  unfold chkE at h
  split at h
  · simp only [Bool.and_eq_true] at h
    obtain ⟨⟨h1, h2⟩, h3⟩ := h
    obtain ⟨_, kc⟩ := hc g tk h1
    obtain ⟨a1, a2⟩ := ha g tk h2
    obtain ⟨b1, b2⟩ := hb g tk h3
    refine ⟨pe_imp (pe_ifExp kc a1 b1) fun σ H Q t => ?_, pt_imp (pt_ifx kc a2 b2) fun σ H Q t => ?_⟩
    · obtain ⟨e, hh, μ, r, p⟩ := tR_one (R := rB) (m := fun e h => asB (ev P.cx c true e h)) (f := fun e k h1 => if k then ev P.cx a false e h1 else ev P.cx b false e h1) t
      refine ⟨e, hh, μ, r, p.mono fun k H1 ⟨e, h1, μ1, k', r, rk, p⟩ => ?_⟩
      have rk' : k' = k := rk
      subst rk'
      cases k' with
      | true => exact ⟨e, h1, μ1, r, p⟩
      | false => exact ⟨e, h1, μ1, r, p⟩
    · have e1 : (fun e h => asB (ev P.cx (.ife c a b) true e h)) = fun e h => (asB (ev P.cx c true e h)).bind ((fun e k h1 => if k = true then asB (ev P.cx a true e h1) else asB (ev P.cx b true e h1)) e) := by
        funext e h
        show asB ((asB (ev P.cx c true e h)).bind _) = _
        rw [asB_bind]
        congr 1
        funext k h1
        cases k <;> rfl
      rw [e1] at t
      obtain ⟨e, hh, μ, r, p⟩ := tR_one (R := rB) t
      refine ⟨e, hh, μ, r, p.mono fun k H1 ⟨e, h1, μ1, k', r, rk, p⟩ => ?_⟩
      have rk' : k' = k := rk
      subst rk'
      cases k' with
      | true => exact ⟨e, h1, μ1, r, p⟩
      | false => exact ⟨e, h1, μ1, r, p⟩
  · cases h
/-- and, or -/
def opB (k : Bool) : BoolOp := if k then .And else .Or
def SBs (S : Sig) (c : Es) : Prop := ∀ {x : List Expr} {P : Par} {X : L2.Cx} {Z : Sco} {W : WX} {k : Bool} {pos : Pos}, Good S P X Z → Takes X W → chkEs S c Z x = true → x ≠ [] →
  PE X (.BoolOp (opB k) x pos) (tR P rD W (evBs P.cx k false c)) ∧ PW X (.BoolOp (opB k) x pos) (tR P rB W (fun e h => asB (evBs P.cx k true c e h)))
theorem pw_imp {X : L2.Cx} {e : Expr} {t t' : TT} (h : PW X e t) (k : ∀ σ H Q, t' σ H Q → t σ H Q) : PW X e t' := ⟨fun wh pins s σ H Q I q => h.run wh pins s σ H Q I (k σ H Q q)⟩
theorem sbs_nil : SBs S .nil := by
  intro x P X Z W k pos g tk h hne
  unfold chkEs at h
  exact absurd (by simpa using h) hne
/-- a value that is asked as a truth value -/
theorem Post.asBl {P : Par} {W : XK} {H : Hp} {μ : Nat → Addr} {n : Nat} {r : Res D} {Q : Bool → Hp → Prop} (q : Post P rB W H μ n (asB r) Q) : Post P rD W H μ n r (fun v H' => ∃ k, v = .bl k ∧ Q k H') := by
  cases r with
  | ok d h =>
    cases d with
    | bl k => exact fun v μ' H' y rv rh => ⟨k, RV.bl_ rv, q k μ' H' y rfl rh⟩
    | _ => exact q.elim
  | exc c d h => exact q
  | stuck => exact q
theorem sbs_cons {a : E} {r : Es} (ha : SE S a) (hr : SBs S r) : SBs S (.cons a r) := by
  intro x P X Z W k pos g tk h hne
  cases x with
  | nil => exact absurd rfl hne
  | cons y ys =>
    unfold chkEs at h
    simp only [Bool.and_eq_true] at h
    obtain ⟨⟨h0, h1⟩, h2⟩ := h
    obtain ⟨a1, a2⟩ := ha g tk h1
    cases r with
    | nil =>
      have e : ys = [] := by unfold chkEs at h2; simpa using h2
      subst e
      refine ⟨pe_one a1, ?_⟩
      cases k with
      | true => exact pw_and1 a2
      | false => exact pw_or1 a2
    | cons b r' =>
      cases ys with
      | nil => unfold chkEs at h2; cases h2
      | cons z zs =>
        obtain ⟨r1, r2⟩ := hr (k := k) (pos := pos) g tk h2 (by simp)
        have t1 : ∀ {σ : L2.St} {H : Hp} {Q : VK}, tR P rD W (evBs P.cx k false (.cons a (.cons b r'))) σ H Q →
            tR P rD W (ev P.cx a false) σ H (fun v H1 => ∃ j, v = .bl j ∧ if j = k then tR P rD W (evBs P.cx k false (.cons b r')) σ H1 Q else Q (.bl j) H1) := by
          intro σ H Q ⟨e, hh, μ, r, p⟩
          have p' : Post P rD (fun c d H => W c d σ H) H μ hh.length ((asB (ev P.cx a false e hh)).bind fun j h1 => if j == k then evBs P.cx k false (.cons b r') e h1 else .ok (.bl j) h1) Q := p
          have p2 := Post.bind (R := rB) p'
          refine ⟨e, hh, μ, r, p2.asBl.mono fun v H1 ⟨j, ev, j', h1, μ1, x1, rj, rh, q⟩ => ⟨j, ev, ?_⟩⟩
          have rj' : j' = j := rj
          subst rj'
          by_cases hj : j' = k
          · rw [if_pos hj]
            rw [if_pos (by simpa using hj)] at q
            exact ⟨e, h1, μ1, r.mono x1 rh, q⟩
          · rw [if_neg hj]
            rw [if_neg (by simpa using hj)] at q
            exact ans q rh rv_bl
        have t2 : ∀ {σ : L2.St} {H : Hp} {Q : Bool → Hp → Prop}, tR P rB W (fun e h => asB (evBs P.cx k true (.cons a (.cons b r')) e h)) σ H Q →
            tR P rB W (fun e h => asB (ev P.cx a true e h)) σ H (fun j H1 => if j = k then tR P rB W (fun e h => asB (evBs P.cx k true (.cons b r') e h)) σ H1 Q else Q j H1) := by
          intro σ H Q ⟨e, hh, μ, r, p⟩
          have p' : Post P rB (fun c d H => W c d σ H) H μ hh.length ((asB (ev P.cx a true e hh)).bind fun j h1 => asB (if j == k then evBs P.cx k true (.cons b r') e h1 else .ok (.bl j) h1)) Q := by rw [← asB_bind]; exact p
          have p2 := Post.bind (R := rB) p'
          refine ⟨e, hh, μ, r, p2.mono fun j H1 ⟨j', h1, μ1, x1, rj, rh, q⟩ => ?_⟩
          have rj' : j' = j := rj
          subst rj'
          by_cases hj : j' = k
          · rw [if_pos hj]
            rw [if_pos (by simpa using hj)] at q
            exact ⟨e, h1, μ1, r.mono x1 rh, q⟩
          · rw [if_neg hj]
            rw [if_neg (by simpa using hj)] at q
            exact q _ μ1 H1 Ext.refl rfl rh
        cases k with
        | true =>
          refine ⟨pe_imp (pe_and a1 r1) fun σ H Q t => ?_, pw_imp (pw_and a2 r2) fun σ H Q t => ?_⟩
          · obtain ⟨e, hh, μ, r, p⟩ := t1 t
            refine ⟨e, hh, μ, r, p.mono fun v H1 ⟨j, e1, q⟩ => ⟨j, e1, ?_⟩⟩
            cases j <;> exact q
          · obtain ⟨e, hh, μ, r, p⟩ := t2 t
            refine ⟨e, hh, μ, r, p.mono fun j H1 q => ?_⟩
            cases j <;> exact q
        | false =>
          refine ⟨pe_imp (pe_or a1 r1) fun σ H Q t => ?_, pw_imp (pw_or a2 r2) fun σ H Q t => ?_⟩
          · obtain ⟨e, hh, μ, r, p⟩ := t1 t
            refine ⟨e, hh, μ, r, p.mono fun v H1 ⟨j, e1, q⟩ => ⟨j, e1, ?_⟩⟩
            cases j <;> exact q
          · obtain ⟨e, hh, μ, r, p⟩ := t2 t
            refine ⟨e, hh, μ, r, p.mono fun j H1 q => ?_⟩
            cases j <;> exact q
theorem se_boo {k : Bool} {es : Es} (h : SBs S es) : SE S (.boo k es) := by
  intro x P X Z W g tk hc
  unfold chkE at hc
  split at hc
  · rename_i o xs pos
    simp only [Bool.and_eq_true, decide_eq_true_eq, Bool.not_eq_true', List.isEmpty_eq_false_iff] at hc
    obtain ⟨⟨rfl, h1⟩, h2⟩ := hc
    obtain ⟨k1, k2⟩ := h (k := k) (pos := pos) g tk h2 h1
    exact ⟨k1, k2.pt⟩
  · cases hc
end
end PI

set_option Elab.async false
set_option linter.all false
set_option maxRecDepth 100000
set_option maxHeartbeats 4000000
/-! Each kind of expression keeps what it promises: chains, displays, calls, subscripts, methods. -/
namespace PI
open PySem PySem.Spec PyProof.Rows L2
section
variable {S : Sig}
theorem se_chain {p q : COp} {a b c : E} (ha : SE S a) (hb : SE S b) (hc : SE S c) : SE S (.chain p q a b c) := by
  intro x P X Z W g tk h
  unfold chkE at h
  split at h
  · rename_i l o o2 r r2 pos
    simp only [Bool.and_eq_true, decide_eq_true_eq] at h
    obtain ⟨⟨⟨⟨⟨rfl, rfl⟩, h0⟩, h1⟩, h2⟩, h3⟩ := h
    have un := g.un
    have R1 := op_cmp (X := X) g.hK (by omega) p
    have R2 := op_cmp (X := X) g.hK (by omega) q
    have lm : lastMarks [p.py, q.py] [r, r2] = false := marks_ok h0
    let m : Env → HP → Res D := fun e h => (ev P.cx a false e h).bind fun x h1 => (ev P.cx b false e h1).bind fun y h2 => (ofB (cmpD h2 p x y) h2).bind fun k h3 =>
      if k then (ev P.cx c false e h3).bind fun z h4 => ofO (cmpD h4 q y z) h4 else .ok (.bl false) h3
    have key : ∀ {σ : L2.St} {H : Hp} {Q : VK}, tR P rD W m σ H Q → tChain (rC P p) (rC P q) (tR P rD W (ev P.cx a false)) (tR P rD W (ev P.cx b false)) (tR P rD W (ev P.cx c false)) σ H Q := by
      intro σ H Q ⟨e, hh, μ, r, pp⟩
      refine ⟨e, hh, μ, r, (Post.bind (R := rD) pp).mono fun v H1 ⟨d1, h1, μ1, x1, r1, rh1, q1⟩ => ?_⟩
      have rel1 := r.mono x1 rh1
      refine ⟨e, h1, μ1, rel1, (Post.bind (R := rD) q1).mono fun w H2 ⟨d2, h2, μ2, x2, r2, rh2, q2⟩ => ?_⟩
      have rel2 := rel1.mono x2 rh2
      have r1' := RV.mono x2 _ _ r1
      cases ec : cmpD h2 p d1 d2 with
      | none => rw [ec] at q2; exact q2.elim
      | some k =>
        rw [ec] at q2
        refine ⟨h2, μ2, d1, d2, k, r1', r2, rh2, ec, k, rfl, ?_⟩
        cases k with
        | false =>
          rw [if_neg (by decide)]
          exact ans (P := P) (d := .bl false) q2 rh2 rv_bl
        | true =>
          rw [if_pos rfl]
          have q3 : Post P rD (fun c d H => W c d σ H) H2 μ2 h2.length ((ev P.cx c false e h2).bind fun z h4 => ofO (cmpD h4 q d2 z) h4) Q := q2
          refine ⟨e, h2, μ2, rel2, (Post.bind (R := rD) q3).mono fun u H3 ⟨d3, h3, μ3, x3, r3, rh3, q4⟩ => ?_⟩
          obtain ⟨k2, e2, q5⟩ := q4.ofO rh3
          exact ⟨h3, μ3, d2, d3, k2, RV.mono x3 _ _ r2, r3, rh3, e2, q5⟩
    have hpe : PE X (.Compare l [p.py, q.py] [r, r2] pos) (tR P rD W (ev P.cx (.chain p q a b c) false)) := pe_imp (pe_chain R1 R2 (ha g tk h1).1 (hb g tk h2).1 (hc g tk h3).1 lm) fun σ H Q t => key t
    refine ⟨hpe, pt_imp (pt_chain R1 R2 (ha g tk h1).1 (hb g tk h2).1 (hc g tk h3).1 lm) fun σ H Q ⟨e, hh, μ, r, pp⟩ => ?_⟩
    have p2 : Post P rB (fun c d H => W c d σ H) H μ hh.length (tstR (m e hh)) Q := by rw [← asB_fin]; exact pp
    refine key ⟨e, hh, μ, r, p2.blv (Blv.bind fun _ _ => Blv.bind fun _ _ => Blv.bind fun k h3 => ?_)⟩
    cases k with
    | true => exact Blv.bind fun _ _ => Blv.ofO
    | false => intro d h e; cases e; exact ⟨false, rfl⟩
  · cases h
theorem se_tup {es : Es} (hs : SEs S es) : SE S (.tup es) := by
  intro x P X Z W g tk h
  unfold chkE at h
  split at h
  · obtain ⟨k1, _⟩ := hs g tk h
    refine both g (m := fun e h => (evEs P.cx es e h).bind tupR) (pe_imp (pe_tup k1) fun σ H Q ⟨e, hh, μ, r, p⟩ => ?_) rfl fun t e h => rfl
    refine ⟨e, hh, μ, r, (Post.bind (R := rDs) p).mono fun vs H1 ⟨ds, h1, μ1, x1, r1, rh1, q⟩ => ?_⟩
    unfold tupR at q
    split at q
    · rename_i hz
      exact ⟨by rw [RVs.length r1, ← sl_line]; exact hz, fun p hp => ansT q rh1 r1 hp⟩
    · exact q.elim
  · cases h
theorem se_lst {es : Es} (hs : SEs S es) : SE S (.lst es) := by
  intro x P X Z W g tk h
  unfold chkE at h
  split at h
  · obtain ⟨k1, _⟩ := hs g tk h
    refine both g (m := fun e h => (evEs P.cx es e h).bind lstR) (pe_imp (pe_lst k1) fun σ H Q ⟨e, hh, μ, r, p⟩ => ?_) rfl fun t e h => rfl
    refine ⟨e, hh, μ, r, (Post.bind (R := rDs) p).mono fun vs H1 ⟨ds, h1, μ1, x1, r1, rh1, q⟩ => ?_⟩
    unfold lstR at q
    split at q
    · rename_i hz
      exact ⟨by rw [RVs.length r1, ← sl_line]; exact hz, fun p hp => ansL q rh1 r1 hp⟩
    · exact q.elim
  · cases h
theorem rg_rows {K : PySem.W.Frag} {H : Hp} {μ : Nat → Addr} {n : Nat} (i j : Int) : RVs K H μ n (rngL i j) (rgV i j) := by
  unfold rngL rgV
  generalize List.range (j - i).toNat = l
  induction l with
  | nil => exact RVs.nil
  | cons k l ih => exact RVs.cons rv_int ih
theorem lrg_ans {P : Par} {H : Hp} {μ : Nat → Addr} {h : HP} {tp : Bool} {i j : Int} {W : XK} {Q : VK} (rh : RH P.K H μ h) (p : Post P rD W H μ h.length (lrgD tp i j h) Q) : RgOk i j ∧ ∀ q, H q = none → Q (.ref q) (upd H q (if tp then .tup (rgV i j) else .lst (rgV i j))) := by
  unfold lrgD at p
  split at p
  · rename_i z
    have y := of_decide_eq_true (p := -(2 ^ 62) ≤ i ∧ i < 2 ^ 62 ∧ -(2 ^ 62) ≤ j ∧ j < 2 ^ 62 ∧ (j - i).toNat ≤ 2 ^ 24) z
    refine ⟨y, fun q hq => ?_⟩
    cases tp with
    | true => exact ansT p rh (rg_rows i j) hq
    | false => exact ansL p rh (rg_rows i j) hq
  · exact p.elim
theorem pe_lrg {X : L2.Cx} {e : Expr} {te : L2.St → Hp → (Int → Int → Hp → Prop) → Prop} {n : Str} {p pos : Pos} (tp : Bool) (hn : n = if tp then ("tuple" : Str) else "list") (hc : X.calm = true) (hg : Gl X n) (hm : X.mg n = none) (he : PRg X e te) (na : starEach [e] X.env = (false, eval e X.env) :: starEach [] X.env) :
    PE X (.Call (.Name n p) [e] [] pos) (fun σ H Q => te σ H fun a b H1 => RgOk a b ∧ ∀ q, H1 q = none → Q (.ref q) (upd H1 q (if tp then .tup (rgV a b) else .lst (rgV a b)))) := by
  cases tp with
  | true => subst hn; exact pe_tupRg hc hg hm he na
  | false => subst hn; exact pe_listRg hc hg hm he na
theorem se_cst {n : Str} {v : Int} : SE S (.cst n v) := by
  intro x P X Z W g tk h
  unfold chkE at h
  split at h
  · rename_i m pos
    simp only [Bool.and_eq_true, decide_eq_true_eq] at h
    obtain ⟨⟨h1, rfl⟩, h3⟩ := h
    obtain ⟨gl, hd⟩ := g.gl h1
    obtain ⟨t, ht⟩ := g.cst (m, v) (by simpa using h3)
    exact both g (m := fun e h => .ok (.int v) h) (pe_imp (pe_glob (v := .int v) gl ht ⟨t, rfl⟩ hd) fun σ H Q ⟨e, hh, μ, r, p⟩ => ans p r.heap rv_int) rfl fun t e h => rfl
  · cases h
theorem se_lrg1 {tp : Bool} {a : E} (ha : SE S a) : SE S (.lrg1 tp a) := by
  intro x P X Z W g tk h
  unfold chkE at h
  split at h
  · rename_i n p0 m p1 y p2 pos
    simp only [Bool.and_eq_true, decide_eq_true_eq] at h
    obtain ⟨⟨⟨⟨⟨⟨h1, h2⟩, h3⟩, h4⟩, h5⟩, h6⟩, h7⟩ := h
    obtain ⟨gl, hd⟩ := g.gl h2
    obtain ⟨gl2, hd2⟩ := g.gl h3
    subst h5
    have m1 : X.mg n = none := by rw [h4]; cases tp <;> exact g.blt _ (by decide)
    refine both g (m := fun e h => (ev P.cx a false e h).bind (lrgR1 tp)) (pe_imp (pe_lrg tp h4 (g.calm h1) gl m1 (prg_1 gl2 (g.blt _ (by decide)) (ha g tk h7).1 (star_cons h6)) (star_cons rfl)) fun σ H Q t => ?_) rfl fun t e h => rfl
    obtain ⟨e, hh, μ, r, p⟩ := tR_one (R := rD) (f := fun _ => lrgR1 tp) t
    refine ⟨e, hh, μ, r, p.mono fun v H1 ⟨e, h1, μ1, d, r, rd, p⟩ => ?_⟩
    cases d with
    | int j => exact ⟨j, RV.int_ rd, lrg_ans r.heap p⟩
    | _ => exact p.elim
  · cases h
theorem se_lrg2 {tp : Bool} {a b : E} (ha : SE S a) (hb : SE S b) : SE S (.lrg2 tp a b) := by
  intro x P X Z W g tk h
  unfold chkE at h
  split at h
  · rename_i n p0 m p1 y z p2 pos
    simp only [Bool.and_eq_true, decide_eq_true_eq] at h
    obtain ⟨⟨⟨⟨⟨⟨⟨⟨h1, h2⟩, h3⟩, h4⟩, h5⟩, h6⟩, h6'⟩, h7⟩, h8⟩ := h
    obtain ⟨gl, hd⟩ := g.gl h2
    obtain ⟨gl2, hd2⟩ := g.gl h3
    subst h5
    have m1 : X.mg n = none := by rw [h4]; cases tp <;> exact g.blt _ (by decide)
    refine both g (m := fun e h => (ev P.cx a false e h).bind fun x h1 => (ev P.cx b false e h1).bind fun y h2 => lrgR2 tp x y h2) (pe_imp (pe_lrg tp h4 (g.calm h1) gl m1 (prg_2 gl2 (g.blt _ (by decide)) (ha g tk h7).1 (hb g tk h8).1 (star_cons h6) (star_cons h6') (star_plain (by simp [h6']))) (star_cons rfl)) fun σ H Q t => ?_) rfl fun t e h => rfl
    have t2 := tR_two (R := rD) (R2 := rD) (fun x r => RV.mono x _ _ r) t
    obtain ⟨e, hh, μ, r, p⟩ := t2
    refine ⟨e, hh, μ, r, p.mono fun v H1 ⟨e, hh, μ, r, p⟩ => ⟨e, hh, μ, r, p.mono fun w H2 ⟨h2, μ2, d1, d2, r1, r2, rh, _, p⟩ => ?_⟩⟩
    cases d1 with
    | int i =>
      cases d2 with
      | int j => exact ⟨i, j, RV.int_ r1, RV.int_ r2, lrg_ans rh p⟩
      | _ => exact p.elim
    | _ => exact p.elim
  · cases h
theorem rg3_rows {K : PySem.W.Frag} {H : Hp} {μ : Nat → Addr} {n : Nat} (i j c : Int) : RVs K H μ n (rng3L i j c) (rg3V i j c) := by
  unfold rng3L rg3V
  generalize List.range (rgN i j c) = l
  induction l with
  | nil => exact RVs.nil
  | cons k l ih => exact RVs.cons rv_int ih
theorem pe_lrg3 {X : L2.Cx} {e : Expr} {f : L2.St → Hp → (Int → Int → Int → Hp → Prop) → Prop} {n : Str} {p pos : Pos} (tp : Bool) (hn : n = if tp then ("tuple" : Str) else "list") (hc : X.calm = true) (hg : Gl X n) (hm : X.mg n = none) (he : PRg3 X e f) (na : starEach [e] X.env = (false, eval e X.env) :: starEach [] X.env) :
    PE X (.Call (.Name n p) [e] [] pos) (fun σ H Q => f σ H fun i j k H1 => rg3Ok i j k = true ∧ ∀ q, H1 q = none → Q (.ref q) (upd H1 q (if tp then .tup (rg3V i j k) else .lst (rg3V i j k)))) := by
  cases tp with
  | true => subst hn; exact pe_tupRg3 hc hg hm he na
  | false => subst hn; exact pe_listRg3 hc hg hm he na
theorem se_lrg3 {tp : Bool} {es : Es} (hs : SEs S es) : SE S (.lrg3 tp es) := by
  intro x P X Z W g tk h
  unfold chkE at h
  split at h
  · rename_i n p0 m p1 y1 y2 y3 p2 pos
    simp only [Bool.and_eq_true, decide_eq_true_eq] at h
    obtain ⟨⟨⟨⟨⟨h1, h2⟩, h3⟩, h4⟩, h5⟩, h6⟩ := h
    obtain ⟨k1, k2⟩ := hs g tk h6
    obtain ⟨gl, hd⟩ := g.gl h2
    obtain ⟨gl2, hd2⟩ := g.gl h3
    subst h5
    have m1 : X.mg n = none := by rw [h4]; cases tp <;> exact g.blt _ (by decide)
    simp only [List.all_cons, Bool.and_eq_true] at k2
    refine both g (m := fun e h => (evEs P.cx es e h).bind (lrgR3 tp)) (pe_imp (pe_lrg3 tp h4 (g.calm h1) gl m1 (prg_3 gl2 (g.blt _ (by decide)) k1 (star_cons k2.1) (star_plain (by simp [k2]))) (star_cons rfl)) fun σ H Q ⟨e, hh, μ, r, p⟩ => ?_) rfl fun t e h => rfl
    refine ⟨e, hh, μ, r, (Post.bind (R := rDs) p).mono fun vs H1 ⟨ds, h1, μ1, x1, r1, rh1, q⟩ => ?_⟩
    unfold lrgR3 at q
    split at q
    · rename_i i j c
      split at q
      · rename_i ok
        have e : vs = [.int i, .int j, .int c] := by
          obtain ⟨v1, w1, rfl, a1, b1⟩ := r1.inv
          obtain ⟨v2, v3, rfl, a2, a3⟩ := b1.inv2
          rw [RV.int_ a1, RV.int_ a2, RV.int_ a3]
        refine ⟨i, j, c, e, ok, ok, fun q' hq => ?_⟩
        cases tp with
        | true => exact ansT q rh1 (rg3_rows i j c) hq
        | false => exact ansL q rh1 (rg3_rows i j c) hq
      · exact q.elim
    · exact q.elim
  · cases h
theorem se_call {f : Nat} {es : Es} (hs : SEs S es) : SE S (.call f es) := by
  intro x P X Z W g tk h
  unfold chkE at h
  split at h
  · rename_i n p0 xs pos
    simp only [Bool.and_eq_true, decide_eq_true_eq] at h
    obtain ⟨⟨⟨h1, h2⟩, h3⟩, h4⟩ := h
    obtain ⟨k1, k2⟩ := hs g tk h4
    obtain ⟨gl, hd⟩ := g.gl h2
    have C := g.calls h1
    obtain ⟨k, a, fd, ps, hr, hm, hk, hb, F⟩ := C.fns f n h3
    refine both g (m := fun e h => if P.cx.x.isSome then .stuck else (evEs P.cx es e h).bind fun ds h1 => P.cx.C f ds h1) ?_ rfl fun t e h => rfl
    have fin : ∀ {σ : L2.St} {H : Hp} {Q : VK}, tR P rD W (fun e h => if P.cx.x.isSome then Res.stuck else (evEs P.cx es e h).bind fun ds h1 => P.cx.C f ds h1) σ H Q → tCallG (spI P f) W (tR P rDs W (evEs P.cx es)) σ H Q := by
      intro σ H Q ⟨e, hh, μ, r, p⟩
      simp only [C.noex, Option.isSome_none, Bool.false_eq_true, if_false] at p
      refine ⟨e, hh, μ, r, (Post.bind (R := rDs) p).mono fun vs H1 ⟨ds, h1, μ1, x1, r1, rh1, q⟩ => ?_⟩
      exact ⟨ds, h1, μ1, r1, rh1, q⟩
    cases xs with
    | nil =>
      cases es with
      | cons _ _ => unfold chkEs at h4; cases h4
      | nil =>
        refine pe_imp (pe_callG0 F hr g.gd gl hm hk hb tk hd) fun σ H Q t => ?_
        obtain ⟨e, hh, μ, r, p⟩ := fin t
        exact p [] μ H Ext.refl RVs.nil r.heap
    | cons y ys =>
      simp only [List.all_cons, Bool.and_eq_true] at k2
      exact pe_imp (pe_callG F hr g.gd gl hm hk hb tk k1 hd (star_cons k2.1) (star_plain k2.2)) fun σ H Q t => fin t
  · cases h
theorem se_bi {b : BI} {es : Es} (hs : SEs S es) : SE S (.bi b es) := by
  intro x P X Z W g tk h
  unfold chkE at h
  split at h
  · rename_i n p0 xs pos
    simp only [Bool.and_eq_true, decide_eq_true_eq] at h
    obtain ⟨⟨⟨⟨⟨h1, h2⟩, rfl⟩, h5⟩, h3⟩, h4⟩ := h
    obtain ⟨k1, k2⟩ := hs g tk h4
    obtain ⟨gl, hd⟩ := g.gl h2
    have un := g.un
    have R := call_bi (X := X) g.hK (g.calm h1) g.gd (by omega) b
    have fin : ∀ {σ : L2.St} {H : Hp} {Q : VK}, tR P rD W (fun e h => (evEs P.cx es e h).bind fun ds h1 => biD b ds h1) σ H Q → tCB (rBI P b) (tR P rDs W (evEs P.cx es)) σ H Q := by
      intro σ H Q ⟨e, hh, μ, r, p⟩
      refine ⟨e, hh, μ, r, (Post.bind (R := rDs) p).mono fun vs H1 ⟨ds, h1, μ1, x1, r1, rh1, q⟩ => ?_⟩
      exact ⟨h1, μ1, ds, _, r1, rh1, q⟩
    cases xs with
    | nil => cases h3
    | cons y ys =>
      simp only [List.all_cons, Bool.and_eq_true] at k2
      refine both g (m := fun e h => (evEs P.cx es e h).bind fun ds h1 => biD b ds h1) ?_ rfl fun t e h => rfl
      have s1 := star_cons (env := X.env) (es := ys) k2.1
      have s2 := star_plain (env := X.env) (pos := pos) k2.2
      cases b with
      | comb =>
        have hm := g.gbi .comb (by simpa [BI.isImp] using h5)
        exact pe_imp (pe_callBG R gl hm k1 hd s1 s2) fun σ H Q t => fin t
      | gcd =>
        have hm := g.gbi .gcd (by simpa [BI.isImp] using h5)
        exact pe_imp (pe_callBG R gl hm k1 hd s1 s2) fun σ H Q t => fin t
      | lcm =>
        have hm := g.gbi .lcm (by simpa [BI.isImp] using h5)
        exact pe_imp (pe_callBG R gl hm k1 hd s1 s2) fun σ H Q t => fin t
      | sorted => exact pe_imp (pe_callB R gl (g.blt _ (by decide)) (by decide +kernel) k1 (by decide) hd s1 s2) fun σ H Q t => fin t
      | sum => exact pe_imp (pe_callB R gl (g.blt _ (by decide)) (by decide +kernel) k1 (by decide) hd s1 s2) fun σ H Q t => fin t
      | len => exact pe_imp (pe_callB R gl (g.blt _ (by decide)) boot_len k1 (by decide) hd s1 s2) fun σ H Q t => fin t
      | max2 => exact pe_imp (pe_callB R gl (g.blt _ (by decide)) boot_max k1 (by decide) hd s1 s2) fun σ H Q t => fin t
      | min2 => exact pe_imp (pe_callB R gl (g.blt _ (by decide)) boot_min k1 (by decide) hd s1 s2) fun σ H Q t => fin t
      | abs => exact pe_imp (pe_callB R gl (g.blt _ (by decide)) (by decide +kernel) k1 (by decide) hd s1 s2) fun σ H Q t => fin t
      | all => exact pe_imp (pe_callB R gl (g.blt _ (by decide)) (by decide +kernel) k1 (by decide) hd s1 s2) fun σ H Q t => fin t
      | any => exact pe_imp (pe_callB R gl (g.blt _ (by decide)) (by decide +kernel) k1 (by decide) hd s1 s2) fun σ H Q t => fin t
      | repr => exact pe_imp (pe_callB R gl (g.blt _ (by decide)) (by decide +kernel) k1 (by decide) hd s1 s2) fun σ H Q t => fin t
      | int => exact pe_imp (pe_callTy R gl (g.blt _ (by decide)) (by decide +kernel) k1 (by decide) hd s1 s2) fun σ H Q t => fin t
      | tuple => exact pe_imp (pe_callTy R gl (g.blt _ (by decide)) (by decide +kernel) k1 (by decide) hd s1 s2) fun σ H Q t => fin t
      | list => exact pe_imp (pe_callTy R gl (g.blt _ (by decide)) (by decide +kernel) k1 (by decide) hd s1 s2) fun σ H Q t => fin t
  · cases h
/-- a class's name -/
theorem pe_ty {P : Par} {X : L2.Cx} {Z : Sco} (g : Good S P X Z) {t : Ty} {x : Expr} (h : tyX Z t x = true) : PE X x (tC (.ty t.name)) ∧ okX x = true := by
  unfold tyX at h
  split at h
  · rename_i n pos
    simp only [Bool.and_eq_true, decide_eq_true_eq] at h
    obtain ⟨⟨h1, rfl⟩, h2⟩ := h
    obtain ⟨gl, hd⟩ := g.gl h1
    refine ⟨pe_bltn gl (g.blt _ (by simpa using h2)) (v := .ty t.name) (u := .type t.name) ?_ rfl ?_ hd, rfl⟩
    · cases t <;> decide +kernel
    · cases t <;> decide
  · cases h
theorem pa_tys {P : Par} {X : L2.Cx} {Z : Sco} (g : Good S P X Z) : ∀ {ts : List Ty} {xs : List Expr}, tysX Z ts xs = true → PA X xs (fun σ H Q => Q (ts.map fun t => V.ty t.name) H)
  | [], [], _ => pa_nil
  | t :: ts, x :: xs, h => by
    unfold tysX at h
    simp only [Bool.and_eq_true] at h
    obtain ⟨k1, k2⟩ := pe_ty g h.1
    exact pa_imp (pa_cons k1 (pa_tys g h.2) (star_cons k2)) fun σ H Q q => q
  | [], _ :: _, h => by cases h
  | _ :: _, [], h => by cases h
theorem cls_tys : ∀ ts : List Ty, Paired ClsV (ts.map fun t => V.ty t.name) (ts.map fun t => Value.type t.name)
  | [] => .nil
  | t :: ts => .cons (.ty _) (cls_tys ts)
theorem se_isin {a : E} {ts : List Ty} {tupled : Bool} (ha : SE S a) : SE S (.isin a ts tupled) := by
  intro x P X Z W g tk h
  unfold chkE at h
  split at h
  · rename_i n p0 y t pos
    simp only [Bool.and_eq_true, decide_eq_true_eq] at h
    obtain ⟨⟨⟨⟨⟨h1, rfl⟩, h2⟩, hl⟩, h3⟩, h4⟩ := h
    obtain ⟨gl, hd⟩ := g.gl h1
    obtain ⟨k1, _⟩ := ha g tk h3
    refine both g (m := fun e h => (ev P.cx a false e h).bind (isinD ts)) ?_ rfl fun t e h => rfl
    have ans2 : ∀ {σ : L2.St} {d : D} {h1 : HP} {μ1 : Nat → Addr} {H1 : Hp} {Q : VK}, Post P rD (fun c d H => W c d σ H) H1 μ1 h1.length (isinD ts d h1) Q → RH P.K H1 μ1 h1 → ∃ tt, tyD h1 d = some tt ∧ Post P rD (fun c d H => W c d σ H) H1 μ1 h1.length (.ok (.bl (tt.any ts.contains)) h1) Q := by
      intro σ d h1 μ1 H1 Q p rh
      unfold isinD at p
      cases e : tyD h1 d with
      | none => rw [e] at p; exact p.elim
      | some tt => rw [e] at p; exact ⟨tt, rfl, p⟩
    cases tupled with
    | true =>
      simp only [if_true] at h4
      split at h4
      · rename_i xs kk tp
        have ka : PA X [y, .Tuple xs kk tp] _ := pa_cons k1 (pa_cons (pe_tup (pa_tys g h4)) pa_nil (star_cons rfl)) (star_cons h2)
        refine pe_imp (pe_callB call_isiT gl (g.blt _ (by decide)) boot_isinstance ka (by decide) hd (star_cons h2) (star_plain (by rfl))) fun σ H Q ⟨e, hh, μ, r, p⟩ => ?_
        refine ⟨e, hh, μ, r, (Post.bind (R := rD) p).mono fun v H1 ⟨d, h1, μ1, x1, r1, rh1, q⟩ => ?_⟩
        obtain ⟨tt, e1, q2⟩ := ans2 q rh1
        refine ⟨by rw [List.length_map, sizeLine_eq]; omega, fun tp hp => ?_⟩
        have y1 : Ext h1.length h1.length H1 μ1 (upd H1 tp (.tup (ts.map fun t => V.ty t.name))) μ1 := Ext.fresh hp
        have ty := ty_of (rh1.fresh hp) (RV.mono y1 _ _ r1) e1
        rw [g.hK] at ty
        exact ⟨v, tp, _, _, _, _, rfl, upd_same, cls_tys ts, ty, kit_any e1 ts, q2 _ μ1 _ y1 rv_bl (rh1.fresh hp)⟩
      · cases h4
    | false =>
      simp only [Bool.false_eq_true, if_false] at h4
      split at h4
      · rename_i u
        obtain ⟨k3, k4⟩ := pe_ty g h4
        have ka : PA X [y, t] _ := pa_cons k1 (pa_cons k3 pa_nil (star_cons k4)) (star_cons h2)
        refine pe_imp (pe_callB call_isi gl (g.blt _ (by decide)) boot_isinstance ka (by decide) hd (star_cons h2) (star_plain (by simp [k4]))) fun σ H Q ⟨e, hh, μ, r, p⟩ => ?_
        refine ⟨e, hh, μ, r, (Post.bind (R := rD) p).mono fun v H1 ⟨d, h1, μ1, x1, r1, rh1, q⟩ => ?_⟩
        obtain ⟨tt, e1, q2⟩ := ans2 q rh1
        have ty := ty_of rh1 r1 e1
        rw [g.hK] at ty
        have e2 : tt.any ([u] : List Ty).contains = tt.contains u := by
          rw [Bool.eq_iff_iff]
          simp [List.any_eq_true]
        rw [e2] at q2
        exact ⟨v, .ty u.name, _, _, _, rfl, .ty _, ty, kit_tt e1 u, ans q2 rh1 rv_bl⟩
      · cases h4
  · cases h
theorem se_ix {a i : E} (ha : SE S a) (hi : SE S i) : SE S (.ix a i) := by
  intro x P X Z W g tk h
  unfold chkE at h
  split at h
  · rename_i y j pos
    simp only [Bool.and_eq_true] at h
    obtain ⟨⟨h0, h1⟩, h2⟩ := h
    have pl : PlainIx j := by
      intro o i
      cases j <;> first | rfl | cases h0
    refine both g (m := fun e h => (ev P.cx a false e h).bind fun x h1 => (ev P.cx i false e h1).bind fun y h2 => ixR x y h2) (pe_imp (pe_ix (ix_own g.hK) (ha g tk h1).1 (hi g tk h2).1 pl) fun σ H Q t => ?_) rfl fun t e h => rfl
    obtain ⟨e, hh, μ, r, p⟩ := tR_two (R := rD) (R2 := rD) (fun x r => RV.mono x _ _ r) t
    refine ⟨e, hh, μ, r, p.mono fun v H1 ⟨e, hh, μ, r, p⟩ => ⟨e, hh, μ, r, p.mono fun w H2 ⟨h2, μ2, d1, d2, r1, r2, rh, _, p⟩ => ?_⟩⟩
    unfold ixR at p
    cases e1 : ixD h2 d1 d2 with
    | none => rw [e1] at p; exact p.elim
    | some d =>
      rw [e1] at p
      exact ⟨h2, μ2, d1, d2, d, r1, r2, rh, e1, fun v rv => ans p rh rv⟩
  · cases h
theorem so_none : SO S .none := by
  intro x P X Z W g tk h
  unfold chkO at h
  cases x with
  | some _ => cases h
  | none => exact po_imp po_none fun σ H Q ⟨e, hh, μ, r, p⟩ => p _ μ H Ext.refl rfl r.heap
theorem so_some {a : E} (ha : SE S a) : SO S (.some a) := by
  intro x P X Z W g tk h
  unfold chkO at h
  cases x with
  | none => cases h
  | some y =>
    refine po_imp (po_some (ha g tk h).1) fun σ H Q ⟨e, hh, μ, r, p⟩ => ?_
    refine ⟨e, hh, μ, r, (Post.bind (R := rD) (f := intO) p).mono fun v H1 ⟨d, h1, μ1, x1, r1, rh1, q⟩ => ?_⟩
    cases d with
    | int i => exact ⟨i, RV.int_ r1, q _ μ1 H1 Ext.refl rfl rh1⟩
    | _ => exact q.elim
theorem se_sl {a : E} {lo hi : OE} (ha : SE S a) (hl : SO S lo) (hu : SO S hi) : SE S (.sl a lo hi) := by
  intro x P X Z W g tk h
  unfold chkE at h
  split at h
  · simp only [Bool.and_eq_true] at h
    obtain ⟨⟨h1, h2⟩, h3⟩ := h
    refine both g (m := fun e h => (ev P.cx a false e h).bind fun x h1 => (evO P.cx lo e h1).bind fun l h2 => (evO P.cx hi e h2).bind fun u h3 => slD h3 x l u)
      (pe_imp (pe_slice (sl_own g.hK) (ha g tk h1).1 (hl g tk h2) (hu g tk h3)) fun σ H Q ⟨e, hh, μ, r, p⟩ => ?_) rfl fun t e h => rfl
    refine ⟨e, hh, μ, r, (Post.bind (R := rD) p).mono fun v H1 ⟨d1, h1, μ1, x1, r1, rh1, q1⟩ => ?_⟩
    have rel1 := r.mono x1 rh1
    refine ⟨e, h1, μ1, rel1, (Post.bind (R := rO) q1).mono fun l H2 ⟨l', h2, μ2, x2, r2, rh2, q2⟩ => ?_⟩
    have rel2 := rel1.mono x2 rh2
    have e2 : l' = l := r2
    subst e2
    refine ⟨e, h2, μ2, rel2, (Post.bind (R := rO) q2).mono fun u H3 ⟨u', h3, μ3, x3, r3, rh3, q3⟩ => ?_⟩
    have e3 : u' = u := r3
    subst e3
    exact ⟨h3, μ3, d1, _, RV.mono x3 _ _ (RV.mono x2 _ _ r1), rh3, q3⟩
  · cases h
theorem se_meth {m : Mt} {o : E} {es : Es} (ho : SE S o) (hs : SEs S es) : SE S (.meth m o es) := by
  intro x P X Z W g tk h
  unfold chkE at h
  split at h
  · rename_i y n ap xs cp
    simp only [Bool.and_eq_true, decide_eq_true_eq] at h
    obtain ⟨⟨⟨⟨⟨h1, rfl⟩, h3⟩, h4⟩, h5⟩, h6⟩ := h
    obtain ⟨k1, _⟩ := ho g tk h5
    obtain ⟨k2, k3⟩ := hs g tk h6
    refine both g (m := fun e h => (ev P.cx o false e h).bind fun x h1 => if isLst h1 x then (evEs P.cx es e h1).bind fun ds h2 => mtD m x ds h2 else .stuck) ?_ rfl fun t e h => rfl
    -- a receiver of a method is a list of the own heap
    have ty : ∀ {d : D} {h1 : HP} {μ1 : Nat → Addr} {H1 : Hp} {v : V}, RH P.K H1 μ1 h1 → RV P.K H1 μ1 h1.length d v → isLst h1 d = true → tyV X.K "list" v H1 := by
      intro d h1 μ1 H1 v rh rv e
      cases d with
      | ref n =>
        cases q : h1[n]? with
        | none => simp [isLst, q] at e
        | some ob =>
          cases ob with
          | con _ => simp [isLst, q] at e
          | lst l =>
            obtain ⟨vs, e1, _⟩ := rh.obj n _ q
            rw [rv.ref_.2]
            exact .inl ⟨rfl, vs, SqL.of e1⟩
      | _ => cases e
    cases xs with
    | nil =>
      cases es with
      | cons _ _ => unfold chkEs at h6; cases h6
      | nil =>
        have fin : ∀ {σ : L2.St} {H : Hp} {Q : VK}, tR P rD W (fun e h => (ev P.cx o false e h).bind fun x h1 => if isLst h1 x then (evEs P.cx .nil e h1).bind fun ds h2 => mtD m x ds h2 else .stuck) σ H Q → tBM0 X.K "list" (rMt P m) (tR P rD W (ev P.cx o false)) σ H Q := by
          intro σ H Q ⟨e, hh, μ, r, p⟩
          refine ⟨e, hh, μ, r, (Post.bind (R := rD) p).mono fun v H1 ⟨d1, h1, μ1, x1, r1, rh1, q1⟩ => ?_⟩
          by_cases il : isLst h1 d1 = true
          · rw [if_pos il] at q1
            exact ⟨ty rh1 r1 il, h1, μ1, d1, [], _, r1, RVs.nil, rh1, q1⟩
          · rw [if_neg il] at q1
            exact q1.elim
        cases m with
        | append => exact pe_imp (pe_bm0 PySem.F.plainAttrs_list PySem.F.slot_list_append PySem.F.type_list_append (mt_own .append) k1 (base_recv h1) h3) fun σ H Q t => fin t
        | pop => exact pe_imp (pe_bm0 PySem.F.plainAttrs_list PySem.F.slot_list_pop PySem.F.type_list_pop (mt_own .pop) k1 (base_recv h1) h3) fun σ H Q t => fin t
        | popAt => exact pe_imp (pe_bm0 PySem.F.plainAttrs_list PySem.F.slot_list_pop PySem.F.type_list_pop (mt_own .popAt) k1 (base_recv h1) h3) fun σ H Q t => fin t
        | reverse => exact pe_imp (pe_bm0 PySem.F.plainAttrs_list PySem.F.slot_list_reverse PySem.F.type_list_reverse (mt_own .reverse) k1 (base_recv h1) h3) fun σ H Q t => fin t
    | cons z zs =>
      simp only [List.all_cons, Bool.and_eq_true] at k3
      have s1 := star_cons (env := X.env) (es := zs) k3.1
      have s2 := star_plain (env := X.env) (pos := cp) k3.2
      have few : ((backTo cp (starEach (z :: zs) X.env)).all (fun x => !x.1) && (backToKw cp (keywordEach [] X.env)).all (fun x => x.1.isSome) && decide ((z :: zs).length + ([] : List Keyword).length + (if ([] : List Keyword).isEmpty then 0 else 1) < 30)) = true := by
        have a1 : (backTo cp (starEach (z :: zs) X.env)).any (·.1) = false := star_plain (by rw [List.all_cons, k3.1, k3.2]; rfl)
        have a2 : (backTo cp (starEach (z :: zs) X.env)).all (fun x => !x.1) = true := by
          rw [List.all_eq_not_any_not]
          simpa using a1
        have a3 : (backToKw cp (keywordEach [] X.env)).all (fun x => x.1.isSome) = true := by simp [keywordEach, backToKw]
        rw [a2, a3]
        simp only [Bool.and_self, Bool.true_and, decide_eq_true_eq, List.length_nil, List.isEmpty_nil, if_true]
        simp only [List.length_cons] at h4 ⊢
        omega
      have fin : ∀ {σ : L2.St} {H : Hp} {Q : VK}, tR P rD W (fun e h => (ev P.cx o false e h).bind fun x h1 => if isLst h1 x then (evEs P.cx es e h1).bind fun ds h2 => mtD m x ds h2 else .stuck) σ H Q → tBM X.K "list" (rMt P m) (tR P rD W (ev P.cx o false)) (tR P rDs W (evEs P.cx es)) σ H Q := by
        intro σ H Q ⟨e, hh, μ, r, p⟩
        refine ⟨e, hh, μ, r, (Post.bind (R := rD) p).mono fun v H1 ⟨d1, h1, μ1, x1, r1, rh1, q1⟩ => ?_⟩
        by_cases il : isLst h1 d1 = true
        · rw [if_pos il] at q1
          refine ⟨ty rh1 r1 il, e, h1, μ1, r.mono x1 rh1, (Post.bind (R := rDs) q1).mono fun ws H2 ⟨ds, h2, μ2, x2, r2, rh2, q2⟩ => ?_⟩
          exact ⟨h2, μ2, d1, ds, _, RV.mono x2 _ _ r1, r2, rh2, q2⟩
        · rw [if_neg il] at q1
          exact q1.elim
      cases m with
      | append => exact pe_imp (pe_bm PySem.F.plainAttrs_list PySem.F.slot_list_append PySem.F.type_list_append (mt_own .append) k1 k2 (base_recv h1) few h3 s1 s2) fun σ H Q t => fin t
      | pop => exact pe_imp (pe_bm PySem.F.plainAttrs_list PySem.F.slot_list_pop PySem.F.type_list_pop (mt_own .pop) k1 k2 (base_recv h1) few h3 s1 s2) fun σ H Q t => fin t
      | popAt => exact pe_imp (pe_bm PySem.F.plainAttrs_list PySem.F.slot_list_pop PySem.F.type_list_pop (mt_own .popAt) k1 k2 (base_recv h1) few h3 s1 s2) fun σ H Q t => fin t
      | reverse => exact pe_imp (pe_bm PySem.F.plainAttrs_list PySem.F.slot_list_reverse PySem.F.type_list_reverse (mt_own .reverse) k1 k2 (base_recv h1) few h3 s1 s2) fun σ H Q t => fin t
  · cases h
end
end PI

set_option Elab.async false
set_option linter.all false
set_option maxRecDepth 100000
set_option maxHeartbeats 4000000
/-! Targets, and what loops walk. -/
namespace PI
open PySem PySem.Spec PyProof.Rows L2
/-- a target's reading: the new slots are related to the new own slots; outside the target's slots nothing changes -/
def gT (P : Par) (t : Tgt) : TG := fun v σ H Q => ∃ e h μ d e1, Rel P σ H e h μ ∧ RV P.K H μ h.length d v ∧ bindT t d e = some e1 ∧ ∀ σ', Rel P σ' H e1 h μ → (∀ j, j ∉ t.slots → σ'[j]? = σ[j]?) → Q σ' H
section
variable {S : Sig} {P : Par} {X : L2.Cx} {Z : Sco}
theorem pg_imp {x : Expr} {t t' : TG} (h : PG X x t) (k : ∀ v σ H Q, t' v σ H Q → t v σ H Q) : PG X x t' := ⟨fun pins s σ H v u Q I r q => h.run pins s σ H v u Q I r (k v σ H Q q)⟩
theorem pgs_imp {x : List Expr} {t t' : TGs} (h : PGs X x t) (k : ∀ v σ H Q, t' v σ H Q → t v σ H Q) : PGs X x t' := ⟨fun pins s σ H v u Q I r q => h.run pins s σ H v u Q I r (k v σ H Q q)⟩
theorem assign_cons {e : Expr} {es : List Expr} {env : PySem.Env} (h : okX e = true) : assignEach (e :: es) env = (false, assign e env) :: assignEach es env := by
  cases e <;> first | rfl | cases h
/-- the handled error's slot is none of these -/
theorem Good.keepX (g : Good S P X Z) {σ σ' : L2.St} {H : Hp} {μ : Nat → Addr} {n : Nat} {js : List Nat} (hj : ∀ nm sl c, Z.ex = some (some (nm, sl), c) → sl ∉ js)
    (k : ∀ j, j ∉ js → σ'[j]? = σ[j]?) (r : RX P σ H μ n) : RX P σ' H μ n := by
  unfold RX at r ⊢
  cases q : P.cx.x with
  | none => trivial
  | some cd =>
    rw [q] at r
    obtain ⟨sl, a, dx, u, h1, h2, h3, h4⟩ := r
    refine ⟨sl, a, dx, u, h1, fun i hi => ?_, h3, h4⟩
    obtain ⟨sl', a', dx', nm, c, e1, e2, e3⟩ := g.xh (by rw [q]; rfl)
    rw [h1] at e1
    cases e1
    rw [hi] at e3
    cases nm with
    | none => cases e3
    | some p =>
      obtain ⟨nm, j⟩ := p
      have : i = j := by simpa using e3
      subst this
      rw [k i (hj nm i c e2)]
      exact h2 i hi
theorem stoB_ex {i : Nat} {x : Str} (h : stoB Z i x = true) : ∀ nm sl c, Z.ex = some (some (nm, sl), c) → sl ≠ i := by
  intro nm sl c e z
  unfold stoB at h
  rw [e] at h
  simp only [Bool.and_eq_true, Bool.not_eq_true', decide_eq_false_iff_not] at h
  exact h.2 z.symm
/-- names one after another -/
def gNames (is : List Nat) : TGs := fun vs σ H Q => vs.length = is.length ∧ Q ((is.zip vs).foldl (fun σ p => σ.set p.1 (some p.2)) σ) H
theorem pgs_names (g : Good S P X Z) : ∀ {is : List Nat} {xs : List Expr}, chkN Z is xs = true → PGs X xs (gNames is) ∧ (assignEach xs X.env).length = is.length ∧ (assignEach xs X.env).findIdx? (·.1) = none
  | [], [], _ => ⟨pgs_imp pgs_nil fun vs σ H Q ⟨h, q⟩ => by
      have : vs = [] := List.eq_nil_of_length_eq_zero h
      subst this
      exact ⟨rfl, q⟩, rfl, rfl⟩
  | i :: is, x :: xs, h => by
    cases x with
    | Name n pos =>
      unfold chkN at h
      simp only [Bool.and_eq_true] at h
      obtain ⟨k1, k2, k3⟩ := pgs_names g h.2
      obtain ⟨h1, h2, h3⟩ := g.sto h.1
      refine ⟨pgs_imp (pgs_cons (pg_name (by rw [g.hN]; exact g.nd) h1 h2 h3) k1 (by rw [assign_cons rfl]; rfl)) fun vs σ H Q ⟨hl, q⟩ => ?_, by rw [assign_cons rfl, List.length_cons, k2]; rfl, by rw [assign_cons rfl, List.findIdx?_cons, k3]; rfl⟩
      cases vs with
      | nil => cases hl
      | cons v vs => exact ⟨v, vs, rfl, by simpa using hl, q⟩
    | _ => unfold chkN at h; cases h
  | [], _ :: _, h => by cases h
  | _ :: _, [], h => by unfold chkN at h; cases h
theorem chkN_ex : ∀ {is : List Nat} {xs : List Expr}, chkN Z is xs = true → ∀ nm sl c, Z.ex = some (some (nm, sl), c) → sl ∉ is
  | [], [], _, _, _, _, _ => by simp
  | i :: is, x :: xs, h, nm, sl, c, e => by
    cases x with
    | Name n pos =>
      unfold chkN at h
      simp only [Bool.and_eq_true] at h
      simp only [List.mem_cons, not_or]
      exact ⟨stoB_ex h.1 nm sl c e, chkN_ex h.2 nm sl c e⟩
    | _ => unfold chkN at h; cases h
  | [], _ :: _, h, _, _, _, _ => by cases h
  | _ :: _, [], h, _, _, _, _ => by unfold chkN at h; cases h
theorem RE.sets {K : PySem.W.Frag} {H : Hp} {μ : Nat → Addr} {n : Nat} : ∀ {is : List Nat} {ds : List D} {vs : List V} {σ : L2.St} {e : Env}, RVs K H μ n ds vs → RE K σ H μ n e →
    RE K ((is.zip vs).foldl (fun σ p => σ.set p.1 (some p.2)) σ) H μ n ((is.zip ds).foldl (fun e p => e.set p.1 (some p.2)) e)
  | [], _, _, _, _, _, r => by simpa using r
  | i :: is, [], vs, σ, e, rv, r => by rw [rv.inv0]; simpa using r
  | i :: is, d :: ds, vs, σ, e, rv, r => by
    obtain ⟨v, r', rfl, h1, h2⟩ := rv.inv
    simp only [List.zip_cons_cons, List.foldl_cons]
    refine RE.sets h2 ?_
    refine ⟨by rw [List.length_set, List.length_set]; exact r.len, fun j d' q => ?_⟩
    by_cases z : i = j
    · subst z
      have hj := lt_of_get q
      rw [List.length_set] at hj
      rw [List.getElem?_set_self hj] at q
      cases q
      exact ⟨v, List.getElem?_set_self (by rw [r.len]; exact hj), h1⟩
    · rw [List.getElem?_set_ne z] at q ⊢
      exact r.at_ j d' q
theorem sets_out : ∀ {is : List Nat} {vs : List V} {σ : L2.St} {j : Nat}, j ∉ is → ((is.zip vs).foldl (fun σ p => σ.set p.1 (some p.2)) σ)[j]? = σ[j]?
  | [], _, _, _, _ => by simp
  | i :: is, [], _, _, _ => by simp
  | i :: is, v :: vs, σ, j, h => by
    simp only [List.mem_cons, not_or] at h
    simp only [List.zip_cons_cons, List.foldl_cons]
    rw [sets_out h.2, List.getElem?_set_ne (Ne.symm h.1)]
/-- a target is right -/
theorem sg (g : Good S P X Z) {t : Tgt} {x : Expr} (h : chkT Z t x = true) : PG X x (gT P t) := by
  cases t with
  | v i =>
    simp only [chkT] at h
    split at h
    · obtain ⟨h1, h2, h3⟩ := g.sto h
      refine pg_imp (pg_name (by rw [g.hN]; exact g.nd) h1 h2 h3) fun v σ H Q ⟨e, hh, μ, d, e1, r, rv, hb, k⟩ => ?_
      simp only [bindT] at hb
      split at hb
      · cases hb
        refine k _ ⟨r.env.set rv, r.heap, ?_⟩ fun j hj => List.getElem?_set_ne (fun z => hj (by simp [Tgt.slots, z]))
        exact g.keepX (js := [i]) (fun nm sl c e => by simpa using stoB_ex h nm sl c e) (fun j hj => List.getElem?_set_ne (fun z => hj (by simp [z]))) r.x
      · cases hb
    · cases h
  | tp is =>
    simp only [chkT] at h
    split at h
    · rename_i xs kk pos
      simp only [Bool.and_eq_true] at h
      obtain ⟨k1, k2, k3⟩ := pgs_names g h.2
      refine pg_imp (pg_tup (g.calm h.1) k1 k2 k3) fun v σ H Q ⟨e, hh, μ, d, e1, r, rv, hb, k⟩ => ?_
      cases d with
      | tup ds =>
        simp only [bindT] at hb
        split at hb
        · rename_i hl
          cases hb
          obtain ⟨a, vs, rfl, s1, r1⟩ := rv.tup_
          rw [g.hK] at s1
          refine ⟨a, vs, rfl, s1, by rw [r1.length, hl], by rw [r1.length, hl], ?_⟩
          refine k _ ⟨RE.sets r1 r.env, r.heap, ?_⟩ fun j hj => sets_out hj
          exact g.keepX (js := is) (chkN_ex h.2) (fun j hj => sets_out hj) r.x
        · cases hb
      | _ => cases hb
    · cases h

theorem pg_or {X : L2.Cx} {x : Expr} {t t' : TG} (h : PG X x t) (h' : PG X x t') : PG X x (fun v σ H Q => t v σ H Q ∨ t' v σ H Q) := ⟨fun pins s σ H v u Q I r q => q.elim (fun q => h.run pins s σ H v u Q I r q) fun q => h'.run pins s σ H v u Q I r q⟩
/-- a tuple or a list is unpacked -/
def gU (P : Par) (is : List Nat) : TG := fun v σ H Q => ∃ e h μ d e1, Rel P σ H e h μ ∧ RV P.K H μ h.length d v ∧ bindT (.tp is) (unlD h d) e = some e1 ∧ ∀ σ', Rel P σ' H e1 h μ → Q σ' H
theorem su (g : Good S P X Z) {is : List Nat} {x : Expr} (h : chkT Z (.tp is) x = true) : PG X x (gU P is) := by
  simp only [chkT] at h
  split at h
  · rename_i xs kk pos
    simp only [Bool.and_eq_true] at h
    obtain ⟨k1, k2, k3⟩ := pgs_names g h.2
    refine pg_imp (pg_or (pg_tup (g.calm h.1) k1 k2 k3) (pg_unl (g.calm h.1) k1 k2 k3)) fun v σ H Q ⟨e, hh, μ, d, e1, r, rv, hb, k⟩ => ?_
    cases d with
    | tup ds =>
      simp only [unlD, bindT] at hb
      split at hb
      · rename_i hl
        cases hb
        obtain ⟨a, vs, rfl, s1, r1⟩ := rv.tup_
        rw [g.hK] at s1
        refine .inl ⟨a, vs, rfl, s1, by rw [r1.length, hl], by rw [r1.length, hl], ?_⟩
        refine k _ ⟨RE.sets r1 r.env, r.heap, ?_⟩
        exact g.keepX (js := is) (chkN_ex h.2) (fun j hj => sets_out hj) r.x
      · cases hb
    | ref n =>
      cases w : seqOf hh (.ref n) with
      | none =>
        simp only [unlD, w, bindT] at hb
        cases hb
      | some ds =>
        simp only [unlD, w, bindT] at hb
        split at hb
        · rename_i hl
          cases hb
          obtain ⟨vs, s1, r1⟩ := r.heap.seq w
          obtain ⟨hk, rfl⟩ := rv.ref_
          rw [g.hK] at s1
          refine .inr ⟨μ n, vs, rfl, s1, by rw [r1.length, hl], by rw [r1.length, hl], ?_⟩
          refine k _ ⟨RE.sets r1 r.env, r.heap, ?_⟩
          exact g.keepX (js := is) (chkN_ex h.2) (fun j hj => sets_out hj) r.x
        · cases hb
    | _ => cases hb
  · cases h

/-! ### what a loop walks -/
/-- an own walk and the layer's: at each later heap the next item is the next item -/
def rI : Rp Itr L2.It := fun K H μ n J I => ∀ (h' : HP) (H' : Hp) (μ' : Nat → Addr) (i : Nat), Ext n h'.length H μ H' μ' → RH K H' μ' h' →
  (J.at h' i = some none → I.stop i H') ∧ ∀ d, J.at h' i = some (some d) → I.go i H' ∧ ∀ x H2, I.yld i H' x H2 → Ext h'.length h'.length H' μ' H2 μ' ∧ RV K H2 μ' h'.length d x ∧ RH K H2 μ' h'
theorem pi_or {X : L2.Cx} {tg e : Expr} {t t' : TI} (h : PI X tg e t) (h' : PI X tg e t') : PI X tg e (fun σ H R => t σ H R ∨ t' σ H R) := ⟨fun pins s σ H R I q => q.elim (fun q => h.run pins s σ H R I q) fun q => h'.run pins s σ H R I q⟩
/-- a loop's source is right -/
def SI (S : Sig) (c : It) : Prop := ∀ {tg x : Expr} {P : Par} {X : L2.Cx} {Z : Sco} {W : WX}, Good S P X Z → Takes X W → chkI S c Z tg x = true → okX x = true → PI X tg x (tR P rI W (evIt P.cx c))
theorem rI_tup {K : PySem.W.Frag} {H : Hp} {μ : Nat → Addr} {n : Nat} {ds : List D} {a : Addr} {vs : List V} (s : SqT K H a vs) (r : RVs K H μ n ds vs) : rI K H μ n (.fix ds) (Itt K a) := by
  intro h' H' μ' i x rh
  have s' := sqT_mono x.keep s
  have r' := RVs.mono x _ _ r
  refine ⟨fun e => ?_, fun d e => ?_⟩
  · simp only [Itr.at, Option.some.injEq] at e
    exact ⟨vs, s', by rw [r'.length]; exact List.getElem?_eq_none_iff.mp e⟩
  · simp only [Itr.at, Option.some.injEq] at e
    obtain ⟨v, e1, rv⟩ := r'.get e
    refine ⟨⟨vs, v, s', e1⟩, fun y H2 ⟨e2, k⟩ => ?_⟩
    subst e2
    have := k vs s'
    rw [e1] at this
    cases this
    exact ⟨Ext.refl, rv, rh⟩
theorem rI_lst {K : PySem.W.Frag} {H : Hp} {μ : Nat → Addr} {n : Nat} {k : Nat} (hk : k < n) : rI K H μ n (.lst k) (Itl K (μ k)) := by
  intro h' H' μ' i x rh
  have em := x.mu k hk
  refine ⟨fun e => ?_, fun d e => ?_⟩
  · simp only [Itr.at, Option.map_eq_some_iff] at e
    obtain ⟨ds, e1, e2⟩ := e
    obtain ⟨vs, s, r⟩ := rh.seq e1
    rw [em] at s
    exact ⟨vs, s, by rw [r.length]; exact List.getElem?_eq_none_iff.mp e2⟩
  · simp only [Itr.at, Option.map_eq_some_iff] at e
    obtain ⟨ds, e1, e2⟩ := e
    obtain ⟨vs, s, r⟩ := rh.seq e1
    rw [em] at s
    obtain ⟨v, e3, rv⟩ := r.get e2
    refine ⟨⟨vs, v, s, e3⟩, fun y H2 ⟨e4, k⟩ => ?_⟩
    subst e4
    have := k vs s
    rw [e3] at this
    cases this
    exact ⟨Ext.refl, rv, rh⟩
theorem rI_str {K : PySem.W.Frag} {H : Hp} {μ : Nat → Addr} {n : Nat} {z : Str} : rI K H μ n (.fix (z.cps.toList.map fun c => .str ⟨#[c]⟩)) (Its z) := by
  intro h' H' μ' i x rh
  refine ⟨fun e => ?_, fun d e => ?_⟩
  · simp only [Itr.at, Option.some.injEq, List.getElem?_map, Option.map_eq_none_iff] at e
    have := List.getElem?_eq_none_iff.mp e
    show z.cps.size ≤ i
    simpa using this
  · simp only [Itr.at, Option.some.injEq, List.getElem?_map, Option.map_eq_some_iff] at e
    obtain ⟨c, e1, rfl⟩ := e
    have hl := lt_of_get e1
    refine ⟨show i < z.cps.size by simpa using hl, fun y H2 ⟨e2, c', e3, e4⟩ => ?_⟩
    subst e2 e4
    have e5 : z.cps.toList[i]? = some c' := by simpa using e3
    rw [e1] at e5
    cases e5
    exact ⟨Ext.refl, rv_str, rh⟩
theorem rI_rng {K : PySem.W.Frag} {H : Hp} {μ : Nat → Addr} {n : Nat} {lo hi : Int} : rI K H μ n (.fix (rngL lo hi)) (L2.Itr lo (hi - lo).toNat) := by
  intro h' H' μ' i x rh
  have g : ∀ j, (rngL lo hi)[j]? = if j < (hi - lo).toNat then some (.int (lo + (j : Int))) else none := by
    intro j
    unfold rngL
    rw [List.getElem?_map]
    by_cases hj : j < (hi - lo).toNat
    · rw [List.getElem?_range hj, if_pos hj]; rfl
    · rw [if_neg hj, List.getElem?_eq_none (by simpa using hj)]; rfl
  refine ⟨fun e => ?_, fun d e => ?_⟩
  · simp only [Itr.at, Option.some.injEq] at e
    rw [g i] at e
    split at e
    · cases e
    · rename_i hj; exact Nat.le_of_not_lt hj
  · simp only [Itr.at, Option.some.injEq] at e
    rw [g i] at e
    split at e
    · rename_i hj
      cases e
      refine ⟨hj, fun y H2 ⟨e2, e3⟩ => ?_⟩
      subst e2 e3
      exact ⟨Ext.refl, rv_int, rh⟩
    · cases e
/-- a new pair of the place and the item -/
theorem pair_new {K : PySem.W.Frag} {H : Hp} {μ : Nat → Addr} {h : HP} {i : Nat} {d : D} {v : V} {T : Addr} (hT : H T = none) (rv : RV K H μ h.length d v) (rh : RH K H μ h) :
    Ext h.length h.length H μ (upd H T (.tup [.int (i : Nat), v])) μ ∧ RV K (upd H T (.tup [.int (i : Nat), v])) μ h.length (.tup [.int i, d]) (.ref T) ∧ RH K (upd H T (.tup [.int (i : Nat), v])) μ h :=
  ⟨Ext.fresh hT, new_tup hT (RVs.cons rv_int (RVs.one rv)), rh.fresh hT⟩
theorem rI_enf {K : PySem.W.Frag} {H : Hp} {μ : Nat → Addr} {n : Nat} {ds : List D} {a : Addr} {vs : List V} (s : SqT K H a vs) (r : RVs K H μ n ds vs) : rI K H μ n (.enf ds) (IteT K a) := by
  intro h' H' μ' i x rh
  have s' := sqT_mono x.keep s
  have r' := RVs.mono x _ _ r
  refine ⟨fun e => ?_, fun d e => ?_⟩
  · simp only [Itr.at, Option.some.injEq, Option.map_eq_none_iff] at e
    exact ⟨vs, s', by rw [r'.length]; exact List.getElem?_eq_none_iff.mp e⟩
  · simp only [Itr.at, Option.some.injEq, Option.map_eq_some_iff] at e
    obtain ⟨d0, e0, rfl⟩ := e
    obtain ⟨v, e1, rv⟩ := r'.get e0
    refine ⟨⟨vs, v, s', e1⟩, fun y H2 ⟨T, x', e2, hT, e3, k⟩ => ?_⟩
    subst e2 e3
    have := k vs s'
    rw [e1] at this
    cases this
    exact pair_new hT rv rh
theorem rI_enl {K : PySem.W.Frag} {H : Hp} {μ : Nat → Addr} {n : Nat} {k : Nat} (hk : k < n) : rI K H μ n (.enl k) (Ite K (μ k)) := by
  intro h' H' μ' i x rh
  have em := x.mu k hk
  refine ⟨fun e => ?_, fun d e => ?_⟩
  · simp only [Itr.at, Option.map_eq_some_iff] at e
    obtain ⟨ds, e1, e2⟩ := e
    obtain ⟨vs, s, r⟩ := rh.seq e1
    rw [em] at s
    simp only [Option.map_eq_none_iff] at e2
    exact ⟨vs, s, by rw [r.length]; exact List.getElem?_eq_none_iff.mp e2⟩
  · simp only [Itr.at, Option.map_eq_some_iff] at e
    obtain ⟨ds, e1, d0, e2, rfl⟩ := e
    obtain ⟨vs, s, r⟩ := rh.seq e1
    rw [em] at s
    obtain ⟨v, e3, rv⟩ := r.get e2
    refine ⟨⟨vs, v, s, e3⟩, fun y H2 ⟨T, x', e4, hT, e5, k⟩ => ?_⟩
    subst e4 e5
    have := k vs s
    rw [e3] at this
    cases this
    exact pair_new hT rv rh
theorem RH.there {K : PySem.W.Frag} {H : Hp} {μ : Nat → Addr} {h : HP} {n : Nat} (rh : RH K H μ h) (hn : n < h.length) : ∃ vs, SqL K H (μ n) vs := by
  obtain ⟨ob, e⟩ : ∃ ob, h[n]? = some ob := ⟨_, List.getElem?_eq_getElem hn⟩
  have ok := rh.obj n ob e
  cases ob with
  | lst ds => obtain ⟨vs, e1, _⟩ := ok; exact ⟨vs, SqL.of e1⟩
  | con ds => obtain ⟨vs, e1, _⟩ := ok; exact ⟨vs, e1.sq⟩
theorem si_seq {a : E} (ha : SE S a) : SI S (.seq a) := by
  intro tg x P X Z W g tk h ox
  unfold chkI at h
  have k := (ha g tk h).1
  refine pi_imp (pi_or (pi_list k) (pi_or (pi_tup k) (pi_str k))) fun σ H R ⟨e, hh, μ, r, p⟩ => ?_
  have p : Post P rI (fun c d H => W c d σ H) H μ hh.length ((ev P.cx a false e hh).bind seqI) R := p
  cases q : ev P.cx a false e hh with
  | stuck => rw [q] at p; exact p.elim
  | exc c d h1 => rw [q] at p; exact .inl ⟨e, hh, μ, r, by rw [q]; exact p⟩
  | ok d h1 =>
    rw [q] at p
    cases d with
    | tup ds =>
      refine .inr (.inl ⟨e, hh, μ, r, ?_⟩)
      rw [q]
      intro v μ' H' x1 rv rh
      obtain ⟨a1, vs, rfl, s1, r1⟩ := RV.tup_ rv
      refine ⟨a1, rfl, ⟨vs, by rw [← g.hK]; exact s1⟩, ?_⟩
      rw [← g.hK]
      exact p _ μ' H' x1 (rI_tup s1 r1) rh
    | ref n =>
      refine .inl ⟨e, hh, μ, r, ?_⟩
      rw [q]
      intro v μ' H' x1 rv rh
      obtain ⟨hn, rfl⟩ := RV.ref_ rv
      have hex := rh.there hn
      refine ⟨μ' n, rfl, by rw [← g.hK]; exact hex, ?_⟩
      rw [← g.hK]
      exact p _ μ' H' x1 (rI_lst hn) rh
    | str z =>
      refine .inr (.inr ⟨e, hh, μ, r, ?_⟩)
      rw [q]
      intro v μ' H' x1 rv rh
      refine ⟨z, RV.str_ rv, ?_⟩
      have p2 : Post P rI (fun c d H => W c d σ H) H μ hh.length (if z.length ≤ SL then Res.ok (Itr.fix (z.cps.toList.map fun c => .str ⟨#[c]⟩)) h1 else .stuck) R := p
      split at p2
      · exact p2 _ μ' H' x1 rI_str rh
      · exact p2.elim
    | _ => exact p.elim
theorem si_rng1 {a : E} (ha : SE S a) : SI S (.rng1 a) := by
  intro tg x P X Z W g tk h ox
  unfold chkI at h
  split at h
  · rename_i n p0 y pos
    simp only [Bool.and_eq_true, decide_eq_true_eq] at h
    obtain ⟨⟨⟨h1, rfl⟩, h2⟩, h3⟩ := h
    obtain ⟨gl, hd⟩ := g.gl h1
    refine pi_imp (pi_range1 gl (g.blt _ (by decide)) (pa_cons (ha g tk h3).1 pa_nil (star_cons h2)) (star_cons h2)) fun σ H R ⟨e, hh, μ, r, p⟩ => ?_
    refine ⟨e, hh, μ, r, (Post.bind (R := rD) (f := rngI1) p).mono fun v H1 ⟨d, h1, μ1, x1, r1, rh1, q⟩ => ?_⟩
    cases d with
    | int j =>
      simp only [rngI1] at q
      split at q
      · rename_i hr
        simp only [okRng, Bool.and_eq_true, decide_eq_true_eq] at hr
        refine ⟨j, by rw [RV.int_ r1], hr.1, hr.2, ?_⟩
        have := q (L2.Itr 0 (j - 0).toNat) μ1 H1 Ext.refl rI_rng rh1
        rw [Int.sub_zero] at this
        exact this
      · exact q.elim
    | _ => exact q.elim
  · cases h
theorem si_rng2 {a b : E} (ha : SE S a) (hb : SE S b) : SI S (.rng2 a b) := by
  intro tg x P X Z W g tk h ox
  unfold chkI at h
  split at h
  · rename_i n p0 y z pos
    simp only [Bool.and_eq_true, decide_eq_true_eq] at h
    obtain ⟨⟨⟨⟨⟨h1, rfl⟩, h2⟩, h3⟩, h4⟩, h5⟩ := h
    obtain ⟨gl, hd⟩ := g.gl h1
    have ka : PA X [y, z] _ := pa_cons (ha g tk h4).1 (pa_cons (hb g tk h5).1 pa_nil (star_cons h3)) (star_cons h2)
    refine pi_imp (pi_range2 gl (g.blt _ (by decide)) ka (by rw [star_cons h2, star_cons h3]; rfl) (star_cons h3)) fun σ H R t => ?_
    obtain ⟨e, hh, μ, r, p⟩ := tR_two (R := rD) (R2 := rD) (f := rngI2) (fun x r => RV.mono x _ _ r) t
    refine ⟨e, hh, μ, r, p.mono fun v H1 ⟨e, hh, μ, r, p⟩ => ⟨e, hh, μ, r, p.mono fun w H2 ⟨h2, μ2, d1, d2, r1, r2, rh, _, p⟩ => ?_⟩⟩
    cases d1 with
    | int i =>
      cases d2 with
      | int j =>
        simp only [rngI2] at p
        split at p
        · rename_i hr
          simp only [okRng, Bool.and_eq_true, decide_eq_true_eq] at hr
          exact ⟨i, j, by rw [RV.int_ r1, RV.int_ r2], ⟨hr.1.1, hr.1.2, hr.2.1, hr.2.2⟩, p _ μ2 H2 Ext.refl rI_rng rh⟩
        · exact p.elim
      | _ => exact p.elim
    | _ => exact p.elim
  · cases h
theorem si_enum {a : E} (ha : SE S a) : SI S (.enum a) := by
  intro tg x P X Z W g tk h ox
  unfold chkI at h
  split at h
  · rename_i xs kk tp n p0 y pos
    simp only [Bool.and_eq_true, decide_eq_true_eq] at h
    obtain ⟨⟨⟨h1, rfl⟩, h2⟩, h3⟩ := h
    obtain ⟨gl, hd⟩ := g.gl h1
    have ka : PA X [y] _ := pa_cons (ha g tk h3).1 pa_nil (star_cons h2)
    have hm := g.blt "enumerate" (by decide)
    refine pi_imp (pi_or (pi_enum gl hm ka (star_cons h2)) (pi_enT gl hm ka (star_cons h2))) fun σ H R ⟨e, hh, μ, r, p⟩ => ?_
    have p : Post P rI (fun c d H => W c d σ H) H μ hh.length ((ev P.cx a false e hh).bind enumI) R := p
    cases q : ev P.cx a false e hh with
    | stuck => rw [q] at p; exact p.elim
    | exc c d h1 => rw [q] at p; exact .inl ⟨e, hh, μ, r, by rw [q]; exact p⟩
    | ok d h1 =>
      rw [q] at p
      cases d with
      | tup ds =>
        refine .inr ⟨e, hh, μ, r, ?_⟩
        rw [q]
        intro v μ' H' x1 rv rh
        obtain ⟨a1, vs, rfl, s1, r1⟩ := RV.tup_ rv
        refine ⟨a1, vs, rfl, by rw [← g.hK]; exact s1, ?_⟩
        rw [← g.hK]
        exact p _ μ' H' x1 (rI_enf s1 r1) rh
      | ref n =>
        refine .inl ⟨e, hh, μ, r, ?_⟩
        rw [q]
        intro v μ' H' x1 rv rh
        obtain ⟨hn, rfl⟩ := RV.ref_ rv
        have hex := rh.there hn
        obtain ⟨vs, hs⟩ := hex
        refine ⟨μ' n, vs, rfl, by rw [← g.hK]; exact hs, ?_⟩
        rw [← g.hK]
        exact p _ μ' H' x1 (rI_enl hn) rh
      | _ => exact p.elim
  · cases h
end
end PI

set_option Elab.async false
set_option linter.all false
set_option maxRecDepth 100000
set_option maxHeartbeats 4000000
/-! Comprehensions. -/
namespace PI
open PySem PySem.Spec PyProof.Rows L2
theorem takesN {X : L2.Cx} : Takes X (fun _ _ _ _ => False) := fun _ _ x => by
  obtain ⟨_, _, _, _, _, _, _, _, _, _, _, _, _, _, _, _, z⟩ := x
  exact z.elim
/-- a comprehension's test is right -/
def SC (S : Sig) (c : OE) : Prop := ∀ {x : List Expr} {P : Par} {X : L2.Cx} {Z : Sco} {W : WX}, Good S P X Z → Takes X W → chkC S c Z x = true → PTs X x (tR P rB W (evC P.cx c))
theorem pts_imp {X : L2.Cx} {e : List Expr} {t t' : TT} (h : PTs X e t) (k : ∀ σ H Q, t' σ H Q → t σ H Q) : PTs X e t' := ⟨fun pins s σ H Q I q => h.run pins s σ H Q I (k σ H Q q)⟩
theorem killE_some : ∀ {ks : List Nat} {e : Env} {i : Nat} {d : D}, (killE ks e)[i]? = some (some d) → e[i]? = some (some d) ∧ i ∉ ks
  | [], _, _, _, h => ⟨h, by simp⟩
  | k :: ks, e, i, d, h => by
    obtain ⟨h1, h2⟩ := killE_some (ks := ks) (e := e.set k none) h
    by_cases z : k = i
    · subst z
      have hj := lt_of_get h1
      rw [List.length_set] at hj
      rw [List.getElem?_set_self hj] at h1
      cases h1
    · rw [List.getElem?_set_ne z] at h1
      exact ⟨h1, by simp only [List.mem_cons, not_or]; exact ⟨Ne.symm z, h2⟩⟩
theorem RE.wipe {K : PySem.W.Frag} {σ : L2.St} {H : Hp} {μ : Nat → Addr} {n : Nat} {e : Env} (r : RE K σ H μ n e) (vs : List Nat) : RE K (wipe σ vs) H μ n (PI.killE vs e) := by
  refine ⟨by rw [wipe_length, killE_length]; exact r.len, fun i d q => ?_⟩
  obtain ⟨h1, h2⟩ := killE_some q
  obtain ⟨v, a, b⟩ := r.at_ i d h1
  exact ⟨v, by rw [wipe_out h2]; exact a, b⟩
theorem wipe_in {σ : L2.St} {i : Nat} : ∀ {vs : List Nat}, i ∈ vs → i < σ.length → (wipe σ vs)[i]? = some none
  | [], h, _ => by cases h
  | v :: vs, h, l => by
    unfold wipe
    by_cases z : v = i
    · subst z
      exact List.getElem?_set_self (by rw [wipe_length]; exact l)
    · rw [List.getElem?_set_ne z]
      rcases List.mem_cons.mp h with e | h
      · exact absurd e.symm z
      · exact wipe_in h l
theorem wipe_same {σ σ2 : L2.St} {vs js : List Nat} (hl : σ2.length = σ.length) (hs : ∀ j ∈ js, j ∈ vs) (k : ∀ j, j ∉ js → σ2[j]? = (wipe σ vs)[j]?) : wipe σ2 vs = wipe σ vs := by
  apply List.ext_getElem?
  intro j
  by_cases m : j ∈ vs
  · by_cases l : j < σ.length
    · rw [wipe_in m l, wipe_in m (by omega)]
    · rw [List.getElem?_eq_none (by rw [wipe_length]; omega), List.getElem?_eq_none (by rw [wipe_length]; omega)]
  · rw [wipe_out m, wipe_out m, k j fun z => m (hs j z), wipe_out m]
theorem sets_len : ∀ (l : List (Nat × D)) (e : Env), (l.foldl (fun e p => e.set p.1 (some p.2)) e).length = e.length
  | [], _ => rfl
  | p :: l, e => by
    simp only [List.foldl_cons]
    rw [sets_len l, List.length_set]
theorem bindT_len {t : Tgt} {d : D} {e e1 : Env} (h : bindT t d e = some e1) : e1.length = e.length := by
  cases t with
  | v i =>
    simp only [bindT] at h
    split at h
    · cases h; exact List.length_set
    · cases h
  | tp is =>
    cases d with
    | tup ds =>
      simp only [bindT] at h
      split at h
      · cases h; exact sets_len _ _
      · cases h
    | _ => simp [bindT] at h
section
variable {S : Sig} {P : Par} {X : L2.Cx} {Z : Sco}
/-- in a comprehension's block -/
theorem Good.blk (g : Good S P X Z) (hc : Z.calm = true) {scope : Scope} (hk : scope.kind = .function) {s : Shared} {H : Hp} {C : Addr} {cl : List (Str × Addr)} {fp : List Addr} :
    Good S P (X.blk s H scope (compEnvC scope cl C X.env) fp) (Z.blk scope) := by
  have nx := (g.calls hc).noex
  refine ⟨g.hN, g.nd, ?_, g.hK, g.gd, g.un, g.calm, fun x h => h, ?_, fun h => ?_, g.blt, g.gbi, g.cst, g.sub, g.errs, g.mgs, fun c d h => ?_⟩
  · show relS scope X.env.scope = relS scope Z.sc
    rw [g.hsc]
  · show scope.kind = .function
    exact hk
  · refine ⟨(g.calls h).noex, fun c n f e ne => ?_, fun f x e => (g.calls h).fns f x e⟩
    obtain ⟨o, fI, k, fd, ps, i1, i2, i3, i4, i5⟩ := (g.calls h).mks c n f e ne
    exact ⟨o, fI, k, fd, ps, i1, i2, i3, i4, i5⟩
  · rw [nx] at h; cases h
theorem sc_none : SC S .none := by
  intro x P X Z W g tk h
  unfold chkC at h
  have : x = [] := by simpa using h
  subst this
  exact pts_imp pts_nil fun σ H Q ⟨e, hh, μ, r, p⟩ => Post.ok p rfl r.heap
theorem sc_some {a : E} (ha : SE S a) : SC S (.some a) := by
  intro x P X Z W g tk h
  unfold chkC at h
  split at h
  · exact pts_one (ha g tk h).2
  · cases h
/-- what a comprehension is to show -/
theorem comp_law {own : List (Str × Nat)} {tg : Tgt} {it : It} {c : OE} {el : E} {W : WX} {σ : L2.St} {H : Hp} {Q : VK} (nx : P.cx.x = none) (hsl : tg.slots.all (fun i => (own.map (·.2)).contains i) = true)
    (t : tR P rD W (fun e h => (evIt P.cx it e h).bind fun J h1 =>
      (compI J tg (killE (own.map (·.2)) e) (fun e1 h2 => (evC P.cx c e1 h2).bind fun b h3 => if b then (ev P.cx el false e1 h3).bind fun d h4 => .ok (some d) h4 else .ok none h3) fuel 0 [] h1).bind
      fun ds h2 => .ok (.ref h2.length) (h2 ++ [.lst ds])) σ H Q) :
    tLc (tR P rI W (evIt P.cx it)) (gT P tg) (tR P rB (fun _ _ _ _ => False) (evC P.cx c)) (tR P rD (fun _ _ _ _ => False) (ev P.cx el false)) (own.map (·.2)) σ H Q := by
  obtain ⟨e, h, μ, r, p⟩ := t
  have hsl : ∀ j ∈ tg.slots, j ∈ own.map (·.2) := fun j hj => by
    have := List.all_eq_true.mp hsl j hj
    simpa using this
  generalize own.map (·.2) = ks at p hsl ⊢
  refine ⟨e, h, μ, r, (Post.bind (R := rI) p).mono fun I H1 ⟨J, h1, μ1, x1, rJ, rh1, q⟩ => ?_⟩
  intro D hD
  have r1 := r.mono x1 rh1
  generalize hf : (fun ds (h2 : HP) => (Res.ok (.ref h2.length) (h2 ++ [.lst ds]) : Res PI.D)) = fn at q
  generalize hst : (fun (e1 : Env) (h2 : HP) => (evC P.cx c e1 h2).bind fun b h3 => if b then (ev P.cx el false e1 h3).bind fun d h4 => Res.ok (some d) h4 else .ok none h3) = step at q
  refine ⟨fun i m H' => ∃ hh μ' acc vs, Ext h1.length hh.length H1 μ1 H' μ' ∧ RH P.K H' μ' hh ∧ H' D = some (.lst vs) ∧ (∀ k, 0 < k → k < hh.length → D ≠ μ' k) ∧ RVs P.K H' μ' hh.length acc vs ∧
    Post P rD (fun c d H => W c d σ H) H1 μ1 h1.length ((compI J tg (killE ks e) step m i acc hh).bind fn) Q, ⟨fuel, h1, μ1, [], [], Ext.fresh hD, rh1.fresh hD, upd_same, ?_, RVs.nil, q⟩, ?_⟩
  · intro k h0 hk z
    obtain ⟨ob, e1⟩ : ∃ ob, h1[k]? = some ob := ⟨_, List.getElem?_eq_getElem hk⟩
    have ok := rh1.obj k ob e1
    cases ob with
    | lst ds => obtain ⟨us, a, _⟩ := ok; rw [← z, hD] at a; cases a
    | con ds =>
      have := rh1.con0 k ds e1
      omega
  · rintro i m H' ⟨hh, μ', acc, vs, x2, rh2, hDv, ne, racc, q⟩
    cases m with
    | zero => exact q.elim
    | succ m =>
      obtain ⟨st, go⟩ := rJ hh H' μ' i x2 rh2
      unfold compI at q
      cases e1 : J.at hh i with
      | none => rw [e1] at q; exact q.elim
      | some o =>
        rw [e1] at q
        cases o with
        | none =>
          refine .inl ⟨st e1, ?_⟩
          subst hf
          refine q (.ref D) (muAt μ' hh.length D) H' ?_ ?_ (rh2.adopt hDv ne racc)
          · rw [List.length_append]; exact x2.adopt hD
          · show RV _ _ _ _ _ _
            rw [RV, muAt_same]
            exact ⟨by simp, rfl⟩
        | some d =>
          obtain ⟨hgo, hy⟩ := go d e1
          refine .inr ⟨hgo, fun H'' => ∃ hh μ' acc vs, Ext h1.length hh.length H1 μ1 H'' μ' ∧ RH P.K H'' μ' hh ∧ H'' D = some (.lst vs) ∧ (∀ k, 0 < k → k < hh.length → D ≠ μ' k) ∧ RVs P.K H'' μ' hh.length acc vs ∧
            Post P rD (fun c d H => W c d σ H) H1 μ1 h1.length ((compI J tg (killE ks e) step m (i + 1) acc hh).bind fn) Q, fun H'' k => ⟨m, by omega, k⟩, fun x H2 y => ?_⟩
          obtain ⟨x3, rx, rh3⟩ := hy x H2 y
          simp only at q
          cases e2 : bindT tg d (killE ks e) with
          | none => rw [e2] at q; exact q.elim
          | some e3 =>
            rw [e2] at q
            have rE : RE P.K (wipe σ ks) H2 μ' hh.length (killE ks e) := (r1.env.mono (x2.trans x3)).wipe ks
            have rX : ∀ {σ' : L2.St} {H' : Hp} {μ : Nat → Addr} {n : Nat}, RX P σ' H' μ n := fun {σ' H' μ n} => by unfold RX; rw [nx]; trivial
            refine ⟨killE ks e, hh, μ', d, e3, ⟨rE, rh3, rX⟩, rx, e2, fun σ2 r2 k2 => ⟨?_, e3, hh, μ', r2, ?_⟩⟩
            · refine wipe_same ?_ hsl k2
              rw [r2.env.len, bindT_len e2, killE_length, r.env.len]
            -- the test
            have lD2 : H2 D = some (.lst vs) := x3.keepA _ _ hDv (.inr ne)
            simp only at q
            subst hst
            cases e4 : evC P.cx c e3 hh with
            | stuck => simp only [e4, Res.bind] at q; exact q.elim
            | exc c d h => simp only [e4, Res.bind] at q; exact q.elim
            | ok b h3 =>
              simp only [e4] at q
              intro b' μ3 H3 x4 eb rh4
              have eb : b = b' := eb
              subst eb
              have lD3 : H3 D = some (.lst vs) := x4.keepA _ _ lD2 (.inr ne)
              have ne3 : ∀ k, 0 < k → k < h3.length → D ≠ μ3 k := fun k h0 hk z => by
                by_cases l : k < hh.length
                · rw [x4.mu k l] at z; exact ne k h0 l z
                · have := x4.new k (by omega) hk
                  rw [← z, lD2] at this; cases this
              cases b with
              | false =>
                simp only [Res.bind, Bool.false_eq_true, if_false] at q ⊢
                exact ⟨h3, μ3, acc, vs, x2.trans (x3.trans x4), rh4, lD3, ne3, RVs.mono (x3.trans x4) _ _ racc, q⟩
              | true =>
                simp only [Res.bind, if_true] at q ⊢
                refine ⟨e3, h3, μ3, ⟨r2.env.mono x4, rh4, rX⟩, ?_⟩
                cases e5 : ev P.cx el false e3 h3 with
                | stuck => simp only [e5, Res.bind] at q; exact q.elim
                | exc c d h => simp only [e5, Res.bind] at q; exact q.elim
                | ok d4 h4 =>
                  simp only [e5] at q
                  intro y4 μ4 H4 x5 rv5 rh5
                  have lD4 : H4 D = some (.lst vs) := x5.keepA _ _ lD3 (.inr ne3)
                  have ne4 : ∀ k, 0 < k → k < h4.length → D ≠ μ4 k := fun k h0 hk z => by
                    by_cases l : k < h3.length
                    · rw [x5.mu k l] at z; exact ne3 k h0 l z
                    · have := x5.new k (by omega) hk
                      rw [← z, lD3] at this; cases this
                  have racc4 : RVs P.K H4 μ4 h4.length acc vs := RVs.mono (x3.trans (x4.trans x5)) _ _ racc
                  by_cases hl : acc.length < SL
                  · rw [if_pos hl] at q
                    refine ⟨vs, lD4, by rw [racc.length, sizeLine_eq]; exact hl, h4, μ4, acc ++ [d4], vs ++ [y4], (x2.trans (x3.trans (x4.trans x5))).tweak hD, rh5.tweak lD4 ne4, upd_same, ne4, (racc4.append (RVs.one rv5)).tweak lD4, q⟩
                  · rw [if_neg hl] at q
                    exact q.elim
theorem se_comp {own : List (Str × Nat)} {tg : Tgt} {it : It} {c : OE} {el : E} (hi : SI S it) (hc : SC S c) (he : SE S el) : SE S (.comp own tg it c el) := by
  intro x P X Z W g tk h
  unfold chkE at h
  split at h
  · rename_i y t iter ifs scope pos
    simp only [Bool.and_eq_true] at h
    obtain ⟨⟨⟨⟨⟨⟨⟨h1, h2⟩, h3⟩, h4⟩, h5⟩, h6⟩, h7⟩, h8⟩ := h
    have ok : BlkOk X.N X.env.scope scope own := by rw [g.hN, g.hsc]; exact blkOk_by h4
    refine both g (m := fun e h => (evIt P.cx it e h).bind fun J h1 =>
      (compI J tg (killE (own.map (·.2)) e) (fun e1 h2 => (evC P.cx c e1 h2).bind fun b h3 => if b then (ev P.cx el false e1 h3).bind fun d h4 => .ok (some d) h4 else .ok none h3) fuel 0 [] h1).bind
      fun ds h2 => .ok (.ref h2.length) (h2 ++ [.lst ds])) (pe_imp (pe_lc (g.calm h1) (by rw [g.hN]; exact g.nd) (hi g tk h3 h2) ok ?_ ?_ ?_ (folded_ok h2)) fun σ H Q t => comp_law (g.calls h1).noex h6 t) rfl fun t e h => rfl
    · exact fun s H C cl fp => sg (g.blk h1 ok.kind) h5
    · exact fun s H C cl fp => hc (g.blk h1 ok.kind) takesN h7
    · exact fun s H C cl fp => (he (g.blk h1 ok.kind) takesN h8).1
  · cases h
end
end PI

set_option Elab.async false
set_option linter.all false
set_option maxRecDepth 100000
set_option maxHeartbeats 4000000
/-! In an except suite: the error's field, isinstance of it. -/
namespace PI
open PySem PySem.Spec PyProof.Rows L2
section
variable {S : Sig} {P : Par} {X : L2.Cx} {Z : Sco}
/-- the handled error's field and class, from the relation -/
theorem rx_some {σ : L2.St} {H : Hp} {μ : Nat → Addr} {n : Nat} {c : Nat} {d : D} {sl : Option Nat} {a dx : Addr} (q : P.cx.x = some (c, d)) (hx : P.xh = some (sl, a, dx)) (r : RX P σ H μ n) :
    (∀ i, sl = some i → σ[i]? = some (some (.ref a))) ∧ ∃ u, H dx = some (.xd [(P.att c, u)]) ∧ RV P.K H μ n d u := by
  unfold RX at r
  rw [q] at r
  obtain ⟨sl', a', dx', u, h1, h2, h3, h4⟩ := r
  rw [hx] at h1
  cases h1
  exact ⟨h2, u, h3, h4⟩
theorem pe_never {x : Expr} {t : TE} (k : ∀ σ H Q, ¬ t σ H Q) : PE X x t := ⟨fun _ _ σ H Q _ q => absurd q (k σ H Q)⟩
theorem se_xfld : SE S .xfld := by
  intro x P X Z W g tk h
  unfold chkE at h
  split at h
  · rename_i n p0 f pos
    split at h
    · rename_i m i c1 ez
      simp only [Bool.and_eq_true, decide_eq_true_eq] at h
      obtain ⟨⟨⟨rfl, h2⟩, h3⟩, h4⟩ := h
      obtain ⟨k1, k2, k3, k4⟩ := g.vis h2
      have m0 : ∀ t e h, ev P.cx .xfld t e h = fin t ((fun (_ : Env) h => match P.cx.x with | some (_, d) => Res.ok d h | none => .stuck) e h) := fun t e h => rfl
      cases q : P.cx.x with
      | none =>
        have hpe : PE X (.Attribute (.Name n p0) f pos) (tR P rD W (fun (_ : Env) h => match P.cx.x with | some (_, d) => Res.ok d h | none => .stuck)) := by
          refine pe_never fun σ H Q ⟨e, hh, μ, r, p⟩ => ?_
          rw [q] at p
          exact p.elim
        exact both g hpe rfl m0
      | some cd =>
        obtain ⟨c, d⟩ := cd
        obtain ⟨sl, a, dx, nm, c2, X0, oe, pn, e1, e2, e3, e4, e5, e6, e7⟩ := g.xs c d q
        rw [ez] at e2
        cases e2
        have hlt : c1 < S.ecs.length := (List.getElem?_eq_some_iff.mp h3).1
        have ec : c = c1 := g.errs.leaf c c1 h4 hlt e4
        subst ec
        have hf : P.att c = f := g.errs.att c _ f h3
        have hpe : PE X (.Attribute (.Name n p0) f pos) (tR P rD W (fun (_ : Env) h => match P.cx.x with | some (_, d) => Res.ok d h | none => .stuck)) := by
          have C := g.errs.ec c
          have no := g.errs.no c
          rw [hf] at no
          subst e5
          refine pe_imp (pe_xf (X := X0) (cls := .ref (P.cls c)) (d := some dx) (C := P.cls c) ⟨C.hg, C.hk, C.hs, C.hd⟩ no e6 e7 (pe_var k1 k2 k3 k4) (base_recv rfl)) fun σ H Q ⟨e, hh, μ, r, p⟩ => ?_
          rw [q] at p
          obtain ⟨s1, u, s2, s3⟩ := rx_some q e1 r.x
          rw [hf] at s2
          refine ⟨.ref a, s1 i (by rw [e3]; rfl), rfl, rfl, dx, [(f, u)], u, rfl, s2, ?_, ans p r.heap s3⟩
          simp [List.lookup]
        exact both g hpe rfl m0
    · cases h
  · cases h
theorem kitAny_ecs (E : ErrK S P X.K) (c : Nat) : ∀ cs : List Nat, PySem.W.kitAny X.K (.ref (P.cls c)) ((cs.map P.cls).map Value.ref) = some (cs.any (S.sub c))
  | [] => kitAny_nil
  | k :: cs => by
    simp only [List.map_cons, List.any_cons]
    refine kitAny_cons (E.kit c k) (fun e => ?_) (fun e => by rw [e]; rfl)
    rw [e, Bool.false_or]
    exact kitAny_ecs E c cs
/-- an error class's name -/
theorem pe_ec (g : Good S P X Z) {c : Nat} {x : Expr} (h : ecX S Z c x = true) : PE X x (tC (.ref (P.cls c))) ∧ okX x = true := by
  unfold ecX at h
  split at h
  · rename_i n pos
    simp only [Bool.and_eq_true, decide_eq_true_eq] at h
    obtain ⟨⟨h1, h2⟩, h3⟩ := h
    obtain ⟨gl, hd⟩ := g.gl h1
    obtain ⟨⟨m, f⟩, e⟩ : ∃ p, S.ecs[c]? = some p := ⟨_, List.getElem?_eq_getElem h3⟩
    have : m = n := by rw [← h2]; unfold n2; rw [e]
    subst this
    exact ⟨pe_glob gl (g.mgs c m f e) rfl hd, rfl⟩
  · cases h
theorem pa_ecs (g : Good S P X Z) : ∀ {cs : List Nat} {xs : List Expr}, ecsX S Z cs xs = true → PA X xs (fun σ H Q => Q ((cs.map P.cls).map V.ref) H)
  | [], [], _ => pa_nil
  | t :: ts, x :: xs, h => by
    unfold ecsX at h
    simp only [Bool.and_eq_true] at h
    obtain ⟨k1, k2⟩ := pe_ec g h.1
    exact pa_imp (pa_cons k1 (pa_ecs g h.2) (star_cons k2)) fun σ H Q q => q
  | [], _ :: _, h => by cases h
  | _ :: _, [], h => by cases h
theorem se_xis {cs : List Nat} {tupled : Bool} : SE S (.xis cs tupled) := by
  intro x P X Z W g tk h
  unfold chkE at h
  split at h
  · rename_i n p0 m p1 t pos
    split at h
    · rename_i m2 i c1 ez
      simp only [Bool.and_eq_true, decide_eq_true_eq] at h
      obtain ⟨⟨⟨⟨⟨h1, rfl⟩, rfl⟩, h3⟩, hl⟩, h4⟩ := h
      obtain ⟨gl, hd⟩ := g.gl h1
      obtain ⟨v1, v2, v3, v4⟩ := g.vis h3
      have m0 : ∀ t e h, ev P.cx (.xis cs tupled) t e h = fin t ((fun (_ : Env) h => match P.cx.x with | some (c, _) => Res.ok (.bl (cs.any (P.cx.sub c))) h | none => .stuck) e h) := fun t e h => rfl
      refine both g ?_ rfl m0
      cases q : P.cx.x with
      | none => exact pe_never fun σ H Q ⟨e, hh, μ, r, p⟩ => p.elim
      | some cd =>
        obtain ⟨c, d⟩ := cd
        obtain ⟨sl, a, dx, nm, c2, X0, oe, pn, e1, e2, e3, e4, e5, e6, e7⟩ := g.xs c d q
        rw [ez] at e2
        cases e2
        have C := g.errs.ec c
        have hsub := g.sub
        cases tupled with
        | true =>
          simp only [if_true] at h4
          split at h4
          · rename_i xs kk tp
            have ka : PA X [.Name m p1, .Tuple xs kk tp] _ := pa_cons (pe_var v1 v2 v3 v4) (pa_cons (pe_tup (pa_ecs g h4)) pa_nil (star_cons rfl)) (star_cons rfl)
            have kk2 := kitAny_ecs g.errs c cs
            have bm := g.blt "isinstance" (by decide)
            subst e5
            refine pe_imp (pe_callB (call_isOT C e6 e7) gl bm boot_isinstance ka (by decide) hd (star_cons rfl) (star_plain (by rfl))) fun σ H Q ⟨e, hh, μ, r, p⟩ => ?_
            obtain ⟨s1, u, s2, s3⟩ := rx_some q e1 r.x
            refine ⟨.ref a, s1 i (by rw [e3]; rfl), by rw [List.length_map, List.length_map, sizeLine_eq]; omega, fun tp hp => ?_⟩
            have y1 : Ext hh.length hh.length H μ (upd H tp (.tup ((cs.map P.cls).map V.ref))) μ := Ext.fresh hp
            rw [hsub] at p
            exact ⟨tp, cs.map P.cls, _, _, rfl, upd_same, y1.keep _ _ s2 trivial, kk2, p _ μ _ y1 rv_bl (r.heap.fresh hp)⟩
          · cases h4
        | false =>
          simp only [Bool.false_eq_true, if_false] at h4
          split at h4
          · rename_i k
            obtain ⟨k3, k4⟩ := pe_ec g h4
            have ka : PA X [.Name m p1, t] _ := pa_cons (pe_var v1 v2 v3 v4) (pa_cons k3 pa_nil (star_cons k4)) (star_cons rfl)
            have kk2 := g.errs.kit c k
            have bm := g.blt "isinstance" (by decide)
            subst e5
            refine pe_imp (pe_callB (call_isO C e6 e7) gl bm boot_isinstance ka (by decide) hd (star_cons rfl) (star_plain (by simp [k4]))) fun σ H Q ⟨e, hh, μ, r, p⟩ => ?_
            obtain ⟨s1, u, s2, s3⟩ := rx_some q e1 r.x
            rw [hsub] at p
            have e9 : ([k] : List Nat).any (S.sub c) = S.sub c k := by simp
            replace p : Post P rD (fun c d H => W c d σ H) H μ hh.length (.ok (.bl (([k] : List Nat).any (S.sub c))) hh) Q := p
            rw [e9] at p
            exact ⟨.ref a, s1 i (by rw [e3]; rfl), .ref (P.cls k), .ref (P.cls k), _, _, rfl, fun u hu => hu, s2, kk2, ans p r.heap rv_bl⟩
          · cases h4
    · cases h
  · cases h
end
end PI

set_option Elab.async false
set_option linter.all false
set_option maxRecDepth 100000
set_option maxHeartbeats 4000000
/-! All expressions. What a statement promises; the checker of statements. -/
namespace PI
open PySem PySem.Spec PyProof.Rows L2
mutual
theorem allE (S : Sig) : ∀ c : E, SE S c
  | .var i => se_var i
  | .int i => se_int i
  | .str s => se_str s
  | .bl b => se_bl b
  | .non => se_non
  | .bin _ a b => se_bin (allE S a) (allE S b)
  | .neg a => se_neg (allE S a)
  | .not a => se_not (allE S a)
  | .cmp _ a b => se_cmp (allE S a) (allE S b)
  | .chain _ _ a b c => se_chain (allE S a) (allE S b) (allE S c)
  | .boo _ es => se_boo (allEs S es).2
  | .ife c a b => se_ife (allE S c) (allE S a) (allE S b)
  | .tup es => se_tup (allEs S es).1
  | .lst es => se_lst (allEs S es).1
  | .call _ es => se_call (allEs S es).1
  | .bi _ es => se_bi (allEs S es).1
  | .isin a _ _ => se_isin (allE S a)
  | .ix a i => se_ix (allE S a) (allE S i)
  | .sl a lo hi => se_sl (allE S a) (allO S lo).1 (allO S hi).1
  | .meth _ o es => se_meth (allE S o) (allEs S es).1
  | .comp _ _ it c el => se_comp (allI S it) (allO S c).2 (allE S el)
  | .cst _ _ => se_cst
  | .lrg1 _ a => se_lrg1 (allE S a)
  | .lrg2 _ a b => se_lrg2 (allE S a) (allE S b)
  | .lrg3 _ es => se_lrg3 (allEs S es).1
  | .xfld => se_xfld
  | .xis _ _ => se_xis
theorem allEs (S : Sig) : ∀ c : Es, SEs S c ∧ SBs S c
  | .nil => ⟨ses_nil, sbs_nil⟩
  | .cons a r => ⟨ses_cons (allE S a) (allEs S r).1, sbs_cons (allE S a) (allEs S r).2⟩
theorem allO (S : Sig) : ∀ c : OE, SO S c ∧ SC S c
  | .none => ⟨so_none, sc_none⟩
  | .some a => ⟨so_some (allE S a), sc_some (allE S a)⟩
theorem allI (S : Sig) : ∀ c : It, SI S c
  | .seq a => si_seq (allE S a)
  | .rng1 a => si_rng1 (allE S a)
  | .rng2 a b => si_rng2 (allE S a) (allE S b)
  | .enum a => si_enum (allE S a)
end

/-! ### what a statement promises -/
def PostF (P : Par) (W : WX) (D : Ends) (H : Hp) (μ : Nat → Addr) (n : Nat) : Fl → Prop
  | .nx e h => ∀ σ' μ' H', Ext n h.length H μ H' μ' → Rel P σ' H' e h μ' → D.nx σ' H'
  | .bk e h => ∀ σ' μ' H', Ext n h.length H μ H' μ' → Rel P σ' H' e h μ' → D.bk σ' H'
  | .ct e h => ∀ σ' μ' H', Ext n h.length H μ H' μ' → Rel P σ' H' e h μ' → D.ct σ' H'
  | .rt d h => ∀ v μ' H', Ext n h.length H μ H' μ' → RV P.K H' μ' h.length d v → RH P.K H' μ' h → D.rt v H'
  | .ex c d e h => ∀ σ' dx u μ' H', Ext n h.length H μ H' μ' → H' dx = some (.xd [(P.att c, u)]) → RV P.K H' μ' h.length d u → Rel P σ' H' e h μ' → W (.ref (P.cls c)) (some dx) σ' H'
  | .stuck => False
def sR (P : Par) (W : WX) (m : Env → HP → Fl) : TS := fun D σ H => ∃ e h μ, Rel P σ H e h μ ∧ PostF P W D H μ h.length (m e h)
section
variable {P : Par} {W : WX} {D : Ends} {H H1 : Hp} {μ μ1 : Nat → Addr} {n n1 : Nat}
theorem PostF.ext {r : Fl} (x : Ext n n1 H μ H1 μ1) (p : PostF P W D H μ n r) : PostF P W D H1 μ1 n1 r := by
  cases r with
  | nx e h => exact fun σ' μ' H' y => p σ' μ' H' (x.trans y)
  | bk e h => exact fun σ' μ' H' y => p σ' μ' H' (x.trans y)
  | ct e h => exact fun σ' μ' H' y => p σ' μ' H' (x.trans y)
  | rt d h => exact fun v μ' H' y => p v μ' H' (x.trans y)
  | ex c d e h => exact fun σ' dx u μ' H' y => p σ' dx u μ' H' (x.trans y)
  | stuck => exact p
/-- an evaluation, then the rest -/
theorem PostF.fl {α β : Type} {R : Rp α β} {r : Res α} {σ : L2.St} {e : Env} {h : HP} {f : α → HP → Fl} (rel : Rel P σ H e h μ) (p : PostF P W D H μ h.length (r.fl e f)) :
    Post P R (fun c d H => W c d σ H) H μ h.length r (fun v H1 => ∃ a h1 μ1, Rel P σ H1 e h1 μ1 ∧ Ext h.length h1.length H μ H1 μ1 ∧ R P.K H1 μ1 h1.length a v ∧ PostF P W D H1 μ1 h1.length (f a h1)) := by
  cases r with
  | ok a h1 => exact fun v μ' H' y r rh => ⟨a, h1, μ', rel.mono y rh, y, r, PostF.ext y p⟩
  | exc c d h1 => exact fun dx u μ' H' y xd rv rh => p σ dx u μ' H' y xd rv (rel.mono y rh)
  | stuck => exact p
/-- a statement, then the rest -/
theorem PostF.then {m : Fl} {f : Env → HP → Fl} (p : PostF P W D H μ n (m.then f)) : PostF P W { D with nx := fun σ' H' => ∃ e1 h1 μ1, Rel P σ' H' e1 h1 μ1 ∧ PostF P W D H' μ1 h1.length (f e1 h1) } H μ n m := by
  cases m with
  | nx e h => exact fun σ' μ' H' y r => ⟨e, h, μ', r, PostF.ext y p⟩
  | bk e h => exact p
  | ct e h => exact p
  | rt d h => exact p
  | ex c d e h => exact p
  | stuck => exact p
end
/-- where a statement may stand -/
structure Stand (X : L2.Cx) (Z : Sco) : Prop where
  po : Z.calm = true → PassesOwn (model X.prog X.w) X.A X.env X.xe
  st : Z.calm = true → X.stack = X.env :: X.outer
  fr : Z.calm = true → X.env.frame = some X.env.locals
def isComp : Expr → Bool
  | .ListComp .. => true
  | .SetComp .. => true
  | .DictComp .. => true
  | _ => false
def isTup : Expr → Bool
  | .Tuple .. => true
  | _ => false
/-- no comprehension is stored at once -/
def plainC (Z : Sco) (tg v : Expr) : Bool := !isComp v || (match tg with
  | .Name y _ => decide (Z.sc.names.lookup y = some .cell)
  | _ => true)
/-- a tuple of values that is stored in order -/
def swN (Z : Sco) (tg v : Expr) : Bool := match tg, v with
  | .Tuple ts _ _, .Tuple vs _ _ => !(ts.length == 2 || ts.length == 3) || ts.any (fun t => match t with | .Name x _ => decide (Z.sc.names.lookup x ≠ some .local) | _ => true) || vs.all (foldedForSure 8)
  | _, _ => false
def asgC (S : Sig) (Z : Sco) (t : Tgt) (a : E) (tg v : Expr) : Bool := chkT Z t tg && chkE S a Z v && plainC Z tg v && (!(isTup tg && isTup v) || swN Z tg v) && okX tg
/-- name = [..] on one line -/
def lcC (S : Sig) (Z : Sco) (t : Tgt) (a : E) (tg v : Expr) : Bool := match t, a, tg, v with
  | .v i, .comp own t2 it c el, .Name y py, .ListComp elt gs scope p2 => stoB Z i y && decide (Z.sc.names.lookup y = some .local) && (py.line == p2.line) && !(scope.names.any fun (n, k) => n == y && (k == .local || k == .cell)) && chkE S (.comp own t2 it c el) Z (.ListComp elt gs scope p2)
  | _, _, _, _ => false
/-- a, b = x, y -/
def parC (S : Sig) (Z : Sco) (t : Tgt) (a : E) (tg v : Expr) : Bool := match t, a, tg, v with
  | .tp [i, j], .tup es, .Tuple [.Name x px, .Name y py] _ _, .Tuple [a, b] _ _ => Z.calm && stoB Z i x && stoB Z j y && decide (Z.sc.names.lookup x = some .local) && decide (Z.sc.names.lookup y = some .local) && (py.line == px.line) && decide (x ≠ y) && decide (i ≠ j) && chkEs S es Z [a, b] &&
      !([a, b].all (foldedForSure 8)) && !([a, b].all (constantsAlone 8))
  | .tp [i, j, l], .tup es, .Tuple [.Name x px, .Name y py, .Name z pz] _ _, .Tuple [a, b, c] _ _ => Z.calm && stoB Z i x && stoB Z j y && stoB Z l z && decide (Z.sc.names.lookup x = some .local) && decide (Z.sc.names.lookup y = some .local) && decide (Z.sc.names.lookup z = some .local) &&
      (py.line == px.line) && (pz.line == px.line) && decide (x ≠ y) && decide (x ≠ z) && decide (y ≠ z) && decide (i ≠ j) && decide (i ≠ l) && decide (j ≠ l) && chkEs S es Z [a, b, c] && !([a, b, c].all (foldedForSure 8)) && !([a, b, c].all (constantsAlone 8))
  | _, _, _, _ => false
/-- in a clause's suite -/
def Sco.sui (Z : Sco) (nm : Option (Str × Nat)) (c : Nat) : Sco := { Z with calm := false, ex := some (nm, c) }
/-- a clause's name -/
def nmC (Z : Sco) : Option Nat → Option Str → Bool
  | none, none => true
  | some i, some n => decide (Z.N[i]? = some n) && decide (Z.sc.names.lookup n = some .local)
  | _, _ => false
def nmZ : Option Nat → Option Str → Option (Str × Nat)
  | some i, some n => some (n, i)
  | _, _ => none
mutual
def chkS (S : Sig) : PI.S → Sco → Stmt → Bool
  | .unl is a, Z, x => (match x with | .Assign [tg] v _ => asgC S Z (.tp is) a tg v | _ => false)
  | .asg t a, Z, x => (match x with | .Assign [tg] v _ => asgC S Z t a tg v || lcC S Z t a tg v || parC S Z t a tg v | _ => false)
  | .put o i a, Z, x => (match x with | .Assign [.Subscript y z ps] v _ => okX z && plainC Z (.Subscript y z ps) v && chkE S o Z y && chkE S i Z z && chkE S a Z v | _ => false)
  | .expr a, Z, x => (match x with | .Expr v _ => !isComp v && chkE S a Z v | _ => false)
  | .ret a, Z, x => (match x with | .Return (some v) _ => chkE S a Z v | _ => false)
  | .retN, _, x => (match x with | .Return none _ => true | _ => false)
  | .iff c a b, Z, x => (match x with | .If t xs ys _ => chkE S c Z t && chkB S a Z xs && chkB S b Z ys | _ => false)
  | .forr t it body _, Z, x => (match x with | .For tg iter xs [] _ => Z.calm && chkI S it Z tg iter && okX iter && chkT Z t tg && chkB S body Z xs | _ => false)
  | .whl c body _, Z, x => (match x with | .While t xs [] _ => Z.calm && chkE S c Z t && chkB S body Z xs | _ => false)
  | .brk, _, x => (match x with | .Break _ => true | _ => false)
  | .cnt, _, x => (match x with | .Continue _ => true | _ => false)
  | .pass, _, x => (match x with | .Pass _ => true | _ => false)
  | .rais c a, Z, x => (match x with | .Raise (some (.Call (.Name n _) [y] [] _)) none _ => Z.calm && glB Z n && decide (n2 S c = n) && (match S.ecs[c]? with | some (_, f) => decide (f ≠ "") | none => false) && okX y && chkE S a Z y | _ => false)
  | .tryy body hs, Z, x => (match x with | .Try xs (h0 :: hds) [] [] _ => Z.calm && chkB S body Z xs && chkH S hs Z (h0 :: hds) | _ => false)
def chkB (S : Sig) : B → Sco → List Stmt → Bool
  | .nil, _, x => x.isEmpty
  | .cons s b, Z, x => (match x with | y :: ys => chkS S s Z y && chkB S b Z ys | [] => false)
def chkH (S : Sig) : Hs → Sco → List ExceptHandler → Bool
  | .nil, _, x => x.isEmpty
  | .cons c sl body r, Z, x => (match x with
    | .ExceptHandler (some (.Name n _)) nm (s0 :: suite) _ :: hds => glB Z n && decide (n2 S c = n) && decide (c < S.ecs.length) && nmC Z sl nm && chkB S body (Z.sui (nmZ sl nm) c) (s0 :: suite) && chkH S r Z hds
    | _ => false)
end
def SS (S : Sig) (c : PI.S) : Prop := ∀ {x : Stmt} {P : Par} {X : L2.Cx} {Z : Sco} {W : WX}, Good S P X Z → Stand X Z → Takes X W → chkS S c Z x = true → PS X x (sR P W (evS P.cx c))
end PI

set_option Elab.async false
set_option linter.all false
set_option maxRecDepth 100000
set_option maxHeartbeats 4000000
/-! Each kind of plain statement keeps what it promises. -/
namespace PI
open PySem PySem.Spec PyProof.Rows L2
def SBk (S : Sig) (c : B) : Prop := ∀ {x : List Stmt} {P : Par} {X : L2.Cx} {Z : Sco} {W : WX}, Good S P X Z → Stand X Z → Takes X W → chkB S c Z x = true → PSs X x (sR P W (evB P.cx c))
section
variable {S : Sig}
theorem ss_pass : SS S .pass := by
  intro x P X Z W g st tk h
  unfold chkS at h
  split at h
  · exact ps_imp ps_pass fun D σ H ⟨e, hh, μ, r, p⟩ => p σ μ H Ext.refl r
  · cases h
theorem ss_brk : SS S .brk := by
  intro x P X Z W g st tk h
  unfold chkS at h
  split at h
  · exact ps_imp ps_break fun D σ H ⟨e, hh, μ, r, p⟩ => p σ μ H Ext.refl r
  · cases h
theorem ss_cnt : SS S .cnt := by
  intro x P X Z W g st tk h
  unfold chkS at h
  split at h
  · exact ps_imp ps_continue fun D σ H ⟨e, hh, μ, r, p⟩ => p σ μ H Ext.refl r
  · cases h
theorem ss_retN : SS S .retN := by
  intro x P X Z W g st tk h
  unfold chkS at h
  split at h
  · exact ps_imp ps_retN fun D σ H ⟨e, hh, μ, r, p⟩ => p .non μ H Ext.refl rv_non r.heap
  · cases h
theorem ss_ret (a : E) : SS S (.ret a) := by
  intro x P X Z W g st tk h
  unfold chkS at h
  split at h
  · refine ps_imp (ps_ret (allE S a g tk h).1) fun D σ H ⟨e, hh, μ, r, p⟩ => ?_
    exact ⟨e, hh, μ, r, (PostF.fl (R := rD) r p).mono fun v H1 ⟨d, h1, μ1, r1, x1, rv, q⟩ => q v μ1 H1 Ext.refl rv r1.heap⟩
  · cases h
theorem sw_plain {v : Expr} {t : Option Expr} {l : Nat} {env : PySem.Env} (h : isComp v = false) : swapsWith v t l env = pure false := by
  cases v <;> first | rfl | cases h
theorem ss_expr (a : E) : SS S (.expr a) := by
  intro x P X Z W g st tk h
  unfold chkS at h
  split at h
  · simp only [Bool.and_eq_true, Bool.not_eq_true'] at h
    refine ps_imp (ps_expr (allE S a g tk h.2).1 (sw_plain h.1)) fun D σ H ⟨e, hh, μ, r, p⟩ => ?_
    exact ⟨e, hh, μ, r, (PostF.fl (R := rD) r p).mono fun v H1 ⟨d, h1, μ1, r1, x1, rv, q⟩ => q σ μ1 H1 Ext.refl r1⟩
  · cases h
theorem ss_iff {c : E} {a b : B} (ha : SBk S a) (hb : SBk S b) : SS S (.iff c a b) := by
  intro x P X Z W g st tk h
  unfold chkS at h
  split at h
  · simp only [Bool.and_eq_true] at h
    obtain ⟨⟨h1, h2⟩, h3⟩ := h
    refine ps_imp (ps_if (allE S c g tk h1).2 (ha g st tk h2) (hb g st tk h3)) fun D σ H ⟨e, hh, μ, r, p⟩ => ?_
    refine ⟨e, hh, μ, r, (PostF.fl (R := rB) r p).mono fun k H1 ⟨k', h1, μ1, r1, x1, ek, q⟩ => ?_⟩
    have ek : k' = k := ek
    subst ek
    cases k' with
    | true => exact ⟨e, h1, μ1, r1, q⟩
    | false => exact ⟨e, h1, μ1, r1, q⟩
  · cases h
theorem sb_nil : SBk S .nil := by
  intro x P X Z W g st tk h
  unfold chkB at h
  have : x = [] := by simpa using h
  subst this
  exact pss_imp pss_nil fun D σ H ⟨e, hh, μ, r, p⟩ => p σ μ H Ext.refl r
theorem sb_cons {s : PI.S} {b : B} (hs : SS S s) (hb : SBk S b) : SBk S (.cons s b) := by
  intro x P X Z W g st tk h
  unfold chkB at h
  split at h
  · simp only [Bool.and_eq_true] at h
    exact pss_imp (pss_cons (hs g st tk h.1) (hb g st tk h.2)) fun D σ H ⟨e, hh, μ, r, p⟩ => ⟨e, hh, μ, r, PostF.then p⟩
  · cases h
/-! ### assignment -/
/-- the value lies; the target takes it -/
theorem asg_end {P : Par} {W : WX} {D : Ends} {σ : L2.St} {H : Hp} {e : Env} {hh : HP} {μ : Nat → Addr} {t : Tgt} {d : PI.D} {v : V} (r : Rel P σ H e hh μ) (rv : RV P.K H μ hh.length d v)
    (q : PostF P W D H μ hh.length (match bindT t d e with | some e1 => .nx e1 hh | none => .stuck)) : gT P t v σ H D.nx := by
  cases b : bindT t d e with
  | none => rw [b] at q; exact q.elim
  | some e1 =>
    rw [b] at q
    exact ⟨e, hh, μ, d, e1, r, rv, b, fun σ' r' _ => q σ' μ H Ext.refl r'⟩
theorem swap_none {tg v : Expr} {env : PySem.Env} (ok : okX tg = true) (h : (isTup tg && isTup v) = false) (hl : ∀ es p, tg ≠ .List es p) : swappedStores [tg] v env = pure none := by
  cases tg with
  | Tuple es k p => cases v <;> first | rfl | cases h
  | List es p => exact absurd rfl (hl es p)
  | _ => rfl
theorem chkT_list {Z : Sco} {t : Tgt} {tg : Expr} (h : chkT Z t tg = true) : ∀ es p, tg ≠ .List es p := by
  intro es p z
  subst z
  cases t <;> simp [chkT] at h
theorem asg_each {tg : Expr} {env : PySem.Env} (ok : okX tg = true) : (assignEach [tg] env).map (·.2) = [assign tg env] := by
  rw [assign_cons ok]; rfl
theorem sw_tg {P : Par} {X : L2.Cx} {Z : Sco} {tg v : Expr} {l : Nat} (g : Good S P X Z) (h : plainC Z tg v = true) : swapsWithSole [tg] v l X.env = pure false := by
  show swapsWith v (some tg) l X.env = pure false
  unfold plainC at h
  simp only [Bool.or_eq_true, Bool.not_eq_true'] at h
  rcases h with h | h
  · exact sw_plain h
  · cases tg with
    | Name y py =>
      simp only [decide_eq_true_eq] at h
      have ky : X.env.kindOf y = some .cell := by
        show X.env.scope.names.lookup y = some .cell
        rw [g.hsc]; exact h
      have kz : ((X.env.kindOf y) == some NameKind.local) = false := by rw [ky]; rfl
      unfold swapsWith
      cases v <;> first | rfl | (simp only [kz, Bool.and_false, Bool.false_and] <;> rfl)
    | _ =>
      unfold swapsWith
      cases v <;> rfl
theorem swap_noneN {Z : Sco} {tg v : Expr} {env : PySem.Env} (hk : ∀ x, env.kindOf x = Z.sc.names.lookup x) (h : swN Z tg v = true) : swappedStores [tg] v env = pure none := by
  unfold swN at h
  split at h
  · rename_i ts k p vs k2 p2
    simp only [Bool.or_eq_true] at h
    unfold swappedStores
    dsimp only
    split
    · rfl
    · rename_i c1
      split
      · rfl
      · split
        · rfl
        · rename_i c3
          rcases h with (h | h) | h
          · exact absurd (by simp [h]) c1
          · refine absurd ?_ c3
            simp only [Bool.or_eq_true, bne_iff_ne, ne_eq]
            left
            intro e
            obtain ⟨t, ht, hn⟩ := List.any_eq_true.mp h
            have hlt : (ts.filterMap fun x => match x with | .Name id pos => if (env.kindOf id == some .local && pos.line == ((ts.head?.map (·.pos.line)).getD 0)) = true then some id else none | _ => none).length < ts.length := by
              refine Nat.lt_of_le_of_ne (List.length_filterMap_le _ _) fun e2 => ?_
              have := List.filterMap_length_eq_length.mp e2 t ht
              cases t with
              | Name x pos =>
                have hn : ¬ Z.sc.names.lookup x = some .local := of_decide_eq_true hn
                rw [← hk] at hn
                have : (env.kindOf x == some NameKind.local) = false := by simpa using hn
                simp_all
              | _ => simp_all
            exact Nat.ne_of_lt hlt e
          · rw [if_pos h]
  · cases h
theorem swap_or {Z : Sco} {tg v : Expr} {env : PySem.Env} (hk : ∀ x, env.kindOf x = Z.sc.names.lookup x) (ok : okX tg = true) (h : isTup tg = true → isTup v = true → swN Z tg v = true) (hl : ∀ es p, tg ≠ .List es p) : swappedStores [tg] v env = pure none := by
  by_cases c : (isTup tg && isTup v) = true
  · simp only [Bool.and_eq_true] at c
    exact swap_noneN hk (h c.1 c.2)
  · exact swap_none ok (by simpa using c) hl
theorem kindZ {P : Par} {X : L2.Cx} {Z : Sco} (g : Good S P X Z) : ∀ x, X.env.kindOf x = Z.sc.names.lookup x := fun x => by
  show X.env.scope.names.lookup x = _
  rw [g.hsc]
theorem swC {tg v : Expr} {Z : Sco} (h : (!(isTup tg && isTup v) || swN Z tg v) = true) : isTup tg = true → isTup v = true → swN Z tg v = true := fun a b => by
  rw [a, b] at h
  exact h
theorem ss_asgC {t : Tgt} {a : E} {tg v : Expr} {pos : Pos} {P : Par} {X : L2.Cx} {Z : Sco} {W : WX} (g : Good S P X Z) (tk : Takes X W) (h : asgC S Z t a tg v = true) : PS X (.Assign [tg] v pos) (sR P W (evS P.cx (.asg t a))) := by
  unfold asgC at h
  simp only [Bool.and_eq_true] at h
  obtain ⟨⟨⟨⟨h1, h2⟩, h3⟩, h4⟩, h5⟩ := h
  refine ps_imp (ps_asg (allE S a g tk h2).1 (sg g h1) (sw_tg g h3) (swap_or (kindZ g) h5 (swC h4) (chkT_list h1)) (asg_each h5)) fun D σ H ⟨e, hh, μ, r, p⟩ => ?_
  exact ⟨e, hh, μ, r, (PostF.fl (R := rD) r p).mono fun v H1 ⟨d, h1, μ1, r1, x1, rv, q⟩ => asg_end r1 rv q⟩
theorem unl_end {P : Par} {W : WX} {D : Ends} {σ : L2.St} {H : Hp} {e : Env} {hh : HP} {μ : Nat → Addr} {is : List Nat} {d : PI.D} {v : V} (r : Rel P σ H e hh μ) (rv : RV P.K H μ hh.length d v)
    (q : PostF P W D H μ hh.length (match bindT (.tp is) (unlD hh d) e with | some e1 => .nx e1 hh | none => .stuck)) : gU P is v σ H D.nx := by
  cases b : bindT (.tp is) (unlD hh d) e with
  | none => rw [b] at q; exact q.elim
  | some e1 =>
    rw [b] at q
    exact ⟨e, hh, μ, d, e1, r, rv, b, fun σ' r' => q σ' μ H Ext.refl r'⟩
theorem ss_unl {is : List Nat} {a : E} : SS S (.unl is a) := by
  intro x P X Z W g st tk h
  unfold chkS at h
  split at h
  · unfold asgC at h
    simp only [Bool.and_eq_true] at h
    obtain ⟨⟨⟨⟨h1, h2⟩, h3⟩, h4⟩, h5⟩ := h
    refine ps_imp (ps_asg (allE S a g tk h2).1 (su g h1) (sw_tg g h3) (swap_or (kindZ g) h5 (swC h4) (chkT_list h1)) (asg_each h5)) fun D σ H ⟨e, hh, μ, r, p⟩ => ?_
    exact ⟨e, hh, μ, r, (PostF.fl (R := rD) r p).mono fun v H1 ⟨d, h1, μ1, r1, x1, rv, q⟩ => unl_end r1 rv q⟩
  · cases h
theorem sub_assign {y z : Expr} {ps : Pos} {env : PySem.Env} (ok : okX z = true) : ∀ v, assign (.Subscript y z ps) env v = (do
      let ov ← holding [v] (eval y env)
      let iv ← holding [v, ov] (eval z env)
      standAt ps
      holding [v, ov, iv] (setItem ov iv v)
      release [v, ov, iv] []) := by
  intro v
  cases z <;> first | rfl | cases ok
theorem ss_put {o i a : E} : SS S (.put o i a) := by
  intro x P X Z W g st tk h
  unfold chkS at h
  split at h
  · rename_i y z ps v pos
    simp only [Bool.and_eq_true] at h
    obtain ⟨⟨⟨⟨h1, h2⟩, h3⟩, h4⟩, h5⟩ := h
    refine ps_imp (ps_asg (allE S a g tk h5).1 (pg_sub (allE S o g tk h3).1 (allE S i g tk h4).1 set_list (sub_assign h1)) (sw_tg g h2) rfl rfl) fun D σ H ⟨e, hh, μ, r, p⟩ => ?_
    refine ⟨e, hh, μ, r, (PostF.fl (R := rD) r p).mono fun v H1 ⟨d, h1, μ1, r1, x1, rv, q⟩ => ?_⟩
    refine ⟨e, h1, μ1, r1, (PostF.fl (R := rD) r1 q).mono fun ov H2 ⟨od, h2, μ2, r2, x2, rov, q2⟩ => ?_⟩
    refine ⟨e, h2, μ2, r2, (PostF.fl (R := rD) r2 q2).mono fun iv H3 ⟨id, h3, μ3, r3, x3, riv, q3⟩ => ?_⟩
    cases od with
    | ref n =>
      cases id with
      | int j =>
        simp only [setD] at q3
        cases hk : h3[n]? with
        | none => rw [hk] at q3; exact q3.elim
        | some ob =>
          cases ob with
          | con _ => rw [hk] at q3; exact q3.elim
          | lst ds =>
            rw [hk] at q3
            simp only at q3
            cases hj : ixN ds.length j with
            | none => rw [hj] at q3; exact q3.elim
            | some k =>
              rw [hj] at q3
              have rh := r3.heap
              obtain ⟨vs, e1, rr⟩ := rh.obj n _ hk
              have ro := RV.mono x3 _ _ rov
              have rd := RV.mono x3 _ _ (RV.mono x2 _ _ rv)
              have x : Ext h3.length (h3.set n (.lst (ds.set k d))).length H3 μ3 (upd H3 (μ3 n) (.lst (vs.set k v))) μ3 := by rw [List.length_set]; exact Ext.write e1 (lt_of_get hk) (rh.pos hk)
              exact ⟨μ3 n, vs, j, k, ro.ref_.2, RV.int_ riv, e1, by rw [RVs.length rr]; exact hj, q3 σ μ3 _ x (r3.mono x (rh.write hk e1 (rr.set k rd)))⟩
      | _ => exact q3.elim
    | _ => exact q3.elim
  · cases h
end
end PI

set_option Elab.async false
set_option linter.all false
set_option maxRecDepth 100000
set_option maxHeartbeats 4000000
/-! Comprehensions stored at once, names set side by side, loops. -/
namespace PI
open PySem PySem.Spec PyProof.Rows L2
section
variable {S : Sig} {P : Par} {X : L2.Cx} {Z : Sco} {W : WX}
theorem ss_lcC {t : Tgt} {a : E} {tg v : Expr} {pos : Pos} (g : Good S P X Z) (tk : Takes X W) (h : lcC S Z t a tg v = true) : PS X (.Assign [tg] v pos) (sR P W (evS P.cx (.asg t a))) := by
  unfold lcC at h
  split at h
  · rename_i i own t2 it c el y py elt gs scope p2
    simp only [Bool.and_eq_true, decide_eq_true_eq, Bool.not_eq_true'] at h
    obtain ⟨⟨⟨⟨h1, h2⟩, h3⟩, h4⟩, h5⟩ := h
    unfold chkE at h5
    split at h5
    · rename_i y2 t3 iter ifs scope2 p3 ee
      cases ee
      simp only [Bool.and_eq_true] at h5
      obtain ⟨⟨⟨⟨⟨⟨⟨k1, k2⟩, k3⟩, k4⟩, k5⟩, k6⟩, k7⟩, k8⟩ := h5
      have ok : BlkOk X.N X.env.scope scope own := by rw [g.hN, g.hsc]; exact blkOk_by k4
      obtain ⟨n1, n2, n3⟩ := g.sto h1
      have hsto := h1
      have hyl : X.env.scope.names.lookup y = some .local := by rw [g.hsc]; exact h2
      have b1 : ∀ (s : Shared) (H : Hp) (C : Addr) (cl : List (Str × Addr)) (fp : List Addr), PG (X.blk s H scope (compEnvC scope cl C X.env) fp) t3 (gT P t2) := fun s H C cl fp => sg (g.blk k1 ok.kind) k5
      have b2 : ∀ (s : Shared) (H : Hp) (C : Addr) (cl : List (Str × Addr)) (fp : List Addr), PTs (X.blk s H scope (compEnvC scope cl C X.env) fp) ifs (tR P rB (fun _ _ _ _ => False) (evC P.cx c)) := fun s H C cl fp => (allO S c).2 (g.blk k1 ok.kind) takesN k7
      have b3 : ∀ (s : Shared) (H : Hp) (C : Addr) (cl : List (Str × Addr)) (fp : List Addr), PE (X.blk s H scope (compEnvC scope cl C X.env) fp) elt (tR P rD (fun _ _ _ _ => False) (ev P.cx el false)) := fun s H C cl fp => (allE S el (g.blk k1 ok.kind) takesN k8).1
      refine ps_imp (ps_setLc (g.calm k1) (by rw [g.hN]; exact g.nd) n1 hyl (sw_true g.kind hyl h3 h4) (allI S it g tk k3 k2) ok b1 b2 b3 (folded_ok k2)) fun D σ H ⟨e, hh, μ, r, p⟩ => ?_
      · have p2 := PostF.fl (R := rD) r p
        have hev : ev P.cx (.comp own t2 it c el) false = fun e h => (evIt P.cx it e h).bind fun J h1 =>
            (compI J t2 (killE (own.map (·.2)) e) (fun e1 h2 => (evC P.cx c e1 h2).bind fun b h3 => if b then (ev P.cx el false e1 h3).bind fun d h4 => .ok (some d) h4 else .ok none h3) fuel 0 [] h1).bind
            fun ds h2 => .ok (.ref h2.length) (h2 ++ [.lst ds]) := by funext e h; rfl
        refine comp_law (W := W) (g.calls k1).noex k6 ⟨e, hh, μ, r, ?_⟩
        rw [← hev]
        refine p2.mono fun v H1 ⟨d, h1, μ1, r1, x1, rv, q⟩ => ?_
        have q2 := asg_end r1 rv q
        obtain ⟨e5, hh5, μ5, d5, e6, r5, rv5, b5, k⟩ := q2
        simp only [bindT] at b5
        split at b5
        · cases b5
          refine k _ ⟨r5.env.set rv5, r5.heap, ?_⟩ fun j hj => List.getElem?_set_ne (fun z => hj (by simp [Tgt.slots, z]))
          exact g.keepX (js := [i]) (fun nm sl c e => by simpa using stoB_ex hsto nm sl c e) (fun j hj => List.getElem?_set_ne (fun z => hj (by simp [z]))) r5.x
        · cases b5
    · cases h5
  · cases h
/-! ### loops -/
theorem ss_whl {c : E} {body : B} {ks : List Nat} (hb : SBk S body) : SS S (.whl c body ks) := by
  intro x P X Z W g st tk h
  unfold chkS at h
  split at h
  · simp only [Bool.and_eq_true] at h
    obtain ⟨⟨h1, h2⟩, h3⟩ := h
    refine ps_imp (ps_while (st.po h1) (allE S c g tk h2).2 (hb g st tk h3)) fun D σ H ⟨e, hh, μ, r, p⟩ => ?_
    have p : PostF P W D H μ hh.length ((whileI (fun e1 h1 => evT P.cx c e1 h1) (fun e1 h1 => evB P.cx body e1 h1) fuel e hh).then fun e2 h2 => .nx (killE ks e2) h2) := p
    generalize fuel = F at p
    refine ⟨fun m σ' H' => ∃ e' h' μ', Rel P σ' H' e' h' μ' ∧ PostF P W D H' μ' h'.length ((whileI (fun e1 h1 => evT P.cx c e1 h1) (fun e1 h1 => evB P.cx body e1 h1) m e' h').then fun e2 h2 => .nx (killE ks e2) h2), ⟨F, e, hh, μ, r, p⟩, ?_⟩
    clear p r
    rintro m σ1 H1 ⟨e1, h1, μ1, r1, p1⟩
    cases m with
    | zero => exact p1.elim
    | succ m =>
      refine ⟨e1, h1, μ1, r1, ?_⟩
      unfold whileI at p1
      have p2 : PostF P W D H1 μ1 h1.length ((evT P.cx c e1 h1).fl e1 fun b h2 => (if b then (match evB P.cx body e1 h2 with
        | .nx e2 h2 => whileI (fun e1 h1 => evT P.cx c e1 h1) (fun e1 h1 => evB P.cx body e1 h1) m e2 h2
        | .ct e2 h2 => whileI (fun e1 h1 => evT P.cx c e1 h1) (fun e1 h1 => evB P.cx body e1 h1) m e2 h2
        | .bk e2 h2 => .nx e2 h2
        | r => r) else .nx e1 h2).then fun e2 h2 => .nx (killE ks e2) h2) := by
        revert p1
        show PostF P W D H1 μ1 h1.length (((evT P.cx c e1 h1).fl e1 _).then _) → _
        cases evT P.cx c e1 h1 <;> exact fun z => z
      refine (PostF.fl (R := rB) r1 p2).mono fun k H2 ⟨k', h2, μ2, r2, x2, ek, q⟩ => ?_
      have ek : k' = k := ek
      subst ek
      cases k' with
      | false =>
        simp only [Bool.false_eq_true, if_false] at q ⊢
        exact q σ1 μ2 H2 Ext.refl ⟨r2.env.killE ks, r2.heap, r2.x⟩
      | true =>
        simp only [if_true] at q ⊢
        refine ⟨fun σ' H' => ∃ e' h' μ', Rel P σ' H' e' h' μ' ∧ PostF P W D H' μ' h'.length ((whileI (fun e1 h1 => evT P.cx c e1 h1) (fun e1 h1 => evB P.cx body e1 h1) m e' h').then fun e2 h2 => .nx (killE ks e2) h2), fun σ' H' z => ⟨m, by omega, z⟩, e1, h2, μ2, r2, ?_⟩
        cases q3 : evB P.cx body e1 h2 with
        | nx e2 h3 => rw [q3] at q; exact fun σ' μ' H' y rr => ⟨e2, h3, μ', rr, PostF.ext y q⟩
        | ct e2 h3 => rw [q3] at q; exact fun σ' μ' H' y rr => ⟨e2, h3, μ', rr, PostF.ext y q⟩
        | bk e2 h3 => rw [q3] at q; exact fun σ' μ' H' y rr => q σ' μ' H' y ⟨rr.env.killE ks, rr.heap, rr.x⟩
        | rt d h3 => rw [q3] at q; exact q
        | ex c d e h3 => rw [q3] at q; exact q
        | stuck => rw [q3] at q; exact q
  · cases h
theorem ss_forr {t : Tgt} {it : It} {body : B} {ks : List Nat} (hb : SBk S body) : SS S (.forr t it body ks) := by
  intro x P X Z W g st tk h
  unfold chkS at h
  split at h
  · simp only [Bool.and_eq_true] at h
    obtain ⟨⟨⟨⟨h1, h2⟩, h3⟩, h4⟩, h5⟩ := h
    refine ps_imp (ps_for (st.po h1) (g.calm h1) (allI S it g tk h2 h3) (sg g h4) (hb g st tk h5) (folded_ok h3)) fun D σ H ⟨e, hh, μ, r, p⟩ => ?_
    have p : PostF P W D H μ hh.length ((evIt P.cx it e hh).fl e fun J h1 => (loopI J t (fun e1 h2 => evB P.cx body e1 h2) fuel 0 e h1).then fun e2 h2 => .nx (killE ks e2) h2) := p
    refine ⟨e, hh, μ, r, (PostF.fl (R := rI) r p).mono fun I H1 ⟨J, h1, μ1, r1, x1, rJ, p1⟩ => ?_⟩
    generalize fuel = F at p1
    refine ⟨fun i m σ' H' => ∃ e' h' μ', Rel P σ' H' e' h' μ' ∧ Ext h1.length h'.length H1 μ1 H' μ' ∧ PostF P W D H' μ' h'.length ((loopI J t (fun e1 h2 => evB P.cx body e1 h2) m i e' h').then fun e2 h2 => .nx (killE ks e2) h2), ⟨F, e, h1, μ1, r1, Ext.refl, p1⟩, ?_⟩
    clear p1 p
    rintro i m σ2 H2 ⟨e2, h2, μ2, r2, x2, p2⟩
    cases m with
    | zero => exact p2.elim
    | succ m =>
      obtain ⟨stp, go⟩ := rJ h2 H2 μ2 i x2 r2.heap
      unfold loopI at p2
      cases e3 : J.at h2 i with
      | none => rw [e3] at p2; exact p2.elim
      | some o =>
        rw [e3] at p2
        cases o with
        | none => exact .inl ⟨stp e3, p2 σ2 μ2 H2 Ext.refl ⟨r2.env.killE ks, r2.heap, r2.x⟩⟩
        | some d =>
          obtain ⟨g1, g2⟩ := go d e3
          refine .inr ⟨g1, fun σ' H' => ∃ e' h' μ', Rel P σ' H' e' h' μ' ∧ Ext h1.length h'.length H1 μ1 H' μ' ∧ PostF P W D H' μ' h'.length ((loopI J t (fun e1 h2 => evB P.cx body e1 h2) m (i + 1) e' h').then fun e2 h2 => .nx (killE ks e2) h2), fun σ' H' z => ⟨m, by omega, z⟩, fun x H3 yl => ?_⟩
          obtain ⟨x3, rx, rh3⟩ := g2 x H3 yl
          simp only at p2
          cases e4 : bindT t d e2 with
          | none => rw [e4] at p2; exact p2.elim
          | some e5 =>
            rw [e4] at p2
            refine ⟨e2, h2, μ2, d, e5, r2.mono x3 rh3, rx, e4, fun σ' r' _ => ⟨e5, h2, μ2, r', ?_⟩⟩
            have p3 := PostF.ext x3 p2
            simp only at p3
            cases q3 : evB P.cx body e5 h2 with
            | nx e6 h3 => rw [q3] at p3; exact fun σ' μ' H' y rr => ⟨e6, h3, μ', rr, x2.trans (x3.trans y), PostF.ext y p3⟩
            | ct e6 h3 => rw [q3] at p3; exact fun σ' μ' H' y rr => ⟨e6, h3, μ', rr, x2.trans (x3.trans y), PostF.ext y p3⟩
            | bk e6 h3 => rw [q3] at p3; exact fun σ' μ' H' y rr => p3 σ' μ' H' y ⟨rr.env.killE ks, rr.heap, rr.x⟩
            | rt d h3 => rw [q3] at p3; exact p3
            | ex c d e h3 => rw [q3] at p3; exact p3
            | stuck => rw [q3] at p3; exact p3
  · cases h
end
end PI

set_option Elab.async false
set_option linter.all false
set_option maxRecDepth 100000
set_option maxHeartbeats 4000000
/-! raise; try. -/
namespace PI
open PySem PySem.Spec PyProof.Rows L2
section
variable {S : Sig} {P : Par} {X : L2.Cx} {Z : Sco} {W : WX}
theorem passN : Passes (L2.CX X.prog X.w) X (fun _ _ _ => False) := fun _ _ _ _ _ _ _ h => by
  obtain ⟨_, _, _, _, _, _, _, _, _, _, _, _, z⟩ := h
  exact z.elim
/-- the heap behind the making of an error -/
theorem mk_heap {H1 : Hp} {a C dx : Addr} {f : Str} {y : V} (ha : H1 a = none) (hd : dx ≠ a) :
    upd (del (upd (upd (upd H1 a (exo a C none)) dx (exd dx [(f, y)])) a (exo a C (some dx))) a) dx (.xd [(f, y)]) = upd H1 dx (.xd [(f, y)]) := by
  funext b
  by_cases z : b = dx
  · subst z; rw [upd_same, upd_same]
  · rw [upd_ne z, upd_ne z]
    by_cases z2 : b = a
    · subst z2; rw [del_same, ha]
    · rw [del_ne z2, upd_ne z2, upd_ne z, upd_ne z2]
theorem ss_rais {c : Nat} {a : E} : SS S (.rais c a) := by
  intro x P X Z W g st tk h
  unfold chkS at h
  split at h
  · rename_i n p0 y pos p1
    simp only [Bool.and_eq_true, decide_eq_true_eq] at h
    obtain ⟨⟨⟨⟨⟨h1, h2⟩, h3⟩, h4⟩, h5⟩, h6⟩ := h
    cases e : S.ecs[c]? with
    | none => rw [e] at h4; cases h4
    | some nf =>
      obtain ⟨m, f⟩ := nf
      rw [e] at h4
      have hf : f ≠ "" := by simpa using h4
      have en : m = n := by rw [← h3]; unfold n2; rw [e]
      subst en
      obtain ⟨gl, hd⟩ := g.gl h2
      have C := g.calls h1
      obtain ⟨o, fI, k, fd, ps, i1, i2, i3, i4, i5⟩ := C.mks c m f e hf
      have at_ := g.errs.att c m f e
      refine ps_imp (ps_raise (g.calm h1) tk (pmk_oex (dvs := []) (ds := []) o i1 i2 i3 i4 i5 .nil passN gl (g.mgs c m f e) (pa_cons (allE S a g tk h6).1 pa_nil (star_cons h5)) hd (star_cons h5) (star_plain rfl))) fun D σ H ⟨e, hh, μ, r, p⟩ => ?_
      refine ⟨e, hh, μ, r, (PostF.fl (R := rD) r p).mono fun v H1 ⟨d, h1', μ1, r1, x1, rv, q⟩ => ?_⟩
      rw [C.noex] at q
      refine ⟨by simp, fun a' ha => ⟨a', v, rfl, upd_same, fun dx hdx ne => ⟨rfl, dx, [(f, v)], upd_same, by rw [upd_ne ne, upd_same], by rw [upd_ne ne] at hdx; exact hdx, ?_⟩⟩⟩
      rw [mk_heap ha ne]
      have hdx' : H1 dx = none := by rw [upd_ne ne] at hdx; exact hdx
      have x2 : Ext h1'.length h1'.length H1 μ1 (upd H1 dx (.xd [(f, v)])) μ1 := Ext.fresh hdx'
      exact q σ dx v μ1 _ x2 (by rw [upd_same, at_]) (RV.mono x2 _ _ rv) (r1.mono x2 (r1.heap.fresh hdx'))
  · cases h
/-! ### try -/
/-- the par within a clause's suite -/
def Par.sui (P : Par) (c : Nat) (d : D) (sl : Option Nat) (a dx : Addr) : Par := { P with cx := { P.cx with x := some (c, d) }, xh := some (sl, a, dx) }
/-- a suite's reading -/
def tSui (S : Sig) (P : Par) (c1 : Nat) (sl : Option Nat) (body : B) : SuT := fun a cls dO D σ H => ∃ (c : Nat) (d : PI.D) (dx : Addr), cls = .ref (P.cls c) ∧ dO = some dx ∧ S.sub c c1 = true ∧
  sR (P.sui c d sl a dx) (fun _ _ _ _ => False) (evB { P.cx with x := some (c, d) } body) D σ H
def lSui (S : Sig) (P : Par) : Hs → List (Value × Option Nat × SuT)
  | .nil => []
  | .cons c sl body r => (.ref (P.cls c), sl, tSui S P c sl body) :: lSui S P r
theorem Good.sui (g : Good S P X Z) {c c1 : Nat} {d : D} {sl : Option Nat} {nm : Option Str} {a dx : Addr} {oe : Obj} {pn : List (Addr × Obj)} (hs : S.sub c c1 = true) (hn : nmC Z sl nm = true) (hz : Zc (.ref (P.cls c)) (some dx) oe) (hf : ∃ vs, oe.data = .fields vs) :
    Good S (P.sui c d sl a dx) (X.suite a ((a, oe) :: pn)) (Z.sui (nmZ sl nm) c1) := by
  refine ⟨g.hN, g.nd, g.hsc, g.hK, g.gd, g.un, fun z => absurd z Bool.false_ne_true, g.fn, g.kind, fun z => absurd z Bool.false_ne_true, g.blt, g.gbi, g.cst, g.sub, ⟨g.errs.ec, g.errs.no, g.errs.kit, g.errs.exm, g.errs.leaf, g.errs.att⟩, g.mgs, fun c' d' q => ?_⟩
  have q' : some (c, d) = some (c', d') := q
  cases q'
  refine ⟨sl, a, dx, nmZ sl nm, c1, X, oe, pn, rfl, rfl, ?_, hs, rfl, hz, hf⟩
  cases sl with
  | none => cases nm with
    | none => rfl
    | some n => cases hn
  | some i => cases nm with
    | none => cases hn
    | some n => rfl
theorem RE.slot {K : PySem.W.Frag} {σ : L2.St} {H : Hp} {μ : Nat → Addr} {n : Nat} {e : Env} (r : RE K σ H μ n e) (i : Nat) (v : V) : RE K (σ.set i (some v)) H μ n (e.set i none) := by
  refine ⟨by rw [List.length_set, List.length_set]; exact r.len, fun j d q => ?_⟩
  by_cases z : i = j
  · subst z
    have hj := lt_of_get q
    rw [List.length_set] at hj
    rw [List.getElem?_set_self hj] at q
    cases q
  · rw [List.getElem?_set_ne z] at q ⊢
    exact r.at_ j d q
/-- into a suite -/
theorem rel_in {σ : L2.St} {H : Hp} {e : Env} {h : HP} {μ : Nat → Addr} {c : Nat} {d : D} {sl : Option Nat} {a dx : Addr} {u : V} (r : Rel P σ H e h μ) (ok : slOk sl e = true) (hx : H dx = some (.xd [(P.att c, u)])) (ru : RV P.K H μ h.length d u) :
    Rel (P.sui c d sl a dx) (slotX σ a sl) H (wipeE sl e) h μ := by
  cases sl with
  | none => exact ⟨r.env, r.heap, ⟨none, a, dx, u, rfl, fun i z => (by cases z), hx, ru⟩⟩
  | some i =>
    have li : i < σ.length := by
      rw [r.env.len]
      simpa [slOk] using ok
    exact ⟨r.env.slot i (.ref a), r.heap, ⟨some i, a, dx, u, rfl, fun j z => (by cases z; exact List.getElem?_set_self li), hx, ru⟩⟩
/-- out of a suite -/
theorem post_out {D : Ends} {H : Hp} {μ : Nat → Addr} {n : Nat} {c : Nat} {d : PI.D} {sl : Option Nat} {a dx : Addr} {r : Fl} (nx : P.cx.x = none) (p : PostF P W D H μ n (r.sui sl)) : PostF (P.sui c d sl a dx) (fun _ _ _ _ => False) (endsX D sl) H μ n r := by
  have out : ∀ {σ' : L2.St} {μ' : Nat → Addr} {H' : Hp} {e : Env} {h : HP}, Rel (P.sui c d sl a dx) σ' H' e h μ' → Rel P (match sl with | some i => σ'.set i none | none => σ') H' (wipeE sl e) h μ' := fun {σ' μ' H' e h} r => by
    cases sl with
    | none => exact ⟨r.env, r.heap, by unfold RX; rw [nx]; trivial⟩
    | some i => exact ⟨r.env.kill2, r.heap, by unfold RX; rw [nx]; trivial⟩
  cases r with
  | nx e h => cases sl <;> exact fun σ' μ' H' y r => p _ μ' H' y (out r)
  | bk e h => cases sl <;> exact fun σ' μ' H' y r => p _ μ' H' y (out r)
  | ct e h => cases sl <;> exact fun σ' μ' H' y r => p _ μ' H' y (out r)
  | rt d h => cases sl <;> exact fun v μ' H' y rv rh => p v μ' H' y rv rh
  | ex c d e h => exact p.elim
  | stuck => exact p.elim
end
end PI

set_option Elab.async false
set_option linter.all false
set_option maxRecDepth 100000
set_option maxHeartbeats 4000000
/-! try, names side by side; all statements. -/
namespace PI
open PySem PySem.Spec PyProof.Rows L2
section
variable {S : Sig} {P : Par} {X : L2.Cx} {Z : Sco} {W : WX}
def SH (S : Sig) (c : Hs) : Prop := ∀ {x : List ExceptHandler} {P : Par} {X : L2.Cx} {Z : Sco}, Good S P X Z → chkH S c Z x = true → HdX X x (lSui S P c)
theorem stand_sui {a : Addr} {q : List (Addr × Obj)} {nm : Option (Str × Nat)} {c : Nat} : Stand (X.suite a q) (Z.sui nm c) := ⟨fun z => absurd z Bool.false_ne_true, fun z => absurd z Bool.false_ne_true, fun z => absurd z Bool.false_ne_true⟩
theorem sh_nil : SH S .nil := by
  intro x P X Z g h
  unfold chkH at h
  have : x = [] := by simpa using h
  subst this
  exact .nil
theorem sh_cons {c : Nat} {sl : Option Nat} {body : B} {r : Hs} (hb : SBk S body) (hr : SH S r) : SH S (.cons c sl body r) := by
  intro x P X Z g h
  unfold chkH at h
  split at h
  · rename_i n p0 nm s0 suite p1 hds
    simp only [Bool.and_eq_true, decide_eq_true_eq] at h
    obtain ⟨⟨⟨⟨⟨h1, h2⟩, h3⟩, h4⟩, h5⟩, h6⟩ := h
    obtain ⟨gl, hd⟩ := g.gl h1
    obtain ⟨⟨m, f⟩, e⟩ : ∃ p, S.ecs[c]? = some p := ⟨_, List.getElem?_eq_getElem h3⟩
    have en : m = n := by rw [← h2]; unfold n2; rw [e]
    subst en
    refine .cons ⟨gl, hd, .inl (g.mgs c m f e)⟩ ?_ ?_ (hr g h6)
    · cases sl with
      | none => cases nm with
        | none => exact trivial
        | some n => cases h4
      | some i => cases nm with
        | none => cases h4
        | some n =>
          simp only [nmC, Bool.and_eq_true, decide_eq_true_eq] at h4
          refine ⟨by rw [g.hN]; exact h4.1, ?_⟩
          show X.env.scope.names.lookup n = some .local
          rw [g.hsc]; exact h4.2
    · intro a oe cls dO pn hz hf
      refine ⟨fun pins s σ H D I ⟨c', d, dx, e1, e2, hs, q⟩ => ?_⟩
      subst e1 e2
      exact (hb (g.sui hs h4 hz hf) stand_sui takesN h5).run pins s σ H D I q
  · cases h
theorem wX_law (g : Good S P X Z) (nx : P.cx.x = none) {D : Ends} {σ : L2.St} {H : Hp} {μ : Nat → Addr} {c : Nat} {d : PI.D} {e : Env} {h : HP} {dx : Addr} {u : V} (r : Rel P σ H e h μ) (hx : H dx = some (.xd [(P.att c, u)])) (ru : RV P.K H μ h.length d u) :
    ∀ hs : Hs, PostF P W D H μ h.length (evH P.cx c d hs e h) → wX X.K W D (lSui S P hs) (.ref (P.cls c)) (some dx) σ H
  | .nil, p => p σ dx u μ H Ext.refl hx ru r
  | .cons c1 sl body rs, p => by
    have p : PostF P W D H μ h.length (if P.cx.sub c c1 then (if slOk sl e then (evB { P.cx with x := some (c, d) } body (wipeE sl e) h).sui sl else .stuck) else evH P.cx c d rs e h) := p
    rw [g.sub] at p
    refine ⟨S.sub c c1, g.errs.exm c c1, fun hb a ha => ?_, fun hb => ?_⟩
    · rw [hb, if_pos rfl] at p
      by_cases ok : slOk sl e = true
      · rw [if_pos ok] at p
        exact ⟨c, d, dx, rfl, rfl, hb, wipeE sl e, h, μ, rel_in r ok hx ru, post_out nx p⟩
      · rw [if_neg ok] at p
        exact p.elim
    · rw [hb, if_neg Bool.false_ne_true] at p
      exact wX_law g nx r hx ru rs p
theorem Good.tr (g : Good S P X Z) {pn : List (Addr × Obj)} {xe : Value → Shared → Prop} (hc : Z.calm = true) : Good S P (X.tr pn xe) Z := by
  refine ⟨g.hN, g.nd, g.hsc, g.hK, g.gd, g.un, g.calm, g.fn, g.kind, fun h => ?_, g.blt, g.gbi, g.cst, g.sub, g.errs, g.mgs, fun c d h => ?_⟩
  · refine ⟨(g.calls h).noex, fun c n f e ne => ?_, fun f x e => (g.calls h).fns f x e⟩
    obtain ⟨o, fI, k, fd, ps, i1, i2, i3, i4, i5⟩ := (g.calls h).mks c n f e ne
    exact ⟨o, fI, k, fd, ps, i1, i2, i3, i4, i5⟩
  · rw [(g.calls hc).noex] at h; cases h
theorem ss_tryy {body : B} {hs : Hs} (hb : SBk S body) (hh : SH S hs) : SS S (.tryy body hs) := by
  intro x P X Z W g st tk h
  unfold chkS at h
  split at h
  · simp only [Bool.and_eq_true] at h
    obtain ⟨⟨h1, h2⟩, h3⟩ := h
    have nx := (g.calls h1).noex
    refine ps_imp (ps_tryX (tb := fun W => sR P W (evB P.cx body)) (st.st h1) (st.fr h1) (by rw [g.hN]; exact g.nd) tk (fun W pn xe tk' po => hb (g.tr h1) ⟨fun _ => po, st.st, st.fr⟩ tk' h2) (hh g h3)) fun D σ H ⟨e, h0, μ, r, p⟩ => ?_
    have p : PostF P W D H μ h0.length (match evB P.cx body e h0 with
      | .ex c d e1 h1 => if P.cx.x.isSome then .stuck else evH P.cx c d hs e1 h1
      | r => r) := p
    refine ⟨e, h0, μ, r, ?_⟩
    cases q : evB P.cx body e h0 with
    | ex c d e1 h1 =>
      rw [q] at p
      simp only [nx, Option.isSome_none, Bool.false_eq_true, if_false] at p
      exact fun σ' dx u μ' H' y xd rv rel => wX_law g nx rel xd rv hs (PostF.ext y p)
    | nx e h => rw [q] at p; exact p
    | bk e h => rw [q] at p; exact p
    | ct e h => rw [q] at p; exact p
    | rt d h => rw [q] at p; exact p
    | stuck => rw [q] at p; exact p
  · cases h
/-! ### names side by side -/
theorem kind_loc (g : Good S P X Z) {x : Str} (h : Z.sc.names.lookup x = some .local) : X.env.scope.names.lookup x = some .local ∧ ((X.env.kindOf x) == some NameKind.local) = true := by
  have e : X.env.scope.names.lookup x = some .local := by rw [g.hsc]; exact h
  have e2 : X.env.kindOf x = some .local := e
  exact ⟨e, by rw [e2]; rfl⟩
theorem blk_fn (g : Good S P X Z) : (X.env.blockKind != .function) = false := by
  have : X.env.blockKind = .function := by unfold Env.blockKind; rw [g.kind]; rfl
  rw [this]; rfl
end
end PI

set_option Elab.async false
set_option linter.all false
set_option maxRecDepth 100000
set_option maxHeartbeats 4000000
/-! Names side by side; all statements. -/
namespace PI
open PySem PySem.Spec PyProof.Rows L2
section
variable {S : Sig} {P : Par} {X : L2.Cx} {Z : Sco} {W : WX}
theorem swap2 {env : PySem.Env} {x y : Str} {px py pt pt2 : Pos} {kt k2 : Nat} {a b : Expr} (hb : (env.blockKind != .function) = false) (hx : (env.kindOf x == some NameKind.local) = true) (hy : (env.kindOf y == some NameKind.local) = true) (hl : (py.line == px.line) = true) (ne : x ≠ y)
    (oa : okX a = true) (ob : okX b = true) (f : [a, b].all (foldedForSure 8) = false) (c : [a, b].all (constantsAlone 8) = false) : swappedStores [.Tuple [.Name x px, .Name y py] kt pt] (.Tuple [a, b] k2 pt2) env = pure (some [x, y]) := by
  have n1 : (y == x) = false := by simpa using Ne.symm ne
  have l1 : (px.line == px.line) = true := by simp
  unfold swappedStores
  simp only [List.length_cons, List.length_nil, hb, f, c, List.filterMap_cons, List.filterMap_nil, List.head?_cons, Option.map_some, Option.getD_some, Expr.pos, hx, hy, hl, l1, Bool.and_self, if_true]
  simp [List.eraseDups_cons, n1]
  rintro (h | h)
  · cases a <;> first | (cases oa; done) | cases h
  · cases b <;> first | (cases ob; done) | cases h
theorem swap3 {env : PySem.Env} {x y z : Str} {px py pz pt pt2 : Pos} {kt k2 : Nat} {a b d : Expr} (hb : (env.blockKind != .function) = false) (hx : (env.kindOf x == some NameKind.local) = true) (hy : (env.kindOf y == some NameKind.local) = true) (hz : (env.kindOf z == some NameKind.local) = true) (hl : (py.line == px.line) = true) (hl2 : (pz.line == px.line) = true)
    (n1 : x ≠ y) (n2 : x ≠ z) (n3 : y ≠ z) (oa : okX a = true) (ob : okX b = true) (od : okX d = true) (f : [a, b, d].all (foldedForSure 8) = false) (c : [a, b, d].all (constantsAlone 8) = false) :
    swappedStores [.Tuple [.Name x px, .Name y py, .Name z pz] kt pt] (.Tuple [a, b, d] k2 pt2) env = pure (some [x, y, z]) := by
  have m1 : (y == x) = false := by simpa using Ne.symm n1
  have m2 : (z == x) = false := by simpa using Ne.symm n2
  have m3 : (z == y) = false := by simpa using Ne.symm n3
  have l1 : (px.line == px.line) = true := by simp
  unfold swappedStores
  simp only [List.length_cons, List.length_nil, hb, f, c, List.filterMap_cons, List.filterMap_nil, List.head?_cons, Option.map_some, Option.getD_some, Expr.pos, hx, hy, hz, hl, hl2, l1, Bool.and_self, if_true]
  simp [List.eraseDups_cons, m1, m2, m3]
  rintro (h | h | h)
  · cases a <;> first | (cases oa; done) | cases h
  · cases b <;> first | (cases ob; done) | cases h
  · cases d <;> first | (cases od; done) | cases h
/-- the tuple's values, as the list of values -/
theorem tup_ds {es : Es} {e : Env} {h : HP} {K : PI.Cx} : evE K (.tup es) e h = (evEs K es e h).bind tupR := rfl
theorem ss_parC {t : Tgt} {a : E} {tg v : Expr} {pos : Pos} (g : Good S P X Z) (tk : Takes X W) (h : parC S Z t a tg v = true) : PS X (.Assign [tg] v pos) (sR P W (evS P.cx (.asg t a))) := by
  unfold parC at h
  have hN : X.N.Nodup := by rw [g.hN]; exact g.nd
  split at h
  · rename_i i j es x px y py k1 p1 a b k2 p2
    simp only [Bool.and_eq_true, decide_eq_true_eq, Bool.not_eq_true'] at h
    obtain ⟨⟨⟨⟨⟨⟨⟨⟨⟨⟨h1, h2⟩, h3⟩, h4⟩, h5⟩, h6⟩, h7⟩, h8⟩, h9⟩, h10⟩, h11⟩ := h
    obtain ⟨a1, a2, _⟩ := g.sto h2
    obtain ⟨b1, b2, _⟩ := g.sto h3
    obtain ⟨c1, c2⟩ := kind_loc g h4
    obtain ⟨d1, d2⟩ := kind_loc g h5
    obtain ⟨e1, e2⟩ := (allEs S es).1 g tk h9
    simp only [List.all_cons, List.all_nil, Bool.and_true, Bool.and_eq_true] at e2
    refine ps_imp (ps_par (g.calm h1) hN a1 b1 h8 c1 d1 e1 (swap2 (blk_fn g) c2 d2 h6 h7 e2.1 e2.2 h10 h11)) fun D σ H ⟨e, hh, μ, r, p⟩ => ?_
    have p : PostF P W D H μ hh.length (((evEs P.cx es e hh).bind tupR).fl e fun d h1 => match bindT (.tp [i, j]) d e with | some e1 => .nx e1 h1 | none => .stuck) := p
    have p2 : PostF P W D H μ hh.length ((evEs P.cx es e hh).fl e fun ds h1 => (tupR ds h1).fl e fun d h1 => match bindT (.tp [i, j]) d e with | some e1 => .nx e1 h1 | none => .stuck) := by
      revert p
      cases evEs P.cx es e hh <;> exact fun z => z
    refine ⟨e, hh, μ, r, (PostF.fl (R := rDs) r p2).mono fun vs H1 ⟨ds, h1, μ1, r1, x1, rv, q⟩ => ?_⟩
    unfold tupR at q
    split at q
    · have rv : RVs P.K H1 μ1 h1.length ds vs := rv
      simp only [Res.fl, bindT] at q
      split at q
      · rename_i q1
        have hl := rv.length
        split at q1
        · rename_i hlen
          cases q1
          match ds, vs, hlen, hl, rv, q with
          | [d1', d2'], [v, w], _, _, rv, q =>
            obtain ⟨v', r', e', rv1, rv2⟩ := rv.inv
            cases e'
            obtain ⟨w', r'', e', rv3, _⟩ := rv2.inv
            cases e'
            refine ⟨v, w, rfl, ?_⟩
            have R2 : RE P.K ((σ.set i (some v)).set j (some w)) H1 μ1 h1.length ((e.set i (some d1')).set j (some d2')) := (r1.env.set rv1).set rv3
            refine q _ μ1 H1 Ext.refl ⟨R2, r1.heap, ?_⟩
            refine g.keepX (js := [i, j]) (fun nm sl c ex => ?_) (fun k hk => ?_) r1.x
            · simp only [List.mem_cons, List.not_mem_nil, or_false, not_or]
              exact ⟨stoB_ex h2 nm sl c ex, stoB_ex h3 nm sl c ex⟩
            · simp only [List.mem_cons, List.not_mem_nil, or_false, not_or] at hk
              rw [List.getElem?_set_ne (Ne.symm hk.2), List.getElem?_set_ne (Ne.symm hk.1)]
        · cases q1
      · exact q.elim
    · exact q.elim
  · rename_i i j l es x px y py z pz k1 p1 a b c k2 p2
    simp only [Bool.and_eq_true, decide_eq_true_eq, Bool.not_eq_true'] at h
    obtain ⟨⟨⟨⟨⟨⟨⟨⟨⟨⟨⟨⟨⟨⟨⟨⟨⟨h1, h2⟩, h3⟩, h4⟩, h5⟩, h6⟩, h7⟩, h8⟩, h9⟩, n1⟩, n2⟩, n3⟩, m1⟩, m2⟩, m3⟩, h10⟩, h11⟩, h12⟩ := h
    obtain ⟨a1, a2, _⟩ := g.sto h2
    obtain ⟨b1, b2, _⟩ := g.sto h3
    obtain ⟨f1, f2, _⟩ := g.sto h4
    obtain ⟨c1, c2⟩ := kind_loc g h5
    obtain ⟨d1, d2⟩ := kind_loc g h6
    obtain ⟨g1, g2⟩ := kind_loc g h7
    obtain ⟨e1, e2⟩ := (allEs S es).1 g tk h10
    simp only [List.all_cons, List.all_nil, Bool.and_true, Bool.and_eq_true] at e2
    refine ps_imp (ps_par3 (g.calm h1) hN a1 b1 f1 m1 m2 m3 c1 d1 g1 e1 (swap3 (blk_fn g) c2 d2 g2 h8 h9 n1 n2 n3 e2.1 e2.2.1 e2.2.2 h11 h12)) fun D σ H ⟨e, hh, μ, r, p⟩ => ?_
    have p : PostF P W D H μ hh.length (((evEs P.cx es e hh).bind tupR).fl e fun d h1 => match bindT (.tp [i, j, l]) d e with | some e1 => .nx e1 h1 | none => .stuck) := p
    have p2 : PostF P W D H μ hh.length ((evEs P.cx es e hh).fl e fun ds h1 => (tupR ds h1).fl e fun d h1 => match bindT (.tp [i, j, l]) d e with | some e1 => .nx e1 h1 | none => .stuck) := by
      revert p
      cases evEs P.cx es e hh <;> exact fun z => z
    refine ⟨e, hh, μ, r, (PostF.fl (R := rDs) r p2).mono fun vs H1 ⟨ds, h1, μ1, r1, x1, rv, q⟩ => ?_⟩
    unfold tupR at q
    split at q
    · have rv : RVs P.K H1 μ1 h1.length ds vs := rv
      simp only [Res.fl, bindT] at q
      split at q
      · rename_i q1
        have hl := rv.length
        split at q1
        · rename_i hlen
          cases q1
          match ds, vs, hlen, hl, rv, q with
          | [d1', d2', d3'], [v, w, u], _, _, rv, q =>
            obtain ⟨v', r', e', rv1, rv2⟩ := rv.inv
            cases e'
            obtain ⟨w', r'', e', rv3, rv4⟩ := rv2.inv
            cases e'
            obtain ⟨u', r3, e', rv5, _⟩ := rv4.inv
            cases e'
            refine ⟨v, w, u, rfl, ?_⟩
            have R2 : RE P.K (((σ.set i (some v)).set j (some w)).set l (some u)) H1 μ1 h1.length (((e.set i (some d1')).set j (some d2')).set l (some d3')) := ((r1.env.set rv1).set rv3).set rv5
            refine q _ μ1 H1 Ext.refl ⟨R2, r1.heap, ?_⟩
            refine g.keepX (js := [i, j, l]) (fun nm sl c ex => ?_) (fun k hk => ?_) r1.x
            · simp only [List.mem_cons, List.not_mem_nil, or_false, not_or]
              exact ⟨stoB_ex h2 nm sl c ex, stoB_ex h3 nm sl c ex, stoB_ex h4 nm sl c ex⟩
            · simp only [List.mem_cons, List.not_mem_nil, or_false, not_or] at hk
              rw [List.getElem?_set_ne (Ne.symm hk.2.2), List.getElem?_set_ne (Ne.symm hk.2.1), List.getElem?_set_ne (Ne.symm hk.1)]
        · cases q1
      · exact q.elim
    · exact q.elim
  · cases h
theorem ss_asg {t : Tgt} {a : E} : SS S (.asg t a) := by
  intro x P X Z W g st tk h
  unfold chkS at h
  split at h
  · simp only [Bool.or_eq_true] at h
    rcases h with (h | h) | h
    · exact ss_asgC g tk h
    · exact ss_lcC g tk h
    · exact ss_parC g tk h
  · cases h
end
mutual
theorem allS (S : Sig) : ∀ c : PI.S, SS S c
  | .asg _ _ => ss_asg
  | .unl _ _ => ss_unl
  | .put _ _ _ => ss_put
  | .expr a => ss_expr a
  | .ret a => ss_ret a
  | .retN => ss_retN
  | .iff _ a b => ss_iff (allB S a) (allB S b)
  | .forr _ _ body _ => ss_forr (allB S body)
  | .whl _ body _ => ss_whl (allB S body)
  | .brk => ss_brk
  | .cnt => ss_cnt
  | .pass => ss_pass
  | .rais _ _ => ss_rais
  | .tryy body hs => ss_tryy (allB S body) (allH S hs)
theorem allB (S : Sig) : ∀ c : B, SBk S c
  | .nil => sb_nil
  | .cons s b => sb_cons (allS S s) (allB S b)
theorem allH (S : Sig) : ∀ c : Hs, SH S c
  | .nil => sh_nil
  | .cons _ _ body r => sh_cons (allB S body) (allH S r)
end
end PI

set_option Elab.async false
set_option linter.all false
set_option maxRecDepth 100000
set_option maxHeartbeats 4000000
/-! Defs: each def keeps what its own code computes. -/
namespace PI
open PySem PySem.Spec PyProof.Rows L2
noncomputable def parOf (K : PySem.W.Frag) (cls : Nat → Addr) (att : Nat → Str) (Pg : Prg) (n : Nat) : Par := ⟨K, cls, att, none, ⟨callI Pg n, none, Pg.sub⟩⟩
def scoF (N : List Str) (scope : Scope) : Sco := ⟨scope, fun _ => true, N, true, none⟩
/-- a def as the written part holds it, and its code -/
structure DefR (S : Sig) (K : PySem.W.Frag) (mg : Str → Option Value) (x : Str) (a : Addr) (c : Fn) : Prop where
  ex : ∃ (qual : Str) (params : Arguments) (body : List Stmt) (scope : Scope) (fd : FuncData) (N ps : List Str), FunD K x qual params body scope [] [] a fd ∧ FnScope N ps scope ∧ Binds K fd ps [] ∧ chkB S c.body (scoF N scope) body = true ∧ c.np = ps.length ∧ c.ns = N.length
  mg : mg x = some (.ref a)
/-- the whole program, by the written part -/
structure Mdl (S : Sig) (Pg : Prg) (prog : Program) (w : World) (K : PySem.W.Frag) (mg : Str → Option Value) (base : Heap) (cls : Nat → Addr) (att : Nat → Str) : Prop where
  sub : Pg.sub = S.sub
  fns : ∀ (f : Nat) (x : Str), S.fns[f]? = some x → ∃ c a, Pg.fns[f]? = some c ∧ DefR S K mg x a c
  blt : ∀ x ∈ bltN, mg x = none
  gbi : ∀ b ∈ S.gbi, mg b.nm = some b.val
  cst : ∀ c ∈ S.csts, ∃ t, mg c.1 = some (.int c.2 t)
  errs : ErrK S (parOf K cls att Pg 0) K
  mgs : ∀ (c : Nat) (n f : Str), S.ecs[c]? = some (n, f) → mg n = some (.ref (cls c))
  mks : ∀ (c : Nat) (n f : Str), S.ecs[c]? = some (n, f) → f ≠ "" → OexC K (cls c) ∧ ∃ (fI : Addr) (fd : FuncData) (ps : List Str), PySem.W.findIn K (.ref (cls c)) "__init__" = some (some (.ref fI)) ∧ PySem.W.typeIn K (.ref fI) = some (.type "function") ∧
    FnOk prog w K mg base (L2.CX prog w) 1 fI fd ps (spX (cls c) f) ∧ Binds K fd ps []
section
variable {S : Sig} {Pg : Prg} {prog : Program} {w : World} {K : PySem.W.Frag} {mg : Str → Option Value} {base : Heap} {cls : Nat → Addr} {att : Nat → Str}
/-- a def's code, at its entry -/
def env0 (c : Fn) (ds : List D) : Env := ds.map some ++ List.replicate (c.ns - c.np) none
theorem re_start {H : Hp} {μ : Nat → Addr} {n : Nat} {ds : List D} {vs : List V} {N : List Str} {k : Nat} (r : RVs K H μ n ds vs) (hk : k = N.length - vs.length) : RE K (L2.start N vs) H μ n (ds.map some ++ List.replicate k none) := by
  have hl := r.length
  refine ⟨by unfold L2.start; simp [hl, hk], fun i d e => ?_⟩
  by_cases hi : i < ds.length
  · rw [List.getElem?_append_left (by simpa using hi), List.getElem?_map] at e
    obtain ⟨d', e1, e2⟩ := Option.map_eq_some_iff.mp e
    cases e2
    obtain ⟨v, e3, rv⟩ := r.get e1
    refine ⟨v, ?_, rv⟩
    unfold L2.start
    rw [List.getElem?_append_left (by simp; omega), List.getElem?_map, e3]
    rfl
  · rw [List.getElem?_append_right (by simp; omega)] at e
    by_cases h2 : i - (ds.map some).length < k
    · rw [List.getElem?_replicate_of_lt h2] at e; cases e
    · rw [List.getElem?_eq_none (by simp at h2 ⊢; omega)] at e; cases e
theorem fn_sound (M : Mdl S Pg prog w K mg base cls att) : ∀ (n f : Nat) (x : Str), S.fns[f]? = some x →
    ∃ a fd ps, mg x = some (.ref a) ∧ PySem.W.keepIn K (.ref a) = true ∧ Binds K fd ps [] ∧ FnG prog w K mg base (n + 3) a fd ps (spI (parOf K cls att Pg n) f)
  | 0, f, x, hx => by
    obtain ⟨c, a, e1, D⟩ := M.fns f x hx
    obtain ⟨qual, params, body, scope, fd, N, ps, F, Sc, hb, hc, h1, h2⟩ := D.ex
    exact ⟨a, fd, ps, D.mg, F.kp, hb, ⟨fun vs H Q E ⟨ds, h, μ, _, _, p⟩ => p.elim, fun A outer s H args us vs Q E _ _ _ _ _ ⟨ds, h, μ, _, _, p⟩ => p.elim⟩⟩
  | n + 1, f, x, hx => by
    obtain ⟨c, a, e1, D⟩ := M.fns f x hx
    obtain ⟨qual, params, body, scope, fd, N, ps, F, Sc, hb, hc, h1, h2⟩ := D.ex
    have unf : ∀ ds h, callI Pg (n + 1) f ds h = runFn ⟨callI Pg n, none, Pg.sub⟩ c ds h := fun ds h => by
      show (match Pg.fns[f]? with | some fd => _ | none => _) = _
      rw [e1]
    refine ⟨a, fd, ps, D.mg, F.kp, hb, fnG_of F Sc (fun vs H Q E ⟨ds, h, μ, rv, _, p⟩ => ?_) fun cdv A outer s H vs Q E hr hg ⟨ds, h, μ, rv, rh, p⟩ => ?_⟩
    · have p : Post (parOf K cls att Pg (n + 1)) rD E H μ h.length (callI Pg (n + 1) f ds h) Q := p
      rw [unf] at p
      unfold runFn at p
      split at p
      · rename_i hl
        rw [rv.length, hl, h1]
      · exact p.elim
    · have p : Post (parOf K cls att Pg (n + 1)) rD E H μ h.length (callI Pg (n + 1) f ds h) Q := p
      rw [unf] at p
      unfold runFn at p
      split at p
      · rename_i hl
        have g : Good S (parOf K cls att Pg n) (cxOf (L2.CX prog w) prog w K mg base N qual scope a cdv A outer s H E) (scoF N scope) := by
          refine ⟨rfl, Sc.nd, rfl, rfl, hg, ?_, fun _ => rfl, fun _ _ => rfl, Sc.kind, fun _ => ⟨rfl, fun c n' f' e ne => ?_, fun f' x' e => ?_⟩, M.blt, M.gbi, M.cst, M.sub, ⟨M.errs.ec, M.errs.no, M.errs.kit, M.errs.exm, M.errs.leaf, M.errs.att⟩, M.mgs, fun c d z => by cases z⟩
          · have := hr.un
            show (A.deeper _).units + 150 < cLine
            omega
          · obtain ⟨o, fI, fd', ps', i1, i2, i3, i4⟩ := M.mks c n' f' e ne
            exact ⟨o, fI, 1, fd', ps', i1, i2, i3, hr.mono (by omega), i4⟩
          · obtain ⟨a', fd', ps', m1, m2, m3, m4⟩ := fn_sound M n f' x' e
            exact ⟨n + 3, a', fd', ps', hr, m1, m2, m3, m4⟩
        have st : Stand (cxOf (L2.CX prog w) prog w K mg base N qual scope a cdv A outer s H E) (scoF N scope) := ⟨fun _ => passes_of rfl, fun _ => rfl, fun _ => rfl⟩
        have tk : Takes (cxOf (L2.CX prog w) prog w K mg base N qual scope a cdv A outer s H E) (fun cls d _ H => E cls d H) := takes_of rfl rfl rfl rfl
        refine ⟨_, allB S c.body g st tk hc, ?_⟩
        refine ⟨env0 c ds, h, μ, ⟨re_start rv (by rw [h2, h1, rv.length, hl, h1]), rh, by unfold RX; trivial⟩, ?_⟩
        have p2 : Post (parOf K cls att Pg (n + 1)) rD E H μ h.length (match evB ⟨callI Pg n, none, Pg.sub⟩ c.body (env0 c ds) h with
          | .nx _ h1 => .ok .non h1
          | .rt d h1 => .ok d h1
          | .ex c d _ h1 => .exc c d h1
          | _ => .stuck) Q := p
        show PostF _ _ _ _ _ _ (evB ⟨callI Pg n, none, Pg.sub⟩ c.body (env0 c ds) h)
        cases q : evB ⟨callI Pg n, none, Pg.sub⟩ c.body (env0 c ds) h with
        | nx e h3 => rw [q] at p2; exact fun σ' μ' H' y r => p2 .non μ' H' y rv_non r.heap
        | rt d h3 => rw [q] at p2; exact p2
        | ex c d e h3 => rw [q] at p2; exact fun σ' dx u μ' H' y xd rv r => p2 dx u μ' H' y xd rv r.heap
        | bk e h3 => rw [q] at p2; exact p2.elim
        | ct e h3 => rw [q] at p2; exact p2.elim
        | stuck => rw [q] at p2; exact p2.elim
      · exact p.elim
end
end PI

set_option Elab.async false
set_option linter.all false
set_option maxRecDepth 100000
set_option maxHeartbeats 4000000
/-! A law's end; the head's facts. -/
namespace PI
open PySem PySem.Spec PyProof.Rows L2
section
variable {prog : Program} {w : World} {K : PySem.W.Frag} {mg mb : Str → Option Value} {k : Nat} {fa a : Addr} {sp : Sp} {s1 : Shared} {vs : List Value} {ns : List Int}
abbrev Told (prog : Program) (w : World) (fa a : Addr) (s1 : Shared) : Prop := codeAny (model prog w) callerA (.call (.ref fa) ⟨[.ref a], []⟩) (fun r t => r = .ok (.ret (.bool true)) ∧ OldK s1.heap t.heap ∧ t.os = s1.os ∧ AllBare t.gens) s1
/-- the law is called over a heap of which nothing but the script may be tracked -/
theorem law_from (KX : K.In s1.heap) (hns : s1.heap.Ns mainGlobals mg) (hb : s1.heap.Ns builtinsNs mb) (hbb : ∀ x : Str, x ≠ "__name__" → mb x = bootBuiltins x) (hlim : s1.heap.NoLimit) (hg : s1.gens = #[])
    (ha : s1.heap.get? a = some { cls := .type "list", data := .seq vs.toArray }) (hr : Room k callerA) (F : ∀ base : Heap, K.In base → base.Ns mainGlobals mg → ∃ fd ps, Binds K fd ps [] ∧ FnG prog w K mg base k fa fd ps sp)
    {H : Hp} (hO : Only H) (hsp : sp [.ref a] H (fun v _ => v = .bl true) fun _ _ _ => False) (hok : HOk prog w H s1.heap) (hA : ∀ b, H b ≠ none → b = a) (hK : H a ≠ none → K.lookup a = none) : Told prog w fa a s1 := by
  have nd : ∀ {b : Addr} {o : Obj} {es : Array DictEntry} {ep : Nat}, s1.heap.get? b = some o → o.data = .dict es ep → H b = none := fun {b o es ep} e d => by
    rcases hO b with q | ⟨_, _, q⟩
    · exact q
    · have z := hA b (by rw [q]; simp)
      subst z
      rw [ha] at e
      cases e
      exact absurd (show Data.seq vs.toArray _ = Data.dict es ep from d) (by simp)
  have nk : ∀ {b : Addr} {m : Str → Option Value}, s1.heap.Ns b m → (hidT s1.heap H).Ns b m := fun {b m} h => by
    obtain ⟨o, es, ep, e, d, r⟩ := h
    exact ⟨o, es, ep, hidT_get e (nd e d), d, r⟩
  have kb : K.In (hidT s1.heap H) := fun b o e => hidT_get (KX b o e) (by
    cases q : H b with
    | none => rfl
    | some u =>
      have z := hA b (by rw [q]; simp)
      subst z
      rw [hK (by rw [q]; simp)] at e
      cases e)
  have hM : Mod K mg (hidT s1.heap H) := ⟨kb, nk hns, ⟨mb, nk hb, hbb⟩, let ⟨mc, z1, z2⟩ := hlim; ⟨mc, nk z1, z2⟩⟩
  have e0 : Env0 prog w K mg (hidT s1.heap H) callerA [] s1 H := ⟨rfl, hM, fun b o e => of_hidT e, Nat.le_of_eq (hidT_size _ _), trivial, fun b hb => absurd hb (by show b ∉ ([] : List Addr); simp), hok, .of_eq hg⟩
  obtain ⟨fd, ps, bn, G⟩ := F _ kb (nk hns)
  have hl : ([Value.ref a] ++ []).length = ps.length := by
    have := G.len _ _ _ _ hsp
    simpa using this
  have rva : Vals [V.ref a] ([Value.ref a] ++ []) := .cons (show RelV (.ref a) (.ref a) from rfl) .nil
  refine codeAny_mono (G.run callerA [] s1 H ⟨[.ref a], []⟩ ([.ref a] ++ []) [.ref a] _ _ hr rfl e0 (bn s1 [.ref a] KX hl) rva hsp) fun r t q => ?_
  cases r with
  | error e =>
    obtain ⟨_, _, _, _, _, _, _, _, _, _, _, _, z⟩ := q
    exact z.elim
  | ok fl =>
    cases fl with
    | next => exact False.elim q
    | brk => exact False.elim q
    | cont => exact False.elim q
    | ret u =>
      obtain ⟨v, H2, os, bare, un, hok2, rv, ev⟩ := q
      have ev : v = .bl true := ev
      subst ev
      obtain rfl : u = Value.bool true := rv
      refine ⟨rfl, OldK.of_keep fun b o e => ?_, os, bare⟩
      rcases hO b with z | ⟨ob, xs, z⟩
      · exact un.keep b o e z (by show b ∉ ([] : List Addr); simp) (by simp)
      · have z2 := un.frzs b ob _ z
        obtain ⟨g1, _⟩ := hok b _ z
        obtain ⟨g2, _⟩ := hok2 b _ z2
        rw [e] at g1
        cases g1
        exact g2
/-- the law's promise at the heap behind the top -/
theorem law_callG (KX : K.In s1.heap) (hns : s1.heap.Ns mainGlobals mg) (hb : s1.heap.Ns builtinsNs mb) (hbb : ∀ x : Str, x ≠ "__name__" → mb x = bootBuiltins x) (hlim : s1.heap.NoLimit) (hg : s1.gens = #[])
    (ha : s1.heap.get? a = some { cls := .type "list", data := .seq vs.toArray }) (hi : IntsAre vs ns) (hl : ns.length ≤ sizeLine) (hr : Room k callerA)
    (F : ∀ base : Heap, K.In base → base.Ns mainGlobals mg → ∃ fd ps, Binds K fd ps [] ∧ FnG prog w K mg base k fa fd ps sp)
    (hsp : ∀ H : Hp, Only H → SqL K H a (ns.map V.int) → sp [.ref a] H (fun v _ => v = .bl true) fun _ _ _ => False) : Told prog w fa a s1 := by
  have rv : Vals (ns.map V.int) vs := vals_ints hi
  cases hk : K.lookup a with
  | some o =>
    have e := KX a o hk
    rw [ha] at e
    cases e
    have hO : Only fun _ => none := fun _ => .inl rfl
    refine law_from KX hns hb hbb hlim hg ha hr F hO (hsp _ hO (.inr ⟨_, vs.toArray, _, hk, rfl, rfl, rfl, ?_, by simpa using rv⟩)) (fun b u z => nomatch (show (none : Option HO) = some u from z)) (fun b z => absurd rfl z) fun z => absurd rfl z
    rw [List.size_toArray, hi.length]
    exact hl
  | none =>
    have at_ : (fun b => if b = a then some (HO.frz { cls := .type "list", data := .seq vs.toArray } (.lst (ns.map V.int))) else none : Hp) a = some (.frz { cls := .type "list", data := .seq vs.toArray } (.lst (ns.map V.int))) := if_pos rfl
    have of : ∀ {b : Addr}, b ≠ a → (fun b => if b = a then some (HO.frz { cls := .type "list", data := .seq vs.toArray } (.lst (ns.map V.int))) else none : Hp) b = none := fun h => if_neg h
    generalize (fun b => if b = a then some (HO.frz { cls := .type "list", data := .seq vs.toArray } (.lst (ns.map V.int))) else none : Hp) = H at at_ of
    have hO : Only H := fun b => by
      by_cases z : b = a
      · subst z; exact .inr ⟨_, _, at_⟩
      · exact .inl (of z)
    refine law_from KX hns hb hbb hlim hg ha hr F hO (hsp _ hO (.inl (.inr ⟨_, at_⟩))) (fun b u z => ?_) (fun b z => ?_) fun _ => hk
    · by_cases q : b = a
      · subst q
        rw [at_] at z
        cases z
        exact ⟨ha, by rw [List.length_map]; exact hl, vs, _, rv, ha⟩
      · rw [of q] at z; cases z
    · by_cases q : b = a
      · exact q
      · exact absurd (of q) z
end
/-- a law over a head by facts -/
theorem walk_ofG {l : PySem.W.OpenLaw} {n k : Nat} {q : Program} {loose : List Str} {XP : (Str → Option Value) → Heap → Prop} {YP : World → Heap → Prop} {d : DefRec} (hn : l.most = some n) (hn2 : n ≤ sizeLine) (hdf : d.params.defaults = []) (hr : Room k callerA)
    (F : ∀ (w : World) (mg : Str → Option Value) (fa : Addr) (h : Heap), YP w h → h.Ns mainGlobals mg → mg d.name = some (.ref fa) → ∃ (K : PySem.W.Frag) (sp : Sp), K.In h ∧
      (∀ (H : Hp) (a : Addr) (ns : List Int), ns.length ≤ n → Only H → SqL K H a (ns.map V.int) → sp [.ref a] H (fun v _ => v = .bl true) fun _ _ _ => False) ∧
      ∀ base : Heap, K.In base → base.Ns mainGlobals mg → ∃ fd ps, Binds K fd ps [] ∧ FnG l.prog w K mg base k fa fd ps sp) : PySem.W.WalkO q loose XP YP l.row.toRowW d [] (fun f vs => PySem.call f vs) := by
  refine Att.attach_call hn hdf fun w t0 s1 mg mb fa o pm cd doc a vs ns G Y ho hd hcd hmg hobj hints hlen hg => ?_
  obtain ⟨K, sp, KX, hsp, hF⟩ := F w mg fa _ Y G.T.g hmg
  exact law_callG KX G.T.g G.T.b G.T.builtins G.T.nolimit hg hobj hints (Nat.le_trans hlen hn2) hr hF fun H hO hS => hsp H a ns hlen hO hS
/-- the law's promise, from what its code computes -/
theorem sp_law {K : PySem.W.Frag} {cls : Nat → Addr} {att : Nat → Str} {Pg : Prg} {n f : Nat} {ns : List Int} {H : Hp} {a : Addr} (ok : ∃ h, callI Pg n f [.ref 0] [.con (ns.map D.int)] = .ok (.bl true) h) (hO : Only H) (hS : SqL K H a (ns.map V.int)) :
    spI (parOf K cls att Pg n) f [.ref a] H (fun v _ => v = .bl true) fun _ _ _ => False := by
  obtain ⟨h, e⟩ := ok
  refine ⟨[.ref 0], [.con (ns.map D.int)], fun _ => a, RVs.one (by rw [RV]; exact ⟨by simp, rfl⟩), ⟨fun k o ek => ?_, fun j k d1 d2 e1 e2 _ => ?_, ⟨_, rfl⟩, fun k d ek => ?_⟩, ?_⟩
  · cases k with
    | zero =>
      have : HObj.con (ns.map D.int) = o := Option.some.inj ek
      subst this
      refine ⟨ns.map V.int, ?_, ?_⟩
      · rcases hS with (q | q) | q
        · rcases hO a with z | ⟨_, _, z⟩ <;> (rw [q] at z; cases z)
        · exact .inl q
        · exact .inr q
      · exact RVs.ints ns
    | succ k => simp at ek
  · cases j with
    | zero => cases e1
    | succ j => simp at e1
  · cases k with
    | zero => rfl
    | succ k => simp at ek
  · show Post _ _ _ _ _ _ (callI Pg n f [.ref 0] [.con (ns.map D.int)]) _
    rw [e]
    exact fun v μ' H' _ rv _ => RV.bl_ rv
end PI

set_option Elab.async false
set_option linter.all false
set_option maxRecDepth 100000
set_option maxHeartbeats 4000000
/-! The head's facts of a program of plain defs and error classes. -/
namespace PI
open PySem PySem.Spec PyProof.Rows L2
/-- a def: its name, its statement, its names, its code -/
structure DefS where
  x : Str
  st : Stmt
  N : List Str
  code : Fn
def DefS.ps (d : DefS) : List Str := d.N.take d.code.np
/-- an error class: its name, its field ("" where it has none), its init's statement, the init's parameters -/
structure ErrS where
  x : Str
  f : Str
  st : Stmt
  s : Str
  y : Str
structure PgS where
  fns : List DefS
  ers : List ErrS
  imp : List BI
  csts : List (Str × Int)
def PgS.norm (p : PgS) (c : Nat) : Nat := if c < p.ers.length then c else 0
def PgS.sub (p : PgS) (c c1 : Nat) : Bool := p.norm c1 == 0 || p.norm c == p.norm c1
def PgS.nm (p : PgS) (c : Nat) : Str := match p.ers[p.norm c]? with
  | some e => e.x
  | none => ""
def PgS.att (p : PgS) (c : Nat) : Str := match p.ers[p.norm c]? with
  | some e => e.f
  | none => ""
def PgS.cls (p : PgS) (K : PySem.W.Frag) (c : Nat) : Addr := He.ga K (p.nm c)
def PgS.sig (p : PgS) : Sig := ⟨p.fns.map (·.x), p.ers.map fun e => (e.x, e.f), p.sub, p.imp, p.csts⟩
def PgS.prg (p : PgS) : Prg := ⟨p.fns.map (·.code), p.sub⟩
structure DefOk (S : Sig) (d : DefS) : Prop where
  sc : FnScope d.N d.ps (defScope d.st)
  bd : ∀ (kV doc pm : Value) (an : Option Addr) (cdv ct : Value) (us : List Value), us.length = d.ps.length → bindArgs (PySem.W.fnOf d.x d.x (defArgs d.st) (defBody d.st) (defScope d.st) .none kV doc pm an cdv ct) ⟨us, []⟩ = pure (d.ps.zip us)
  ck : chkB S d.code.body (scoF d.N (defScope d.st)) (defBody d.st) = true
  np : d.code.np = d.ps.length
  ns : d.code.ns = d.N.length
def AllOk (S : Sig) : List DefS → Prop
  | [] => True
  | d :: r => DefOk S d ∧ AllOk S r
theorem AllOk.at_ {S : Sig} : ∀ {l : List DefS} {i : Nat} {d : DefS}, AllOk S l → l[i]? = some d → DefOk S d
  | [], _, _, _, e => by simp at e
  | a :: r, 0, d, h, e => by
    have : a = d := by simpa using e
    subst this
    exact h.1
  | a :: r, i + 1, d, h, e => AllOk.at_ (i := i) h.2 (by simpa using e)
/-- self.f = y -/
def isInit (e : ErrS) : Prop := ∃ p1 p2 p3 p4, defBody e.st = [.Assign [.Attribute (.Name e.s p1) e.f p2] (.Name e.y p3) p4]
structure ErrOk (e : ErrS) : Prop where
  sc : FnScope [e.s, e.y] [e.s, e.y] (defScope e.st)
  bd : ∀ (kV doc pm : Value) (an : Option Addr) (cdv ct : Value) (us : List Value), us.length = 2 → bindArgs (PySem.W.fnOf "__init__" (e.x ++ ".__init__") (defArgs e.st) (defBody e.st) (defScope e.st) .none kV doc pm an cdv ct) ⟨us, []⟩ = pure ([e.s, e.y].zip us)
  body : isInit e
  v : Vis (defScope e.st) e.s ∧ Vis (defScope e.st) e.y
  db : (e.s == ("__debug__" : Str)) = false ∧ (e.s == ("__classdict__" : Str)) = false ∧ (e.y == ("__debug__" : Str)) = false ∧ (e.y == ("__classdict__" : Str)) = false
def AllErr : List ErrS → Prop
  | [] => True
  | e :: r => (e.f ≠ "" → ErrOk e) ∧ AllErr r
theorem AllErr.at_ : ∀ {l : List ErrS} {i : Nat} {e : ErrS}, AllErr l → l[i]? = some e → e.f ≠ "" → ErrOk e
  | [], _, _, _, e, _ => by simp at e
  | a :: r, 0, d, h, e, n => by
    have : a = d := by simpa using e
    subst this
    exact h.1 n
  | a :: r, i + 1, d, h, e, n => AllErr.at_ (i := i) h.2 (by simpa using e) n
/-! ### what is looked at behind the top -/
def exB (K : PySem.W.Frag) (D : Addr) : Bool := He.eqO (PySem.W.findIn K (.ref D) "__getattribute__") (some (some (.builtin "BaseException.__getattribute__"))) && (He.eqO (PySem.W.findIn K (.ref D) "__getattr__") (some none) &&
  (decide (PySem.W.subIn K (.ref D) (.type "BaseException") = some true) && (PySem.W.hasDictIn K D && (He.eqO (PySem.W.findIn K (.ref D) "__class__") (some (some (.builtin "object.__class__"))) &&
  (He.eqO (PySem.W.specialIn K (.builtin "object.__class__") "__get__") (some (some (.builtin "getset_descriptor.__get__"))) && (decide (PySem.W.takesIn K (.builtin "object.__class__") = some true) && decide (PySem.W.mroIn K D (.type "object") = some true)))))))
theorem exB_ok {K : PySem.W.Frag} {D : Addr} (h : exB K D = true) : ExcC K D := by
  obtain ⟨h1, h⟩ := He.ba h
  obtain ⟨h2, h⟩ := He.ba h
  obtain ⟨h3, h⟩ := He.ba h
  obtain ⟨h4, h⟩ := He.ba h
  obtain ⟨h5, h⟩ := He.ba h
  obtain ⟨h6, h⟩ := He.ba h
  obtain ⟨h7, h8⟩ := He.ba h
  exact ⟨He.eqO_ok h1, He.eqO_ok h2, of_decide_eq_true h3, h4, He.eqO_ok h5, He.eqO_ok h6, of_decide_eq_true h7, of_decide_eq_true h8⟩
def clB (K : PySem.W.Frag) (C : Addr) : Bool := match K.lookup C with
  | some ⟨.type "type", _, .cls cd, sl⟩ => (match cd.mro, sl.toList with
    | .ref C' :: bm, [_, _, _, _, some (.builtin n), _] => decide (C' = C) && (decide (n = "ValueError.__new__") && (!cd.hasDel && (cd.hasDict && PySem.HandSPX.refsVE bm)))
    | _, _ => false)
  | _ => false
theorem clB_ok {K : PySem.W.Frag} {C : Addr} (h : clB K C = true) :
    ∃ nm q N bs bm sn sub ab col dd k0 k1 k2 k3 k5, K.lookup C = some (excClassObj nm q C N bs bm true sn sub ab col dd k0 k1 k2 k3 k5 "ValueError.__new__") ∧ PySem.HandSPX.refsVE bm = true := by
  unfold clB at h
  split at h
  · rename_i dd cd sl ho
    split at h
    · rename_i C' bm k0 k1 k2 k3 n k5 hm hs
      obtain ⟨h2, h⟩ := He.ba h
      obtain ⟨h3, h⟩ := He.ba h
      obtain ⟨h4, h⟩ := He.ba h
      obtain ⟨h5, h6⟩ := He.ba h
      have h2 := of_decide_eq_true h2
      have h3 := of_decide_eq_true h3
      subst h2 h3
      obtain ⟨nm, bs, mro, ns, qn, hd, sn, sub, ab, col, del⟩ := cd
      dsimp only at hm h4 h5
      subst hm h5
      have h4 : del = false := by simpa using h4
      subst h4
      have hsl : sl = #[k0, k1, k2, k3, some (.builtin "ValueError.__new__"), k5] := by
        obtain ⟨l⟩ := sl
        simp only at hs
        rw [hs]
      subst hsl
      exact ⟨nm, qn, ns, bs, bm, sn, sub, ab, col, dd, k0, k1, k2, k3, k5, ho, h6⟩
    · cases h
  · cases h
def oxB (K : PySem.W.Frag) (C : Addr) : Bool := clB K C && (He.eqO (PySem.W.findIn K (.ref C) "__setattr__") (some (some (.builtin "object.__setattr__"))) && (decide (PySem.W.subIn K (.ref C) (.type "BaseException") = some true) &&
  (decide (PySem.W.typeIn K (.ref C) = some (.type "type")) && PySem.W.keepIn K (.ref C))))
theorem oxB_ok {K : PySem.W.Frag} {C : Addr} (h : oxB K C = true) : OexC K C := by
  obtain ⟨h1, h⟩ := He.ba h
  obtain ⟨h2, h⟩ := He.ba h
  obtain ⟨h3, h⟩ := He.ba h
  obtain ⟨h4, h5⟩ := He.ba h
  exact ⟨clB_ok h1, He.eqO_ok h2, of_decide_eq_true h3, of_decide_eq_true h4, h5⟩
def erB (K : PySem.W.Frag) (e : ErrS) : Bool := let C := He.ga K e.x
  He.eqO (PySem.W.nsIn K mainGlobals e.x) (some (some (.ref C))) && (exB K C && (He.eqO (PySem.W.findIn K (.ref C) e.f) (some none) && (decide (e.f = "") || (oxB K C &&
    (He.eqO (PySem.W.findIn K (.ref C) "__init__") (some (some (.ref (He.ma K C "__init__")))) && decide (PySem.W.typeIn K (.ref (He.ma K C "__init__")) = some (.type "function")))))))
def prB (p : PgS) (K : PySem.W.Frag) : Bool := (List.range p.ers.length).all fun c => (List.range p.ers.length).all fun c1 =>
  decide (PySem.W.kitOne K (.ref (p.cls K c)) (.ref (p.cls K c1)) = some (p.sub c c1)) && decide (PySem.W.exmOne K (.ref (p.cls K c)) (.ref (p.cls K c1)) = some (p.sub c c1))
def isIntB (o : Option (Option Value)) (i : Int) : Bool := match o with
  | some (some (.int j _)) => decide (j = i)
  | _ => false
theorem isIntB_ok {o : Option (Option Value)} {i : Int} (h : isIntB o i = true) : ∃ t, o = some (some (.int i t)) := by
  unfold isIntB at h
  split at h
  · rename_i j t
    rw [of_decide_eq_true h]
    exact ⟨t, rfl⟩
  · cases h
def PgS.chk (p : PgS) (K : PySem.W.Frag) : Bool := (p.fns.all fun d => He.eqO (PySem.W.nsIn K mainGlobals d.x) (some (some (.ref (He.ga K d.x))))) && ((bltN.all fun x => He.eqO (PySem.W.nsIn K mainGlobals x) (some none)) &&
  ((p.imp.all fun b => He.eqO (PySem.W.nsIn K mainGlobals b.nm) (some (some b.val))) && ((p.csts.all fun c => isIntB (PySem.W.nsIn K mainGlobals c.1) c.2) && ((p.ers.all fun e => erB K e) && prB p K))))
def DefS.dd (d : DefS) : He.DefD := ⟨(d.x, none), d.x, d.x, defArgs d.st, defBody d.st, defScope d.st, [], []⟩
def ErrS.dd (e : ErrS) : He.DefD := ⟨(e.x, some "__init__"), "__init__", e.x ++ ".__init__", defArgs e.st, defBody e.st, defScope e.st, [], []⟩
def PgS.dds (p : PgS) : List He.DefD := p.fns.map DefS.dd ++ (p.ers.filter fun e => e.f != ("" : Str)).map ErrS.dd
def obsP (p : PgS) (K : PySem.W.Frag) : He.AlD := (p.chk K && p.dds.all fun d => d.ok K, p.dds.map fun d => He.fnW K d.at_)
def SaysP (p : PgS) (K : PySem.W.Frag) : Prop := obsP p K = He.valD p.dds
def obsPG (n : Nat) (p : PgS) (g : Addr → Option Obj) : He.AlD := obsP p (He.frG g (He.asD g n))
def hookP (n : Nat) (p : PgS) : PySem.W.Hook where
  α := He.AlD
  obs := fun s => obsPG n p s.heap.get?
  val := fun _ => He.valD p.dds
  says := fun _ h => ∃ K : PySem.W.Frag, K.In h ∧ SaysP p K
  of := fun _ _ e => ⟨_, He.frG_in, e⟩
  keeps := fun _ _ _ ⟨K, hK, c⟩ k => ⟨K, PySem.W.Frag.In.keeps hK k, c⟩
theorem obsPG_eq {n : Nat} {p : PgS} {g : Addr → Option Obj} {s : Shared} (h : ∀ a, g a = s.heap.get? a) : obsPG n p g = (hookP n p).obs s := by
  have e : g = s.heap.get? := funext h
  rw [e] <;> rfl
section
variable {p : PgS} {K : PySem.W.Frag} {prog : Program} {w : World} {mg : Str → Option Value} {base h : Heap}
theorem SaysP.def_ (c : SaysP p K) {d : He.DefD} (m : d ∈ p.dds) : ∃ fd, FunD K d.name d.qual d.params d.body d.scope (d.dvs K) (d.kws K) (He.fAd K d.at_) fd := by
  have c2 := (He.ba (show (p.chk K && p.dds.all fun d => d.ok K) = true from congrArg (fun z : He.AlD => z.1) c)).2
  have e : p.dds.map (fun d => He.fnW K d.at_) = p.dds.map He.DefD.val := congrArg (fun z : He.AlD => z.2) c
  obtain ⟨i, hi⟩ := List.getElem?_of_mem m
  have e2 : (p.dds.map fun d => He.fnW K d.at_)[i]? = (p.dds.map He.DefD.val)[i]? := by rw [e]
  rw [List.getElem?_map, List.getElem?_map, hi] at e2
  exact He.DefD.funD (Option.some.inj e2) (List.all_eq_true.mp c2 d m)
theorem SaysP.chk (c : SaysP p K) : p.chk K = true := (He.ba (show (p.chk K && p.dds.all fun d => d.ok K) = true from congrArg (fun z : He.AlD => z.1) c)).1
/-- an init keeps its promise -/
theorem init_ok {e : ErrS} {C fI : Addr} {fd : FuncData} (O : ErrOk e) (T : OexC K C) (no : PySem.W.findIn K (.ref C) e.f = some none) (F : FunD K "__init__" (e.x ++ ".__init__") (defArgs e.st) (defBody e.st) (defScope e.st) [] [] fI fd) :
    FnOk prog w K mg base (L2.CX prog w) 1 fI fd [e.s, e.y] (spX C e.f) := by
  refine F.ok O.sc (fun vs H Q E ⟨a, y, h, _⟩ => by rw [h]; rfl) fun cdv A outer s H vs Q E hr ⟨a, y, hv, ha, k⟩ => ?_
  subst hv
  obtain ⟨p1, p2, p3, p4, hb⟩ := O.body
  refine ⟨tOst K e.f (tVar 0) (tVar 1), ?_, ?_⟩
  · rw [hb]
    exact pss_one (ps_ost (pe_var rfl O.v.1 O.db.1 O.db.2.1) (pe_var rfl O.v.2 O.db.2.2.1 O.db.2.2.2))
  · exact ⟨y, rfl, .ref a, rfl, a, C, rfl, T, no, .inl ⟨ha, fun dx h1 h2 => k dx h1 h2⟩⟩
theorem norm_lt (h : 0 < p.ers.length) (c : Nat) : p.norm c < p.ers.length := by
  unfold PgS.norm
  split <;> omega
theorem norm_norm (c : Nat) : p.norm (p.norm c) = p.norm c := by
  by_cases h : c < p.ers.length
  · have : p.norm c = c := if_pos h
    rw [this]; exact this
  · have : p.norm c = 0 := if_neg h
    rw [this]
    unfold PgS.norm
    split <;> rfl
theorem cls_norm (c : Nat) : p.cls K (p.norm c) = p.cls K c := by unfold PgS.cls PgS.nm; rw [norm_norm]
theorem sub_norm (c c1 : Nat) : p.sub (p.norm c) (p.norm c1) = p.sub c c1 := by unfold PgS.sub; rw [norm_norm, norm_norm]
theorem sig_ec {c : Nat} {n f : Str} (h : p.sig.ecs[c]? = some (n, f)) : ∃ e, p.ers[c]? = some e ∧ e.x = n ∧ e.f = f ∧ p.nm c = n ∧ p.att c = f := by
  simp only [PgS.sig, List.getElem?_map, Option.map_eq_some_iff] at h
  obtain ⟨e, e1, e2⟩ := h
  cases e2
  have hn : p.norm c = c := if_pos (List.getElem?_eq_some_iff.mp e1).1
  exact ⟨e, e1, rfl, rfl, by unfold PgS.nm; rw [hn, e1], by unfold PgS.att; rw [hn, e1]⟩
theorem mdl_of (hp : 0 < p.ers.length) (oks : AllOk p.sig p.fns) (ers : AllErr p.ers) (c : SaysP p K) (X : K.In base) (G : base.Ns mainGlobals mg) : Mdl p.sig p.prg prog w K mg base (p.cls K) p.att := by
  obtain ⟨c1, ch⟩ := He.ba c.chk
  obtain ⟨c2, ch⟩ := He.ba ch
  obtain ⟨c3, ch⟩ := He.ba ch
  obtain ⟨c3b, ch⟩ := He.ba ch
  obtain ⟨c4, c5⟩ := He.ba ch
  have er : ∀ {e : ErrS}, e ∈ p.ers → erB K e = true := fun {e} m => List.all_eq_true.mp c4 e m
  have erN : ∀ c : Nat, ∃ e, e ∈ p.ers ∧ p.ers[p.norm c]? = some e ∧ p.nm c = e.x ∧ p.att c = e.f := fun c => by
    have hl := norm_lt hp c
    have e1 : p.ers[p.norm c]? = some p.ers[p.norm c] := List.getElem?_eq_getElem hl
    exact ⟨_, List.getElem_mem hl, e1, by unfold PgS.nm; rw [e1], by unfold PgS.att; rw [e1]⟩
  have pr : ∀ c c1, PySem.W.kitOne K (.ref (p.cls K c)) (.ref (p.cls K c1)) = some (p.sub c c1) ∧ PySem.W.exmOne K (.ref (p.cls K c)) (.ref (p.cls K c1)) = some (p.sub c c1) := fun c c1 => by
    have z := List.all_eq_true.mp (List.all_eq_true.mp c5 (p.norm c) (List.mem_range.mpr (norm_lt hp c))) (p.norm c1) (List.mem_range.mpr (norm_lt hp c1))
    obtain ⟨z1, z2⟩ := He.ba z
    have z1 := of_decide_eq_true z1
    have z2 := of_decide_eq_true z2
    rw [cls_norm, cls_norm, sub_norm] at z1 z2
    exact ⟨z1, z2⟩
  refine ⟨rfl, fun f x hx => ?_, fun x hx => PySem.W.mg_none_of X G (He.eqO_ok (List.all_eq_true.mp c2 x hx)), fun b hb => ?_, fun cc hcc => ?_, ⟨fun c => ?_, fun c => ?_, fun c c1 => (pr c c1).1, fun c c1 => (pr c c1).2, fun c c1 h0 hl hs => ?_, fun c n f h => ?_⟩, fun c n f h => ?_, fun c9 n f h hf => ?_⟩
  · simp only [PgS.sig, List.getElem?_map, Option.map_eq_some_iff] at hx
    obtain ⟨d, e1, e2⟩ := hx
    subst e2
    have m := List.mem_of_getElem? e1
    have O := oks.at_ e1
    obtain ⟨fd, F⟩ := c.def_ (d := d.dd) (List.mem_append_left _ (List.mem_map.mpr ⟨d, m, rfl⟩))
    have F : FunD K d.x d.x (defArgs d.st) (defBody d.st) (defScope d.st) [] [] (He.ga K d.x) fd := F
    exact ⟨d.code, He.ga K d.x, by simp [PgS.prg, e1], ⟨_, _, _, _, fd, d.N, d.ps, F, O.sc, F.bindsN O.bd, O.ck, O.np, O.ns⟩, PySem.W.mg_of X G (He.eqO_ok (List.all_eq_true.mp c1 d m))⟩
  · exact PySem.W.mg_of X G (He.eqO_ok (List.all_eq_true.mp c3 _ hb))
  · obtain ⟨t, ht⟩ := isIntB_ok (List.all_eq_true.mp c3b _ hcc)
    exact ⟨t, PySem.W.mg_of X G ht⟩
  · obtain ⟨e, m, _, e2, _⟩ := erN c
    obtain ⟨_, z⟩ := He.ba (er m)
    show ExcC K (p.cls K c)
    unfold PgS.cls
    rw [e2]
    exact exB_ok (He.ba z).1
  · obtain ⟨e, m, _, e2, e3⟩ := erN c
    obtain ⟨_, z⟩ := He.ba (er m)
    obtain ⟨_, z⟩ := He.ba z
    show PySem.W.findIn K (.ref (p.cls K c)) (p.att c) = some none
    unfold PgS.cls
    rw [e2, e3]
    exact He.eqO_ok (He.ba z).1
  · have hl : c1 < p.ers.length := by simpa [PgS.sig] using hl
    have hs : p.sub c c1 = true := hs
    have n1 : p.norm c1 = c1 := if_pos hl
    unfold PgS.sub at hs
    rw [n1] at hs
    simp only [Bool.or_eq_true, beq_iff_eq] at hs
    rcases hs with hs | hs
    · exact absurd hs h0
    · unfold PgS.norm at hs
      split at hs
      · exact hs
      · exact absurd hs.symm h0
  · obtain ⟨e, _, _, _, _, e5⟩ := sig_ec h
    exact e5
  · obtain ⟨e, e1, e2, e3, e4, e5⟩ := sig_ec h
    have z := (He.ba (er (List.mem_of_getElem? e1))).1
    unfold PgS.cls
    rw [e4, ← e2]
    exact PySem.W.mg_of X G (He.eqO_ok z)
  · obtain ⟨e, e1, e2, e3, e4, e5⟩ := sig_ec h
    have m := List.mem_of_getElem? e1
    obtain ⟨_, z⟩ := He.ba (er m)
    obtain ⟨_, z⟩ := He.ba z
    obtain ⟨z0, z⟩ := He.ba z
    rw [e3, decide_eq_false hf, Bool.false_or] at z
    obtain ⟨z1, z⟩ := He.ba z
    obtain ⟨z2, z3⟩ := He.ba z
    have O := ers.at_ e1 (by rw [e3]; exact hf)
    have T := oxB_ok z1
    have no := He.eqO_ok z0
    obtain ⟨fd, F⟩ := c.def_ (d := e.dd) (List.mem_append_right _ (List.mem_map.mpr ⟨e, List.mem_filter.mpr ⟨m, by rw [e3]; simpa using hf⟩, rfl⟩))
    have F : FunD K "__init__" (e.x ++ ".__init__") (defArgs e.st) (defBody e.st) (defScope e.st) [] [] (He.ma K (He.ga K e.x) "__init__") fd := F
    have ec : p.cls K c9 = He.ga K e.x := by unfold PgS.cls; rw [e4, ← e2]
    rw [ec, ← e3]
    exact ⟨T, _, fd, [e.s, e.y], He.eqO_ok z2, of_decide_eq_true z3, init_ok O T no F, F.bindsN O.bd⟩
end
end PI

set_option Elab.async false
set_option linter.all false
set_option maxRecDepth 100000
set_option maxHeartbeats 4000000
/-! Reasoning about what code computes: rules for loops, comprehensions, the own heap. -/
namespace PI
open PySem
theorem Res.bind_ok {α β : Type} {a : α} {h : HP} {f : α → HP → Res β} : (Res.ok a h).bind f = f a h := rfl
theorem Res.bind_exc {α β : Type} {c : Nat} {d : D} {h : HP} {f : α → HP → Res β} : (Res.exc c d h : Res α).bind f = .exc c d h := rfl
theorem Res.fl_ok {α : Type} {a : α} {h : HP} {e : Env} {f : α → HP → Fl} : (Res.ok a h).fl e f = f a h := rfl
theorem Res.fl_exc {α : Type} {c : Nat} {d : D} {h : HP} {e : Env} {f : α → HP → Fl} : (Res.exc c d h : Res α).fl e f = .ex c d e h := rfl
theorem Fl.then_nx {e : Env} {h : HP} {f : Env → HP → Fl} : (Fl.nx e h).then f = f e h := rfl
theorem Fl.then_rt {d : D} {h : HP} {f : Env → HP → Fl} : (Fl.rt d h).then f = .rt d h := rfl
theorem Fl.then_bk {e : Env} {h : HP} {f : Env → HP → Fl} : (Fl.bk e h).then f = .bk e h := rfl
theorem Fl.then_ct {e : Env} {h : HP} {f : Env → HP → Fl} : (Fl.ct e h).then f = .ct e h := rfl
theorem Fl.then_ex {c : Nat} {d : D} {e : Env} {h : HP} {f : Env → HP → Fl} : (Fl.ex c d e h).then f = .ex c d e h := rfl
theorem fin_f {r : Res D} : fin false r = r := rfl
theorem fin_t {r : Res D} : fin true r = (tstR r).bind fun b h => .ok (.bl b) h := rfl
theorem asB_bl {b : Bool} {h : HP} : asB (.ok (.bl b) h) = .ok b h := rfl
theorem tstR_bl {b : Bool} {h : HP} : tstR (.ok (.bl b) h) = .ok b h := rfl
theorem tstR_ok {d : D} {h : HP} : tstR (.ok d h) = (match truth h d with | some b => .ok b h | none => .stuck) := rfl
theorem asB_exc {c : Nat} {d : D} {h : HP} : asB (.exc c d h) = .exc c d h := rfl
theorem tstR_exc {c : Nat} {d : D} {h : HP} : tstR (.exc c d h) = .exc c d h := rfl
/-! ### loops -/
/-- what a walk gives -/
def Src (J : Itr) (ds : List D) (h : HP) : Prop := ∀ i, J.at h i = some ds[i]?
theorem src_fix {ds : List D} {h : HP} : Src (.fix ds) ds h := fun _ => rfl
theorem src_lst {n : Nat} {ds : List D} {h : HP} (e : seqOf h (.ref n) = some ds) : Src (.lst n) ds h := fun i => by
  show (seqOf h (.ref n)).map _ = _
  rw [e]; rfl
/-- pairs of the place and the item -/
def enD (ds : List D) : List D := ds.zipIdx.map fun p => .tup [.int p.2, p.1]
theorem enD_get (ds : List D) (i : Nat) : (enD ds)[i]? = ds[i]?.map fun d => .tup [.int i, d] := by
  unfold enD
  rw [List.getElem?_map, List.getElem?_zipIdx]
  cases ds[i]? <;> simp
theorem enD_length (ds : List D) : (enD ds).length = ds.length := by simp [enD]
theorem src_enf {ds : List D} {h : HP} : Src (.enf ds) (enD ds) h := fun i => by
  show some (ds[i]?.map _) = _
  rw [enD_get]
theorem src_enl {n : Nat} {ds : List D} {h : HP} (e : seqOf h (.ref n) = some ds) : Src (.enl n) (enD ds) h := fun i => by
  show (seqOf h (.ref n)).map _ = _
  rw [e, enD_get]; rfl
theorem loop_go {J : Itr} {t : Tgt} {step : Env → HP → Fl} {ds : List D} {Inv : Nat → Env → HP → Prop} {X : Fl → Prop} (src : ∀ i e h, Inv i e h → Src J ds h)
    (turn : ∀ i d e h, ds[i]? = some d → Inv i e h → ∃ e1, bindT t d e = some e1 ∧ match step e1 h with
      | .nx e2 h2 => Inv (i + 1) e2 h2
      | .ct e2 h2 => Inv (i + 1) e2 h2
      | .bk e2 h2 => X (.nx e2 h2)
      | r => X r) : ∀ (F i : Nat) (e : Env) (h : HP), Inv i e h → i ≤ ds.length → ds.length - i < F → (∃ e2 h2, loopI J t step F i e h = .nx e2 h2 ∧ Inv ds.length e2 h2) ∨ X (loopI J t step F i e h)
  | 0, i, e, h, _, _, hf => by omega
  | F + 1, i, e, h, iv, hi, hf => by
    have s := src i e h iv i
    unfold loopI
    rw [s]
    cases q : ds[i]? with
    | none =>
      have : i = ds.length := by
        have := List.getElem?_eq_none_iff.mp q
        omega
      subst this
      exact .inl ⟨e, h, rfl, iv⟩
    | some d =>
      obtain ⟨e1, b, st⟩ := turn i d e h q iv
      have hl : i < ds.length := (List.getElem?_eq_some_iff.mp q).1
      simp only [b]
      cases r : step e1 h with
      | nx e2 h2 => rw [r] at st; exact loop_go src turn F (i + 1) e2 h2 st hl (by omega)
      | ct e2 h2 => rw [r] at st; exact loop_go src turn F (i + 1) e2 h2 st hl (by omega)
      | bk e2 h2 => rw [r] at st; exact .inr st
      | rt d2 h2 => rw [r] at st; exact .inr st
      | ex c d2 e2 h2 => rw [r] at st; exact .inr st
      | stuck => rw [r] at st; exact .inr st
/-- a loop: an invariant, and what holds where it is left early -/
theorem loop_rule {J : Itr} {t : Tgt} {step : Env → HP → Fl} {e : Env} {h : HP} (ds : List D) (Inv : Nat → Env → HP → Prop) (X : Fl → Prop) (src : ∀ i e h, Inv i e h → Src J ds h) (hl : ds.length < fuel) (start : Inv 0 e h)
    (turn : ∀ i d e h, ds[i]? = some d → Inv i e h → ∃ e1, bindT t d e = some e1 ∧ match step e1 h with
      | .nx e2 h2 => Inv (i + 1) e2 h2
      | .ct e2 h2 => Inv (i + 1) e2 h2
      | .bk e2 h2 => X (.nx e2 h2)
      | r => X r) : (∃ e2 h2, loopI J t step fuel 0 e h = .nx e2 h2 ∧ Inv ds.length e2 h2) ∨ X (loopI J t step fuel 0 e h) :=
  loop_go src turn fuel 0 e h start (Nat.zero_le _) (by omega)
/-- a loop that is not left early -/
theorem loop_all {J : Itr} {t : Tgt} {step : Env → HP → Fl} {e : Env} {h : HP} (ds : List D) (Inv : Nat → Env → HP → Prop) (src : ∀ i e h, Inv i e h → Src J ds h) (hl : ds.length < fuel) (start : Inv 0 e h)
    (turn : ∀ i d e h, ds[i]? = some d → Inv i e h → ∃ e1, bindT t d e = some e1 ∧ ∃ e2 h2, (step e1 h = .nx e2 h2 ∨ step e1 h = .ct e2 h2) ∧ Inv (i + 1) e2 h2) :
    ∃ e2 h2, loopI J t step fuel 0 e h = .nx e2 h2 ∧ Inv ds.length e2 h2 := by
  refine (loop_rule (J := J) (t := t) (step := step) ds Inv (fun _ => False) src hl start (fun i d e h q iv => ?_)).elim id fun z => z.elim
  obtain ⟨e1, b, e2, h2, s, iv2⟩ := turn i d e h q iv
  refine ⟨e1, b, ?_⟩
  rcases s with s | s <;> (rw [s]; exact iv2)
theorem comp_go {J : Itr} {t : Tgt} {e : Env} {step : Env → HP → Res (Option D)} {ds : List D} {Inv : Nat → List D → HP → Prop} (src : ∀ i a h, Inv i a h → Src J ds h) (sz : ∀ i a h, Inv i a h → a.length ≤ i) (hz : ds.length < SL)
    (turn : ∀ i d a h, ds[i]? = some d → Inv i a h → ∃ e1, bindT t d e = some e1 ∧ ∃ o h2, step e1 h = .ok o h2 ∧ Inv (i + 1) (match o with | some x => a ++ [x] | none => a) h2) :
    ∀ (F i : Nat) (a : List D) (h : HP), Inv i a h → i ≤ ds.length → ds.length - i < F → ∃ b h2, compI J t e step F i a h = .ok b h2 ∧ Inv ds.length b h2
  | 0, i, a, h, _, _, hf => by omega
  | F + 1, i, a, h, iv, hi, hf => by
    have s := src i a h iv i
    unfold compI
    rw [s]
    cases q : ds[i]? with
    | none =>
      have : i = ds.length := by
        have := List.getElem?_eq_none_iff.mp q
        omega
      subst this
      exact ⟨a, h, rfl, iv⟩
    | some d =>
      obtain ⟨e1, b, o, h2, st, iv2⟩ := turn i d a h q iv
      have hl : i < ds.length := (List.getElem?_eq_some_iff.mp q).1
      simp only [b, st]
      cases o with
      | none => exact comp_go src sz hz turn F (i + 1) a h2 iv2 hl (by omega)
      | some x =>
        have := sz i a h iv
        have lt : a.length < SL := by omega
        simp only [if_pos lt]
        exact comp_go src sz hz turn F (i + 1) (a ++ [x]) h2 iv2 hl (by omega)
/-- a comprehension: an invariant -/
theorem comp_rule {J : Itr} {t : Tgt} {e : Env} {step : Env → HP → Res (Option D)} {h : HP} (ds : List D) (Inv : Nat → List D → HP → Prop) (src : ∀ i a h, Inv i a h → Src J ds h) (sz : ∀ i a h, Inv i a h → a.length ≤ i) (hz : ds.length < SL) (start : Inv 0 [] h)
    (turn : ∀ i d a h, ds[i]? = some d → Inv i a h → ∃ e1, bindT t d e = some e1 ∧ ∃ o h2, step e1 h = .ok o h2 ∧ Inv (i + 1) (match o with | some x => a ++ [x] | none => a) h2) :
    ∃ b h2, compI J t e step fuel 0 [] h = .ok b h2 ∧ Inv ds.length b h2 :=
  comp_go src sz hz turn fuel 0 [] h start (Nat.zero_le _) (by
    have := SL_fuel
    omega)
theorem filterMap_take {α β : Type} (f : α → Option β) (l : List α) (i : Nat) (x : α) (e : l[i]? = some x) : (l.take (i + 1)).filterMap f = (match f x with | some y => (l.take i).filterMap f ++ [y] | none => (l.take i).filterMap f) := by
  have : l.take (i + 1) = l.take i ++ [x] := by
    rw [List.take_succ, e]; rfl
  rw [this, List.filterMap_append]
  cases q : f x <;> simp [q]
/-- a comprehension that leaves the heap as it is -/
theorem comp_pure {J : Itr} {t : Tgt} {e : Env} {step : Env → HP → Res (Option D)} {h : HP} (ds : List D) (f : D → Option D) (src : Src J ds h) (hz : ds.length < SL)
    (turn : ∀ d, d ∈ ds → ∃ e1, bindT t d e = some e1 ∧ step e1 h = .ok (f d) h) : compI J t e step fuel 0 [] h = .ok (ds.filterMap f) h := by
  obtain ⟨b, h2, e1, iv⟩ := comp_rule (J := J) (t := t) (e := e) (step := step) (h := h) ds (fun i a h2 => h2 = h ∧ a = (ds.take i).filterMap f) (fun i a h2 iv => by rw [iv.1]; exact src)
    (fun i a h2 iv => by
      rw [iv.2]
      have h1 := List.length_filterMap_le f (ds.take i)
      have h3 : (ds.take i).length ≤ i := by rw [List.length_take]; omega
      omega) hz ⟨rfl, rfl⟩ (fun i d a h2 q iv => by
      obtain ⟨rfl, rfl⟩ := iv
      obtain ⟨e1, b, s⟩ := turn d (List.mem_of_getElem? q)
      refine ⟨e1, b, _, _, s, rfl, ?_⟩
      rw [filterMap_take f ds i d q]
      cases f d <;> rfl)
  rw [e1, iv.1, iv.2, List.take_length]
/-- the same over a list that is told by something else -/
theorem comp_flt {α : Type} {J : Itr} {t : Tgt} {e : Env} {step : Env → HP → Res (Option D)} {h : HP} (l : List α) (a : α → D) (f : α → Option D) (src : Src J (l.map a) h) (hz : l.length < SL)
    (turn : ∀ x, x ∈ l → ∃ e1, bindT t (a x) e = some e1 ∧ step e1 h = .ok (f x) h) : compI J t e step fuel 0 [] h = .ok (l.filterMap f) h := by
  obtain ⟨b, h2, e1, iv⟩ := comp_rule (J := J) (t := t) (e := e) (step := step) (h := h) (l.map a) (fun i c h2 => h2 = h ∧ c = (l.take i).filterMap f) (fun i c h2 iv => by rw [iv.1]; exact src)
    (fun i c h2 iv => by
      rw [iv.2]
      have h1 := List.length_filterMap_le f (l.take i)
      have h3 : (l.take i).length ≤ i := by rw [List.length_take]; omega
      omega) (by rw [List.length_map]; exact hz) ⟨rfl, rfl⟩ (fun i d c h2 q iv => by
      obtain ⟨rfl, rfl⟩ := iv
      rw [List.getElem?_map, Option.map_eq_some_iff] at q
      obtain ⟨x, q1, rfl⟩ := q
      obtain ⟨e1, b, s⟩ := turn x (List.mem_of_getElem? q1)
      refine ⟨e1, b, _, _, s, rfl, ?_⟩
      rw [filterMap_take f l i x q1]
      cases f x <;> rfl)
  rw [e1, iv.1, iv.2, List.length_map, List.take_length]
theorem comp_map {α : Type} {J : Itr} {t : Tgt} {e : Env} {step : Env → HP → Res (Option D)} {h : HP} (l : List α) (a g : α → D) (src : Src J (l.map a) h) (hz : l.length < SL)
    (turn : ∀ x, x ∈ l → ∃ e1, bindT t (a x) e = some e1 ∧ step e1 h = .ok (some (g x)) h) : compI J t e step fuel 0 [] h = .ok (l.map g) h := by
  rw [comp_flt l a (fun x => some (g x)) src hz turn]
  congr 1
  induction l with
  | nil => rfl
  | cons x l ih => simp
/-! ### the own heap grows -/
def Gr (h h' : HP) : Prop := ∃ g, h' = h ++ g
theorem Gr.refl (h : HP) : Gr h h := ⟨[], by simp⟩
theorem Gr.trans {a b c : HP} (x : Gr a b) (y : Gr b c) : Gr a c := by
  obtain ⟨g, rfl⟩ := x
  obtain ⟨k, rfl⟩ := y
  exact ⟨g ++ k, by simp⟩
theorem Gr.one (h : HP) (o : HObj) : Gr h (h ++ [o]) := ⟨[o], rfl⟩
theorem Gr.get {h h' : HP} (x : Gr h h') {i : Nat} {o : HObj} (e : h[i]? = some o) : h'[i]? = some o := by
  obtain ⟨g, rfl⟩ := x
  rw [List.getElem?_append_left (List.getElem?_eq_some_iff.mp e).1]
  exact e
theorem Gr.le {h h' : HP} (x : Gr h h') : h.length ≤ h'.length := by
  obtain ⟨g, rfl⟩ := x
  simp
theorem get_new (h : HP) (o : HObj) : (h ++ [o])[h.length]? = some o := by simp
end PI

set_option Elab.async false
set_option linter.all false
set_option maxRecDepth 100000
set_option maxHeartbeats 4000000
/-! Plain data: equality, texts. -/
namespace PI
open PySem PyProof.Rows PySem.PyData
mutual
/-- plain data of a depth: no lists -/
def gd : D → Nat → Bool
  | .non, _ => true
  | .bl _, _ => true
  | .int i, _ => decide (i.natAbs.log2 < 1920)
  | .str s, _ => strOk s
  | .tup ds, k => match k with
    | 0 => false
    | k + 1 => gds ds k
  | .ref _, _ => false
def gds : List D → Nat → Bool
  | [], _ => true
  | d :: ds, k => gd d k && gds ds k
end
mutual
def pyOf : D → PyData
  | .non => .none
  | .bl b => .bool b
  | .int i => .int i
  | .str s => .str s
  | .tup ds => .tuple (pyOfs ds)
  | .ref _ => .none
def pyOfs : List D → List PyData
  | [] => []
  | d :: ds => pyOf d :: pyOfs ds
end
mutual
/-- no truth values, no lists: equal is the same -/
def nb : D → Bool
  | .non => true
  | .bl _ => false
  | .int _ => true
  | .str _ => true
  | .tup ds => nbs ds
  | .ref _ => false
def nbs : List D → Bool
  | [] => true
  | d :: ds => nb d && nbs ds
end
mutual
/-- a bound of its text -/
def sz : D → Nat
  | .non => 4
  | .bl _ => 5
  | .int _ => 1921
  | .str s => 10 * s.length + 2
  | .tup ds => szs ds + 3
  | .ref _ => 0
def szs : List D → Nat
  | [] => 0
  | d :: ds => sz d + 2 + szs ds
end
mutual
theorem gd_py : ∀ (d : D) (k : Nat), gd d k = true → (∀ (h : HP) (f : Nat), k < f → toPy f h d = some (pyOf d)) ∧ (pyOf d).canLay0 = true ∧ (pyOf d).depth ≤ k ∧ (pyOf d).showable = true
  | .non, k, g => ⟨fun h f hf => by cases f with | zero => omega | succ f => rfl, rfl, Nat.zero_le _, rfl⟩
  | .bl b, k, g => ⟨fun h f hf => by cases f with | zero => omega | succ f => rfl, rfl, Nat.zero_le _, rfl⟩
  | .int i, k, g => ⟨fun h f hf => by cases f with | zero => omega | succ f => rfl, rfl, Nat.zero_le _, g⟩
  | .str s, k, g => ⟨fun h f hf => by cases f with | zero => omega | succ f => rfl, g, Nat.zero_le _, rfl⟩
  | .ref n, k, g => by cases g
  | .tup ds, k, g => by
    cases k with
    | zero => cases g
    | succ k =>
      obtain ⟨a, b, c, e⟩ := gds_py ds k g
      refine ⟨fun h f hf => ?_, b, ?_, e⟩
      · cases f with
        | zero => omega
        | succ f =>
          show (ds.mapM (toPy f h)).map PyData.tuple = _
          rw [a h f (by omega)]; rfl
      · show PyData.depthAll (pyOfs ds) + 1 ≤ k + 1
        omega
theorem gds_py : ∀ (ds : List D) (k : Nat), gds ds k = true → (∀ (h : HP) (f : Nat), k < f → ds.mapM (toPy f h) = some (pyOfs ds)) ∧ PyData.canLayAll0 (pyOfs ds) = true ∧ PyData.depthAll (pyOfs ds) ≤ k ∧ PyData.showableAll (pyOfs ds) = true
  | [], k, g => ⟨fun h f hf => rfl, rfl, Nat.zero_le _, rfl⟩
  | d :: ds, k, g => by
    obtain ⟨g1, g2⟩ := Bool.and_eq_true_iff.mp (show (gd d k && gds ds k) = true from g)
    obtain ⟨a1, b1, c1, e1⟩ := gd_py d k g1
    obtain ⟨a2, b2, c2, e2⟩ := gds_py ds k g2
    refine ⟨fun h f hf => ?_, ?_, ?_, ?_⟩
    · rw [List.mapM_cons, a1 h f hf, a2 h f hf]; rfl
    · show (PyData.canLay0 _ && PyData.canLayAll0 _) = true
      rw [b1, b2]; rfl
    · show max _ _ ≤ k
      omega
    · show (PyData.showable _ && PyData.showableAll _) = true
      rw [e1, e2]; rfl
end
theorem int_txt {i : Int} (h : i.natAbs.log2 < 1920) : (PyData.shown (.int i)).length ≤ 1921 := int_text_len_1921 h
theorem strOk_lt {s : Str} (h : strOk s = true) : ∀ c ∈ s.cps.toList, c < 16 ^ 8 := fun c hc => by
  have := (Array.all_eq_true_iff_forall_mem.mp h) c (by simpa using hc)
  have h2 : c < 0x110000 := by simpa using this
  have : (0x110000 : Nat) < 16 ^ 8 := by decide
  omega
mutual
theorem gd_sz : ∀ (d : D) (k : Nat), gd d k = true → (pyOf d).shown.length ≤ sz d
  | .non, k, g => by show (PyData.shown .none).length ≤ 4; decide
  | .bl b, k, g => by cases b <;> (show (PyData.shown (.bool _)).length ≤ 5; decide)
  | .int i, k, g => int_txt (of_decide_eq_true g)
  | .str s, k, g => by
    have := PySem.StrLaws.reprText_len s (strOk_lt g)
    exact this
  | .ref n, k, g => by cases g
  | .tup ds, k, g => by
    cases k with
    | zero => cases g
    | succ k =>
      have := gds_sz ds k g
      have h2 := tupleText_len_le (PyData.shownAll (pyOfs ds))
      show (tupleText (PyData.shownAll (pyOfs ds))).length ≤ szs ds + 3
      omega
theorem gds_sz : ∀ (ds : List D) (k : Nat), gds ds k = true → ((PyData.shownAll (pyOfs ds)).map (·.length)).sum + 2 * (PyData.shownAll (pyOfs ds)).length ≤ szs ds
  | [], k, g => by simp [pyOfs, PyData.shownAll, szs]
  | d :: ds, k, g => by
    obtain ⟨g1, g2⟩ := Bool.and_eq_true_iff.mp (show (gd d k && gds ds k) = true from g)
    have h1 := gd_sz d k g1
    have h2 := gds_sz ds k g2
    simp only [pyOfs, PyData.shownAll, szs, List.map_cons, List.sum_cons, List.length_cons]
    omega
end
/-- repr of plain data -/
theorem repr_gd {d : D} {k : Nat} {h : HP} (g : gd d k = true) (hk : k ≤ 64) (hz : sz d + 64 ≤ SL) : bi1 .repr d h = .ok (.str (pyOf d).shown) h := by
  obtain ⟨a, b, c, e⟩ := gd_py d k g
  have s := gd_sz d k g
  show (match toPy 66 h d with | Option.some x => if SeqAt.shaped x && x.showable && decide (x.shown.length + 64 ≤ SL) then Res.ok (D.str x.shown) h else Res.stuck | Option.none => Res.stuck) = _
  rw [a h 66 (by omega)]
  have : (SeqAt.shaped (pyOf d) && (pyOf d).showable && decide ((pyOf d).shown.length + 64 ≤ SL)) = true := by
    unfold SeqAt.shaped
    rw [b, e, decide_eq_true (show (pyOf d).depth ≤ 64 by omega), decide_eq_true (show (pyOf d).shown.length + 64 ≤ SL by omega)]
    rfl
  simp only [this, if_true]
/-- equality of plain data -/
def deq (a b : D) : Bool := PyData.eqv (pyOf a) (pyOf b)
theorem eqD_gd {a b : D} {j k : Nat} {h : HP} (ga : gd a j = true) (gb : gd b k = true) (hj : j ≤ 64) (hk : k ≤ 64) : eqD h a b = some (deq a b) := by
  unfold eqD
  cases q : strEq a b with
  | some k0 =>
    have : ∃ i j, a = .str i ∧ b = .str j := by
      cases a <;> cases b <;> first | exact ⟨_, _, rfl, rfl⟩ | cases q
    obtain ⟨i, j, rfl, rfl⟩ := this
    simp only [strEq, Option.some.injEq] at q
    subst q
    show some (decide (i = j)) = some (i == j)
    congr 1
  | none =>
    obtain ⟨a1, b1, c1, e1⟩ := gd_py a j ga
    obtain ⟨a2, b2, c2, e2⟩ := gd_py b k gb
    simp only [datEq, a1 h 66 (by omega), a2 h 66 (by omega)]
    have : (SeqAt.shaped (pyOf a) && SeqAt.shaped (pyOf b)) = true := by
      unfold SeqAt.shaped
      rw [b1, b2, decide_eq_true (show (pyOf a).depth ≤ 64 by omega), decide_eq_true (show (pyOf b).depth ≤ 64 by omega)]
      rfl
    rw [if_pos this]
    rfl
theorem deq_refl {a : D} {k : Nat} (g : gd a k = true) : deq a a = true := PySem.SeqAt.eqv_refl _ (gd_py a k g).2.1
mutual
theorem deq_eq : ∀ (a b : D), nb a = true → nb b = true → deq a b = true → a = b
  | .non, b, _, hb, e => by cases b <;> first | rfl | (cases e; done) | (cases hb; done)
  | .int i, b, _, hb, e => by
    cases b with
    | int j => rw [eq_of_beq (show (i == j) = true from e)]
    | bl c => cases hb
    | _ => cases e
  | .str i, b, _, hb, e => by
    cases b with
    | str j => rw [eq_of_beq (show (i == j) = true from e)]
    | _ => first | cases e | cases hb
  | .tup ds, b, ha, hb, e => by
    cases b with
    | tup es => rw [deqs_eq ds es ha hb e]
    | _ => first | cases e | cases hb
  | .bl _, b, ha, _, _ => by cases ha
  | .ref _, b, ha, _, _ => by cases ha
theorem deqs_eq : ∀ (a b : List D), nbs a = true → nbs b = true → PyData.eqvAll (pyOfs a) (pyOfs b) = true → a = b
  | [], [], _, _, _ => rfl
  | [], _ :: _, _, _, e => by cases e
  | _ :: _, [], _, _, e => by cases e
  | x :: a, y :: b, ha, hb, e => by
    obtain ⟨a1, a2⟩ := Bool.and_eq_true_iff.mp (show (nb x && nbs a) = true from ha)
    obtain ⟨b1, b2⟩ := Bool.and_eq_true_iff.mp (show (nb y && nbs b) = true from hb)
    obtain ⟨e1, e2⟩ := Bool.and_eq_true_iff.mp (show (PyData.eqv (pyOf x) (pyOf y) && PyData.eqvAll (pyOfs a) (pyOfs b)) = true from e)
    rw [deq_eq x y a1 b1 e1, deqs_eq a b a2 b2 e2]
end
theorem deq_iff {a b : D} {k : Nat} (g : gd a k = true) (ha : nb a = true) (hb : nb b = true) : deq a b = true ↔ a = b :=
  ⟨deq_eq a b ha hb, fun e => by rw [← e]; exact deq_refl g⟩
end PI

set_option Elab.async false
set_option linter.all false
set_option maxRecDepth 100000
/-! The same code, over values: a list is what it holds. A local list that nobody else knows (own) may be changed; the list of draws (dr) is the one that is shared. -/
namespace VI
open PySem PI
inductive V where
  | non | bl (b : Bool) | int (i : Int) | str (s : Str) | tup (vs : List V) | lst (vs : List V) | con (vs : List V)
/-- what a name holds, what an expression gives: a value; a list that is known here alone; one that is looked at; the draws -/
inductive A where
  | v (x : V) | own (vs : List V) | bor (vs : List V) | dr
abbrev Q := Option (List V)
abbrev VEnv := List (Option A)
inductive RV (α : Type) where
  | ok (a : α) (q : Q) | exc (c : Nat) (x : V) (q : Q) | stuck
def RV.bind {α β : Type} : RV α → (α → Q → RV β) → RV β
  | .ok a q, f => f a q
  | .exc c x q, _ => .exc c x q
  | .stuck, _ => .stuck
inductive FlV where
  | nx (e : VEnv) (q : Q) | rt (a : A) (q : Q) | bk (e : VEnv) (q : Q) | ct (e : VEnv) (q : Q)
  | ex (c : Nat) (x : V) (e : VEnv) (q : Q) | stuck
def RV.fl {α : Type} : RV α → VEnv → (α → Q → FlV) → FlV
  | .ok a q, _, f => f a q
  | .exc c x q, e, _ => .ex c x e q
  | .stuck, _, _ => .stuck
def FlV.then : FlV → (VEnv → Q → FlV) → FlV
  | .nx e q, f => f e q
  | r, _ => r
mutual
def pyV : V → PyData
  | .non => .none
  | .bl b => .bool b
  | .int i => .int i
  | .str s => .str s
  | .tup vs => .tuple (pyVs vs)
  | .lst vs => .list (pyVs vs)
  | .con vs => .list (pyVs vs)
def pyVs : List V → List PyData
  | [] => []
  | v :: vs => pyV v :: pyVs vs
end
mutual
/-- no list within -/
def noL : V → Bool
  | .non => true
  | .bl _ => true
  | .int _ => true
  | .str _ => true
  | .tup vs => noLs vs
  | .lst _ => false
  | .con _ => false
def noLs : List V → Bool
  | [] => true
  | v :: vs => noL v && noLs vs
end
/-! ### values -/
def datEqV (a b : V) : Option Bool := if SeqAt.shaped (pyV a) && SeqAt.shaped (pyV b) then some (PyData.eqv (pyV a) (pyV b)) else none
def strEqV : V → V → Option Bool
  | .str a, .str b => some (decide (a = b))
  | _, _ => none
def eqV (a b : V) : Option Bool := match strEqV a b with
  | some k => some k
  | none => datEqV a b
def seqV : V → Option (List V)
  | .tup vs => some vs
  | .lst vs => some vs
  | .con vs => some vs
  | _ => none
def truthV : V → Option Bool
  | .non => some false
  | .bl b => some b
  | .int i => some (i != 0)
  | .str s => if s.length ≤ SL then some (s.length != 0) else none
  | .tup vs => some (!vs.isEmpty)
  | .lst vs => some (!vs.isEmpty)
  | .con vs => some (!vs.isEmpty)
def repV (vs : List V) (k : Int) : List V := (List.replicate k.toNat vs).flatten
def okA (x : V) (q : Q) : RV A := .ok (.v x) q
def binV : BOp → V → V → Q → RV A
  | .add, .int a, .int b, q => .ok (.v (.int (a + b))) q
  | .add, .str a, .str b, q => if a.length + b.length ≤ SL then .ok (.v (.str (a ++ b))) q else .stuck
  | .add, .tup a, .tup b, q => if a.length + b.length ≤ SL then .ok (.v (.tup (a ++ b))) q else .stuck
  | .add, .lst a, .lst b, q => if a.length + b.length ≤ SL then .ok (.own (a ++ b)) q else .stuck
  | .sub, .int a, .int b, q => .ok (.v (.int (a - b))) q
  | .mul, .int a, .int b, q => if mulOk a b then .ok (.v (.int (a * b))) q else .stuck
  | .mul, .tup a, .int k, q => if a.length ≤ 1000 ∧ k ≤ 1000 ∧ -1000 ≤ k then .ok (.v (.tup (repV a k))) q else .stuck
  | .mul, .str a, .int k, q => if 2 ≤ k ∧ k ≤ 1000 ∧ 1 ≤ a.length ∧ a.length ≤ 1000 ∧ (repStr a k).length ≤ SL then .ok (.v (.str (repStr a k))) q else .stuck
  | .div, .int a, .int b, q => if 0 < b ∧ b.natAbs < big9 then .ok (.v (.int (a / b))) q else .stuck
  | .mod, .int a, .int b, q => if 0 < b then .ok (.v (.int (a % b))) q else .stuck
  | .pow, .int a, .int b, q => if 0 ≤ b ∧ b ≤ 1000000 ∧ a.natAbs < 2 ^ 64 then .ok (.v (.int (a ^ b.toNat))) q else .stuck
  | _, _, _, _ => .stuck
def ltV : V → V → Option Bool
  | .int a, .int b => some (decide (a < b))
  | .str a, .str b => some (decide (a.cps.toList < b.cps.toList))
  | _, _ => none
def leV : V → V → Option Bool
  | .int a, .int b => some (decide (a ≤ b))
  | .str a, .str b => some (!decide (b.cps.toList < a.cps.toList))
  | _, _ => none
def lstOf : V → Option (List V)
  | .lst vs => some vs
  | .con vs => some vs
  | _ => none
/-- x in a list -/
def inV (x y : V) : Option Bool := match seqV y with
  | some ys => if SeqAt.shaped (pyV x) && SeqAt.shaped (pyV y) then some (ys.any fun z => PyData.eqv (pyV z) (pyV x)) else none
  | none => none
def isNonV : V → Bool
  | .non => true
  | _ => false
def isBlV (b : Bool) : V → Option Bool
  | .bl c => some (decide (c = b))
  | _ => none
def cmpV : COp → V → V → Option Bool
  | .eq, a, b => eqV a b
  | .ne, a, b => (eqV a b).map (!·)
  | .lt, a, b => ltV a b
  | .le, a, b => leV a b
  | .gt, a, b => ltV b a
  | .ge, a, b => leV b a
  | .inn, a, b => inV a b
  | .nin, a, b => (inV a b).map (!·)
  | .is, a, .non => some (isNonV a)
  | .isn, a, .non => some (!isNonV a)
  | .is, a, .bl b => isBlV b a
  | .isn, a, .bl b => (isBlV b a).map (!·)
  | _, _, _ => none
def tyV : V → List Ty
  | .non => []
  | .bl _ => [.bool, .int]
  | .int _ => [.int]
  | .str _ => [.str]
  | .tup _ => [.tuple]
  | .lst _ => [.list]
  | .con _ => [.list]
def ixV (a i : V) : Option V := match i with
  | .int i => match a with
    | .str s => if s.length ≤ SL then (L2.atI s.cps.toList i).map fun c => .str ⟨#[c]⟩ else none
    | a => (seqV a).bind fun vs => L2.atI vs i
  | _ => none
def slV (a : V) (lo hi : Option Int) (q : Q) : RV A := match a with
  | .tup vs => .ok (.v (.tup (cut vs lo hi))) q
  | .lst vs => .ok (.own (cut vs lo hi)) q
  | _ => .stuck
def boolsV : List V → Option (List Bool)
  | [] => some []
  | .bl b :: r => (boolsV r).map (b :: ·)
  | _ :: _ => none
def intsV : List V → Option (List Int)
  | [] => some []
  | .int i :: r => (intsV r).map (i :: ·)
  | _ :: _ => none
def bi1V : BI → V → Q → RV A
  | .len, a, q => match a with
    | .str s => if s.length ≤ SL then .ok (.v (.int s.length)) q else .stuck
    | a => match seqV a with
      | some vs => .ok (.v (.int vs.length)) q
      | none => .stuck
  | .int, a, q => match a with
    | .int i => .ok (.v (.int i)) q
    | .bl b => .ok (.v (.int (if b then 1 else 0))) q
    | _ => .stuck
  | .abs, a, q => match a with
    | .int i => .ok (.v (.int (if i < 0 then -i else i))) q
    | _ => .stuck
  | .all, a, q => match (lstOf a).bind boolsV with
    | some bs => .ok (.v (.bl (bs.all id))) q
    | none => .stuck
  | .any, a, q => match (lstOf a).bind boolsV with
    | some bs => .ok (.v (.bl (bs.any id))) q
    | none => .stuck
  | .tuple, a, q => match seqV a with
    | some vs => .ok (.v (.tup vs)) q
    | none => .stuck
  | .list, a, q => match seqV a with
    | some vs => .ok (.own vs) q
    | none => .stuck
  | .repr, a, q => if SeqAt.shaped (pyV a) && (pyV a).showable && decide ((pyV a).shown.length + 64 ≤ SL) then .ok (.v (.str (pyV a).shown)) q else .stuck
  | .max2, a, q => match (seqV a).bind intsV with
    | some (i :: is) => .ok (.v (.int (is.foldl max i))) q
    | _ => .stuck
  | .min2, a, q => match (seqV a).bind intsV with
    | some (i :: is) => .ok (.v (.int (is.foldl min i))) q
    | _ => .stuck
  | .sum, a, q => match (lstOf a).bind intsV with
    | some is => .ok (.v (.int is.sum)) q
    | none => .stuck
  | .sorted, a, q => match seqV a with
    | some vs => if srtOk (vs.map pyV) then .ok (.own (vs.mergeSort (PySem.W.dataLe false pyV))) q else .stuck
    | none => .stuck
  | _, _, _ => .stuck
def bi2V : BI → Int → Int → Q → RV A
  | .max2, i, j, q => .ok (.v (.int (if j > i then j else i))) q
  | .min2, i, j, q => .ok (.v (.int (if j < i then j else i))) q
  | .comb, a, b, q => if 0 ≤ a ∧ 0 ≤ b ∧ a < 2 ^ 64 ∧ (b ≤ 9000 ∨ a ≤ 18000) then .ok (.v (.int (PySem.W.mcComb a b))) q else .stuck
  | .gcd, a, b, q => .ok (.v (.int ((Nat.gcd a.natAbs b.natAbs : Nat) : Int))) q
  | .lcm, a, b, q => if a.natAbs < big9 ∧ b.natAbs < big9 then .ok (.v (.int ((Nat.lcm a.natAbs b.natAbs : Nat) : Int))) q else .stuck
  | _, _, _, _ => .stuck
def biV (b : BI) (vs : List V) (q : Q) : RV A := match vs with
  | [a] => bi1V b a q
  | [a, c] => match a, c with
    | .int i, .int j => bi2V b i j q
    | _, _ => .stuck
  | _ => .stuck
/-- a method of a list -/
def mtV : Mt → List V → List V → Option (V × List V)
  | .append, ds, xs => match xs with
    | [x] => if ds.length < SL then some (.non, ds ++ [x]) else none
    | _ => none
  | .pop, ds, xs => match xs with
    | [] => ds.getLast?.map fun x => (x, ds.dropLast)
    | _ => none
  | .popAt, ds, xs => match xs with
    | [.int i] => (L2.ixN ds.length i).bind fun j => ds[j]?.map fun x => (x, ds.eraseIdx j)
    | _ => none
  | .reverse, ds, xs => match xs with
    | [] => some (.non, ds.reverse)
    | _ => none
/-! ### coercions -/
/-- what is looked at -/
def A.peek : A → Option V
  | .v x => some x
  | .own vs => some (.lst vs)
  | .bor vs => some (.lst vs)
  | .dr => none
/-- what is handed on -/
def A.take : A → Option V
  | .v x => some x
  | .own vs => some (.lst vs)
  | _ => none
def pk (r : RV A) : RV V := r.bind fun a q => match a.peek with
  | some x => .ok x q
  | none => .stuck
/-- looked at at once: the draws too -/
def pkQ (r : RV A) : RV V := r.bind fun a q => match a with
  | .dr => (match q with
    | some vs => .ok (.lst vs) q
    | none => .stuck)
  | a => match a.peek with
    | some x => .ok x q
    | none => .stuck
def tk (r : RV A) : RV V := r.bind fun a q => match a.take with
  | some x => .ok x q
  | none => .stuck
def pt (l : Bool) (r : RV A) : RV V := if l then tk r else pk r
/-- an argument: a value, the draws; within a loan (l) what is looked at too -/
def ag (l : Bool) (r : RV A) : RV A := r.bind fun a q => match a with
  | .v x => .ok (.v x) q
  | .own vs => .ok (.v (.lst vs)) q
  | .bor vs => if l then .ok (.v (.lst vs)) q else .stuck
  | .dr => .ok .dr q
/-- the answer of a loan holds no list -/
def gr (l : Bool) (r : RV A) : RV A := if l then (match r with
  | .ok (.v x) q => if noL x then .ok (.v x) q else .stuck
  | .exc c x q => if noL x then .exc c x q else .stuck
  | _ => .stuck) else r
def tstV (r : RV A) : RV Bool := (pkQ r).bind fun x q => match truthV x with
  | some b => .ok b q
  | none => .stuck
def finV (t : Bool) (r : RV A) : RV A := if t then (tstV r).bind fun b q => .ok (.v (.bl b)) q else r
def asBV (r : RV A) : RV Bool := r.bind fun a q => match a with
  | .v (.bl b) => .ok b q
  | _ => .stuck
def ofOV (o : Option Bool) (q : Q) : RV A := match o with
  | some b => .ok (.v (.bl b)) q
  | none => .stuck
def ofBV (o : Option Bool) (q : Q) : RV Bool := match o with
  | some b => .ok b q
  | none => .stuck
def tupV (vs : List V) (q : Q) : RV A := if vs.length ≤ SL then .ok (.v (.tup vs)) q else .stuck
def lstV (vs : List V) (q : Q) : RV A := if vs.length ≤ SL then .ok (.own vs) q else .stuck
def negV (x : V) (q : Q) : RV A := match x with
  | .int i => .ok (.v (.int (-i))) q
  | _ => .stuck
def isinV (ts : List Ty) (x : V) (q : Q) : RV A := .ok (.v (.bl ((tyV x).any ts.contains))) q
def ixRV (x y : V) (q : Q) : RV A := match ixV x y with
  | some d => .ok (.v d) q
  | none => .stuck
def intOV (x : V) (q : Q) : RV (Option Int) := match x with
  | .int i => .ok (some i) q
  | _ => .stuck
def seqIV (x : V) (q : Q) : RV (List V) := match x with
  | .tup vs => .ok vs q
  | .lst vs => .ok vs q
  | .con vs => .ok vs q
  | .str s => if s.length ≤ SL then .ok (s.cps.toList.map fun c => .str ⟨#[c]⟩) q else .stuck
  | _ => .stuck
def enV (vs : List V) : List V := vs.zipIdx.map fun p => .tup [.int p.2, p.1]
def enumIV (x : V) (q : Q) : RV (List V) := match seqV x with
  | some vs => .ok (enV vs) q
  | none => .stuck
def rngV (lo hi : Int) : List V := (List.range (hi - lo).toNat).map fun (k : Nat) => .int (lo + (k : Int))
def lrgV (tp : Bool) (i j : Int) (q : Q) : RV A := if lrgOk i j then (if tp then .ok (.v (.tup (rngV i j))) q else .ok (.own (rngV i j)) q) else .stuck
def rng3V (i j c : Int) : List V := (List.range (rgN i j c)).map fun (k : Nat) => .int (i + (k : Int) * c)
def lrgV3 (tp : Bool) (xs : List V) (q : Q) : RV A := match xs with
  | [.int i, .int j, .int c] => if rg3Ok i j c then (if tp then .ok (.v (.tup (rng3V i j c))) q else .ok (.own (rng3V i j c)) q) else .stuck
  | _ => .stuck
def lrgV1 (tp : Bool) (x : V) (q : Q) : RV A := match x with
  | .int j => lrgV tp 0 j q
  | _ => .stuck
def lrgV2 (tp : Bool) (x y : V) (q : Q) : RV A := match x with
  | .int i => (match y with
    | .int j => lrgV tp i j q
    | _ => .stuck)
  | _ => .stuck
def rng1V (x : V) (q : Q) : RV (List V) := match x with
  | .int n => if okRng n then .ok (rngV 0 n) q else .stuck
  | _ => .stuck
def rng2V (x y : V) (q : Q) : RV (List V) := match x with
  | .int m => (match y with
    | .int n => if okRng m && okRng n then .ok (rngV m n) q else .stuck
    | _ => .stuck)
  | _ => .stuck
def bindV (t : Tgt) (a : A) (e : VEnv) : Option VEnv := match t with
  | .v i => (match a with
    | .bor _ => none
    | a => if i < e.length then some (e.set i (some a)) else none)
  | .tp is => (match a with
    | .v (.tup ds) => if is.length = ds.length then some ((is.zip ds).foldl (fun e p => e.set p.1 (some (.v p.2))) e) else none
    | _ => none)
def killV (ks : List Nat) (e : VEnv) : VEnv := ks.foldl (fun e i => e.set i none) e
/-! ### which names are handed on by an expression: their lists are not changed any more -/
mutual
def esc (g : Nat → Bool) : E → List Nat
  | .var i => [i]
  | .ife _ a b => esc g a ++ esc g b
  | .boo _ es => escs g es
  | .tup es => escs g es
  | .lst es => escs g es
  | .call f es => if g f then [] else escs g es
  | .meth _ _ es => escs g es
  | .comp _ _ it _ el => escI g it ++ esc g el
  | .bin _ a b => escp g a ++ escp g b
  | .cmp _ a b => escp g a ++ escp g b
  | .bi _ es => escps g es
  | .ix a b => escp g a ++ escp g b
  | .sl a _ _ => escp g a
  | _ => []
/-- looked at alone -/
def escp (g : Nat → Bool) : E → List Nat
  | .var _ => []
  | .ife _ a b => esc g a ++ esc g b
  | .boo _ es => escs g es
  | .tup es => escs g es
  | .lst es => escs g es
  | .call f es => if g f then [] else escs g es
  | .meth _ _ es => escs g es
  | .comp _ _ it _ el => escI g it ++ esc g el
  | .bin _ a b => escp g a ++ escp g b
  | .cmp _ a b => escp g a ++ escp g b
  | .bi _ es => escps g es
  | .ix a b => escp g a ++ escp g b
  | .sl a _ _ => escp g a
  | _ => []
def escs (g : Nat → Bool) : Es → List Nat
  | .nil => []
  | .cons a r => esc g a ++ escs g r
def escps (g : Nat → Bool) : Es → List Nat
  | .nil => []
  | .cons a r => escp g a ++ escps g r
def escI (g : Nat → Bool) : It → List Nat
  | .seq a => escp g a
  | .enum a => escp g a
  | _ => []
end
def escF (g : Nat → Bool) : It → List Nat
  | .seq a => esc g a
  | .enum a => esc g a
  | _ => []
def isOwn : Option A → Bool
  | some (.own _) => true
  | _ => false
def frz1 : Option A → Option A
  | some (.own vs) => some (.v (.lst vs))
  | o => o
def frzL (ks : List Nat) (e : VEnv) : VEnv := ks.foldl (fun e i => match e[i]? with
  | some o => e.set i (frz1 o)
  | none => e) e
def frzE (g : Nat → Bool) (a : E) (e : VEnv) : VEnv := if e.any isOwn then frzL (esc g a) e else e
def frzI (g : Nat → Bool) (a : It) (e : VEnv) : VEnv := if e.any isOwn then frzL (escF g a) e else e
/-! ### loops -/
noncomputable section
def loopV (t : Tgt) (step : VEnv → Q → FlV) : List V → VEnv → Q → FlV
  | [], e, q => .nx e q
  | d :: ds, e, q => match bindV t (.v d) e with
    | none => .stuck
    | some e1 => match step e1 q with
      | .nx e2 q2 => loopV t step ds e2 q2
      | .ct e2 q2 => loopV t step ds e2 q2
      | .bk e2 q2 => .nx e2 q2
      | r => r
def compV (t : Tgt) (e : VEnv) (step : VEnv → Q → RV (Option V)) : List V → List V → Q → RV (List V)
  | [], acc, q => .ok acc q
  | d :: ds, acc, q => match bindV t (.v d) e with
    | none => .stuck
    | some e1 => match step e1 q with
      | .ok none q2 => compV t e step ds acc q2
      | .ok (some x) q2 => if acc.length < SL then compV t e step ds (acc ++ [x]) q2 else .stuck
      | _ => .stuck
def whileV (cond : VEnv → Q → RV Bool) (step : VEnv → Q → FlV) : Nat → VEnv → Q → FlV
  | 0, _, _ => .stuck
  | f + 1, e, q => (cond e q).fl e fun b q1 => if b then (match step e q1 with
      | .nx e2 q2 => whileV cond step f e2 q2
      | .ct e2 q2 => whileV cond step f e2 q2
      | .bk e2 q2 => .nx e2 q2
      | r => r) else .nx e q1
/-! ### evaluation -/
structure VCx where
  C : Nat → List A → Q → RV A
  x : Option (Nat × V)
  sub : Nat → Nat → Bool
  g : Nat → Bool
/-- so much may be walked -/
def wlk (J : List V) (q : Q) : RV (List V) := if J.length < 1000000000000 then .ok J q else .stuck
mutual
def vev (K : VCx) : E → Bool → VEnv → Q → RV A
  | .var i, t, e, q => finV t (match e[i]? with
    | some (some (.v x)) => .ok (.v x) q
    | some (some (.own vs)) => .ok (.bor vs) q
    | some (some .dr) => .ok .dr q
    | _ => .stuck)
  | .int i, t, _, q => finV t (.ok (.v (.int i)) q)
  | .str s, t, _, q => finV t (.ok (.v (.str s)) q)
  | .bl b, t, _, q => finV t (.ok (.v (.bl b)) q)
  | .non, t, _, q => finV t (.ok (.v .non) q)
  | .bin op a b, t, e, q => finV t ((pk (vev K a false e q)).bind fun x q1 => (pk (vev K b false e q1)).bind fun y q2 => binV op x y q2)
  | .neg a, t, e, q => finV t ((pk (vev K a false e q)).bind negV)
  | .not a, t, e, q => (if t then asBV (vev K a true e q) else tstV (vev K a false e q)).bind fun b q1 => .ok (.v (.bl !b)) q1
  | .cmp op a b, t, e, q => finV t ((pk (vev K a false e q)).bind fun x q1 => (pk (vev K b false e q1)).bind fun y q2 => ofOV (cmpV op x y) q2)
  | .chain o1 o2 a b c, t, e, q => finV t ((pk (vev K a false e q)).bind fun x q1 => (pk (vev K b false e q1)).bind fun y q2 => (ofBV (cmpV o1 x y) q2).bind fun k q3 =>
      if k then (pk (vev K c false e q3)).bind fun z q4 => ofOV (cmpV o2 y z) q4 else .ok (.v (.bl false)) q3)
  | .boo k es, t, e, q => vevBs K k t es e q
  | .ife c a b, t, e, q => (asBV (vev K c true e q)).bind fun k q1 => if k then vev K a t e q1 else vev K b t e q1
  | .tup es, t, e, q => finV t ((vevTs K es e q).bind tupV)
  | .lst es, t, e, q => finV t ((vevTs K es e q).bind lstV)
  | .call f es, t, e, q => finV t (if K.x.isSome then .stuck else (vevAs K (K.g f) es e q).bind fun as q1 => gr (K.g f) (K.C f as q1))
  | .bi b es, t, e, q => finV t ((vevPs K es e q).bind fun ds q1 => biV b ds q1)
  | .isin a ts _, t, e, q => finV t ((pkQ (vev K a false e q)).bind (isinV ts))
  | .ix a i, t, e, q => finV t ((pk (vev K a false e q)).bind fun x q1 => (pk (vev K i false e q1)).bind fun y q2 => ixRV x y q2)
  | .sl a lo hi, t, e, q => finV t ((pk (vev K a false e q)).bind fun x q1 => (vevO K lo e q1).bind fun l q2 => (vevO K hi e q2).bind fun u q3 => slV x l u q3)
  | .meth m o es, t, e, q => finV t ((vev K o false e q).bind fun a q1 => match a with
    | .dr => (vevTs K es e q1).bind fun xs q2 => (match q2 with
      | some ds => (match mtV m ds xs with
        | some (d, ds2) => if noLs ds2 then .ok (.v d) (some ds2) else .stuck
        | none => .stuck)
      | none => .stuck)
    | _ => .stuck)
  | .comp own tg it c el, t, e, q => finV t ((vevIt K false it e q).bind fun J q1 =>
      (compV tg (killV (own.map (·.2)) e) (fun e1 q2 => (vevC K c e1 q2).bind fun b q3 => if b then (tk (vev K el false e1 q3)).bind fun d q4 => .ok (some d) q4 else .ok none q3) J [] q1).bind
      fun ds q2 => .ok (.own ds) q2)
  | .cst _ v, t, _, q => finV t (.ok (.v (.int v)) q)
  | .lrg1 tp a, t, e, q => finV t ((pk (vev K a false e q)).bind (lrgV1 tp))
  | .lrg2 tp a b, t, e, q => finV t ((pk (vev K a false e q)).bind fun x q1 => (pk (vev K b false e q1)).bind fun y q2 => lrgV2 tp x y q2)
  | .lrg3 tp es, t, e, q => finV t ((vevTs K es e q).bind (lrgV3 tp))
  | .xfld, t, _, q => finV t (match K.x with
    | some (_, d) => .ok (.v d) q
    | none => .stuck)
  | .xis cs _, t, _, q => finV t (match K.x with
    | some (c, _) => .ok (.v (.bl (cs.any (K.sub c)))) q
    | none => .stuck)
/-- values that are handed on -/
def vevTs (K : VCx) : Es → VEnv → Q → RV (List V)
  | .nil, _, q => .ok [] q
  | .cons a r, e, q => (tk (vev K a false e q)).bind fun x q1 => (vevTs K r e q1).bind fun xs q2 => .ok (x :: xs) q2
/-- values that are looked at -/
def vevPs (K : VCx) : Es → VEnv → Q → RV (List V)
  | .nil, _, q => .ok [] q
  | .cons a r, e, q => (match r with
    | .nil => pkQ (vev K a false e q)
    | .cons _ _ => pk (vev K a false e q)).bind fun x q1 => (vevPs K r e q1).bind fun xs q2 => .ok (x :: xs) q2
/-- arguments of a call -/
def vevAs (K : VCx) (l : Bool) : Es → VEnv → Q → RV (List A)
  | .nil, _, q => .ok [] q
  | .cons a r, e, q => (ag l (vev K a false e q)).bind fun x q1 => (vevAs K l r e q1).bind fun xs q2 => .ok (x :: xs) q2
def vevBs (K : VCx) (k t : Bool) : Es → VEnv → Q → RV A
  | .nil, _, _ => .stuck
  | .cons a r, e, q => match r with
    | .nil => vev K a t e q
    | .cons _ _ => (asBV (vev K a t e q)).bind fun b q1 => if b == k then vevBs K k t r e q1 else .ok (.v (.bl b)) q1
def vevO (K : VCx) : OE → VEnv → Q → RV (Option Int)
  | .none, _, q => .ok none q
  | .some a, e, q => (pk (vev K a false e q)).bind intOV
def vevC (K : VCx) : OE → VEnv → Q → RV Bool
  | .none, _, q => .ok true q
  | .some a, e, q => asBV (vev K a true e q)
/-- l: what is walked is handed on (a loop), else looked at (a comprehension) -/
def vevIt (K : VCx) (l : Bool) : It → VEnv → Q → RV (List V)
  | .seq a, e, q => ((pt l (vev K a false e q)).bind seqIV).bind wlk
  | .rng1 a, e, q => ((pk (vev K a false e q)).bind rng1V).bind wlk
  | .rng2 a b, e, q => ((pk (vev K a false e q)).bind fun x q1 => (pk (vev K b false e q1)).bind fun y q2 => rng2V x y q2).bind wlk
  | .enum a, e, q => ((pt l (vev K a false e q)).bind enumIV).bind wlk
end
def slOkV (sl : Option Nat) (e : VEnv) : Bool := match sl with
  | some i => decide (i < e.length)
  | none => true
def wipeV (sl : Option Nat) (e : VEnv) : VEnv := match sl with
  | some i => e.set i none
  | none => e
def FlV.sui (sl : Option Nat) : FlV → FlV
  | .nx e q => .nx (wipeV sl e) q
  | .bk e q => .bk (wipeV sl e) q
  | .ct e q => .ct (wipeV sl e) q
  | .rt d q => .rt d q
  | _ => .stuck
/-- a list that is known here alone is changed -/
def mtE (i : Nat) (m : Mt) (e : VEnv) (xs : List V) (q : Q) : RV (A × VEnv) := match e[i]? with
  | some (some (.own vs)) => (match mtV m vs xs with
    | some (d, vs2) => .ok (.v d, e.set i (some (.own vs2))) q
    | none => .stuck)
  | _ => .stuck
def ownAt (e : VEnv) (i : Nat) : Bool := match e[i]? with
  | some o => isOwn o
  | none => false
/-- an expression that is a statement's own -/
def vevM (K : VCx) (a : E) (e : VEnv) (q : Q) : RV (A × VEnv) := match a with
  | .meth m (.var i) es => if ownAt e i then (vevTs K es e q).bind (mtE i m e) else (vev K (.meth m (.var i) es) false e q).bind fun x q1 => .ok (x, e) q1
  | a => (vev K a false e q).bind fun x q1 => .ok (x, e) q1
/-- what is handed back -/
def rtV : A → Q → FlV
  | .v x, q => .rt (.v x) q
  | .own vs, q => .rt (.own vs) q
  | _, _ => .stuck
/-- a list that is known here alone is handed back as such -/
def retV (K : VCx) (a : E) (e : VEnv) (q : Q) : FlV := match a with
  | .var i => (match e[i]? with
    | some (some (.v x)) => .rt (.v x) q
    | some (some (.own vs)) => .rt (.own vs) q
    | _ => .stuck)
  | a => (vev K a false (frzE K.g a e) q).fl (frzE K.g a e) rtV
/-- the while loops' fuel: the same number, open to the kernel -/
@[irreducible] def fuelV : Nat := 1000000000000
theorem fuelV_eq : fuelV = fuel := by rw [fuel_eq]; unfold fuelV; rfl
/-- x[i] = d, x a list that is known here alone -/
def putE (x : Nat) (e : VEnv) (d iv : V) (q : Q) : FlV := match e[x]? with
  | some (some (.own vs)) => (match iv with
    | .int j => (match L2.ixN vs.length j with
      | some k => .nx (e.set x (some (.own (vs.set k d)))) q
      | none => .stuck)
    | _ => .stuck)
  | _ => .stuck
def putV (K : VCx) (x : Nat) (i a : E) (e : VEnv) (q : Q) : FlV := if ownAt e x then (tk (vev K a false e q)).fl e fun d q1 => (pk (vev K i false e q1)).fl e (putE x e d) else .stuck
def unlV : V → V
  | .lst vs => .tup vs
  | .con vs => .tup vs
  | v => v
mutual
def vevS (K : VCx) : S → VEnv → Q → FlV
  | .unl is a, e, q => (tk (vev K a false (frzE K.g a e) q)).fl (frzE K.g a e) fun d q1 => match bindV (.tp is) (.v (unlV d)) (frzE K.g a e) with
    | some e1 => .nx e1 q1
    | none => .stuck
  | .asg t a, e, q => (vevM K a (frzE K.g a e) q).fl (frzE K.g a e) fun r q1 => match bindV t r.1 r.2 with
    | some e1 => .nx e1 q1
    | none => .stuck
  | .put o i a, e, q => (match o with
    | .var x => putV K x i a (frzE K.g a e) q
    | _ => .stuck)
  | .expr a, e, q => (vevM K a (frzE K.g a e) q).fl (frzE K.g a e) fun r q1 => .nx r.2 q1
  | .ret a, e, q => retV K a e q
  | .retN, _, q => .rt (.v .non) q
  | .iff c a b, e, q => (asBV (vev K c true e q)).fl e fun k q1 => if k then vevB K a e q1 else vevB K b e q1
  | .forr t it body ks, e, q => (vevIt K true it (frzI K.g it e) q).fl (frzI K.g it e) fun J q1 => (loopV t (fun e1 q2 => vevB K body e1 q2) J (frzI K.g it e) q1).then fun e2 q2 => .nx (killV ks e2) q2
  | .whl c body ks, e, q => (whileV (fun e1 q1 => asBV (vev K c true e1 q1)) (fun e1 q1 => vevB K body e1 q1) fuelV e q).then fun e2 q2 => .nx (killV ks e2) q2
  | .brk, e, q => .bk e q
  | .cnt, e, q => .ct e q
  | .pass, e, q => .nx e q
  | .rais c a, e, q => (tk (vev K a false (frzE K.g a e) q)).fl (frzE K.g a e) fun d q1 => if K.x.isSome then .stuck else .ex c d (frzE K.g a e) q1
  | .tryy body hs, e, q => match vevB K body e q with
    | .ex c d e1 q1 => if K.x.isSome then .stuck else vevH K c d hs e1 q1
    | r => r
def vevB (K : VCx) : B → VEnv → Q → FlV
  | .nil, e, q => .nx e q
  | .cons s b, e, q => (vevS K s e q).then fun e1 q1 => vevB K b e1 q1
def vevH (K : VCx) (c : Nat) (d : V) : Hs → VEnv → Q → FlV
  | .nil, e, q => .ex c d e q
  | .cons c1 sl body r, e, q => if K.sub c c1 then (if slOkV sl e then (vevB { K with x := some (c, d) } body (wipeV sl e) q).sui sl else .stuck) else vevH K c d r e q
end
def FlV.out : FlV → RV A
  | .nx _ q => .ok (.v .non) q
  | .rt a q => .ok a q
  | .ex c d _ q => .exc c d q
  | _ => .stuck
def envV (f : Fn) (as : List A) : VEnv := as.map some ++ List.replicate (f.ns - f.np) none
def runV (K : VCx) (f : Fn) (as : List A) (q : Q) : RV A := if as.length = f.np then (vevB K f.body (envV f as) q).out else .stuck
/-- calls; g: the defs whose answers hold no lists -/
def callV (P : Prg) (g : Nat → Bool) : Nat → Nat → List A → Q → RV A
  | 0, _, _, _ => .stuck
  | n + 1, f, as, q => match P.fns[f]? with
    | some fd => runV ⟨callV P g n, none, P.sub, g⟩ fd as q
    | none => .stuck
end
end VI

set_option Elab.async false
set_option linter.all false
set_option maxRecDepth 100000
set_option maxHeartbeats 4000000
/-! What a value is in the own heap; what stays. -/
namespace VI
open PySem PI
abbrev Fz := Nat → Prop
mutual
/-- F: the places that no one changes any more -/
def Rep (h : HP) (F : Fz) : V → D → Prop
  | .non, d => d = .non
  | .bl b, d => d = .bl b
  | .int i, d => d = .int i
  | .str s, d => d = .str s
  | .tup vs, d => ∃ ds, d = .tup ds ∧ Reps h F vs ds
  | .lst vs, d => ∃ k ds, d = .ref k ∧ F k ∧ h[k]? = some (.lst ds) ∧ Reps h F vs ds
  | .con vs, d => ∃ k ds, d = .ref k ∧ F k ∧ h[k]? = some (.con ds) ∧ Reps h F vs ds
def Reps (h : HP) (F : Fz) : List V → List D → Prop
  | [], ds => ds = []
  | v :: vs, ds => ∃ d r, ds = d :: r ∧ Rep h F v d ∧ Reps h F vs r
end
mutual
theorem Rep.mono {h h' : HP} {F F' : Fz} (m : ∀ k, F k → F' k ∧ h'[k]? = h[k]?) : ∀ {x : V} {d : D}, Rep h F x d → Rep h' F' x d
  | .non, _, r => r
  | .bl _, _, r => r
  | .int _, _, r => r
  | .str _, _, r => r
  | .tup vs, d, r => by
    obtain ⟨ds, rfl, r⟩ := r
    exact ⟨ds, rfl, Reps.mono m r⟩
  | .lst vs, d, r => by
    obtain ⟨k, ds, rfl, f, e, r⟩ := r
    exact ⟨k, ds, rfl, (m k f).1, by rw [(m k f).2]; exact e, Reps.mono m r⟩
  | .con vs, d, r => by
    obtain ⟨k, ds, rfl, f, e, r⟩ := r
    exact ⟨k, ds, rfl, (m k f).1, by rw [(m k f).2]; exact e, Reps.mono m r⟩
theorem Reps.mono {h h' : HP} {F F' : Fz} (m : ∀ k, F k → F' k ∧ h'[k]? = h[k]?) : ∀ {xs : List V} {ds : List D}, Reps h F xs ds → Reps h' F' xs ds
  | [], _, r => r
  | v :: vs, _, r => by
    obtain ⟨d, r', rfl, r1, r2⟩ := r
    exact ⟨d, r', rfl, Rep.mono m r1, Reps.mono m r2⟩
end
theorem Reps.nil {h : HP} {F : Fz} : Reps h F [] [] := rfl
theorem Reps.cons {h : HP} {F : Fz} {x : V} {xs : List V} {d : D} {ds : List D} (a : Rep h F x d) (b : Reps h F xs ds) : Reps h F (x :: xs) (d :: ds) := ⟨d, ds, rfl, a, b⟩
theorem Reps.length {h : HP} {F : Fz} : ∀ {xs : List V} {ds : List D}, Reps h F xs ds → ds.length = xs.length
  | [], _, r => by cases r; rfl
  | v :: vs, _, r => by
    obtain ⟨d, r', rfl, _, r2⟩ := r
    simp [r2.length]
theorem Reps.append {h : HP} {F : Fz} : ∀ {xs ys : List V} {ds es : List D}, Reps h F xs ds → Reps h F ys es → Reps h F (xs ++ ys) (ds ++ es)
  | [], _, _, _, r, s => by cases r; exact s
  | v :: vs, _, _, _, r, s => by
    obtain ⟨d, r', rfl, r1, r2⟩ := r
    exact ⟨d, _, rfl, r1, r2.append s⟩
theorem Reps.get {h : HP} {F : Fz} : ∀ {xs : List V} {ds : List D} {i : Nat} {x : V}, Reps h F xs ds → xs[i]? = some x → ∃ d, ds[i]? = some d ∧ Rep h F x d
  | [], _, _, _, _, e => by simp at e
  | v :: vs, _, 0, x, r, e => by
    obtain ⟨d, r', rfl, r1, r2⟩ := r
    simp at e; subst e
    exact ⟨d, rfl, r1⟩
  | v :: vs, _, i + 1, x, r, e => by
    obtain ⟨d, r', rfl, r1, r2⟩ := r
    simp at e
    obtain ⟨d, e1, e2⟩ := r2.get e
    exact ⟨d, by simpa using e1, e2⟩
theorem Reps.none {h : HP} {F : Fz} {xs : List V} {ds : List D} {i : Nat} (r : Reps h F xs ds) (e : xs[i]? = none) : ds[i]? = none := by
  rw [List.getElem?_eq_none_iff] at e ⊢
  rw [r.length]; exact e
theorem Reps.of_get {h : HP} {F : Fz} : ∀ {xs : List V} {ds : List D}, ds.length = xs.length → (∀ (i : Nat) x d, xs[i]? = some x → ds[i]? = some d → Rep h F x d) → Reps h F xs ds
  | [], [], _, _ => rfl
  | [], _ :: _, l, _ => by cases l
  | _ :: _, [], l, _ => by cases l
  | x :: xs, d :: ds, l, e => ⟨d, ds, rfl, e 0 x d rfl rfl, Reps.of_get (by simpa using l) fun i y z a b => e (i + 1) y z (by simpa using a) (by simpa using b)⟩
theorem Reps.at {h : HP} {F : Fz} {xs : List V} {ds : List D} (r : Reps h F xs ds) {i : Nat} {x : V} {d : D} (e : xs[i]? = some x) (e2 : ds[i]? = some d) : Rep h F x d := by
  obtain ⟨d', a, b⟩ := r.get e
  rw [e2] at a; cases a
  exact b
theorem Reps.drop {h : HP} {F : Fz} {xs : List V} {ds : List D} (r : Reps h F xs ds) (n : Nat) : Reps h F (xs.drop n) (ds.drop n) :=
  .of_get (by simp [r.length]) fun i x d a b => r.at (by rw [List.getElem?_drop] at a; exact a) (by rw [List.getElem?_drop] at b; exact b)
theorem Reps.take {h : HP} {F : Fz} {xs : List V} {ds : List D} (r : Reps h F xs ds) (n : Nat) : Reps h F (xs.take n) (ds.take n) :=
  .of_get (by simp [r.length]) fun i x d a b => by
    rw [List.getElem?_take] at a b
    split at a
    · rename_i hi
      rw [if_pos hi] at b
      exact r.at a b
    · cases a
theorem Reps.rev {h : HP} {F : Fz} : ∀ {xs : List V} {ds : List D}, Reps h F xs ds → Reps h F xs.reverse ds.reverse
  | [], _, r => by cases r; rfl
  | v :: vs, _, r => by
    obtain ⟨d, r', rfl, r1, r2⟩ := r
    rw [List.reverse_cons, List.reverse_cons]
    exact r2.rev.append ⟨d, [], rfl, r1, rfl⟩
theorem Reps.erase {h : HP} {F : Fz} : ∀ {xs : List V} {ds : List D} (i : Nat), Reps h F xs ds → Reps h F (xs.eraseIdx i) (ds.eraseIdx i)
  | [], _, i, r => by cases r; simp; rfl
  | v :: vs, _, 0, r => by
    obtain ⟨d, r', rfl, r1, r2⟩ := r
    exact r2
  | v :: vs, _, i + 1, r => by
    obtain ⟨d, r', rfl, r1, r2⟩ := r
    exact ⟨d, _, rfl, r1, r2.erase i⟩
theorem Reps.set {h : HP} {F : Fz} {x : V} {d : D} (rx : Rep h F x d) : ∀ {xs : List V} {ds : List D} (i : Nat), Reps h F xs ds → Reps h F (xs.set i x) (ds.set i d)
  | [], _, i, r => by cases r; simp; rfl
  | v :: vs, _, 0, r => by
    obtain ⟨d, r', rfl, r1, r2⟩ := r
    exact ⟨_, _, rfl, rx, r2⟩
  | v :: vs, _, i + 1, r => by
    obtain ⟨d, r', rfl, r1, r2⟩ := r
    exact ⟨d, _, rfl, r1, r2.set rx i⟩
theorem Reps.insert {h : HP} {F : Fz} {xs : List V} {ds : List D} (r : Reps h F xs ds) {x : V} {d : D} (rx : Rep h F x d) (i : Nat) : Reps h F (xs.take i ++ x :: xs.drop i) (ds.take i ++ d :: ds.drop i) :=
  (r.take i).append (.cons rx (r.drop i))
theorem Reps.cut {h : HP} {F : Fz} {xs : List V} {ds : List D} (r : Reps h F xs ds) (lo hi : Option Int) : Reps h F (cut xs lo hi) (cut ds lo hi) := by
  unfold PI.cut
  rw [r.length]
  exact (r.drop _).take _
theorem Reps.flat {h : HP} {F : Fz} {xs : List V} {ds : List D} (r : Reps h F xs ds) : ∀ n : Nat, Reps h F (List.replicate n xs).flatten (List.replicate n ds).flatten
  | 0 => rfl
  | n + 1 => by
    rw [List.replicate_succ, List.replicate_succ, List.flatten_cons, List.flatten_cons]
    exact r.append (Reps.flat r n)
theorem Reps.getLast {h : HP} {F : Fz} {xs : List V} {ds : List D} (r : Reps h F xs ds) {x : V} (e : xs.getLast? = some x) : ∃ d, ds.getLast? = some d ∧ Rep h F x d := by
  rw [List.getLast?_eq_getElem?] at e
  obtain ⟨d, a, b⟩ := r.get e
  refine ⟨d, ?_, b⟩
  rw [List.getLast?_eq_getElem?, r.length]
  exact a
theorem Reps.dropLast {h : HP} {F : Fz} {xs : List V} {ds : List D} (r : Reps h F xs ds) : Reps h F xs.dropLast ds.dropLast := by
  rw [List.dropLast_eq_take, List.dropLast_eq_take, r.length]
  exact r.take _
mutual
/-- what holds no list stands anywhere -/
theorem Rep.ground {h h' : HP} {F F' : Fz} : ∀ {x : V} {d : D}, noL x = true → Rep h F x d → Rep h' F' x d
  | .non, _, _, r => r
  | .bl _, _, _, r => r
  | .int _, _, _, r => r
  | .str _, _, _, r => r
  | .tup vs, d, n, r => by
    obtain ⟨ds, rfl, r⟩ := r
    exact ⟨ds, rfl, Reps.ground n r⟩
  | .lst vs, d, n, r => by cases n
  | .con vs, d, n, r => by cases n
theorem Reps.ground {h h' : HP} {F F' : Fz} : ∀ {xs : List V} {ds : List D}, noLs xs = true → Reps h F xs ds → Reps h' F' xs ds
  | [], _, _, r => r
  | v :: vs, _, n, r => by
    obtain ⟨d, r', rfl, r1, r2⟩ := r
    obtain ⟨n1, n2⟩ := Bool.and_eq_true_iff.mp (show (noL v && noLs vs) = true from n)
    exact ⟨d, r', rfl, Rep.ground n1 r1, Reps.ground n2 r2⟩
end
/-! ### its data -/
mutual
theorem toPy_rep {h : HP} {F : Fz} : ∀ {x : V} {d : D} {f : Nat}, Rep h F x d → (pyV x).depth < f → toPy f h d = some (pyV x)
  | _, _, 0, _, l => absurd l (Nat.not_lt_zero _)
  | .non, _, f + 1, r, l => by cases r; rfl
  | .bl _, _, f + 1, r, l => by cases r; rfl
  | .int _, _, f + 1, r, l => by cases r; rfl
  | .str _, _, f + 1, r, l => by cases r; rfl
  | .tup vs, d, f + 1, r, l => by
    obtain ⟨ds, rfl, r⟩ := r
    show (ds.mapM (toPy f h)).map PyData.tuple = _
    rw [toPys_rep r (by have : PyData.depthAll (pyVs vs) + 1 < f + 1 := l
                        omega)]; rfl
  | .lst vs, d, f + 1, r, l => by
    obtain ⟨k, ds, rfl, _, e, r⟩ := r
    show (match h[k]? with | some (.lst ds) => _ | some (.con ds) => _ | none => _) = _
    rw [e]
    show (ds.mapM (toPy f h)).map PyData.list = _
    rw [toPys_rep r (by have : PyData.depthAll (pyVs vs) + 1 < f + 1 := l
                        omega)]; rfl
  | .con vs, d, f + 1, r, l => by
    obtain ⟨k, ds, rfl, _, e, r⟩ := r
    show (match h[k]? with | some (.lst ds) => _ | some (.con ds) => _ | none => _) = _
    rw [e]
    show (ds.mapM (toPy f h)).map PyData.list = _
    rw [toPys_rep r (by have : PyData.depthAll (pyVs vs) + 1 < f + 1 := l
                        omega)]; rfl
theorem toPys_rep {h : HP} {F : Fz} : ∀ {xs : List V} {ds : List D} {f : Nat}, Reps h F xs ds → PyData.depthAll (pyVs xs) < f → ds.mapM (toPy f h) = some (pyVs xs)
  | [], _, f, r, l => by cases r; rfl
  | v :: vs, _, f, r, l => by
    obtain ⟨d, r', rfl, r1, r2⟩ := r
    have l : max (PyData.depth (pyV v)) (PyData.depthAll (pyVs vs)) < f := l
    rw [List.mapM_cons, toPy_rep r1 (by omega), toPys_rep r2 (by omega)]; rfl
end
/-! ### what stays -/
/-- from (h, F) to (h', F'): below b nothing changes but the draws (r) -/
structure Ex (r : Option Nat) (b : Nat) (h : HP) (F : Fz) (h' : HP) (F' : Fz) : Prop where
  le : h.length ≤ h'.length
  keep : ∀ k, k < b → some k ≠ r → h'[k]? = h[k]?
  fz : ∀ k, k < b → (F' k ↔ F k)
  mono : ∀ k, F k → F' k ∧ h'[k]? = h[k]?
theorem Ex.refl {r : Option Nat} {b : Nat} {h : HP} {F : Fz} : Ex r b h F h F := ⟨Nat.le_refl _, fun _ _ _ => rfl, fun _ _ => Iff.rfl, fun _ f => ⟨f, rfl⟩⟩
theorem Ex.trans {r : Option Nat} {b : Nat} {h h1 h2 : HP} {F F1 F2 : Fz} (x : Ex r b h F h1 F1) (y : Ex r b h1 F1 h2 F2) : Ex r b h F h2 F2 :=
  ⟨Nat.le_trans x.le y.le, fun k l n => (y.keep k l n).trans (x.keep k l n), fun k l => (y.fz k l).trans (x.fz k l), fun k f => ⟨(y.mono k (x.mono k f).1).1, (y.mono k (x.mono k f).1).2.trans (x.mono k f).2⟩⟩
theorem Ex.weak {r : Option Nat} {b b' : Nat} {h h1 : HP} {F F1 : Fz} (x : Ex r b h F h1 F1) (l : b' ≤ b) : Ex r b' h F h1 F1 :=
  ⟨x.le, fun k z n => x.keep k (by omega) n, fun k z => x.fz k (by omega), x.mono⟩
/-- expressions: nothing that stood changes -/
theorem Ex.tr {r : Option Nat} {h h1 h2 : HP} {F F1 F2 : Fz} (x : Ex r h.length h F h1 F1) (y : Ex r h1.length h1 F1 h2 F2) : Ex r h.length h F h2 F2 := x.trans (y.weak x.le)
theorem Ex.rep {r : Option Nat} {b : Nat} {h h1 : HP} {F F1 : Fz} (x : Ex r b h F h1 F1) {v : V} {d : D} (p : Rep h F v d) : Rep h1 F1 v d := p.mono x.mono
theorem Ex.reps {r : Option Nat} {b : Nat} {h h1 : HP} {F F1 : Fz} (x : Ex r b h F h1 F1) {v : List V} {d : List D} (p : Reps h F v d) : Reps h1 F1 v d := p.mono x.mono
/-- the draws -/
def Dq (r : Option Nat) (h : HP) (F : Fz) (q : Q) : Prop := ∀ k, r = some k → ∃ vs ds, q = some vs ∧ h[k]? = some (.lst ds) ∧ Reps h F vs ds ∧ ¬ F k ∧ noLs vs = true
theorem get_lt {h : HP} {k : Nat} {o : HObj} (e : h[k]? = some o) : k < h.length := (List.getElem?_eq_some_iff.mp e).1
/-- a new object -/
theorem Ex.new {r : Option Nat} {b : Nat} {h : HP} {F : Fz} (o : HObj) (l : b ≤ h.length) (hF : ∀ k, F k → k < h.length) : Ex r b h F (h ++ [o]) F :=
  ⟨by simp, fun k z _ => by rw [List.getElem?_append_left (by omega)], fun _ _ => Iff.rfl, fun k f => ⟨f, by rw [List.getElem?_append_left (hF k f)]⟩⟩
/-- what an expression gives, begun with n objects -/
def RA (r : Option Nat) (n : Nat) (h : HP) (F : Fz) : A → D → Prop
  | .v x, d => Rep h F x d
  | .own vs, d => ∃ k ds, d = .ref k ∧ n ≤ k ∧ some k ≠ r ∧ ¬ F k ∧ h[k]? = some (.lst ds) ∧ Reps h F vs ds
  | .bor vs, d => ∃ k ds, d = .ref k ∧ some k ≠ r ∧ ¬ F k ∧ h[k]? = some (.lst ds) ∧ Reps h F vs ds
  | .dr, d => ∃ k, d = .ref k ∧ r = some k
theorem RA.weak {r : Option Nat} {n m : Nat} {h : HP} {F : Fz} {a : A} {d : D} (x : RA r n h F a d) (l : m ≤ n) : RA r m h F a d := by
  cases a with
  | v _ => exact x
  | own vs =>
    obtain ⟨k, ds, e, l2, z⟩ := x
    exact ⟨k, ds, e, by omega, z⟩
  | bor vs => exact x
  | dr => exact x
/-- what is looked at -/
def Pk (r : Option Nat) (h : HP) (F : Fz) (x : V) (d : D) : Prop := Rep h F x d ∨ ∃ k ds vs, x = .lst vs ∧ d = .ref k ∧ some k ≠ r ∧ h[k]? = some (.lst ds) ∧ Reps h F vs ds
theorem Pk.ex {r : Option Nat} {h h' : HP} {F F' : Fz} {x : V} {d : D} (p : Pk r h F x d) (e : Ex r h.length h F h' F') : Pk r h' F' x d := by
  rcases p with p | ⟨k, ds, vs, rfl, rfl, n, g, p⟩
  · exact .inl (e.rep p)
  · exact .inr ⟨k, ds, vs, rfl, rfl, n, by rw [e.keep k (get_lt g) n]; exact g, e.reps p⟩
theorem RA.pk {r : Option Nat} {n : Nat} {h : HP} {F : Fz} {a : A} {d : D} {x : V} (p : RA r n h F a d) (e : a.peek = some x) : Pk r h F x d := by
  cases a with
  | v y => cases e; exact .inl p
  | own vs =>
    obtain ⟨k, ds, rfl, l, nr, nf, g, rs⟩ := p
    cases e
    exact .inr ⟨k, ds, vs, rfl, rfl, nr, g, rs⟩
  | bor vs =>
    obtain ⟨k, ds, rfl, nr, nf, g, rs⟩ := p
    cases e
    exact .inr ⟨k, ds, vs, rfl, rfl, nr, g, rs⟩
  | dr => cases e
/-- looked at at once -/
def Pq (h : HP) (F : Fz) (x : V) (d : D) : Prop := Rep h F x d ∨ ∃ k ds vs, x = .lst vs ∧ d = .ref k ∧ h[k]? = some (.lst ds) ∧ Reps h F vs ds
theorem Pk.q {r : Option Nat} {h : HP} {F : Fz} {x : V} {d : D} (p : Pk r h F x d) : Pq h F x d := by
  rcases p with p | ⟨k, ds, vs, a, b, _, c⟩
  · exact .inl p
  · exact .inr ⟨k, ds, vs, a, b, c⟩
theorem Pq.py {h : HP} {F : Fz} {x : V} {d : D} {f : Nat} (p : Pq h F x d) (l : (pyV x).depth < f) : toPy f h d = some (pyV x) := by
  rcases p with p | ⟨k, ds, vs, rfl, rfl, g, rs⟩
  · exact toPy_rep p l
  · cases f with
    | zero => omega
    | succ f =>
      show (match h[k]? with | some (.lst ds) => _ | some (.con ds) => _ | none => _) = _
      rw [g]
      show (ds.mapM (toPy f h)).map PyData.list = _
      rw [toPys_rep rs (by have : PyData.depthAll (pyVs vs) + 1 < f + 1 := l
                           omega)]; rfl
/-- what a sequence holds -/
theorem Pq.seq {h : HP} {F : Fz} {x : V} {d : D} {vs : List V} (p : Pq h F x d) (e : seqV x = some vs) : ∃ ds, seqOf h d = some ds ∧ Reps h F vs ds := by
  rcases p with p | ⟨k, ds, us, rfl, rfl, g, rs⟩
  · cases x with
    | tup us =>
      cases e
      obtain ⟨ds, rfl, rs⟩ := p
      exact ⟨ds, rfl, rs⟩
    | lst us =>
      cases e
      obtain ⟨k, ds, rfl, _, g, rs⟩ := p
      exact ⟨ds, by simp [seqOf, g], rs⟩
    | con us =>
      cases e
      obtain ⟨k, ds, rfl, _, g, rs⟩ := p
      exact ⟨ds, by simp [seqOf, g], rs⟩
    | _ => cases e
  · cases e
    exact ⟨ds, by simp [seqOf, g], rs⟩
/-! ### results -/
/-- an expression's reading begun at (h, F) -/
def SR {α β : Type} (r : Option Nat) (h : HP) (F : Fz) (R : HP → Fz → α → β → Prop) : RV α → Res β → Prop
  | .ok a q, s => ∃ d h' F', s = .ok d h' ∧ Ex r h.length h F h' F' ∧ (∀ k, F' k → k < h'.length) ∧ Dq r h' F' q ∧ R h' F' a d
  | .exc c x q, s => ∃ d h' F', s = .exc c d h' ∧ Ex r h.length h F h' F' ∧ (∀ k, F' k → k < h'.length) ∧ Dq r h' F' q ∧ Rep h' F' x d
  | .stuck, _ => True
theorem SR.bind {α β γ δ : Type} {r : Option Nat} {h : HP} {F : Fz} {R : HP → Fz → α → β → Prop} {R2 : HP → Fz → γ → δ → Prop} {x : RV α} {y : Res β} {f : α → Q → RV γ} {g : β → HP → Res δ} (a : SR r h F R x y)
    (b : ∀ u d h' F' q, Ex r h.length h F h' F' → (∀ k, F' k → k < h'.length) → Dq r h' F' q → R h' F' u d → SR r h' F' R2 (f u q) (g d h')) : SR r h F R2 (x.bind f) (y.bind g) := by
  cases x with
  | ok u q =>
    obtain ⟨d, h', F', rfl, e, bd, dq, p⟩ := a
    have z := b u d h' F' q e bd dq p
    show SR r h F R2 (f u q) (g d h')
    cases w : f u q with
    | ok v q2 =>
      rw [w] at z
      obtain ⟨d2, h2, F2, e2, x2, bd2, dq2, p2⟩ := z
      exact ⟨d2, h2, F2, e2, e.tr x2, bd2, dq2, p2⟩
    | exc c v q2 =>
      rw [w] at z
      obtain ⟨d2, h2, F2, e2, x2, bd2, dq2, p2⟩ := z
      exact ⟨d2, h2, F2, e2, e.tr x2, bd2, dq2, p2⟩
    | stuck => exact trivial
  | exc c v q =>
    obtain ⟨d, h', F', rfl, z⟩ := a
    exact ⟨d, h', F', rfl, z⟩
  | stuck => exact trivial
theorem SR.imp {α β : Type} {r : Option Nat} {h : HP} {F : Fz} {R R2 : HP → Fz → α → β → Prop} {x : RV α} {y : Res β} (a : SR r h F R x y)
    (b : ∀ u d h' F', Ex r h.length h F h' F' → R h' F' u d → R2 h' F' u d) : SR r h F R2 x y := by
  cases x with
  | ok u q =>
    obtain ⟨d, h', F', e, x, bd, dq, p⟩ := a
    exact ⟨d, h', F', e, x, bd, dq, b u d h' F' x p⟩
  | exc c v q => exact a
  | stuck => exact trivial
/-- an answer that changes nothing -/
theorem SR.pure {α β : Type} {r : Option Nat} {h : HP} {F : Fz} {R : HP → Fz → α → β → Prop} {a : α} {d : β} {q : Q} (bd : ∀ k, F k → k < h.length) (dq : Dq r h F q) (p : R h F a d) : SR r h F R (.ok a q) (.ok d h) :=
  ⟨d, h, F, rfl, Ex.refl, bd, dq, p⟩
theorem Dq.new {r : Option Nat} {h : HP} {F : Fz} {q : Q} (o : HObj) (dq : Dq r h F q) (hF : ∀ k, F k → k < h.length) : Dq r (h ++ [o]) F q := fun k e => by
  obtain ⟨vs, ds, e1, e2, e3, e4⟩ := dq k e
  refine ⟨vs, ds, e1, ?_, e3.mono (Ex.new (r := none) (b := h.length) o (Nat.le_refl _) hF).mono, e4⟩
  rw [List.getElem?_append_left (get_lt e2)]
  exact e2
theorem Dq.lt {r : Option Nat} {h : HP} {F : Fz} {q : Q} (dq : Dq r h F q) {k : Nat} (e : r = some k) : k < h.length := by
  obtain ⟨vs, ds, _, g, _⟩ := dq k e
  exact get_lt g
/-- a new list -/
theorem SR.newL {r : Option Nat} {h : HP} {F : Fz} {q : Q} {vs : List V} {ds : List D} {n : Nat} (bd : ∀ k, F k → k < h.length) (dq : Dq r h F q) (l : n ≤ h.length) (p : Reps h F vs ds) :
    SR r h F (RA r n) (.ok (.own vs) q) (.ok (.ref h.length) (h ++ [.lst ds])) := by
  refine ⟨_, _, F, rfl, Ex.new _ (Nat.le_refl _) bd, fun k f => ?_, dq.new _ bd, h.length, ds, rfl, l, ?_, fun f => ?_, by simp, p.mono (Ex.new (r := none) (b := h.length) (.lst ds) (Nat.le_refl _) bd).mono⟩
  · have := bd k f
    simp; omega
  · intro e
    have := dq.lt e.symm
    omega
  · have := bd _ f
    omega
/-- a list known here alone is handed on: its place is frozen -/
theorem frz_place {r : Option Nat} {h : HP} {F : Fz} {q : Q} {k b : Nat} {vs : List V} {ds : List D} (l : b ≤ k) (nr : some k ≠ r) (g : h[k]? = some (.lst ds)) (p : Reps h F vs ds) (bd : ∀ k, F k → k < h.length) (dq : Dq r h F q) :
    ∃ F', Ex r b h F h F' ∧ (∀ j, F' j → j < h.length) ∧ Dq r h F' q ∧ Rep h F' (.lst vs) (.ref k) ∧ (∀ j, F' j ↔ F j ∨ j = k) := by
  have m : ∀ j, F j → (fun j => F j ∨ j = k) j ∧ h[j]? = h[j]? := fun j f => ⟨.inl f, rfl⟩
  refine ⟨fun j => F j ∨ j = k, ⟨Nat.le_refl _, fun _ _ _ => rfl, fun j z => ⟨fun f => f.elim id fun e => by omega, .inl⟩, m⟩, ?_, ?_, ⟨k, ds, rfl, .inr rfl, g, p.mono m⟩, fun j => Iff.rfl⟩
  · rintro j (f | rfl)
    · exact bd j f
    · exact get_lt g
  · intro j e
    obtain ⟨us, es, e1, e2, e3, e4, e5⟩ := dq j e
    refine ⟨us, es, e1, e2, e3.mono m, ?_, e5⟩
    rintro (f | rfl)
    · exact e4 f
    · exact nr e.symm
end VI

set_option Elab.async false
set_option linter.all false
set_option maxRecDepth 100000
set_option maxHeartbeats 4000000
/-! Operators, over values and over the heap. -/
namespace VI
open PySem PI
theorem depth_of {x : PyData} (h : SeqAt.shaped x = true) : x.depth < 66 := by
  have := of_decide_eq_true (Bool.and_eq_true_iff.mp h).2
  omega
theorem repStr_len (s : Str) (k : Int) : True := trivial
theorem Pk.int {r : Option Nat} {h : HP} {F : Fz} {i : Int} {d : D} (p : Pk r h F (.int i) d) : d = .int i := by
  rcases p with p | ⟨_, _, _, e, _⟩
  · exact p
  · cases e
theorem Pk.str {r : Option Nat} {h : HP} {F : Fz} {i : Str} {d : D} (p : Pk r h F (.str i) d) : d = .str i := by
  rcases p with p | ⟨_, _, _, e, _⟩
  · exact p
  · cases e
theorem Pk.bl {r : Option Nat} {h : HP} {F : Fz} {i : Bool} {d : D} (p : Pk r h F (.bl i) d) : d = .bl i := by
  rcases p with p | ⟨_, _, _, e, _⟩
  · exact p
  · cases e
theorem Pk.non {r : Option Nat} {h : HP} {F : Fz} {d : D} (p : Pk r h F .non d) : d = .non := by
  rcases p with p | ⟨_, _, _, e, _⟩
  · exact p
  · cases e
theorem Pk.tup {r : Option Nat} {h : HP} {F : Fz} {vs : List V} {d : D} (p : Pk r h F (.tup vs) d) : ∃ ds, d = .tup ds ∧ Reps h F vs ds := by
  rcases p with p | ⟨_, _, _, e, _⟩
  · exact p
  · cases e
theorem Pk.lst {r : Option Nat} {h : HP} {F : Fz} {vs : List V} {d : D} (p : Pk r h F (.lst vs) d) : ∃ k ds, d = .ref k ∧ h[k]? = some (.lst ds) ∧ Reps h F vs ds := by
  rcases p with ⟨k, ds, a, _, b, c⟩ | ⟨k, ds, us, e, a, _, b, c⟩
  · exact ⟨k, ds, a, b, c⟩
  · cases e
    exact ⟨k, ds, a, b, c⟩
theorem op_binV {r : Option Nat} {h : HP} {F : Fz} {q : Q} {n : Nat} {x y : V} {a b : D} (op : BOp) (bd : ∀ k, F k → k < h.length) (dq : Dq r h F q) (l : n ≤ h.length) (px : Pk r h F x a) (py : Pk r h F y b) :
    SR r h F (RA r n) (binV op x y q) (binD op a b h) := by
  unfold binV
  split
  · cases px.int; cases py.int
    exact .pure bd dq rfl
  · cases px.str; cases py.str
    split
    · rename_i z
      rw [show binD .add (.str _) (.str _) h = _ from if_pos z]
      exact .pure bd dq rfl
    · exact trivial
  · obtain ⟨as, rfl, ra⟩ := px.tup
    obtain ⟨bs, rfl, rb⟩ := py.tup
    split
    · rename_i z
      rw [show binD .add (.tup _) (.tup _) h = _ from if_pos (by rw [ra.length, rb.length]; exact z)]
      exact .pure bd dq ⟨_, rfl, ra.append rb⟩
    · exact trivial
  · obtain ⟨k, as, rfl, ga, ra⟩ := px.lst
    obtain ⟨j, bs, rfl, gb, rb⟩ := py.lst
    split
    · rename_i z
      have e : binD .add (.ref k) (.ref j) h = .ok (.ref h.length) (h ++ [.lst (as ++ bs)]) := by
        show (match h[k]?, h[j]? with | some (.lst a), some (.lst b) => _ | _, _ => _) = _
        rw [ga, gb]
        exact if_pos (by rw [ra.length, rb.length]; exact z)
      rw [e]
      exact .newL bd dq l (ra.append rb)
    · exact trivial
  · cases px.int; cases py.int
    exact .pure bd dq rfl
  · cases px.int; cases py.int
    split
    · rename_i z
      rw [show binD .mul (.int _) (.int _) h = _ from if_pos z]
      exact .pure bd dq rfl
    · exact trivial
  · obtain ⟨as, rfl, ra⟩ := px.tup
    cases py.int
    split
    · rename_i z
      rw [show binD .mul (.tup _) (.int _) h = _ from if_pos (by rw [ra.length]; exact z)]
      exact .pure bd dq ⟨_, rfl, ra.flat _⟩
    · exact trivial
  · cases px.str; cases py.int
    split
    · rename_i z
      rw [show binD .mul (.str _) (.int _) h = _ from if_pos z]
      exact .pure bd dq rfl
    · exact trivial
  · cases px.int; cases py.int
    split
    · rename_i z
      rw [show binD .div (.int _) (.int _) h = _ from if_pos z]
      exact .pure bd dq rfl
    · exact trivial
  · cases px.int; cases py.int
    split
    · rename_i z
      rw [show binD .mod (.int _) (.int _) h = _ from if_pos z]
      exact .pure bd dq rfl
    · exact trivial
  · cases px.int; cases py.int
    split
    · rename_i z
      rw [show binD .pow (.int _) (.int _) h = _ from if_pos z]
      exact .pure bd dq rfl
    · exact trivial
  · exact trivial
/-! ### comparisons, truth, kinds -/
theorem Pq.strEq {h : HP} {F : Fz} {x y : V} {a b : D} (px : Pq h F x a) (py : Pq h F y b) : strEq a b = strEqV x y := by
  have hx : (∃ s, x = .str s ∧ a = .str s) ∨ ((∀ s, x ≠ .str s) ∧ ∀ s, a ≠ .str s) := by
    rcases px with p | ⟨k, ds, vs, rfl, rfl, _⟩
    · cases x with
      | str s => exact .inl ⟨s, rfl, p⟩
      | tup vs => obtain ⟨ds, rfl, _⟩ := p; exact .inr ⟨fun s e => (by cases e), fun s e => (by cases e)⟩
      | lst vs => obtain ⟨k, ds, rfl, _⟩ := p; exact .inr ⟨fun s e => (by cases e), fun s e => (by cases e)⟩
      | con vs => obtain ⟨k, ds, rfl, _⟩ := p; exact .inr ⟨fun s e => (by cases e), fun s e => (by cases e)⟩
      | _ => cases p; exact .inr ⟨fun s e => (by cases e), fun s e => (by cases e)⟩
    · exact .inr ⟨fun s e => (by cases e), fun s e => (by cases e)⟩
  have hy : (∃ s, y = .str s ∧ b = .str s) ∨ ((∀ s, y ≠ .str s) ∧ ∀ s, b ≠ .str s) := by
    rcases py with p | ⟨k, ds, vs, rfl, rfl, _⟩
    · cases y with
      | str s => exact .inl ⟨s, rfl, p⟩
      | tup vs => obtain ⟨ds, rfl, _⟩ := p; exact .inr ⟨fun s e => (by cases e), fun s e => (by cases e)⟩
      | lst vs => obtain ⟨k, ds, rfl, _⟩ := p; exact .inr ⟨fun s e => (by cases e), fun s e => (by cases e)⟩
      | con vs => obtain ⟨k, ds, rfl, _⟩ := p; exact .inr ⟨fun s e => (by cases e), fun s e => (by cases e)⟩
      | _ => cases p; exact .inr ⟨fun s e => (by cases e), fun s e => (by cases e)⟩
    · exact .inr ⟨fun s e => (by cases e), fun s e => (by cases e)⟩
  rcases hx with ⟨s, rfl, rfl⟩ | ⟨n1, n2⟩
  · rcases hy with ⟨u, rfl, rfl⟩ | ⟨m1, m2⟩
    · rfl
    · cases y with
      | str u => exact absurd rfl (m1 u)
      | _ => cases b with
        | str u => exact absurd rfl (m2 u)
        | _ => rfl
  · cases x with
    | str u => exact absurd rfl (n1 u)
    | _ => cases a with
      | str u => exact absurd rfl (n2 u)
      | _ => rfl
theorem op_eqV {h : HP} {F : Fz} {x y : V} {a b : D} {k : Bool} (px : Pq h F x a) (py : Pq h F y b) (e : eqV x y = some k) : eqD h a b = some k := by
  unfold eqV at e
  unfold eqD
  rw [px.strEq py]
  cases w : strEqV x y with
  | some j => rw [w] at e; exact e
  | none =>
    rw [w] at e
    have e : datEqV x y = some k := e
    unfold datEqV at e
    split at e
    · rename_i z
      obtain ⟨z1, z2⟩ := Bool.and_eq_true_iff.mp z
      show datEq h a b = _
      unfold datEq
      rw [px.py (depth_of z1), py.py (depth_of z2)]
      show (if _ then _ else _) = _
      rw [if_pos z, ← e]
    · cases e
theorem Pq.lstOf {h : HP} {F : Fz} {y : V} {b : D} {ys : List V} (py : Pq h F y b) (e : lstOf y = some ys) : ∃ k ds, b = .ref k ∧ seqOf h b = some ds ∧ Reps h F ys ds ∧ pyV y = .list (pyVs ys) := by
  rcases py with p | ⟨k, ds, vs, rfl, rfl, g, rs⟩
  · cases y with
    | lst us =>
      cases e
      obtain ⟨k, ds, rfl, _, g, rs⟩ := p
      exact ⟨k, ds, rfl, by simp [seqOf, g], rs, rfl⟩
    | con us =>
      cases e
      obtain ⟨k, ds, rfl, _, g, rs⟩ := p
      exact ⟨k, ds, rfl, by simp [seqOf, g], rs, rfl⟩
    | _ => cases e
  · cases e
    exact ⟨k, ds, rfl, by simp [seqOf, g], rs, rfl⟩
theorem any_pyVs (p : PyData → Bool) : ∀ vs : List V, (pyVs vs).any p = vs.any fun z => p (pyV z)
  | [] => rfl
  | v :: vs => by
    show (p (pyV v) || (pyVs vs).any p) = _
    rw [any_pyVs p vs]; rfl
theorem op_inV {h : HP} {F : Fz} {x y : V} {a b : D} {k : Bool} (px : Pq h F x a) (py : Pq h F y b) (e : inV x y = some k) : inD h a b = some k := by
  have core : ∀ ys, seqV y = some ys → (if SeqAt.shaped (pyV x) && SeqAt.shaped (pyV y) then some (ys.any fun z => PyData.eqv (pyV z) (pyV x)) else none) = some k → (pyV y = .list (pyVs ys) ∨ pyV y = .tuple (pyVs ys)) → inD h a b = some k := by
    intro ys _ e e2
    split at e
    · rename_i z
      obtain ⟨z1, z2⟩ := Bool.and_eq_true_iff.mp z
      unfold inD
      rw [px.py (depth_of z1), py.py (depth_of z2)]
      rcases e2 with e2 | e2
      · rw [e2] at z ⊢
        show (if _ then _ else _) = _
        rw [if_pos z, ← e, any_pyVs]
      · rw [e2] at z ⊢
        show (if _ then _ else _) = _
        rw [if_pos z, ← e, any_pyVs]
    · cases e
  unfold inV at e
  cases y with
  | tup ys => exact core ys rfl e (.inr rfl)
  | lst ys => exact core ys rfl e (.inl rfl)
  | con ys => exact core ys rfl e (.inl rfl)
  | _ => cases e
theorem op_ltV {h : HP} {F : Fz} {x y : V} {a b : D} {k : Bool} (px : Pq h F x a) (py : Pq h F y b) (e : ltV x y = some k) : ltD a b = some k := by
  unfold ltV at e
  split at e
  · rcases px with p | ⟨_, _, _, w, _⟩
    · rcases py with p2 | ⟨_, _, _, w, _⟩
      · cases p; cases p2; exact e
      · cases w
    · cases w
  · rcases px with p | ⟨_, _, _, w, _⟩
    · rcases py with p2 | ⟨_, _, _, w, _⟩
      · cases p; cases p2; exact e
      · cases w
    · cases w
  · cases e
theorem op_leV {h : HP} {F : Fz} {x y : V} {a b : D} {k : Bool} (px : Pq h F x a) (py : Pq h F y b) (e : leV x y = some k) : leD a b = some k := by
  unfold leV at e
  split at e
  · rcases px with p | ⟨_, _, _, w, _⟩
    · rcases py with p2 | ⟨_, _, _, w, _⟩
      · cases p; cases p2; exact e
      · cases w
    · cases w
  · rcases px with p | ⟨_, _, _, w, _⟩
    · rcases py with p2 | ⟨_, _, _, w, _⟩
      · cases p; cases p2; exact e
      · cases w
    · cases w
  · cases e
theorem Pq.isNon {h : HP} {F : Fz} {x : V} {a : D} (p : Pq h F x a) : isNon a = isNonV x := by
  rcases p with p | ⟨_, _, _, rfl, rfl, _⟩
  · cases x with
    | tup _ => obtain ⟨_, rfl, _⟩ := p; rfl
    | lst _ => obtain ⟨_, _, rfl, _⟩ := p; rfl
    | con _ => obtain ⟨_, _, rfl, _⟩ := p; rfl
    | _ => cases p; rfl
  · rfl
theorem Pq.isBl {h : HP} {F : Fz} {x : V} {a : D} {b : Bool} (p : Pq h F x a) : isBl b a = isBlV b x := by
  rcases p with p | ⟨_, _, _, rfl, rfl, _⟩
  · cases x with
    | tup _ => obtain ⟨_, rfl, _⟩ := p; rfl
    | lst _ => obtain ⟨_, _, rfl, _⟩ := p; rfl
    | con _ => obtain ⟨_, _, rfl, _⟩ := p; rfl
    | _ => cases p; rfl
  · rfl
theorem Pq.non {h : HP} {F : Fz} {d : D} (p : Pq h F .non d) : d = .non := by
  rcases p with p | ⟨_, _, _, e, _⟩
  · exact p
  · cases e
theorem Pq.bl {h : HP} {F : Fz} {b : Bool} {d : D} (p : Pq h F (.bl b) d) : d = .bl b := by
  rcases p with p | ⟨_, _, _, e, _⟩
  · exact p
  · cases e
theorem op_cmpV {h : HP} {F : Fz} {x y : V} {a b : D} {k : Bool} (op : COp) (px : Pq h F x a) (py : Pq h F y b) (e : cmpV op x y = some k) : cmpD h op a b = some k := by
  cases op with
  | eq => exact op_eqV px py e
  | ne =>
    obtain ⟨j, e1, e2⟩ := Option.map_eq_some_iff.mp (show (eqV x y).map (!·) = some k from e)
    show (eqD h a b).map _ = _
    rw [op_eqV px py e1, ← e2]; rfl
  | lt => exact op_ltV px py e
  | le => exact op_leV px py e
  | gt => exact op_ltV py px e
  | ge => exact op_leV py px e
  | inn => exact op_inV px py e
  | nin =>
    obtain ⟨j, e1, e2⟩ := Option.map_eq_some_iff.mp (show (inV x y).map (!·) = some k from e)
    show (inD h a b).map _ = _
    rw [op_inV px py e1, ← e2]; rfl
  | is => cases y with
    | non => cases py.non
             show some (isNon a) = _
             rw [px.isNon]; exact e
    | bl c => cases py.bl
              show isBl c a = _
              rw [px.isBl]; exact e
    | _ => cases e
  | isn => cases y with
    | non => cases py.non
             show some (!isNon a) = _
             rw [px.isNon]; exact e
    | bl c => cases py.bl
              show (isBl c a).map _ = _
              rw [px.isBl]; exact e
    | _ => cases e
theorem op_truthV {h : HP} {F : Fz} {x : V} {a : D} {k : Bool} (px : Pq h F x a) (e : truthV x = some k) : truth h a = some k := by
  have em : ∀ {vs : List V} {ds : List D}, Reps h F vs ds → ds.isEmpty = vs.isEmpty := fun rs => by
    rename_i vs ds
    cases vs with
    | nil => cases rs; rfl
    | cons _ _ => obtain ⟨_, _, rfl, _⟩ := rs; rfl
  rcases px with p | ⟨j, ds, vs, rfl, rfl, g, rs⟩
  · cases x with
    | tup _ => obtain ⟨_, rfl, rs⟩ := p; show some (!_) = _; rw [em rs]; exact e
    | lst _ => obtain ⟨j, _, rfl, _, g, rs⟩ := p; simp only [truth, g]; rw [em rs]; exact e
    | con _ => obtain ⟨j, _, rfl, _, g, rs⟩ := p; simp only [truth, g]; rw [em rs]; exact e
    | _ => cases p; exact e
  · simp only [truth, g]; rw [em rs]; exact e
theorem op_tyV {h : HP} {F : Fz} {x : V} {a : D} (px : Pq h F x a) : tyD h a = some (tyV x) := by
  rcases px with p | ⟨j, ds, vs, rfl, rfl, g, rs⟩
  · cases x with
    | tup _ => obtain ⟨_, rfl, rs⟩ := p; rfl
    | lst _ => obtain ⟨j, _, rfl, _, g, rs⟩ := p; simp [tyD, g, tyV]
    | con _ => obtain ⟨j, _, rfl, _, g, rs⟩ := p; simp [tyD, g, tyV]
    | _ => cases p; rfl
  · simp [tyD, g, tyV]
theorem atI_rep {h : HP} {F : Fz} {vs : List V} {ds : List D} {i : Int} {v : V} (rs : Reps h F vs ds) (e : L2.atI vs i = some v) : ∃ d, L2.atI ds i = some d ∧ Rep h F v d := by
  unfold L2.atI at e ⊢
  rw [rs.length]
  cases w : L2.ixN vs.length i with
  | none => rw [w] at e; cases e
  | some j =>
    rw [w] at e
    exact rs.get e
theorem op_ixV {h : HP} {F : Fz} {x y v : V} {a b : D} (px : Pq h F x a) (py : Pq h F y b) (e : ixV x y = some v) : ∃ d, ixD h a b = some d ∧ Rep h F v d := by
  cases y with
  | int i =>
    have eb : b = .int i := by
      rcases py with p | ⟨_, _, _, w, _⟩
      · exact p
      · cases w
    subst eb
    have sq : ∀ vs, seqV x = some vs → L2.atI vs i = some v → ∃ d, (seqOf h a).bind (fun ds => L2.atI ds i) = some d ∧ Rep h F v d := fun vs e1 e2 => by
      obtain ⟨ds, s, rs⟩ := px.seq e1
      rw [s]
      exact atI_rep rs e2
    cases x with
    | str s =>
      have ea : a = .str s := by
        rcases px with p | ⟨_, _, _, w, _⟩
        · exact p
        · cases w
      subst ea
      have e : (if s.length ≤ SL then (L2.atI s.cps.toList i).map fun c => V.str ⟨#[c]⟩ else none) = some v := e
      show ∃ d, (if s.length ≤ SL then (L2.atI s.cps.toList i).map fun c => D.str ⟨#[c]⟩ else none) = some d ∧ _
      split at e
      · rename_i z
        rw [if_pos z]
        obtain ⟨c, e1, rfl⟩ := Option.map_eq_some_iff.mp e
        exact ⟨.str ⟨#[c]⟩, by rw [e1]; rfl, rfl⟩
      · cases e
    | tup vs =>
      have z := sq vs rfl e
      rcases px with p | ⟨_, _, _, w, _⟩
      · obtain ⟨ds, rfl, _⟩ := p; exact z
      · cases w
    | lst vs =>
      have z := sq vs rfl e
      rcases px with p | ⟨_, _, _, _, rfl, _⟩
      · obtain ⟨k, ds, rfl, _⟩ := p; exact z
      · exact z
    | con vs =>
      have z := sq vs rfl e
      rcases px with p | ⟨_, _, _, w, _⟩
      · obtain ⟨k, ds, rfl, _⟩ := p; exact z
      · cases w
    | _ => cases e
  | _ => cases e
theorem bools_rep {h : HP} {F : Fz} : ∀ {vs : List V} {ds : List D} {bs : List Bool}, Reps h F vs ds → boolsV vs = some bs → bools ds = some bs
  | [], _, _, r, e => by cases r; exact e
  | .bl b :: vs, _, bs, r, e => by
    obtain ⟨d, r', rfl, r1, r2⟩ := r
    cases r1
    obtain ⟨cs, e1, rfl⟩ := Option.map_eq_some_iff.mp (show (boolsV vs).map (b :: ·) = some bs from e)
    show (bools r').map _ = _
    rw [bools_rep r2 e1]; rfl
  | .non :: _, _, _, _, e => by cases e
  | .int _ :: _, _, _, _, e => by cases e
  | .str _ :: _, _, _, _, e => by cases e
  | .tup _ :: _, _, _, _, e => by cases e
  | .lst _ :: _, _, _, _, e => by cases e
  | .con _ :: _, _, _, _, e => by cases e
theorem ints_rep {h : HP} {F : Fz} : ∀ {vs : List V} {ds : List D} {is : List Int}, Reps h F vs ds → intsV vs = some is → intsD ds = some is
  | [], _, _, r, e => by cases r; exact e
  | .int b :: vs, _, bs, r, e => by
    obtain ⟨d, r', rfl, r1, r2⟩ := r
    cases r1
    obtain ⟨cs, e1, rfl⟩ := Option.map_eq_some_iff.mp (show (intsV vs).map (b :: ·) = some bs from e)
    show (intsD r').map _ = _
    rw [ints_rep r2 e1]; rfl
  | .non :: _, _, _, _, e => by cases e
  | .bl _ :: _, _, _, _, e => by cases e
  | .str _ :: _, _, _, _, e => by cases e
  | .tup _ :: _, _, _, _, e => by cases e
  | .lst _ :: _, _, _, _, e => by cases e
  | .con _ :: _, _, _, _, e => by cases e
theorem pyVs_map : ∀ vs : List V, pyVs vs = vs.map pyV
  | [] => rfl
  | v :: vs => by
    show pyV v :: pyVs vs = _
    rw [pyVs_map vs]; rfl
theorem depthAll_lt {n : Nat} : ∀ {ps : List PyData}, 0 < n → (∀ p ∈ ps, p.depth < n) → PyData.depthAll ps < n
  | [], h, _ => h
  | p :: ps, h, a => by
    show max _ _ < n
    exact Nat.max_lt.mpr ⟨a p List.mem_cons_self, depthAll_lt h fun x hx => a x (List.mem_cons_of_mem _ hx)⟩
theorem reps_zip {h : HP} {F : Fz} {vs : List V} {ds : List D} (r : Reps h F vs ds) : ∀ p ∈ vs.zip ds, Rep h F p.1 p.2 := by
  intro p hp
  obtain ⟨i, hi⟩ := List.getElem?_of_mem hp
  rw [List.getElem?_zip_eq_some] at hi
  exact r.at hi.1 hi.2
theorem zip_reps {h : HP} {F : Fz} : ∀ {zs : List (V × D)}, (∀ p ∈ zs, Rep h F p.1 p.2) → Reps h F (zs.map (·.1)) (zs.map (·.2))
  | [], _ => rfl
  | z :: zs, a => .cons (a z List.mem_cons_self) (zip_reps fun p hp => a p (List.mem_cons_of_mem _ hp))
/-- sorted alike -/
theorem reps_sort {h : HP} {F : Fz} {vs : List V} {ds : List D} (r : Reps h F vs ds) (py : ∀ v ∈ vs, (pyV v).depth < 66) :
    Reps h F (vs.mergeSort (PySem.W.dataLe false pyV)) (ds.mergeSort (PySem.W.dataLe false (pyD h))) := by
  have z := reps_zip r
  have e1 : (vs.zip ds).map (·.1) = vs := List.map_fst_zip (by rw [r.length]; exact Nat.le_refl _)
  have e2 : (vs.zip ds).map (·.2) = ds := List.map_snd_zip (by rw [r.length]; exact Nat.le_refl _)
  have k : ∀ p ∈ vs.zip ds, pyD h p.2 = pyV p.1 := fun p hp => by
    unfold pyD
    rw [toPy_rep (z p hp) (py _ (by rw [← e1]; exact List.mem_map.mpr ⟨p, hp, rfl⟩))]; rfl
  have s1 := List.map_mergeSort (r := fun (p q : V × D) => PySem.W.dataLe false pyV p.1 q.1) (s := PySem.W.dataLe false pyV) (f := Prod.fst) (l := vs.zip ds) fun _ _ _ _ => rfl
  have s2 := List.map_mergeSort (r := fun (p q : V × D) => PySem.W.dataLe false pyV p.1 q.1) (s := PySem.W.dataLe false (pyD h)) (f := Prod.snd) (l := vs.zip ds) fun a ha b hb => by
    unfold PySem.W.dataLe PySem.W.sortLe
    simp only [k a ha, k b hb]
  have e1' : (vs.zip ds).map Prod.fst = vs := e1
  have e2' : (vs.zip ds).map Prod.snd = ds := e2
  rw [e1'] at s1
  rw [e2'] at s2
  rw [← s1, ← s2]
  exact zip_reps fun p hp => z p (List.mem_mergeSort.mp hp)
theorem op_slV {r : Option Nat} {h : HP} {F : Fz} {q : Q} {n : Nat} {x : V} {a : D} {lo hi : Option Int} (bd : ∀ k, F k → k < h.length) (dq : Dq r h F q) (l : n ≤ h.length) (px : Pk r h F x a) : SR r h F (RA r n) (slV x lo hi q) (slD h a lo hi) := by
  unfold slV
  split
  · obtain ⟨as, rfl, ra⟩ := px.tup
    exact .pure bd dq ⟨_, rfl, ra.cut lo hi⟩
  · obtain ⟨k, as, rfl, ga, ra⟩ := px.lst
    simp only [slD, ga]
    exact .newL bd dq l (ra.cut lo hi)
  · exact trivial
theorem op_bi1V {r : Option Nat} {h : HP} {F : Fz} {q : Q} {n : Nat} {x : V} {a : D} (b : BI) (bd : ∀ k, F k → k < h.length) (dq : Dq r h F q) (l : n ≤ h.length) (px : Pq h F x a) : SR r h F (RA r n) (bi1V b x q) (bi1 b a h) := by
  have seqs : ∀ {vs : List V}, seqV x = some vs → ∃ ds, seqOf h a = some ds ∧ Reps h F vs ds := fun e => px.seq e
  cases b with
  | len =>
    have sq : ∀ vs, seqV x = some vs → (∀ s, a ≠ .str s) → SR r h F (RA r n) (.ok (.v (.int vs.length)) q) (bi1 .len a h) := fun vs e ns => by
      obtain ⟨ds, sq, rs⟩ := px.seq e
      have : bi1 .len a h = .ok (.int ds.length) h := by
        cases a with
        | str s => exact absurd rfl (ns s)
        | _ => simp [bi1, sq]
      rw [this, rs.length]
      exact .pure bd dq rfl
    cases x with
    | str s =>
      have ea : a = .str s := by
        rcases px with p | ⟨_, _, _, w, _⟩
        · exact p
        · cases w
      subst ea
      show SR r h F (RA r n) (if _ then _ else _) (if _ then _ else _)
      split
      · exact .pure bd dq rfl
      · exact trivial
    | tup vs =>
      refine sq vs rfl fun s e => ?_
      rcases px with p | ⟨_, _, _, w, _⟩
      · obtain ⟨_, rfl, _⟩ := p; cases e
      · cases w
    | lst vs =>
      refine sq vs rfl fun s e => ?_
      rcases px with p | ⟨_, _, _, _, rfl, _⟩
      · obtain ⟨_, _, rfl, _⟩ := p; cases e
      · cases e
    | con vs =>
      refine sq vs rfl fun s e => ?_
      rcases px with p | ⟨_, _, _, w, _⟩
      · obtain ⟨_, _, rfl, _⟩ := p; cases e
      · cases w
    | _ => exact trivial
  | int =>
    cases x with
    | int i =>
      rcases px with p | ⟨_, _, _, w, _⟩
      · cases p; exact .pure bd dq rfl
      · cases w
    | bl i =>
      rcases px with p | ⟨_, _, _, w, _⟩
      · cases p; exact .pure bd dq rfl
      · cases w
    | _ => exact trivial
  | abs =>
    cases x with
    | int i =>
      rcases px with p | ⟨_, _, _, w, _⟩
      · cases p; exact .pure bd dq rfl
      · cases w
    | _ => exact trivial
  | all =>
    show SR r h F (RA r n) (match (lstOf x).bind boolsV with | some bs => _ | none => _) _
    cases w : (lstOf x).bind boolsV with
    | none => exact trivial
    | some bs =>
      obtain ⟨vs, e1, e2⟩ := Option.bind_eq_some_iff.mp w
      obtain ⟨k, ds, rfl, e3, rs, _⟩ := px.lstOf e1
      simp only [bi1, e3, Option.bind_some, bools_rep rs e2]
      exact .pure bd dq rfl
  | any =>
    show SR r h F (RA r n) (match (lstOf x).bind boolsV with | some bs => _ | none => _) _
    cases w : (lstOf x).bind boolsV with
    | none => exact trivial
    | some bs =>
      obtain ⟨vs, e1, e2⟩ := Option.bind_eq_some_iff.mp w
      obtain ⟨k, ds, rfl, e3, rs, _⟩ := px.lstOf e1
      simp only [bi1, e3, Option.bind_some, bools_rep rs e2]
      exact .pure bd dq rfl
  | tuple =>
    show SR r h F (RA r n) (match seqV x with | some vs => _ | none => _) (match seqOf h a with | some vs => _ | none => _)
    cases w : seqV x with
    | none => exact trivial
    | some vs =>
      obtain ⟨ds, e, rs⟩ := px.seq w
      rw [e]
      exact .pure bd dq ⟨ds, rfl, rs⟩
  | list =>
    show SR r h F (RA r n) (match seqV x with | some vs => _ | none => _) (match seqOf h a with | some vs => _ | none => _)
    cases w : seqV x with
    | none => exact trivial
    | some vs =>
      obtain ⟨ds, e, rs⟩ := px.seq w
      rw [e]
      exact .newL bd dq l rs
  | repr =>
    show SR r h F (RA r n) (if _ then _ else _) (match toPy 66 h a with | some x => _ | none => _)
    split
    · rename_i z
      have z1 := (Bool.and_eq_true_iff.mp (Bool.and_eq_true_iff.mp z).1).1
      rw [px.py (depth_of z1)]
      show SR r h F (RA r n) _ (if _ then _ else _)
      rw [if_pos z]
      exact .pure bd dq rfl
    · exact trivial
  | max2 =>
    show SR r h F (RA r n) (match (seqV x).bind intsV with | some (i :: is) => _ | _ => _) (match (seqOf h a).bind intsD with | some (i :: is) => _ | _ => _)
    cases w : (seqV x).bind intsV with
    | none => exact trivial
    | some is =>
      obtain ⟨vs, e1, e2⟩ := Option.bind_eq_some_iff.mp w
      obtain ⟨ds, e3, rs⟩ := px.seq e1
      rw [e3, Option.bind_some, ints_rep rs e2]
      cases is with
      | nil => exact trivial
      | cons i is => exact .pure bd dq rfl
  | min2 =>
    show SR r h F (RA r n) (match (seqV x).bind intsV with | some (i :: is) => _ | _ => _) (match (seqOf h a).bind intsD with | some (i :: is) => _ | _ => _)
    cases w : (seqV x).bind intsV with
    | none => exact trivial
    | some is =>
      obtain ⟨vs, e1, e2⟩ := Option.bind_eq_some_iff.mp w
      obtain ⟨ds, e3, rs⟩ := px.seq e1
      rw [e3, Option.bind_some, ints_rep rs e2]
      cases is with
      | nil => exact trivial
      | cons i is => exact .pure bd dq rfl
  | sum =>
    show SR r h F (RA r n) (match (lstOf x).bind intsV with | some is => _ | none => _) _
    cases w : (lstOf x).bind intsV with
    | none => exact trivial
    | some is =>
      obtain ⟨vs, e1, e2⟩ := Option.bind_eq_some_iff.mp w
      obtain ⟨k, ds, rfl, e3, rs, _⟩ := px.lstOf e1
      simp only [bi1, e3, Option.bind_some, ints_rep rs e2]
      exact .pure bd dq rfl
  | sorted =>
    show SR r h F (RA r n) (match seqV x with | some vs => _ | none => _) (match seqOf h a with | some ds => _ | none => _)
    cases w : seqV x with
    | none => exact trivial
    | some vs =>
      obtain ⟨ds, e, rs⟩ := px.seq w
      rw [e]
      simp only []
      split
      · rename_i so
        have dep : ∀ v ∈ vs, (pyV v).depth < 66 := fun v hv => by
          have := (Bool.and_eq_true_iff.mp (Bool.and_eq_true_iff.mp so).2).2
          exact depth_of (List.all_eq_true.mp this _ (List.mem_map.mpr ⟨v, hv, rfl⟩))
        have mp := toPys_rep (f := 66) rs (depthAll_lt (by decide) (by
          rw [pyVs_map]
          intro p hp
          obtain ⟨v, hv, rfl⟩ := List.mem_map.mp hp
          exact dep v hv))
        rw [mp, pyVs_map]
        simp only []
        rw [if_pos so]
        exact .newL bd dq l (reps_sort rs dep)
      · exact trivial
  | _ => exact trivial
theorem op_bi2V {r : Option Nat} {h : HP} {F : Fz} {q : Q} {n : Nat} {i j : Int} (b : BI) (bd : ∀ k, F k → k < h.length) (dq : Dq r h F q) : SR r h F (RA r n) (bi2V b i j q) (bi2 b i j h) := by
  cases b with
  | max2 => exact .pure bd dq rfl
  | min2 => exact .pure bd dq rfl
  | comb =>
    show SR r h F (RA r n) (if _ then _ else _) (if _ then _ else _)
    split
    · exact .pure bd dq rfl
    · exact trivial
  | gcd => exact .pure bd dq rfl
  | lcm =>
    show SR r h F (RA r n) (if _ then _ else _) (if _ then _ else _)
    split
    · exact .pure bd dq rfl
    · exact trivial
  | _ => exact trivial
theorem op_mtV {h : HP} {F : Fz} {vs xs vs2 : List V} {ds es : List D} {v : V} (m : Mt) (rs : Reps h F vs ds) (rx : Reps h F xs es) (e : mtV m vs xs = some (v, vs2)) : ∃ d ds2, mtL m ds es = some (d, ds2) ∧ Rep h F v d ∧ Reps h F vs2 ds2 := by
  cases m with
  | append =>
    match xs, rx, e with
    | [x], rx, e =>
      obtain ⟨d, r', rfl, r1, r2⟩ := rx
      cases r2
      have e : (if vs.length < SL then some (V.non, vs ++ [x]) else none) = some (v, vs2) := e
      split at e
      · rename_i z
        cases e
        exact ⟨.non, ds ++ [d], if_pos (by rw [rs.length]; exact z), rfl, rs.append (.cons r1 .nil)⟩
      · cases e
  | pop =>
    match xs, rx, e with
    | [], rx, e =>
      cases rx
      obtain ⟨x, e1, e2⟩ := Option.map_eq_some_iff.mp (show vs.getLast?.map (fun x => (x, vs.dropLast)) = some (v, vs2) from e)
      cases e2
      obtain ⟨d, e3, r3⟩ := rs.getLast e1
      exact ⟨d, ds.dropLast, by show ds.getLast?.map _ = _; rw [e3]; rfl, r3, rs.dropLast⟩
  | popAt =>
    match xs, rx, e with
    | [.int i], rx, e =>
      obtain ⟨d, r', rfl, r1, r2⟩ := rx
      cases r1; cases r2
      obtain ⟨j, e1, e2⟩ := Option.bind_eq_some_iff.mp (show (L2.ixN vs.length i).bind (fun j => vs[j]?.map fun x => (x, vs.eraseIdx j)) = some (v, vs2) from e)
      obtain ⟨x, e3, e4⟩ := Option.map_eq_some_iff.mp e2
      cases e4
      obtain ⟨d, e5, r5⟩ := rs.get e3
      refine ⟨d, ds.eraseIdx j, ?_, r5, rs.erase j⟩
      show (L2.ixN ds.length i).bind (fun j => ds[j]?.map fun x => (x, ds.eraseIdx j)) = _
      rw [rs.length, e1]
      show ds[j]?.map _ = _
      rw [e5]; rfl
  | reverse =>
    match xs, rx, e with
    | [], rx, e =>
      cases rx
      cases e
      exact ⟨.non, ds.reverse, rfl, rfl, rs.rev⟩
/-! ### what is walked -/
/-- s: it stands whatever is changed of what is not frozen -/
def RI (s : Bool) (r : Option Nat) (h : HP) (F : Fz) (vs : List V) (J : Itr) : Prop := ∃ ds, Reps h F vs ds ∧ ∀ h', (∀ k, k < h.length → some k ≠ r → (s = true → F k) → h'[k]? = h[k]?) → Src J ds h'
theorem RI.fix {s : Bool} {r : Option Nat} {h : HP} {F : Fz} {vs : List V} {ds : List D} (rs : Reps h F vs ds) : RI s r h F vs (.fix ds) := ⟨ds, rs, fun _ _ => src_fix⟩
theorem reps_en {h : HP} {F : Fz} {vs : List V} {ds : List D} (rs : Reps h F vs ds) : Reps h F (enV vs) (enD ds) := by
  refine .of_get (by simp [enV, enD, rs.length]) fun i x d a b => ?_
  rw [enD_get] at b
  unfold enV at a
  rw [List.getElem?_map, List.getElem?_zipIdx] at a
  obtain ⟨d', e1, rfl⟩ := Option.map_eq_some_iff.mp b
  obtain ⟨p, e2, rfl⟩ := Option.map_eq_some_iff.mp a
  obtain ⟨y, e3, rfl⟩ := Option.map_eq_some_iff.mp e2
  exact ⟨_, rfl, .cons (by simp [Rep]) (.cons (rs.at e3 e1) .nil)⟩
/-- what is given to a loop: in a loop proper it is frozen -/
def PT (l : Bool) (r : Option Nat) (h : HP) (F : Fz) (x : V) (d : D) : Prop := if l then Rep h F x d else Pk r h F x d
theorem op_seqIV {l : Bool} {r : Option Nat} {h : HP} {F : Fz} {q : Q} {x : V} {a : D} (bd : ∀ k, F k → k < h.length) (dq : Dq r h F q) (px : PT l r h F x a) : SR r h F (RI l r) (seqIV x q) (seqI a h) := by
  have nr : ∀ {k}, F k → some k ≠ r := fun f e => by
    obtain ⟨_, _, _, _, _, n, _⟩ := dq _ e.symm
    exact n f
  have px2 : Rep h F x a ∨ (l = false ∧ ∃ k ds vs, x = .lst vs ∧ a = .ref k ∧ some k ≠ r ∧ h[k]? = some (.lst ds) ∧ Reps h F vs ds) := by
    cases l with
    | true => exact .inl px
    | false => exact Or.imp id (fun z => ⟨rfl, z⟩) (show Pk r h F x a from px)
  rcases px2 with p | ⟨rfl, k, ds, vs, rfl, rfl, n, g, rs⟩
  · cases x with
    | tup vs =>
      obtain ⟨ds, rfl, rs⟩ := p
      exact .pure bd dq (.fix rs)
    | lst vs =>
      obtain ⟨k, ds, rfl, f, g, rs⟩ := p
      exact .pure bd dq ⟨ds, rs, fun h' e => src_lst (by have := e k (get_lt g) (nr f) (fun _ => f)
                                                         simp [seqOf, this, g])⟩
    | con vs =>
      obtain ⟨k, ds, rfl, f, g, rs⟩ := p
      exact .pure bd dq ⟨ds, rs, fun h' e => src_lst (by have := e k (get_lt g) (nr f) (fun _ => f)
                                                         simp [seqOf, this, g])⟩
    | str s =>
      cases p
      show SR r h F (RI l r) (if _ then _ else _) (if _ then _ else _)
      split
      · refine .pure bd dq (.fix ?_)
        refine .of_get (by simp) fun i x d a b => ?_
        rw [List.getElem?_map] at a b
        obtain ⟨c, e1, rfl⟩ := Option.map_eq_some_iff.mp a
        rw [e1] at b
        cases b
        rfl
      · exact trivial
    | _ => exact trivial
  · exact .pure bd dq ⟨ds, rs, fun h' e => src_lst (by have := e k (get_lt g) n (fun z => by cases z)
                                                       simp [seqOf, this, g])⟩
theorem op_enumIV {l : Bool} {r : Option Nat} {h : HP} {F : Fz} {q : Q} {x : V} {a : D} (bd : ∀ k, F k → k < h.length) (dq : Dq r h F q) (px : PT l r h F x a) : SR r h F (RI l r) (enumIV x q) (enumI a h) := by
  have nr : ∀ {k}, F k → some k ≠ r := fun f e => by
    obtain ⟨_, _, _, _, _, n, _⟩ := dq _ e.symm
    exact n f
  have px2 : Rep h F x a ∨ (l = false ∧ ∃ k ds vs, x = .lst vs ∧ a = .ref k ∧ some k ≠ r ∧ h[k]? = some (.lst ds) ∧ Reps h F vs ds) := by
    cases l with
    | true => exact .inl px
    | false => exact Or.imp id (fun z => ⟨rfl, z⟩) (show Pk r h F x a from px)
  rcases px2 with p | ⟨rfl, k, ds, vs, rfl, rfl, n, g, rs⟩
  · cases x with
    | tup vs =>
      obtain ⟨ds, rfl, rs⟩ := p
      exact .pure bd dq ⟨enD ds, reps_en rs, fun _ _ => src_enf⟩
    | lst vs =>
      obtain ⟨k, ds, rfl, f, g, rs⟩ := p
      exact .pure bd dq ⟨enD ds, reps_en rs, fun h' e => src_enl (by have := e k (get_lt g) (nr f) (fun _ => f)
                                                                     simp [seqOf, this, g])⟩
    | con vs =>
      obtain ⟨k, ds, rfl, f, g, rs⟩ := p
      exact .pure bd dq ⟨enD ds, reps_en rs, fun h' e => src_enl (by have := e k (get_lt g) (nr f) (fun _ => f)
                                                                     simp [seqOf, this, g])⟩
    | _ => exact trivial
  · exact .pure bd dq ⟨enD ds, reps_en rs, fun h' e => src_enl (by have := e k (get_lt g) n (fun z => by cases z)
                                                                   simp [seqOf, this, g])⟩
theorem reps_rng {h : HP} {F : Fz} (lo hi : Int) : Reps h F (rngV lo hi) (rngL lo hi) := by
  refine .of_get (by simp [rngV, rngL]) fun i x d a b => ?_
  unfold rngV at a
  unfold rngL at b
  rw [List.getElem?_map] at a b
  obtain ⟨c, e1, rfl⟩ := Option.map_eq_some_iff.mp a
  rw [e1] at b
  cases b
  rfl
theorem op_rng1V {l : Bool} {r : Option Nat} {h : HP} {F : Fz} {q : Q} {x : V} {a : D} (bd : ∀ k, F k → k < h.length) (dq : Dq r h F q) (px : Pk r h F x a) : SR r h F (RI l r) (rng1V x q) (rngI1 a h) := by
  cases x with
  | int i =>
    cases px.int
    show SR r h F (RI l r) (if _ then _ else _) (if _ then _ else _)
    split
    · exact .pure bd dq (.fix (reps_rng 0 i))
    · exact trivial
  | _ => exact trivial
theorem op_rng2V {l : Bool} {r : Option Nat} {h : HP} {F : Fz} {q : Q} {x y : V} {a b : D} (bd : ∀ k, F k → k < h.length) (dq : Dq r h F q) (px : Pk r h F x a) (py : Pk r h F y b) : SR r h F (RI l r) (rng2V x y q) (rngI2 a b h) := by
  cases x with
  | int i =>
    cases px.int
    cases y with
    | int j =>
      cases py.int
      show SR r h F (RI l r) (if _ then _ else _) (if _ then _ else _)
      split
      · exact .pure bd dq (.fix (reps_rng i j))
      · exact trivial
    | _ => exact trivial
  | _ => exact trivial
end VI

set_option Elab.async false
set_option linter.all false
set_option maxRecDepth 100000
set_option maxHeartbeats 4000000
/-! Expressions. -/
namespace VI
open PySem PI
/-- a name's thing -/
def RS (r : Option Nat) (b : Nat) (h : HP) (F : Fz) : A → D → Prop
  | .v x, d => Rep h F x d
  | .own vs, d => ∃ k ds, d = .ref k ∧ b ≤ k ∧ some k ≠ r ∧ ¬ F k ∧ h[k]? = some (.lst ds) ∧ Reps h F vs ds
  | .bor _, _ => False
  | .dr, d => ∃ k, d = .ref k ∧ r = some k
/-- arguments -/
def AR (r : Option Nat) (P : V → D → Prop) : A → D → Prop
  | .v x, d => P x d
  | .dr, d => ∃ k, d = .ref k ∧ r = some k
  | _, _ => False
def ARs (r : Option Nat) (P : V → D → Prop) : List A → List D → Prop
  | [], ds => ds = []
  | a :: as, ds => ∃ d e, ds = d :: e ∧ AR r P a d ∧ ARs r P as e
theorem AR.imp {r : Option Nat} {P P2 : V → D → Prop} (i : ∀ x d, P x d → P2 x d) {a : A} {d : D} (p : AR r P a d) : AR r P2 a d := by
  cases a with
  | v x => exact i x d p
  | _ => exact p
theorem ARs.imp {r : Option Nat} {P P2 : V → D → Prop} (i : ∀ x d, P x d → P2 x d) : ∀ {as : List A} {ds : List D}, ARs r P as ds → ARs r P2 as ds
  | [], _, p => p
  | a :: as, _, ⟨d, e, rfl, p1, p2⟩ => ⟨d, e, rfl, p1.imp i, p2.imp i⟩
/-- calls are sound -/
def CS (VC : Nat → List A → Q → RV A) (C : Nat → List D → HP → Res D) : Prop := ∀ (r : Option Nat) (h : HP) (F : Fz) (f : Nat) (as : List A) (ds : List D) (q : Q), (∀ k, F k → k < h.length) → Dq r h F q → ARs r (Rep h F) as ds →
  SR r h F (RA r h.length) (VC f as q) (C f ds h)
def XR (h : HP) (F : Fz) : Option (Nat × V) → Option (Nat × D) → Prop
  | none, x => x = none
  | some (c, v), x => ∃ d, x = some (c, d) ∧ Rep h F v d
structure KR (VK : VCx) (K : Cx) : Prop where
  C : CS VK.C K.C
  sub : VK.sub = K.sub
/-- the names -/
structure St (VK : VCx) (K : Cx) (r : Option Nat) (b : Nat) (h : HP) (F : Fz) (se : VEnv) (e : PI.Env) (q : Q) : Prop where
  bl : b ≤ h.length
  bd : ∀ k, F k → k < h.length
  dq : Dq r h F q
  x : XR h F VK.x K.x
  len : e.length = se.length
  as : ∀ (i : Nat) a, se[i]? = some (some a) → ∃ d, e[i]? = some (some d) ∧ RS r b h F a d
  dis : ∀ (i j : Nat) vs us k, i ≠ j → se[i]? = some (some (.own vs)) → se[j]? = some (some (.own us)) → e[i]? = some (some (.ref k)) → e[j]? ≠ some (some (.ref k))
theorem XR.ex {r : Option Nat} {b : Nat} {h h' : HP} {F F' : Fz} {x : Option (Nat × V)} {y : Option (Nat × D)} (p : XR h F x y) (e : Ex r b h F h' F') : XR h' F' x y := by
  cases x with
  | none => exact p
  | some z =>
    obtain ⟨d, e1, p⟩ := p
    exact ⟨d, e1, e.rep p⟩
theorem RS.ex {r : Option Nat} {b : Nat} {h h' : HP} {F F' : Fz} {a : A} {d : D} (p : RS r b h F a d) (e : Ex r h.length h F h' F') : RS r b h' F' a d := by
  cases a with
  | v x => exact e.rep p
  | own vs =>
    obtain ⟨k, ds, rfl, l, n, f, g, rs⟩ := p
    exact ⟨k, ds, rfl, l, n, fun z => f ((e.fz k (get_lt g)).mp z), by rw [e.keep k (get_lt g) n]; exact g, e.reps rs⟩
  | bor vs => exact p
  | dr => exact p
section
variable {VK : VCx} {K : Cx} {r : Option Nat} {b : Nat} {h h' : HP} {F F' : Fz} {se : VEnv} {e : PI.Env} {q q' : Q}
theorem St.ex (s : St VK K r b h F se e q) (x : Ex r h.length h F h' F') (bd : ∀ k, F' k → k < h'.length) (dq : Dq r h' F' q') : St VK K r b h' F' se e q' :=
  ⟨Nat.le_trans s.bl x.le, bd, dq, s.x.ex x, s.len, fun i a z => by
    obtain ⟨d, z1, z2⟩ := s.as i a z
    exact ⟨d, z1, z2.ex x⟩, s.dis⟩
/-- a name is given a value, the draws -/
theorem St.set (s : St VK K r b h F se e q) {a : A} {d : D} (p : RS r b h F a d) (n : ∀ vs, a ≠ .own vs) (i : Nat) : St VK K r b h F (se.set i (some a)) (e.set i (some d)) q := by
  refine ⟨s.bl, s.bd, s.dq, s.x, by simp [s.len], fun j a' z => ?_, fun j l vs us k nj z1 z2 z3 => ?_⟩
  · rw [List.getElem?_set] at z ⊢
    by_cases w : i = j
    · subst w
      rw [if_pos rfl] at z ⊢
      split at z
      · rename_i hl
        cases z
        rw [if_pos (by rw [s.len]; exact hl)]
        exact ⟨d, rfl, p⟩
      · cases z
    · rw [if_neg w] at z ⊢
      exact s.as j a' z
  · have key : ∀ {j : Nat} {vs : List V}, (se.set i (some a))[j]? = some (some (.own vs)) → i ≠ j ∧ se[j]? = some (some (.own vs)) := fun {j vs} z => by
      rw [List.getElem?_set] at z
      by_cases w : i = j
      · rw [if_pos w] at z
        split at z
        · cases z; exact absurd rfl (n vs)
        · cases z
      · rw [if_neg w] at z
        exact ⟨w, z⟩
    obtain ⟨w1, y1⟩ := key z1
    obtain ⟨w2, y2⟩ := key z2
    rw [List.getElem?_set_ne w1] at z3
    rw [List.getElem?_set_ne w2]
    exact s.dis j l vs us k nj y1 y2 z3
theorem St.setOwn (s : St VK K r b h F se e q) {vs : List V} {k : Nat} (p : RS r b h F (.own vs) (.ref k)) (i : Nat) (n : ∀ (j : Nat) us, j ≠ i → se[j]? = some (some (.own us)) → e[j]? ≠ some (some (.ref k))) :
    St VK K r b h F (se.set i (some (.own vs))) (e.set i (some (.ref k))) q := by
  refine ⟨s.bl, s.bd, s.dq, s.x, by simp [s.len], fun j a' z => ?_, fun j l vs us k2 nj z1 z2 z3 => ?_⟩
  · rw [List.getElem?_set] at z ⊢
    by_cases w : i = j
    · subst w
      rw [if_pos rfl] at z ⊢
      split at z
      · rename_i hl
        cases z
        rw [if_pos (by rw [s.len]; exact hl)]
        exact ⟨_, rfl, p⟩
      · cases z
    · rw [if_neg w] at z ⊢
      exact s.as j a' z
  · by_cases w : i = j
    · subst w
      rw [List.getElem?_set_ne nj] at z2 ⊢
      rw [List.getElem?_set] at z3
      rw [if_pos rfl] at z3
      split at z3
      · cases z3
        exact n l us (Ne.symm nj) z2
      · cases z3
    · rw [List.getElem?_set_ne w] at z1 z3
      by_cases w2 : i = l
      · subst w2
        rw [List.getElem?_set, if_pos rfl]
        split
        · intro z4
          cases z4
          exact n j vs (Ne.symm w) z1 z3
        · exact fun z4 => (by cases z4)
      · rw [List.getElem?_set_ne w2] at z2 ⊢
        exact s.dis j l vs us k2 nj z1 z2 z3
theorem St.kill1 (s : St VK K r b h F se e q) (i : Nat) : St VK K r b h F (se.set i none) (e.set i none) q := by
  have key : ∀ {j : Nat} {a : A}, (se.set i none)[j]? = some (some a) → i ≠ j ∧ se[j]? = some (some a) := fun {j a} z => by
    rw [List.getElem?_set] at z
    by_cases w : i = j
    · rw [if_pos w] at z
      split at z <;> cases z
    · rw [if_neg w] at z
      exact ⟨w, z⟩
  refine ⟨s.bl, s.bd, s.dq, s.x, by simp [s.len], fun j a' z => ?_, fun j l vs us k nj z1 z2 z3 => ?_⟩
  · obtain ⟨w, y⟩ := key z
    rw [List.getElem?_set_ne w]
    exact s.as j a' y
  · obtain ⟨w1, y1⟩ := key z1
    obtain ⟨w2, y2⟩ := key z2
    rw [List.getElem?_set_ne w1] at z3
    rw [List.getElem?_set_ne w2]
    exact s.dis j l vs us k nj y1 y2 z3
theorem St.kill (ks : List Nat) : ∀ {se : VEnv} {e : PI.Env}, St VK K r b h F se e q → St VK K r b h F (killV ks se) (killE ks e) q := by
  induction ks with
  | nil => exact fun s => s
  | cons k ks ih => exact fun s => ih (s.kill1 k)
theorem St.own_lt (s : St VK K r b h F se e q) {j : Nat} {us : List V} {k : Nat} (z : se[j]? = some (some (.own us))) (z2 : e[j]? = some (some (.ref k))) : k < h.length := by
  obtain ⟨d, e1, k2, ds, rfl, l, n, f, g, _⟩ := s.as j _ z
  rw [z2] at e1
  cases e1
  exact get_lt g
theorem foldl_set_len {α : Type} : ∀ (l : List (Nat × α)) (e : List (Option α)), (l.foldl (fun e p => e.set p.1 (some p.2)) e).length = e.length
  | [], _ => rfl
  | p :: l, e => by
    rw [List.foldl_cons, foldl_set_len l]; simp
theorem St.bindV (s : St VK K r b h F se e q) {a : A} {d : D} {n : Nat} {t : Tgt} {se1 : VEnv} (p : RA r n h F a d) (l : b ≤ n) (fr : ∀ (j : Nat) us k, se[j]? = some (some (.own us)) → e[j]? = some (some (.ref k)) → k < n) (z : bindV t a se = some se1) :
    ∃ e1, bindT t d e = some e1 ∧ St VK K r b h F se1 e1 q := by
  cases t with
  | v i =>
    have fin : ∀ (hl : i < se.length), bindT (.v i) d e = some (e.set i (some d)) := fun hl => if_pos (by rw [s.len]; exact hl)
    cases a with
    | bor vs => cases z
    | v x =>
      have z : (if i < se.length then some (se.set i (some (.v x))) else none) = some se1 := z
      split at z
      · cases z
        exact ⟨_, fin ‹_›, s.set (d := d) (by exact p) (fun _ e => by cases e) i⟩
      · cases z
    | dr =>
      have z : (if i < se.length then some (se.set i (some .dr)) else none) = some se1 := z
      split at z
      · cases z
        exact ⟨_, fin ‹_›, s.set (d := d) (by exact p) (fun _ e => by cases e) i⟩
      · cases z
    | own vs =>
      have z : (if i < se.length then some (se.set i (some (.own vs))) else none) = some se1 := z
      split at z
      · cases z
        obtain ⟨k, ds, rfl, l2, nr, nf, g, rs⟩ := p
        refine ⟨_, fin ‹_›, s.setOwn ⟨k, ds, rfl, by omega, nr, nf, g, rs⟩ i fun j us _ z1 z2 => ?_⟩
        have := fr j us k z1 z2
        omega
      · cases z
  | tp is =>
    cases a with
    | v x =>
      cases x with
      | tup vs =>
        have z : (if is.length = vs.length then some ((is.zip vs).foldl (fun e p => e.set p.1 (some (.v p.2))) se) else none) = some se1 := z
        split at z
        · rename_i hl
          cases z
          obtain ⟨ds, rfl, rs⟩ := p
          refine ⟨_, if_pos (by rw [rs.length]; exact hl), ?_⟩
          clear fr hl
          have go : ∀ (is : List Nat) (vs : List V) (ds : List D) (se : VEnv) (e : PI.Env), Reps h F vs ds → St VK K r b h F se e q → St VK K r b h F ((is.zip vs).foldl (fun e p => e.set p.1 (some (.v p.2))) se) ((is.zip ds).foldl (fun e p => e.set p.1 (some p.2)) e) q := by
            intro is
            induction is with
            | nil => exact fun _ _ _ _ _ s => s
            | cons i is ih =>
              intro vs ds se e rs s
              cases vs with
              | nil => cases rs; exact s
              | cons v vs =>
                obtain ⟨d, ds, rfl, r1, r2⟩ := rs
                exact ih vs ds _ _ r2 (s.set (a := .v v) r1 (fun _ e => by cases e) i)
          exact go is vs ds se e rs s
        · cases z
      | _ => cases z
    | _ => cases z
theorem St.bindU (s : St VK K r b h F se e q) {x : V} {d : D} {is : List Nat} {se1 : VEnv} (p : Rep h F x d) (z : VI.bindV (.tp is) (.v x) se = some se1) :
    ∃ e1, bindT (.tp is) d e = some e1 ∧ St VK K r b h F se1 e1 q := by
  cases x with
  | tup vs =>
    have z : (if is.length = vs.length then some ((is.zip vs).foldl (fun e p => e.set p.1 (some (.v p.2))) se) else none) = some se1 := z
    split at z
    · rename_i hl
      cases z
      obtain ⟨ds, rfl, rs⟩ := p
      refine ⟨_, if_pos (by rw [rs.length]; exact hl), ?_⟩
      clear hl
      have go : ∀ (is : List Nat) (vs : List V) (ds : List D) (se : VEnv) (e : PI.Env), Reps h F vs ds → St VK K r b h F se e q → St VK K r b h F ((is.zip vs).foldl (fun e p => e.set p.1 (some (.v p.2))) se) ((is.zip ds).foldl (fun e p => e.set p.1 (some p.2)) e) q := by
        intro is
        induction is with
        | nil => exact fun _ _ _ _ _ s => s
        | cons i is ih =>
          intro vs ds se e rs s
          cases vs with
          | nil => cases rs; exact s
          | cons v vs =>
            obtain ⟨d, ds, rfl, r1, r2⟩ := rs
            exact ih vs ds _ _ r2 (s.set (a := .v v) r1 (fun _ e => by cases e) i)
      exact go is vs ds se e rs s
    · cases z
  | _ => cases z
end
/-! ### coercions -/
section
variable {r : Option Nat} {h : HP} {F : Fz}
theorem SR.ok_inv {α β : Type} {R : HP → Fz → α → β → Prop} {a : α} {q : Q} {s : Res β} (x : SR r h F R (.ok a q) s) : ∃ d h' F', s = .ok d h' ∧ Ex r h.length h F h' F' ∧ (∀ k, F' k → k < h'.length) ∧ Dq r h' F' q ∧ R h' F' a d := x
theorem sr_pk {n : Nat} {x : RV A} {y : Res D} (p : SR r h F (RA r n) x y) : SR r h F (Pk r) (pk x) y := by
  cases x with
  | ok a q =>
    obtain ⟨d, h', F', e, x, bd, dq, ra⟩ := p
    show SR r h F (Pk r) (match a.peek with | some x => .ok x q | none => .stuck) y
    cases w : a.peek with
    | none => exact trivial
    | some v => exact ⟨d, h', F', e, x, bd, dq, ra.pk w⟩
  | exc c v q => exact p
  | stuck => exact trivial
theorem sr_pkQ {n : Nat} {x : RV A} {y : Res D} (p : SR r h F (RA r n) x y) : SR r h F Pq (pkQ x) y := by
  cases x with
  | ok a q =>
    obtain ⟨d, h', F', e, x, bd, dq, ra⟩ := p
    cases a with
    | dr =>
      obtain ⟨k, rfl, rfl⟩ := ra
      obtain ⟨vs, ds, rfl, g, rs, _⟩ := dq k rfl
      exact ⟨_, h', F', e, x, bd, dq, .inr ⟨k, ds, vs, rfl, rfl, g, rs⟩⟩
    | v v => exact ⟨d, h', F', e, x, bd, dq, .inl ra⟩
    | own vs => exact ⟨d, h', F', e, x, bd, dq, (ra.pk (x := .lst vs) rfl).q⟩
    | bor vs => exact ⟨d, h', F', e, x, bd, dq, (ra.pk (x := .lst vs) rfl).q⟩
  | exc c v q => exact p
  | stuck => exact trivial
theorem sr_tk {x : RV A} {y : Res D} (p : SR r h F (RA r h.length) x y) : SR r h F Rep (tk x) y := by
  cases x with
  | ok a q =>
    obtain ⟨d, h', F', e, x, bd, dq, ra⟩ := p
    cases a with
    | dr => exact trivial
    | bor _ => exact trivial
    | v v => exact ⟨d, h', F', e, x, bd, dq, ra⟩
    | own vs =>
      obtain ⟨k, ds, rfl, l, nr, nf, g, rs⟩ := ra
      obtain ⟨F2, x2, bd2, dq2, rp, _⟩ := frz_place l nr g rs bd dq
      exact ⟨_, h', F2, e, x.trans x2, bd2, dq2, rp⟩
  | exc c v q => exact p
  | stuck => exact trivial
theorem sr_pt {l : Bool} {x : RV A} {y : Res D} (p : SR r h F (RA r h.length) x y) : SR r h F (PT l r) (pt l x) y := by
  cases l with
  | true => exact sr_tk p
  | false => exact sr_pk p
theorem sr_tst {n : Nat} {x : RV A} {y : Res D} (p : SR r h F (RA r n) x y) : SR r h F (fun _ _ (u w : Bool) => u = w) (tstV x) (tstR y) := by
  refine SR.bind (sr_pkQ p) fun u d h' F' q e bd dq pq => ?_
  cases w : truthV u with
  | none => exact trivial
  | some k =>
    rw [op_truthV pq w]
    exact .pure bd dq rfl
theorem sr_fin {n : Nat} {t : Bool} {x : RV A} {y : Res D} (p : SR r h F (RA r n) x y) : SR r h F (RA r n) (finV t x) (fin t y) := by
  cases t with
  | false => exact p
  | true =>
    refine SR.bind (sr_tst p) fun u d h' F' q e bd dq eq => ?_
    subst eq
    exact .pure bd dq rfl
theorem sr_asB {n : Nat} {x : RV A} {y : Res D} (p : SR r h F (RA r n) x y) : SR r h F (fun _ _ (u w : Bool) => u = w) (asBV x) (asB y) := by
  refine SR.bind p fun u d h' F' q e bd dq ra => ?_
  cases u with
  | v x =>
    cases x with
    | bl b => cases ra; exact .pure bd dq rfl
    | _ => exact trivial
  | _ => exact trivial
theorem sr_agF {x : RV A} {y : Res D} (p : SR r h F (RA r h.length) x y) : SR r h F (fun h F => AR r (Rep h F)) (ag false x) y := by
  cases x with
  | ok a q =>
    obtain ⟨d, h', F', e, x, bd, dq, ra⟩ := p
    cases a with
    | dr => exact ⟨d, h', F', e, x, bd, dq, ra⟩
    | bor _ => exact trivial
    | v v => exact ⟨d, h', F', e, x, bd, dq, ra⟩
    | own vs =>
      obtain ⟨k, ds, rfl, l, nr, nf, g, rs⟩ := ra
      obtain ⟨F2, x2, bd2, dq2, rp, _⟩ := frz_place l nr g rs bd dq
      exact ⟨_, h', F2, e, x.trans x2, bd2, dq2, rp⟩
  | exc c v q => exact p
  | stuck => exact trivial
theorem sr_agT {n : Nat} {x : RV A} {y : Res D} (p : SR r h F (RA r n) x y) : SR r h F (fun h F => AR r (Pk r h F)) (ag true x) y := by
  cases x with
  | ok a q =>
    obtain ⟨d, h', F', e, x, bd, dq, ra⟩ := p
    cases a with
    | dr => exact ⟨d, h', F', e, x, bd, dq, ra⟩
    | bor vs => exact ⟨d, h', F', e, x, bd, dq, ra.pk (x := .lst vs) rfl⟩
    | v v => exact ⟨d, h', F', e, x, bd, dq, .inl ra⟩
    | own vs => exact ⟨d, h', F', e, x, bd, dq, ra.pk (x := .lst vs) rfl⟩
  | exc c v q => exact p
  | stuck => exact trivial
/-- a loan: what is looked at stands frozen while the call runs -/
theorem loan {q : Q} (bd : ∀ k, F k → k < h.length) (dq : Dq r h F q) : ∀ {as : List A} {ds : List D}, ARs r (Pk r h F) as ds → ∃ F1 : Fz, (∀ k, F k → F1 k) ∧ (∀ k, F1 k → k < h.length) ∧ (∀ k, r = some k → ¬ F1 k) ∧ ARs r (Rep h F1) as ds
  | [], _, p => ⟨F, fun _ f => f, bd, fun k e => by obtain ⟨_, _, _, _, _, n, _⟩ := dq k e; exact n, p⟩
  | a :: as, _, ⟨d, ds, rfl, p1, p2⟩ => by
    obtain ⟨F1, m1, b1, n1, r1⟩ := loan bd dq p2
    cases a with
    | own _ => exact p1.elim
    | bor _ => exact p1.elim
    | dr => exact ⟨F1, m1, b1, n1, d, ds, rfl, p1, r1⟩
    | v x =>
      rcases p1 with p1 | ⟨k, es, vs, rfl, rfl, nr, g, rs⟩
      · exact ⟨F1, m1, b1, n1, d, ds, rfl, p1.mono fun k f => ⟨m1 k f, rfl⟩, r1⟩
      · refine ⟨fun j => F1 j ∨ j = k, fun j f => .inl (m1 j f), ?_, ?_, _, ds, rfl, ⟨k, es, rfl, .inr rfl, g, rs.mono fun j f => ⟨.inl (m1 j f), rfl⟩⟩, r1.imp fun x d p => p.mono fun j f => ⟨.inl f, rfl⟩⟩
        · rintro j (f | rfl)
          · exact b1 j f
          · exact get_lt g
        · rintro j e (f | rfl)
          · exact n1 j e f
          · exact nr e.symm
theorem sr_loan {VC : Nat → List A → Q → RV A} {C : Nat → List D → HP → Res D} (cs : CS VC C) {n f : Nat} {as : List A} {ds : List D} {q : Q} (bd : ∀ k, F k → k < h.length) (dq : Dq r h F q) (p : ARs r (Pk r h F) as ds) :
    SR r h F (RA r n) (gr true (VC f as q)) (C f ds h) := by
  obtain ⟨F1, m1, b1, n1, r1⟩ := loan bd dq p
  have dq1 : Dq r h F1 q := fun k e => by
    obtain ⟨vs, es, e1, e2, e3, e4, e5⟩ := dq k e
    exact ⟨vs, es, e1, e2, e3.mono fun j f => ⟨m1 j f, rfl⟩, n1 k e, e5⟩
  have c := cs r h F1 f as ds q b1 dq1 r1
  have back : ∀ {h2 : HP} {F2 : Fz} {q2 : Q}, Ex r h.length h F1 h2 F2 → Dq r h2 F2 q2 → Ex r h.length h F h2 F ∧ (∀ k, F k → k < h2.length) ∧ Dq r h2 F q2 := fun {h2 F2 q2} x d2 => by
    refine ⟨⟨x.le, x.keep, fun _ _ => Iff.rfl, fun k f => ⟨f, (x.mono k (m1 k f)).2⟩⟩, fun k f => Nat.lt_of_lt_of_le (bd k f) x.le, fun k e => ?_⟩
    obtain ⟨vs, es, e1, e2, e3, e4, e5⟩ := d2 k e
    exact ⟨vs, es, e1, e2, e3.ground e5, fun f => n1 k e (m1 k f), e5⟩
  cases w : VC f as q with
  | ok a q2 =>
    rw [w] at c
    obtain ⟨d, h2, F2, e, x, bd2, dq2, ra⟩ := c
    cases a with
    | v v =>
      show SR r h F (RA r n) (if noL v then _ else _) _
      split
      · rename_i nl
        obtain ⟨x2, bd3, dq3⟩ := back x dq2
        exact ⟨d, h2, F, e, x2, bd3, dq3, Rep.ground nl ra⟩
      · exact trivial
    | _ => exact trivial
  | exc c' v q2 =>
    rw [w] at c
    obtain ⟨d, h2, F2, e, x, bd2, dq2, ra⟩ := c
    show SR r h F (RA r n) (if noL v then _ else _) _
    split
    · rename_i nl
      obtain ⟨x2, bd3, dq3⟩ := back x dq2
      exact ⟨d, h2, F, e, x2, bd3, dq3, Rep.ground nl ra⟩
    · exact trivial
  | stuck => exact trivial
end
end VI

set_option Elab.async false
set_option linter.all false
set_option maxRecDepth 100000
set_option maxHeartbeats 4000000
/-! All expressions are sound. -/
namespace VI
open PySem PI
def SE (c : E) : Prop := ∀ (VK : VCx) (K : Cx) (r : Option Nat) (b : Nat) (t : Bool) (se : VEnv) (e : PI.Env) (q : Q) (h : HP) (F : Fz), KR VK K → St VK K r b h F se e q → SR r h F (RA r h.length) (vev VK c t se q) (ev K c t e h)
def STs (c : Es) : Prop := ∀ (VK : VCx) (K : Cx) (r : Option Nat) (b : Nat) (se : VEnv) (e : PI.Env) (q : Q) (h : HP) (F : Fz), KR VK K → St VK K r b h F se e q → SR r h F Reps (vevTs VK c se q) (evEs K c e h)
/-- the last is looked at at once -/
def PsR (r : Option Nat) (h : HP) (F : Fz) : List V → List D → Prop
  | [], ds => ds = []
  | [x], ds => ∃ d, ds = [d] ∧ Pq h F x d
  | x :: y :: xs, ds => ∃ d es, ds = d :: es ∧ Pk r h F x d ∧ PsR r h F (y :: xs) es
def SPs (c : Es) : Prop := ∀ (VK : VCx) (K : Cx) (r : Option Nat) (b : Nat) (se : VEnv) (e : PI.Env) (q : Q) (h : HP) (F : Fz), KR VK K → St VK K r b h F se e q → SR r h F (PsR r) (vevPs VK c se q) (evEs K c e h)
def SAs (c : Es) : Prop := ∀ (VK : VCx) (K : Cx) (r : Option Nat) (b : Nat) (l : Bool) (se : VEnv) (e : PI.Env) (q : Q) (h : HP) (F : Fz), KR VK K → St VK K r b h F se e q → SR r h F (fun h F => ARs r (if l then Pk r h F else Rep h F)) (vevAs VK l c se q) (evEs K c e h)
def SBs (c : Es) : Prop := ∀ (VK : VCx) (K : Cx) (r : Option Nat) (b : Nat) (k t : Bool) (se : VEnv) (e : PI.Env) (q : Q) (h : HP) (F : Fz), KR VK K → St VK K r b h F se e q → SR r h F (RA r h.length) (vevBs VK k t c se q) (evBs K k t c e h)
def SO (c : OE) : Prop := ∀ (VK : VCx) (K : Cx) (r : Option Nat) (b : Nat) (se : VEnv) (e : PI.Env) (q : Q) (h : HP) (F : Fz), KR VK K → St VK K r b h F se e q → SR r h F (fun _ _ (x y : Option Int) => x = y) (vevO VK c se q) (evO K c e h)
def SC (c : OE) : Prop := ∀ (VK : VCx) (K : Cx) (r : Option Nat) (b : Nat) (se : VEnv) (e : PI.Env) (q : Q) (h : HP) (F : Fz), KR VK K → St VK K r b h F se e q → SR r h F (fun _ _ (x y : Bool) => x = y) (vevC VK c se q) (evC K c e h)
def SI (c : It) : Prop := ∀ (VK : VCx) (K : Cx) (r : Option Nat) (b : Nat) (l : Bool) (se : VEnv) (e : PI.Env) (q : Q) (h : HP) (F : Fz), KR VK K → St VK K r b h F se e q → SR r h F (fun h F vs J => RI l r h F vs J ∧ vs.length < 1000000000000) (vevIt VK l c se q) (evIt K c e h)
section
variable {r : Option Nat} {h : HP} {F : Fz}
theorem SR.weakRA {n m : Nat} {x : RV A} {y : Res D} (p : SR r h F (RA r n) x y) (l : m ≤ n) : SR r h F (RA r m) x y := p.imp fun _ _ _ _ _ ra => ra.weak l
theorem se_var (i : Nat) : SE (.var i) := fun VK K r b t se e q h F kr s => by
  refine sr_fin ?_
  cases w : se[i]? with
  | none => exact trivial
  | some o => cases o with
    | none => exact trivial
    | some a =>
      obtain ⟨d, e1, p⟩ := s.as i a w
      show SR r h F (RA r h.length) _ (match e[i]? with | some (some d) => .ok d h | _ => .stuck)
      rw [e1]
      cases a with
      | v x => exact .pure s.bd s.dq p
      | own vs =>
        obtain ⟨k, ds, rfl, l, nr, nf, g, rs⟩ := p
        exact .pure (a := A.bor vs) s.bd s.dq ⟨k, ds, rfl, nr, nf, g, rs⟩
      | bor vs => exact p.elim
      | dr => exact .pure (a := A.dr) s.bd s.dq p
theorem se_bin {op : BOp} {a c : E} (ia : SE a) (ic : SE c) : SE (.bin op a c) := fun VK K r b t se e q h F kr s => by
  refine sr_fin (SR.bind (sr_pk (ia VK K r b false se e q h F kr s)) fun x d h1 F1 q1 e1 bd1 dq1 p1 => ?_)
  refine SR.bind (sr_pk (ic VK K r b false se e q1 h1 F1 kr (s.ex e1 bd1 dq1))) fun y d2 h2 F2 q2 e2 bd2 dq2 p2 => ?_
  exact op_binV op bd2 dq2 (Nat.le_trans e1.le e2.le) (p1.ex e2) p2
theorem se_neg {a : E} (ia : SE a) : SE (.neg a) := fun VK K r b t se e q h F kr s => by
  refine sr_fin (SR.bind (sr_pk (ia VK K r b false se e q h F kr s)) fun x d h1 F1 q1 e1 bd1 dq1 p1 => ?_)
  cases x with
  | int i => cases p1.int; exact .pure bd1 dq1 rfl
  | _ => exact trivial
theorem se_not {a : E} (ia : SE a) : SE (.not a) := fun VK K r b t se e q h F kr s => by
  have z : SR r h F (fun _ _ (u w : Bool) => u = w) (if t then asBV (vev VK a true se q) else tstV (vev VK a false se q)) (if t then asB (ev K a true e h) else tstR (ev K a false e h)) := by
    cases t with
    | true => exact sr_asB (ia VK K r b true se e q h F kr s)
    | false => exact sr_tst (ia VK K r b false se e q h F kr s)
  refine SR.bind z fun x d h1 F1 q1 e1 bd1 dq1 p1 => ?_
  subst p1
  exact .pure bd1 dq1 rfl
theorem sr_ofO {n : Nat} {o : Option Bool} {o2 : Option Bool} {q : Q} (bd : ∀ k, F k → k < h.length) (dq : Dq r h F q) (i : ∀ k, o = some k → o2 = some k) : SR r h F (RA r n) (ofOV o q) (ofO o2 h) := by
  cases o with
  | none => exact trivial
  | some k => rw [i k rfl]; exact .pure bd dq rfl
theorem sr_ofB {o : Option Bool} {o2 : Option Bool} {q : Q} (bd : ∀ k, F k → k < h.length) (dq : Dq r h F q) (i : ∀ k, o = some k → o2 = some k) : SR r h F (fun _ _ (u w : Bool) => u = w) (ofBV o q) (ofB o2 h) := by
  cases o with
  | none => exact trivial
  | some k => rw [i k rfl]; exact .pure bd dq rfl
theorem se_cmp {op : COp} {a c : E} (ia : SE a) (ic : SE c) : SE (.cmp op a c) := fun VK K r b t se e q h F kr s => by
  refine sr_fin (SR.bind (sr_pk (ia VK K r b false se e q h F kr s)) fun x d h1 F1 q1 e1 bd1 dq1 p1 => ?_)
  refine SR.bind (sr_pk (ic VK K r b false se e q1 h1 F1 kr (s.ex e1 bd1 dq1))) fun y d2 h2 F2 q2 e2 bd2 dq2 p2 => ?_
  exact sr_ofO bd2 dq2 fun k w => op_cmpV op (p1.ex e2).q p2.q w
theorem se_chain {o1 o2 : COp} {a c d : E} (ia : SE a) (ic : SE c) (id : SE d) : SE (.chain o1 o2 a c d) := fun VK K r b t se e q h F kr s => by
  refine sr_fin (SR.bind (sr_pk (ia VK K r b false se e q h F kr s)) fun x d h1 F1 q1 e1 bd1 dq1 p1 => ?_)
  have s1 := s.ex e1 bd1 dq1
  refine SR.bind (sr_pk (ic VK K r b false se e q1 h1 F1 kr s1)) fun y d2 h2 F2 q2 e2 bd2 dq2 p2 => ?_
  have s2 := s1.ex e2 bd2 dq2
  refine SR.bind (sr_ofB bd2 dq2 fun k w => op_cmpV o1 (p1.ex e2).q p2.q w) fun k k2 h3 F3 q3 e3 bd3 dq3 p3 => ?_
  subst p3
  have s3 := s2.ex e3 bd3 dq3
  cases k with
  | false => exact .pure bd3 dq3 rfl
  | true =>
    refine SR.bind (sr_pk (id VK K r b false se e q3 h3 F3 kr s3)) fun z d4 h4 F4 q4 e4 bd4 dq4 p4 => ?_
    exact sr_ofO bd4 dq4 fun k w => op_cmpV o2 ((p2.ex e3).ex e4).q p4.q w
theorem se_ife {c a d : E} (ic : SE c) (ia : SE a) (id : SE d) : SE (.ife c a d) := fun VK K r b t se e q h F kr s => by
  refine SR.bind (sr_asB (ic VK K r b true se e q h F kr s)) fun k k2 h1 F1 q1 e1 bd1 dq1 p1 => ?_
  subst p1
  have s1 := s.ex e1 bd1 dq1
  cases k with
  | true => exact (ia VK K r b t se e q1 h1 F1 kr s1).weakRA e1.le
  | false => exact (id VK K r b t se e q1 h1 F1 kr s1).weakRA e1.le
theorem se_boo {k : Bool} {es : Es} (i : SBs es) : SE (.boo k es) := fun VK K r b t se e q h F kr s => i VK K r b k t se e q h F kr s
theorem se_tup {es : Es} (i : STs es) : SE (.tup es) := fun VK K r b t se e q h F kr s => by
  refine sr_fin (SR.bind (i VK K r b se e q h F kr s) fun xs ds h1 F1 q1 e1 bd1 dq1 p1 => ?_)
  show SR r h1 F1 (RA r h.length) (if _ then _ else _) (if _ then _ else _)
  rw [p1.length]
  split
  · exact .pure bd1 dq1 ⟨ds, rfl, p1⟩
  · exact trivial
theorem se_lst {es : Es} (i : STs es) : SE (.lst es) := fun VK K r b t se e q h F kr s => by
  refine sr_fin (SR.bind (i VK K r b se e q h F kr s) fun xs ds h1 F1 q1 e1 bd1 dq1 p1 => ?_)
  show SR r h1 F1 (RA r h.length) (if _ then _ else _) (if _ then _ else _)
  rw [p1.length]
  split
  · exact .newL bd1 dq1 e1.le p1
  · exact trivial
theorem XR.some {x : Option (Nat × V)} {y : Option (Nat × D)} (p : XR h F x y) : y.isSome = x.isSome := by
  cases x with
  | none => cases p; rfl
  | some z => obtain ⟨d, rfl, _⟩ := p; rfl
theorem se_call {f : Nat} {es : Es} (i : SAs es) : SE (.call f es) := fun VK K r b t se e q h F kr s => by
  refine sr_fin ?_
  show SR r h F (RA r h.length) (if VK.x.isSome then _ else _) (if K.x.isSome then _ else _)
  rw [s.x.some]
  split
  · exact trivial
  · refine SR.bind (i VK K r b (VK.g f) se e q h F kr s) fun as ds h1 F1 q1 e1 bd1 dq1 p1 => ?_
    cases w : VK.g f with
    | false =>
      rw [w] at p1
      exact (kr.C r h1 F1 f as ds q1 bd1 dq1 p1).weakRA e1.le
    | true =>
      rw [w] at p1
      exact sr_loan kr.C bd1 dq1 p1
theorem PsR.one {x : V} {ds : List D} (p : PsR r h F [x] ds) : ∃ d, ds = [d] ∧ Pq h F x d := p
theorem se_bi {bi : BI} {es : Es} (i : SPs es) : SE (.bi bi es) := fun VK K r b t se e q h F kr s => by
  refine sr_fin (SR.bind (i VK K r b se e q h F kr s) fun xs ds h1 F1 q1 e1 bd1 dq1 p1 => ?_)
  match xs, p1 with
  | [], _ => exact trivial
  | [x], p1 =>
    obtain ⟨d, rfl, p⟩ := p1
    exact op_bi1V bi bd1 dq1 e1.le p
  | [x, y], p1 =>
    obtain ⟨d, es, rfl, p, d2, rfl, p2⟩ := p1
    cases x with
    | int i =>
      cases p.int
      cases y with
      | int j =>
        have : d2 = .int j := by
          rcases p2 with p2 | ⟨_, _, _, w, _⟩
          · exact p2
          · cases w
        subst this
        exact op_bi2V bi bd1 dq1
      | _ => exact trivial
    | _ => exact trivial
  | _ :: _ :: _ :: _, _ => exact trivial
theorem se_isin {a : E} {ts : List Ty} {k : Bool} (ia : SE a) : SE (.isin a ts k) := fun VK K r b t se e q h F kr s => by
  refine sr_fin (SR.bind (sr_pkQ (ia VK K r b false se e q h F kr s)) fun x d h1 F1 q1 e1 bd1 dq1 p1 => ?_)
  show SR r h1 F1 (RA r h.length) _ (match tyD h1 d with | some tt => _ | none => _)
  rw [op_tyV p1]
  exact .pure bd1 dq1 rfl
theorem se_ix {a c : E} (ia : SE a) (ic : SE c) : SE (.ix a c) := fun VK K r b t se e q h F kr s => by
  refine sr_fin (SR.bind (sr_pk (ia VK K r b false se e q h F kr s)) fun x d h1 F1 q1 e1 bd1 dq1 p1 => ?_)
  refine SR.bind (sr_pk (ic VK K r b false se e q1 h1 F1 kr (s.ex e1 bd1 dq1))) fun y d2 h2 F2 q2 e2 bd2 dq2 p2 => ?_
  show SR r h2 F2 (RA r h.length) (match ixV x y with | some d => _ | none => _) (match ixD h2 d d2 with | some d => _ | none => _)
  cases w : ixV x y with
  | none => exact trivial
  | some v =>
    obtain ⟨d3, w2, p3⟩ := op_ixV (p1.ex e2).q p2.q w
    rw [w2]
    exact .pure bd2 dq2 p3
theorem se_sl {a : E} {lo hi : OE} (ia : SE a) (il : SO lo) (ih : SO hi) : SE (.sl a lo hi) := fun VK K r b t se e q h F kr s => by
  refine sr_fin (SR.bind (sr_pk (ia VK K r b false se e q h F kr s)) fun x d h1 F1 q1 e1 bd1 dq1 p1 => ?_)
  have s1 := s.ex e1 bd1 dq1
  refine SR.bind (il VK K r b se e q1 h1 F1 kr s1) fun l l2 h2 F2 q2 e2 bd2 dq2 p2 => ?_
  subst p2
  have s2 := s1.ex e2 bd2 dq2
  refine SR.bind (ih VK K r b se e q2 h2 F2 kr s2) fun u u2 h3 F3 q3 e3 bd3 dq3 p3 => ?_
  subst p3
  exact op_slV bd3 dq3 (Nat.le_trans e1.le (Nat.le_trans e2.le e3.le)) ((p1.ex e2).ex e3)
theorem se_meth {m : Mt} {o : E} {es : Es} (io : SE o) (i : STs es) : SE (.meth m o es) := fun VK K r b t se e q h F kr s => by
  refine sr_fin (SR.bind (io VK K r b false se e q h F kr s) fun a d h1 F1 q1 e1 bd1 dq1 p1 => ?_)
  cases a with
  | dr =>
    obtain ⟨k, rfl, rfl⟩ := p1
    have s1 := s.ex e1 bd1 dq1
    obtain ⟨vs, ds, rfl, g, rs, nf, nl⟩ := dq1 k rfl
    have il : isLst h1 (.ref k) = true := by simp [isLst, g]
    show SR (some k) h1 F1 (RA (some k) h.length) _ (if isLst h1 (.ref k) then _ else _)
    rw [il]
    refine SR.bind (i VK K (some k) b se e _ h1 F1 kr s1) fun xs es2 h2 F2 q2 e2 bd2 dq2 p2 => ?_
    obtain ⟨vs2, ds2, rfl, g2, rs2, nf2, nl2⟩ := dq2 k rfl
    show SR (some k) h2 F2 (RA (some k) h.length) (match mtV m vs2 xs with | some (d, ds2) => _ | none => _) (match h2[k]? with | some (.lst ds) => _ | _ => _)
    rw [g2]
    cases w : mtV m vs2 xs with
    | none => exact trivial
    | some z =>
      obtain ⟨v, vs3⟩ := z
      obtain ⟨d3, ds3, w3, p3, rs3⟩ := op_mtV m rs2 p2 w
      show SR (some k) h2 F2 (RA (some k) h.length) (if noLs vs3 then _ else _) (match mtL m ds2 es2 with | some (d, es) => _ | none => _)
      rw [w3]
      split
      · rename_i nl3
        have mono : ∀ j, F2 j → F2 j ∧ (h2.set k (.lst ds3))[j]? = h2[j]? := fun j f => ⟨f, List.getElem?_set_ne fun z => nf2 (by rw [z]; exact f)⟩
        refine ⟨d3, h2.set k (.lst ds3), F2, rfl, ⟨by simp, fun j _ n => List.getElem?_set_ne fun z => n (by rw [z]), fun _ _ => Iff.rfl, mono⟩, by simpa using bd2, fun j e => ?_, p3.mono mono⟩
        cases e
        exact ⟨vs3, ds3, rfl, List.getElem?_set_self (get_lt g2), rs3.mono mono, nf2, nl3⟩
      · exact trivial
  | _ => exact trivial
theorem op_lrgV {n : Nat} {tp : Bool} {i j : Int} {q : Q} (bd : ∀ k, F k → k < h.length) (dq : Dq r h F q) (l : n ≤ h.length) : SR r h F (RA r n) (lrgV tp i j q) (lrgD tp i j h) := by
  unfold lrgV lrgD
  split
  · cases tp with
    | true => exact .pure bd dq ⟨_, rfl, reps_rng i j⟩
    | false => exact .newL bd dq l (reps_rng i j)
  · exact trivial
theorem se_lrg1 {tp : Bool} {a : E} (ia : SE a) : SE (.lrg1 tp a) := fun VK K r b t se e q h F kr s => by
  refine sr_fin (SR.bind (sr_pk (ia VK K r b false se e q h F kr s)) fun x d h1 F1 q1 e1 bd1 dq1 p1 => ?_)
  cases x with
  | int i => cases p1.int; exact op_lrgV bd1 dq1 e1.le
  | _ => exact trivial
theorem se_lrg2 {tp : Bool} {a c : E} (ia : SE a) (ic : SE c) : SE (.lrg2 tp a c) := fun VK K r b t se e q h F kr s => by
  refine sr_fin (SR.bind (sr_pk (ia VK K r b false se e q h F kr s)) fun x d h1 F1 q1 e1 bd1 dq1 p1 => ?_)
  refine SR.bind (sr_pk (ic VK K r b false se e q1 h1 F1 kr (s.ex e1 bd1 dq1))) fun y d2 h2 F2 q2 e2 bd2 dq2 p2 => ?_
  cases x with
  | int i =>
    cases (p1.ex e2).int
    cases y with
    | int j => cases p2.int; exact op_lrgV bd2 dq2 (Nat.le_trans e1.le e2.le)
    | _ => exact trivial
  | _ => exact trivial
theorem reps_rng3 {h : HP} {F : Fz} (i j c : Int) : Reps h F (rng3V i j c) (rng3L i j c) := by
  refine .of_get (by simp [rng3V, rng3L]) fun k x d a b => ?_
  unfold rng3L at b
  unfold rng3V at a
  rw [List.getElem?_map] at a b
  cases w : (List.range (rgN i j c))[k]? with
  | none => rw [w] at a; cases a
  | some m => rw [w] at a b; cases a; cases b; exact rfl
theorem se_lrg3 {tp : Bool} {es : Es} (ia : STs es) : SE (.lrg3 tp es) := fun VK K r b t se e q h F kr s => by
  refine sr_fin (SR.bind (ia VK K r b se e q h F kr s) fun xs ds h1 F1 q1 e1 bd1 dq1 p1 => ?_)
  unfold lrgV3
  split
  · rename_i i j c
    obtain ⟨d1, r1, rfl, a1, p1⟩ := p1
    obtain ⟨d2, r2, rfl, a2, p1⟩ := p1
    obtain ⟨d3, r3, rfl, a3, p1⟩ := p1
    cases a1
    cases a2
    cases a3
    cases p1
    unfold lrgR3
    simp only
    split
    · cases tp with
      | true => exact .pure bd1 dq1 ⟨_, rfl, reps_rng3 i j c⟩
      | false => exact .newL bd1 dq1 e1.le (reps_rng3 i j c)
    · exact trivial
  · exact trivial
theorem se_xfld : SE .xfld := fun VK K r b t se e q h F kr s => by
  refine sr_fin ?_
  have x := s.x
  cases w : VK.x with
  | none => exact trivial
  | some z =>
    rw [w] at x
    obtain ⟨c, v⟩ := z
    obtain ⟨d, e1, p⟩ := x
    show SR r h F (RA r h.length) _ (match K.x with | some (_, d) => .ok d h | none => .stuck)
    rw [e1]
    exact .pure (a := A.v v) s.bd s.dq p
theorem se_xis {cs : List Nat} {k : Bool} : SE (.xis cs k) := fun VK K r b t se e q h F kr s => by
  refine sr_fin ?_
  have x := s.x
  cases w : VK.x with
  | none => exact trivial
  | some z =>
    rw [w] at x
    obtain ⟨c, v⟩ := z
    obtain ⟨d, e1, p⟩ := x
    show SR r h F (RA r h.length) _ (match K.x with | some (c, _) => .ok (.bl (cs.any (K.sub c))) h | none => .stuck)
    rw [e1]
    have sb := kr.sub
    show SR r h F (RA r h.length) (.ok (.v (.bl (cs.any (VK.sub c)))) q) (.ok (.bl (cs.any (K.sub c))) h)
    rw [sb]
    exact .pure s.bd s.dq rfl
/-- a comprehension's turns -/
theorem comp_sound {VK : VCx} {K : Cx} {b : Nat} {t : Tgt} {se : VEnv} {e : PI.Env} {ds : List D} {J : Itr} {vstep : VEnv → Q → RV (Option V)} {step : PI.Env → HP → Res (Option D)}
    (st : ∀ (se1 : VEnv) (e1 : PI.Env) q h F, St VK K r b h F se1 e1 q → SR r h F (fun h F (x : Option V) y => match x with | none => y = none | some v => ∃ d, y = some d ∧ Rep h F v d) (vstep se1 q) (step e1 h)) (us : List V) :
    ∀ (vs : List V) (i n : Nat) (acc : List V) (accD : List D) (q : Q) (h : HP) (F : Fz), us.drop i = vs → i ≤ us.length → vs.length < n → Reps h F us ds → (∀ h', (∀ k, k < h.length → some k ≠ r → h'[k]? = h[k]?) → Src J ds h') → Reps h F acc accD → St VK K r b h F se e q →
      SR r h F Reps (compV t se vstep vs acc q) (compI J t e step n i accD h)
  | [], i, 0, _, _, _, _, _, _, _, l, _, _, _, _ => by simp at l
  | _ :: _, i, 0, _, _, _, _, _, _, _, l, _, _, _, _ => by simp at l
  | [], i, n + 1, acc, accD, q, h, F, dr, il, l, rs, src, ra, s => by
    have e1 := src h (fun _ _ _ => rfl) i
    have nn : ds[i]? = none := rs.none (by
      rw [List.getElem?_eq_none_iff]
      exact List.drop_eq_nil_iff.mp dr)
    unfold compI
    rw [e1, nn]
    exact .pure s.bd s.dq ra
  | v :: vs, i, n + 1, acc, accD, q, h, F, dr, il, l, rs, src, ra, s => by
    have e1 := src h (fun _ _ _ => rfl) i
    have gv : us[i]? = some v := by
      have := congrArg (fun l => l[0]?) dr
      simpa using this
    have dr2 : us.drop (i + 1) = vs := by
      have := congrArg List.tail dr
      simpa using this
    obtain ⟨d, gd, rd⟩ := rs.get gv
    unfold compI
    rw [e1, gd]
    unfold compV
    cases w : VI.bindV t (.v v) se with
    | none => exact trivial
    | some se1 =>
      obtain ⟨e2, w2, s2⟩ := s.bindV (a := .v v) (n := h.length) (show RA r h.length h F (.v v) d from rd) s.bl (fun j us k z1 z2 => s.own_lt z1 z2) w
      simp only [w2]
      have z := st se1 e2 q h F s2
      cases y : vstep se1 q with
      | exc _ _ _ => exact trivial
      | stuck => exact trivial
      | ok x q2 =>
        rw [y] at z
        obtain ⟨o, h2, F2, y2, ex, bd2, dq2, rx⟩ := z
        have s3 := s.ex ex bd2 dq2
        have src2 : ∀ h', (∀ k, k < h2.length → some k ≠ r → h'[k]? = h2[k]?) → Src J ds h' := fun h' f => src h' fun k lk nk => (f k (Nat.lt_of_lt_of_le lk ex.le) nk).trans (ex.keep k lk nk)
        have il2 : i + 1 ≤ us.length := get_lt2 gv
        have fin : ∀ {x : RV (List V)} {y : Res (List D)}, SR r h2 F2 Reps x y → SR r h F Reps x y := fun {x y} p => by
          cases x with
          | ok a q =>
            obtain ⟨d, h3, F3, e, x3, p⟩ := p
            exact ⟨d, h3, F3, e, ex.tr x3, p⟩
          | exc c v q =>
            obtain ⟨d, h3, F3, e, x3, p⟩ := p
            exact ⟨d, h3, F3, e, ex.tr x3, p⟩
          | stuck => exact trivial
        rw [y2]
        cases x with
        | none =>
          cases rx
          exact fin (comp_sound st us vs (i + 1) n acc accD q2 h2 F2 dr2 il2 (by simp at l; omega) (ex.reps rs) src2 (ex.reps ra) s3)
        | some x =>
          obtain ⟨dx, rfl, rx⟩ := rx
          show SR r h F Reps (if _ then _ else _) (if _ then _ else _)
          rw [ra.length]
          split
          · exact fin (comp_sound st us vs (i + 1) n (acc ++ [x]) (accD ++ [dx]) q2 h2 F2 dr2 il2 (by simp at l; omega) (ex.reps rs) src2 ((ex.reps ra).append (.cons rx .nil)) s3)
          · exact trivial
where get_lt2 {α : Type} {l : List α} {i : Nat} {x : α} (e : l[i]? = some x) : i + 1 ≤ l.length := (List.getElem?_eq_some_iff.mp e).1
theorem sr_wlk {l : Bool} {x : RV (List V)} {y : Res Itr} (p : SR r h F (RI l r) x y) : SR r h F (fun h F vs J => RI l r h F vs J ∧ vs.length < 1000000000000) (x.bind wlk) y := by
  cases x with
  | ok a q =>
    obtain ⟨d, h', F', e, x, bd, dq, ra⟩ := p
    show SR r h F _ (if _ then _ else _) _
    split
    · exact ⟨d, h', F', e, x, bd, dq, ra, ‹_›⟩
    · exact trivial
  | exc c v q => exact p
  | stuck => exact trivial
theorem sr_ret {α β : Type} {R R2 : HP → Fz → α → β → Prop} {a : α} {d : β} {q : Q} (bd : ∀ k, F k → k < h.length) (dq : Dq r h F q) (p : R h F a d) : SR r h F R (.ok a q) (.ok d h) := .pure bd dq p
theorem se_comp {own : List (Str × Nat)} {tg : Tgt} {it : It} {c : OE} {el : E} (ii : SI it) (ic : SC c) (ie : SE el) : SE (.comp own tg it c el) := fun VK K r b t se e q h F kr s => by
  refine sr_fin (SR.bind (ii VK K r b false se e q h F kr s) fun vs J h1 F1 q1 e1 bd1 dq1 p1 => ?_)
  obtain ⟨⟨ds, rs, src⟩, len⟩ := p1
  have s1 := (s.ex e1 bd1 dq1).kill (own.map (·.2))
  refine SR.bind (comp_sound (vstep := fun e1 q2 => (vevC VK c e1 q2).bind fun b q3 => if b then (tk (vev VK el false e1 q3)).bind fun d q4 => .ok (some d) q4 else .ok none q3)
    (step := fun e1 h2 => (evC K c e1 h2).bind fun b h3 => if b then (ev K el false e1 h3).bind fun d h4 => .ok (some d) h4 else .ok none h3) ?_ vs vs 0 fuel [] [] q1 h1 F1 rfl (Nat.zero_le _) (by rw [fuel_eq]; exact len) rs (fun h' f => src h' fun k a n _ => f k a n) .nil s1) fun us es h2 F2 q2 e2 bd2 dq2 p2 => .newL bd2 dq2 (Nat.le_trans e1.le e2.le) p2
  intro se1 e1 q h F s
  refine SR.bind (ic VK K r b se1 e1 q h F kr s) fun k k2 h2 F2 q2 e2 bd2 dq2 p2 => ?_
  subst p2
  have s2 := s.ex e2 bd2 dq2
  cases k with
  | false => exact .pure (a := (none : Option V)) bd2 dq2 rfl
  | true =>
    refine SR.bind (sr_tk (ie VK K r b false se1 e1 q2 h2 F2 kr s2)) fun d d2 h3 F3 q3 e3 bd3 dq3 p3 => ?_
    exact .pure (a := some d) bd3 dq3 ⟨d2, rfl, p3⟩
theorem sts_nil : STs .nil := fun VK K r b se e q h F kr s => .pure s.bd s.dq rfl
theorem sts_cons {a : E} {es : Es} (ia : SE a) (i : STs es) : STs (.cons a es) := fun VK K r b se e q h F kr s => by
  refine SR.bind (sr_tk (ia VK K r b false se e q h F kr s)) fun x d h1 F1 q1 e1 bd1 dq1 p1 => ?_
  refine SR.bind (i VK K r b se e q1 h1 F1 kr (s.ex e1 bd1 dq1)) fun xs ds h2 F2 q2 e2 bd2 dq2 p2 => ?_
  exact .pure bd2 dq2 (.cons (e2.rep p1) p2)
theorem sps_nil : SPs .nil := fun VK K r b se e q h F kr s => .pure s.bd s.dq rfl
theorem sps_cons {a : E} {es : Es} (ia : SE a) (i : SPs es) : SPs (.cons a es) := fun VK K r b se e q h F kr s => by
  cases es with
  | nil =>
    refine SR.bind (sr_pkQ (ia VK K r b false se e q h F kr s)) fun x d h1 F1 q1 e1 bd1 dq1 p1 => ?_
    exact .pure bd1 dq1 ⟨d, rfl, p1⟩
  | cons c es =>
    refine SR.bind (sr_pk (ia VK K r b false se e q h F kr s)) fun x d h1 F1 q1 e1 bd1 dq1 p1 => ?_
    refine SR.bind (i VK K r b se e q1 h1 F1 kr (s.ex e1 bd1 dq1)) fun xs ds h2 F2 q2 e2 bd2 dq2 p2 => ?_
    cases xs with
    | nil =>
      cases p2
      exact .pure bd2 dq2 ⟨d, rfl, (p1.ex e2).q⟩
    | cons y ys => exact .pure bd2 dq2 ⟨d, ds, rfl, p1.ex e2, p2⟩
theorem sas_nil : SAs .nil := fun VK K r b l se e q h F kr s => .pure s.bd s.dq rfl
theorem sas_cons {a : E} {es : Es} (ia : SE a) (i : SAs es) : SAs (.cons a es) := fun VK K r b l se e q h F kr s => by
  have z : SR r h F (fun h F => AR r (if l then Pk r h F else Rep h F)) (ag l (vev VK a false se q)) (ev K a false e h) := by
    cases l with
    | false => exact sr_agF (ia VK K r b false se e q h F kr s)
    | true => exact sr_agT (ia VK K r b false se e q h F kr s)
  refine SR.bind z fun x d h1 F1 q1 e1 bd1 dq1 p1 => ?_
  refine SR.bind (i VK K r b l se e q1 h1 F1 kr (s.ex e1 bd1 dq1)) fun xs ds h2 F2 q2 e2 bd2 dq2 p2 => ?_
  refine .pure bd2 dq2 ⟨d, ds, rfl, p1.imp fun x d p => ?_, p2⟩
  cases l with
  | false => exact e2.rep p
  | true => exact Pk.ex p e2
theorem sbs_nil : SBs .nil := fun VK K r b k t se e q h F kr s => trivial
theorem sbs_cons {a : E} {es : Es} (ia : SE a) (i : SBs es) : SBs (.cons a es) := fun VK K r b k t se e q h F kr s => by
  cases es with
  | nil => exact ia VK K r b t se e q h F kr s
  | cons c es =>
    refine SR.bind (sr_asB (ia VK K r b t se e q h F kr s)) fun x d h1 F1 q1 e1 bd1 dq1 p1 => ?_
    subst p1
    show SR r h1 F1 (RA r h.length) (if (x == k) = true then _ else _) (if (x == k) = true then _ else _)
    split
    · exact (i VK K r b k t se e q1 h1 F1 kr (s.ex e1 bd1 dq1)).weakRA e1.le
    · exact .pure bd1 dq1 rfl
theorem so_none : SO .none := fun VK K r b se e q h F kr s => .pure s.bd s.dq rfl
theorem so_some {a : E} (ia : SE a) : SO (.some a) := fun VK K r b se e q h F kr s => by
  refine SR.bind (sr_pk (ia VK K r b false se e q h F kr s)) fun x d h1 F1 q1 e1 bd1 dq1 p1 => ?_
  cases x with
  | int i => cases p1.int; exact .pure bd1 dq1 rfl
  | _ => exact trivial
theorem sc_none : SC .none := fun VK K r b se e q h F kr s => .pure s.bd s.dq rfl
theorem sc_some {a : E} (ia : SE a) : SC (.some a) := fun VK K r b se e q h F kr s => sr_asB (ia VK K r b true se e q h F kr s)
theorem si_seq {a : E} (ia : SE a) : SI (.seq a) := fun VK K r b l se e q h F kr s => sr_wlk (SR.bind (sr_pt (ia VK K r b false se e q h F kr s)) fun x d h1 F1 q1 e1 bd1 dq1 p1 => op_seqIV bd1 dq1 p1)
theorem si_enum {a : E} (ia : SE a) : SI (.enum a) := fun VK K r b l se e q h F kr s => sr_wlk (SR.bind (sr_pt (ia VK K r b false se e q h F kr s)) fun x d h1 F1 q1 e1 bd1 dq1 p1 => op_enumIV bd1 dq1 p1)
theorem si_rng1 {a : E} (ia : SE a) : SI (.rng1 a) := fun VK K r b l se e q h F kr s => sr_wlk (SR.bind (sr_pk (ia VK K r b false se e q h F kr s)) fun x d h1 F1 q1 e1 bd1 dq1 p1 => op_rng1V bd1 dq1 p1)
theorem si_rng2 {a c : E} (ia : SE a) (ic : SE c) : SI (.rng2 a c) := fun VK K r b l se e q h F kr s => sr_wlk (by
  refine SR.bind (sr_pk (ia VK K r b false se e q h F kr s)) fun x d h1 F1 q1 e1 bd1 dq1 p1 => ?_
  refine SR.bind (sr_pk (ic VK K r b false se e q1 h1 F1 kr (s.ex e1 bd1 dq1))) fun y d2 h2 F2 q2 e2 bd2 dq2 p2 => ?_
  exact op_rng2V bd2 dq2 (p1.ex e2) p2)
end
mutual
theorem allE : ∀ c : E, SE c
  | .var i => se_var i
  | .int i => fun _ _ _ _ _ _ _ _ _ _ _ s => sr_fin (.pure (a := A.v (.int i)) s.bd s.dq rfl)
  | .str i => fun _ _ _ _ _ _ _ _ _ _ _ s => sr_fin (.pure (a := A.v (.str i)) s.bd s.dq rfl)
  | .bl i => fun _ _ _ _ _ _ _ _ _ _ _ s => sr_fin (.pure (a := A.v (.bl i)) s.bd s.dq rfl)
  | .non => fun _ _ _ _ _ _ _ _ _ _ _ s => sr_fin (.pure (a := A.v .non) s.bd s.dq rfl)
  | .bin _ a b => se_bin (allE a) (allE b)
  | .neg a => se_neg (allE a)
  | .not a => se_not (allE a)
  | .cmp _ a b => se_cmp (allE a) (allE b)
  | .chain _ _ a b c => se_chain (allE a) (allE b) (allE c)
  | .boo _ es => se_boo (allBs es)
  | .ife c a b => se_ife (allE c) (allE a) (allE b)
  | .tup es => se_tup (allTs es)
  | .lst es => se_lst (allTs es)
  | .call _ es => se_call (allAs es)
  | .bi _ es => se_bi (allPs es)
  | .isin a _ _ => se_isin (allE a)
  | .ix a i => se_ix (allE a) (allE i)
  | .sl a lo hi => se_sl (allE a) (allO lo) (allO hi)
  | .meth _ o es => se_meth (allE o) (allTs es)
  | .comp _ _ it c el => se_comp (allI it) (allC c) (allE el)
  | .cst _ v => fun _ _ _ _ _ _ _ _ _ _ _ s => sr_fin (.pure (a := A.v (.int v)) s.bd s.dq rfl)
  | .lrg1 _ a => se_lrg1 (allE a)
  | .lrg2 _ a b => se_lrg2 (allE a) (allE b)
  | .lrg3 _ es => se_lrg3 (allTs es)
  | .xfld => se_xfld
  | .xis _ _ => se_xis
theorem allTs : ∀ c : Es, STs c
  | .nil => sts_nil
  | .cons a r => sts_cons (allE a) (allTs r)
theorem allPs : ∀ c : Es, SPs c
  | .nil => sps_nil
  | .cons a r => sps_cons (allE a) (allPs r)
theorem allAs : ∀ c : Es, SAs c
  | .nil => sas_nil
  | .cons a r => sas_cons (allE a) (allAs r)
theorem allBs : ∀ c : Es, SBs c
  | .nil => sbs_nil
  | .cons a r => sbs_cons (allE a) (allBs r)
theorem allO : ∀ c : OE, SO c
  | .none => so_none
  | .some a => so_some (allE a)
theorem allC : ∀ c : OE, SC c
  | .none => sc_none
  | .some a => sc_some (allE a)
theorem allI : ∀ c : It, SI c
  | .seq a => si_seq (allE a)
  | .enum a => si_enum (allE a)
  | .rng1 a => si_rng1 (allE a)
  | .rng2 a b => si_rng2 (allE a) (allE b)
end
end VI

set_option Elab.async false
set_option linter.all false
set_option maxRecDepth 100000
set_option maxHeartbeats 4000000
/-! Statements, defs, calls. -/
namespace VI
open PySem PI
/-- behind a statement -/
def FR (VK : VCx) (K : Cx) (r : Option Nat) (b : Nat) (h : HP) (F : Fz) : FlV → Fl → Prop
  | .nx se q, s => ∃ e h' F', s = .nx e h' ∧ Ex r b h F h' F' ∧ St VK K r b h' F' se e q
  | .bk se q, s => ∃ e h' F', s = .bk e h' ∧ Ex r b h F h' F' ∧ St VK K r b h' F' se e q
  | .ct se q, s => ∃ e h' F', s = .ct e h' ∧ Ex r b h F h' F' ∧ St VK K r b h' F' se e q
  | .rt a q, s => ∃ d h' F', s = .rt d h' ∧ Ex r b h F h' F' ∧ (∀ k, F' k → k < h'.length) ∧ Dq r h' F' q ∧ RA r b h' F' a d
  | .ex c x se q, s => ∃ d e h' F', s = .ex c d e h' ∧ Ex r b h F h' F' ∧ St VK K r b h' F' se e q ∧ Rep h' F' x d
  | .stuck, _ => True
section
variable {VK : VCx} {K : Cx} {r : Option Nat} {b : Nat} {h h1 : HP} {F F1 : Fz} {se : VEnv} {e : PI.Env} {q : Q}
theorem FR.ex {x : FlV} {y : Fl} (p : FR VK K r b h1 F1 x y) (z : Ex r b h F h1 F1) : FR VK K r b h F x y := by
  cases x with
  | nx se q => obtain ⟨e, h', F', e1, x, s⟩ := p; exact ⟨e, h', F', e1, z.trans x, s⟩
  | bk se q => obtain ⟨e, h', F', e1, x, s⟩ := p; exact ⟨e, h', F', e1, z.trans x, s⟩
  | ct se q => obtain ⟨e, h', F', e1, x, s⟩ := p; exact ⟨e, h', F', e1, z.trans x, s⟩
  | rt a q => obtain ⟨d, h', F', e1, x, s⟩ := p; exact ⟨d, h', F', e1, z.trans x, s⟩
  | ex c x se q => obtain ⟨d, e, h', F', e1, x, s⟩ := p; exact ⟨d, e, h', F', e1, z.trans x, s⟩
  | stuck => exact trivial
theorem FR.then {x : FlV} {y : Fl} {f : VEnv → Q → FlV} {g : PI.Env → HP → Fl} (p : FR VK K r b h F x y) (n : ∀ se e q h' F', St VK K r b h' F' se e q → FR VK K r b h' F' (f se q) (g e h')) : FR VK K r b h F (x.then f) (y.then g) := by
  cases x with
  | nx se q =>
    obtain ⟨e, h', F', rfl, x, s⟩ := p
    exact (n se e q h' F' s).ex x
  | bk se q => obtain ⟨e, h', F', rfl, x, s⟩ := p; exact ⟨e, h', F', rfl, x, s⟩
  | ct se q => obtain ⟨e, h', F', rfl, x, s⟩ := p; exact ⟨e, h', F', rfl, x, s⟩
  | rt a q => obtain ⟨d, h', F', rfl, x, s⟩ := p; exact ⟨d, h', F', rfl, x, s⟩
  | ex c x se q => obtain ⟨d, e, h', F', rfl, x, s⟩ := p; exact ⟨d, e, h', F', rfl, x, s⟩
  | stuck => exact trivial
/-- behind an expression -/
theorem FR.fl {α β : Type} {R : HP → Fz → α → β → Prop} {x : RV α} {y : Res β} {f : α → Q → FlV} {g : β → HP → Fl} (s : St VK K r b h F se e q) (p : SR r h F R x y)
    (n : ∀ u d h' F' q, Ex r h.length h F h' F' → St VK K r b h' F' se e q → R h' F' u d → FR VK K r b h' F' (f u q) (g d h')) : FR VK K r b h F (x.fl se f) (y.fl e g) := by
  cases x with
  | ok u q2 =>
    obtain ⟨d, h', F', rfl, x, bd, dq, p⟩ := p
    exact (n u d h' F' q2 x (s.ex x bd dq) p).ex (x.weak s.bl)
  | exc c v q2 =>
    obtain ⟨d, h', F', rfl, x, bd, dq, p⟩ := p
    exact ⟨d, e, h', F', rfl, x.weak s.bl, s.ex x bd dq, p⟩
  | stuck => exact trivial
/-! ### lists are handed on -/
theorem set_same {α : Type} {l : List α} {i : Nat} {x : α} (z : l[i]? = some x) : l.set i x = l := by
  obtain ⟨hl, rfl⟩ := List.getElem?_eq_some_iff.mp z
  exact List.set_getElem_self hl
theorem St.frz1 (s : St VK K r b h F se e q) (i : Nat) {o : Option A} (z : se[i]? = some o) : ∃ F', Ex r b h F h F' ∧ St VK K r b h F' (se.set i (VI.frz1 o)) e q := by
  have same : VI.frz1 o = o → ∃ F', Ex r b h F h F' ∧ St VK K r b h F' (se.set i (VI.frz1 o)) e q := fun w => ⟨F, .refl, by rw [w, set_same z]; exact s⟩
  match o, z, same with
  | none, z, same => exact same rfl
  | some (.v _), z, same => exact same rfl
  | some (.bor _), z, same => exact same rfl
  | some .dr, z, same => exact same rfl
  | some (.own vs), z, same =>
    obtain ⟨d, e1, k, ds, rfl, l, nr, nf, g, rs⟩ := s.as i _ z
    obtain ⟨F2, x2, bd2, dq2, rp, ff⟩ := frz_place l nr g rs s.bd s.dq
    refine ⟨F2, x2, s.bl, bd2, dq2, ?_, by simp [s.len], fun j a' y => ?_, fun j l2 us ws k2 nj y1 y2 y3 => ?_⟩
    · exact s.x.ex x2
    · rw [List.getElem?_set] at y
      by_cases w : i = j
      · subst w
        rw [if_pos rfl] at y
        split at y
        · cases y
          exact ⟨_, e1, rp⟩
        · cases y
      · rw [if_neg w] at y
        obtain ⟨d, y1, y2⟩ := s.as j a' y
        refine ⟨d, y1, ?_⟩
        cases a' with
        | v x => exact x2.rep y2
        | own us =>
          obtain ⟨k2, es, rfl, l2, n2, f2, g2, rs2⟩ := y2
          refine ⟨k2, es, rfl, l2, n2, fun f => ?_, g2, x2.reps rs2⟩
          rcases (ff k2).mp f with f | rfl
          · exact f2 f
          · exact s.dis i j vs us k2 w z y e1 y1
        | bor _ => exact y2
        | dr => exact y2
    · have key : ∀ {j : Nat} {us : List V}, (se.set i (VI.frz1 (some (.own vs))))[j]? = some (some (.own us)) → se[j]? = some (some (.own us)) := fun {j us} y => by
        rw [List.getElem?_set] at y
        by_cases w : i = j
        · rw [if_pos w] at y
          split at y <;> cases y
        · rw [if_neg w] at y
          exact y
      exact s.dis j l2 us ws k2 nj (key y1) (key y2) y3
theorem St.frzL (ks : List Nat) : ∀ {se : VEnv} {F : Fz}, St VK K r b h F se e q → ∃ F', Ex r b h F h F' ∧ St VK K r b h F' (VI.frzL ks se) e q := by
  induction ks with
  | nil => exact fun s => ⟨_, .refl, s⟩
  | cons k ks ih =>
    intro se F s
    unfold VI.frzL
    rw [List.foldl_cons]
    cases z : se[k]? with
    | none => exact ih s
    | some o =>
      obtain ⟨F1, x1, s1⟩ := s.frz1 k z
      obtain ⟨F2, x2, s2⟩ := ih s1
      exact ⟨F2, x1.trans x2, s2⟩
theorem St.frzE (s : St VK K r b h F se e q) (g : Nat → Bool) (a : E) : ∃ F', Ex r b h F h F' ∧ St VK K r b h F' (VI.frzE g a se) e q := by
  unfold VI.frzE
  split
  · exact s.frzL _
  · exact ⟨F, .refl, s⟩
theorem St.frzI (s : St VK K r b h F se e q) (g : Nat → Bool) (a : It) : ∃ F', Ex r b h F h F' ∧ St VK K r b h F' (VI.frzI g a se) e q := by
  unfold VI.frzI
  split
  · exact s.frzL _
  · exact ⟨F, .refl, s⟩
/-! ### an expression that is a statement's own -/
def MR (VK : VCx) (K : Cx) (r : Option Nat) (b : Nat) (h : HP) (F : Fz) (se : VEnv) (e : PI.Env) : RV (A × VEnv) → Res D → Prop
  | .ok (a, se1) q, s => ∃ d h' F' n, s = .ok d h' ∧ Ex r b h F h' F' ∧ St VK K r b h' F' se1 e q ∧ b ≤ n ∧ RA r n h' F' a d ∧ ∀ (j : Nat) us k, se1[j]? = some (some (.own us)) → e[j]? = some (some (.ref k)) → k < n
  | .exc c x q, s => ∃ d h' F', s = .exc c d h' ∧ Ex r b h F h' F' ∧ St VK K r b h' F' se e q ∧ Rep h' F' x d
  | .stuck, _ => True
theorem mr_plain (kr : KR VK K) (s : St VK K r b h F se e q) (a : E) : MR VK K r b h F se e ((vev VK a false se q).bind fun x q1 => .ok (x, se) q1) (ev K a false e h) := by
  have p := allE a VK K r b false se e q h F kr s
  cases w : vev VK a false se q with
  | ok x q2 =>
    rw [w] at p
    obtain ⟨d, h', F', e1, x1, bd, dq, ra⟩ := p
    exact ⟨d, h', F', h.length, e1, x1.weak s.bl, s.ex x1 bd dq, s.bl, ra, fun j us k z1 z2 => s.own_lt z1 z2⟩
  | exc c v q2 =>
    rw [w] at p
    obtain ⟨d, h', F', e1, x1, bd, dq, ra⟩ := p
    exact ⟨d, h', F', e1, x1.weak s.bl, s.ex x1 bd dq, ra⟩
  | stuck => exact trivial
theorem mr_own (kr : KR VK K) (s : St VK K r b h F se e q) (m : Mt) (i : Nat) (es : Es) (ow : ownAt se i = true) : MR VK K r b h F se e ((vevTs VK es se q).bind (mtE i m se)) (ev K (.meth m (.var i) es) false e h) := by
  obtain ⟨vs, z⟩ : ∃ vs, se[i]? = some (some (.own vs)) := by
    unfold ownAt at ow
    cases w : se[i]? with
    | none => rw [w] at ow; cases ow
    | some o =>
      rw [w] at ow
      match o, ow with
      | some (.own vs), _ => exact ⟨vs, rfl⟩
  obtain ⟨d, e1, k, ds, rfl, l, nr, nf, g, rs⟩ := s.as i _ z
  have il : isLst h (.ref k) = true := by simp [isLst, g]
  have u : ev K (.meth m (.var i) es) false e h = (evEs K es e h).bind fun ds h2 => mtD m (.ref k) ds h2 := by
    have v : ev K (.var i) false e h = .ok (.ref k) h := by
      show (match e[i]? with | some (some d) => Res.ok d h | _ => .stuck) = _
      rw [e1]
    show (ev K (.var i) false e h).bind _ = _
    rw [v]
    show (if isLst h (.ref k) then _ else _) = _
    rw [il]; rfl
  rw [u]
  have p := allTs es VK K r b se e q h F kr s
  cases w : vevTs VK es se q with
  | exc c v q2 =>
    rw [w] at p
    obtain ⟨d, h', F', e2, x1, bd, dq, ra⟩ := p
    rw [e2]
    exact ⟨d, h', F', rfl, x1.weak s.bl, s.ex x1 bd dq, ra⟩
  | stuck => exact trivial
  | ok xs q2 =>
    rw [w] at p
    obtain ⟨es2, h1, F1, e2, x1, bd1, dq1, rx⟩ := p
    rw [e2]
    have s1 := s.ex x1 bd1 dq1
    obtain ⟨d', e1', k', ds', eq, _, _, nf1, g1, rs1⟩ := s1.as i _ z
    rw [e1] at e1'
    cases e1'
    cases eq
    show MR VK K r b h F se e (mtE i m se xs q2) (mtD m (.ref k) es2 h1)
    unfold mtE mtD
    rw [z]
    simp only [g1]
    cases w2 : mtV m vs xs with
    | none => exact trivial
    | some y =>
      obtain ⟨v, vs2⟩ := y
      obtain ⟨d3, ds3, w3, p3, rs3⟩ := op_mtV m rs1 rx w2
      rw [w3]
      have mono : ∀ j, F1 j → F1 j ∧ (h1.set k (.lst ds3))[j]? = h1[j]? := fun j f => ⟨f, List.getElem?_set_ne fun z => nf1 (by rw [z]; exact f)⟩
      have ex2 : Ex r b h1 F1 (h1.set k (.lst ds3)) F1 := ⟨by simp, fun j lj _ => List.getElem?_set_ne fun z => by omega, fun _ _ => Iff.rfl, mono⟩
      refine ⟨d3, h1.set k (.lst ds3), F1, (h1.set k (.lst ds3)).length, rfl, (x1.weak s.bl).trans ex2, ?_, by have := s1.bl; simpa using this, p3.mono mono, ?_⟩
      · have bs : St VK K r b (h1.set k (.lst ds3)) F1 (se.set i none) e q2 := by
          refine ⟨by have := s1.bl; simpa using this, by simpa using bd1, fun j ej => ?_, s1.x.ex ex2, by simp [s.len], fun j a y => ?_, fun j l us ws k2 nj y1 y2 => ?_⟩
          · obtain ⟨us, fs, f1, f2, f3, f4, f5⟩ := dq1 j ej
            refine ⟨us, fs, f1, ?_, f3.mono mono, f4, f5⟩
            rw [List.getElem?_set_ne fun z => nr (by rw [z, ej])]
            exact f2
          · rw [List.getElem?_set] at y
            by_cases w : i = j
            · rw [if_pos w] at y
              split at y <;> cases y
            · rw [if_neg w] at y
              obtain ⟨d, y1, y2⟩ := s1.as j a y
              refine ⟨d, y1, ?_⟩
              cases a with
              | v x => exact y2.mono mono
              | own us =>
                obtain ⟨k2, fs, rfl, l2, n2, f2, g2, rs2⟩ := y2
                refine ⟨k2, fs, rfl, l2, n2, f2, ?_, rs2.mono mono⟩
                rw [List.getElem?_set_ne fun z => s.dis i j vs us k w ‹_› y e1 (by rw [y1, ← z])]
                exact g2
              | bor _ => exact y2
              | dr => exact y2
          · have key : ∀ {j : Nat} {us : List V}, (se.set i none)[j]? = some (some (.own us)) → se[j]? = some (some (.own us)) := fun {j us} y => by
              rw [List.getElem?_set] at y
              by_cases w : i = j
              · rw [if_pos w] at y
                split at y <;> cases y
              · rw [if_neg w] at y
                exact y
            exact s.dis j l us ws k2 nj (key y1) (key y2)
        have fin := bs.setOwn (vs := vs2) (k := k) ⟨k, ds3, rfl, l, nr, nf1, List.getElem?_set_self (get_lt g1), rs3.mono mono⟩ i fun j us nj y1 y2 => by
          rw [List.getElem?_set_ne (Ne.symm nj)] at y1
          exact s.dis i j vs us k (Ne.symm nj) z y1 e1 y2
        rw [List.set_set, set_same e1] at fin
        exact fin
      · intro j us k2 y1 y2
        have : ∃ us, se[j]? = some (some (.own us)) := by
          rw [List.getElem?_set] at y1
          by_cases w : i = j
          · exact ⟨vs, by rw [← w]; exact z⟩
          · rw [if_neg w] at y1
            exact ⟨us, y1⟩
        obtain ⟨us, y⟩ := this
        have := s1.own_lt y y2
        simpa using this
theorem mr_all (kr : KR VK K) (s : St VK K r b h F se e q) (a : E) : MR VK K r b h F se e (vevM VK a se q) (ev K a false e h) := by
  unfold vevM
  split
  · split
    · exact mr_own kr s _ _ _ ‹_›
    · exact mr_plain kr s _
  · exact mr_plain kr s a
/-- what follows such an expression -/
theorem FR.mr {x : RV (A × VEnv)} {y : Res D} {f : A × VEnv → Q → FlV} {g : D → HP → Fl} (s : St VK K r b h F se e q) (p : MR VK K r b h F se e x y)
    (n : ∀ a se1 d n h' F' q, St VK K r b h' F' se1 e q → b ≤ n → RA r n h' F' a d → (∀ (j : Nat) us k, se1[j]? = some (some (.own us)) → e[j]? = some (some (.ref k)) → k < n) → FR VK K r b h' F' (f (a, se1) q) (g d h')) : FR VK K r b h F (x.fl se f) (y.fl e g) := by
  cases x with
  | ok u q2 =>
    obtain ⟨d, h', F', m, rfl, x, s1, l, ra, fr⟩ := p
    exact (n u.1 u.2 d m h' F' q2 s1 l ra fr).ex x
  | exc c v q2 =>
    obtain ⟨d, h', F', rfl, x, s1, p⟩ := p
    exact ⟨d, e, h', F', rfl, x, s1, p⟩
  | stuck => exact trivial
end
def SS (c : S) : Prop := ∀ (VK : VCx) (K : Cx) (r : Option Nat) (b : Nat) (se : VEnv) (e : PI.Env) (q : Q) (h : HP) (F : Fz), KR VK K → St VK K r b h F se e q → FR VK K r b h F (vevS VK c se q) (evS K c e h)
def SB (c : B) : Prop := ∀ (VK : VCx) (K : Cx) (r : Option Nat) (b : Nat) (se : VEnv) (e : PI.Env) (q : Q) (h : HP) (F : Fz), KR VK K → St VK K r b h F se e q → FR VK K r b h F (vevB VK c se q) (evB K c e h)
def SH (c : Hs) : Prop := ∀ (VK : VCx) (K : Cx) (r : Option Nat) (b : Nat) (cl : Nat) (x : V) (d : D) (se : VEnv) (e : PI.Env) (q : Q) (h : HP) (F : Fz), KR VK K → VK.x = none → St VK K r b h F se e q → Rep h F x d → FR VK K r b h F (vevH VK cl x c se q) (evH K cl d c e h)
/-- a list that is known here alone is laid anew -/
theorem St.write {VK : VCx} {K : Cx} {r : Option Nat} {b : Nat} {h : HP} {F : Fz} {se : VEnv} {e : PI.Env} {q : Q} (s : St VK K r b h F se e q) {i k : Nat} {vs vs2 : List V} {ds2 : List D} (z : se[i]? = some (some (.own vs))) (e1 : e[i]? = some (some (.ref k))) (rs : Reps h F vs2 ds2) :
    ∃ F', Ex r b h F (h.set k (.lst ds2)) F' ∧ St VK K r b (h.set k (.lst ds2)) F' (se.set i (some (.own vs2))) e q := by
  obtain ⟨d', e1', k', ds', eq, l, nr, nf, g, _⟩ := s.as i _ z
  rw [e1] at e1'
  cases e1'
  cases eq
  have mono : ∀ j, F j → F j ∧ (h.set k (.lst ds2))[j]? = h[j]? := fun j f => ⟨f, List.getElem?_set_ne fun z => nf (by rw [z]; exact f)⟩
  have ex2 : Ex r b h F (h.set k (.lst ds2)) F := ⟨by simp, fun j lj _ => List.getElem?_set_ne fun z => by omega, fun _ _ => Iff.rfl, mono⟩
  refine ⟨F, ex2, ?_⟩
  have bs : St VK K r b (h.set k (.lst ds2)) F (se.set i none) e q := by
    refine ⟨by have := s.bl; simpa using this, by simpa using s.bd, fun j ej => ?_, s.x.ex ex2, by simp [s.len], fun j a y => ?_, fun j l us ws k2 nj y1 y2 => ?_⟩
    · obtain ⟨us, fs, f1, f2, f3, f4, f5⟩ := s.dq j ej
      refine ⟨us, fs, f1, ?_, f3.mono mono, f4, f5⟩
      rw [List.getElem?_set_ne fun z => nr (by rw [z, ej])]
      exact f2
    · rw [List.getElem?_set] at y
      by_cases w : i = j
      · rw [if_pos w] at y
        split at y <;> cases y
      · rw [if_neg w] at y
        obtain ⟨d, y1, y2⟩ := s.as j a y
        refine ⟨d, y1, ?_⟩
        cases a with
        | v x => exact y2.mono mono
        | own us =>
          obtain ⟨k2, fs, rfl, l2, n2, f2, g2, rs2⟩ := y2
          refine ⟨k2, fs, rfl, l2, n2, f2, ?_, rs2.mono mono⟩
          rw [List.getElem?_set_ne fun z2 => s.dis i j vs us k w z y e1 (by rw [y1, ← z2])]
          exact g2
        | bor _ => exact y2
        | dr => exact y2
    · have key : ∀ {j : Nat} {us : List V}, (se.set i none)[j]? = some (some (.own us)) → se[j]? = some (some (.own us)) := fun {j us} y => by
        rw [List.getElem?_set] at y
        by_cases w : i = j
        · rw [if_pos w] at y
          split at y <;> cases y
        · rw [if_neg w] at y
          exact y
      exact s.dis j l us ws k2 nj (key y1) (key y2)
  have fin := bs.setOwn (vs := vs2) (k := k) ⟨k, ds2, rfl, l, nr, nf, List.getElem?_set_self (get_lt g), rs.mono mono⟩ i fun j us nj y1 y2 => by
    rw [List.getElem?_set_ne (Ne.symm nj)] at y1
    exact s.dis i j vs us k (Ne.symm nj) z y1 e1 y2
  rw [List.set_set, set_same e1] at fin
  exact fin
theorem ownAt_some {se : VEnv} {i : Nat} (ow : ownAt se i = true) : ∃ vs, se[i]? = some (some (.own vs)) := by
  unfold ownAt at ow
  cases w : se[i]? with
  | none => rw [w] at ow; cases ow
  | some o =>
    rw [w] at ow
    match o, ow with
    | some (.own vs), _ => exact ⟨vs, rfl⟩
theorem ss_put {o i a : E} : SS (.put o i a) := fun VK K r b se e q h F kr s => by
  show FR VK K r b h F (match o with | .var x => putV VK x i a (VI.frzE VK.g a se) q | _ => .stuck) ((evE K a e h).fl e fun d h1 => (evE K o e h1).fl e fun od h2 => (evE K i e h2).fl e fun id h3 => match setD od id d h3 with
    | some h4 => .nx e h4
    | none => .stuck)
  split
  · rename_i x
    obtain ⟨F1, x1, s1⟩ := s.frzE VK.g a
    refine FR.ex ?_ x1
    generalize VI.frzE VK.g a se = se1 at s1 ⊢
    unfold putV
    split
    · rename_i ow
      obtain ⟨vs, z⟩ := ownAt_some ow
      refine FR.fl s1 (sr_tk (allE a VK K r b false _ e q h F1 kr s1)) fun v d h1 F2 q1 x2 s2 p => ?_
      obtain ⟨d0, e1, k, ds, rfl, l, nr, nf, g, rs⟩ := s2.as x _ z
      have u : evE K (.var x) e h1 = .ok (.ref k) h1 := by
        show (match e[x]? with | some (some d) => Res.ok d h1 | _ => .stuck) = _
        rw [e1]
      rw [u]
      show FR VK K r b h1 F2 _ ((evE K i e h1).fl e _)
      refine FR.fl s2 (sr_pk (allE i VK K r b false _ e q1 h1 F2 kr s2)) fun iv di h3 F3 q3 x3 s3 p3 => ?_
      unfold putE
      rw [z]
      cases iv with
      | int j =>
        cases p3.int
        obtain ⟨d1, e2, k2, ds2, eq, l2, nr2, nf2, g2, rs2⟩ := s3.as x _ z
        rw [e1] at e2
        cases e2
        cases eq
        simp only
        cases w : L2.ixN vs.length j with
        | none => exact trivial
        | some m =>
          have w2 : setD (.ref k) (.int j) d h3 = some (h3.set k (.lst (ds2.set m d))) := by
            simp only [setD, g2]
            rw [rs2.length, w]
            rfl
          obtain ⟨F4, x4, s4⟩ := s3.write z e1 (Reps.set (p.mono x3.mono) m rs2)
          rw [w2]
          exact ⟨e, _, F4, rfl, x4, s4⟩
      | _ => exact trivial
    · exact trivial
  · exact trivial
theorem ss_asg {t : Tgt} {a : E} : SS (.asg t a) := fun VK K r b se e q h F kr s => by
  obtain ⟨F1, x1, s1⟩ := s.frzE VK.g a
  refine FR.ex (FR.mr s1 (mr_all kr s1 a) fun a se1 d n h' F' q s2 l ra fr => ?_) x1
  show FR VK K r b h' F' (match VI.bindV t a se1 with | some e1 => .nx e1 q | none => .stuck) (match bindT t d e with | some e1 => .nx e1 h' | none => .stuck)
  cases w : VI.bindV t a se1 with
  | none => exact trivial
  | some se2 =>
    obtain ⟨e2, w2, s3⟩ := s2.bindV ra l fr w
    rw [w2]
    exact ⟨e2, h', F', rfl, .refl, s3⟩
theorem ss_expr {a : E} : SS (.expr a) := fun VK K r b se e q h F kr s => by
  obtain ⟨F1, x1, s1⟩ := s.frzE VK.g a
  refine FR.ex (FR.mr s1 (mr_all kr s1 a) fun a se1 d n h' F' q s2 l ra fr => ?_) x1
  exact ⟨e, h', F', rfl, .refl, s2⟩
theorem ss_ret {a : E} : SS (.ret a) := fun VK K r b se e q h F kr s => by
  have gen : FR VK K r b h F ((vev VK a false (VI.frzE VK.g a se) q).fl (VI.frzE VK.g a se) rtV) ((evE K a e h).fl e fun d h1 => .rt d h1) := by
    obtain ⟨F1, x1, s1⟩ := s.frzE VK.g a
    have p := allE a VK K r b false _ e q h F1 kr s1
    refine FR.ex ?_ x1
    cases w : vev VK a false (VI.frzE VK.g a se) q with
    | ok u q2 =>
      rw [w] at p
      obtain ⟨d, h', F', e1, x, bd, dq, ra⟩ := p
      show FR VK K r b h F1 (rtV u q2) ((ev K a false e h).fl e fun d h1 => .rt d h1)
      rw [e1]
      cases u with
      | v v => exact ⟨d, h', F', rfl, x.weak s1.bl, bd, dq, ra⟩
      | own vs => exact ⟨d, h', F', rfl, x.weak s1.bl, bd, dq, ra.weak s1.bl⟩
      | _ => exact trivial
    | exc c v q2 =>
      rw [w] at p
      obtain ⟨d, h', F', e1, x, bd, dq, ra⟩ := p
      show FR VK K r b h F1 (.ex c v (VI.frzE VK.g a se) q2) ((ev K a false e h).fl e fun d h1 => .rt d h1)
      rw [e1]
      exact ⟨d, e, h', F', rfl, x.weak s1.bl, s1.ex x bd dq, ra⟩
    | stuck => exact trivial
  show FR VK K r b h F (retV VK a se q) ((evE K a e h).fl e fun d h1 => .rt d h1)
  unfold retV
  split
  · rename_i i
    cases w : se[i]? with
    | none => exact trivial
    | some o =>
      cases o with
      | none => exact trivial
      | some a =>
        obtain ⟨d, e1, p⟩ := s.as i a w
        have v : evE K (.var i) e h = .ok d h := by
          show (match e[i]? with | some (some d) => Res.ok d h | _ => .stuck) = _
          rw [e1]
        rw [v]
        cases a with
        | v x => exact ⟨d, h, F, rfl, .refl, s.bd, s.dq, p⟩
        | own vs => exact ⟨d, h, F, rfl, .refl, s.bd, s.dq, p⟩
        | _ => exact trivial
  · exact gen
section
variable {VK : VCx} {K : Cx} {r : Option Nat} {b : Nat}
/-- a loop -/
theorem loop_sound {t : Tgt} {ds : List D} {J : Itr} {vstep : VEnv → Q → FlV} {step : PI.Env → HP → Fl}
    (st : ∀ (se1 : VEnv) (e1 : PI.Env) q h F, St VK K r b h F se1 e1 q → FR VK K r b h F (vstep se1 q) (step e1 h)) (us : List V) :
    ∀ (vs : List V) (i n : Nat) (se : VEnv) (e : PI.Env) (q : Q) (h : HP) (F : Fz), us.drop i = vs → i ≤ us.length → vs.length < n → Reps h F us ds → (∀ h', (∀ k, F k → h'[k]? = h[k]?) → Src J ds h') → St VK K r b h F se e q →
      FR VK K r b h F (loopV t vstep vs se q) (loopI J t step n i e h)
  | [], i, 0, _, _, _, _, _, _, _, l, _, _, _ => by simp at l
  | _ :: _, i, 0, _, _, _, _, _, _, _, l, _, _, _ => by simp at l
  | [], i, n + 1, se, e, q, h, F, dr, il, l, rs, src, s => by
    have e1 := src h (fun _ _ => rfl) i
    have nn : ds[i]? = none := rs.none (by
      rw [List.getElem?_eq_none_iff]
      exact List.drop_eq_nil_iff.mp dr)
    unfold loopI
    rw [e1, nn]
    exact ⟨e, h, F, rfl, .refl, s⟩
  | v :: vs, i, n + 1, se, e, q, h, F, dr, il, l, rs, src, s => by
    have e1 := src h (fun _ _ => rfl) i
    have gv : us[i]? = some v := by
      have := congrArg (fun l => l[0]?) dr
      simpa using this
    have dr2 : us.drop (i + 1) = vs := by
      have := congrArg List.tail dr
      simpa using this
    obtain ⟨d, gd, rd⟩ := rs.get gv
    unfold loopI
    rw [e1, gd]
    unfold loopV
    cases w : VI.bindV t (.v v) se with
    | none => exact trivial
    | some se1 =>
      obtain ⟨e2, w2, s2⟩ := s.bindV (a := .v v) (n := h.length) (show RA r h.length h F (.v v) d from rd) s.bl (fun j us k z1 z2 => s.own_lt z1 z2) w
      simp only [w2]
      have z := st se1 e2 q h F s2
      have il2 : i + 1 ≤ us.length := (List.getElem?_eq_some_iff.mp gv).1
      have l2 : vs.length < n := by simp at l; omega
      have nxt : ∀ {se3 : VEnv} {q3 : Q} {e3 : PI.Env} {h3 : HP} {F3 : Fz}, Ex r b h F h3 F3 → St VK K r b h3 F3 se3 e3 q3 → FR VK K r b h F (loopV t vstep vs se3 q3) (loopI J t step n (i + 1) e3 h3) := fun {se3 q3 e3 h3 F3} x s3 =>
        (loop_sound st us vs (i + 1) n se3 e3 q3 h3 F3 dr2 il2 l2 (x.reps rs) (fun h' f => src h' fun k fk => (f k (x.mono k fk).1).trans (x.mono k fk).2) s3).ex x
      cases y : vstep se1 q with
      | nx se3 q3 =>
        rw [y] at z
        obtain ⟨e3, h3, F3, y2, x, s3⟩ := z
        rw [y2]
        exact nxt x s3
      | ct se3 q3 =>
        rw [y] at z
        obtain ⟨e3, h3, F3, y2, x, s3⟩ := z
        rw [y2]
        exact nxt x s3
      | bk se3 q3 =>
        rw [y] at z
        obtain ⟨e3, h3, F3, y2, x, s3⟩ := z
        rw [y2]
        exact ⟨e3, h3, F3, rfl, x, s3⟩
      | rt a q3 =>
        rw [y] at z
        obtain ⟨d3, h3, F3, y2, x, s3⟩ := z
        rw [y2]
        exact ⟨d3, h3, F3, rfl, x, s3⟩
      | ex c x3 se3 q3 =>
        rw [y] at z
        obtain ⟨d3, e3, h3, F3, y2, x, s3⟩ := z
        rw [y2]
        exact ⟨d3, e3, h3, F3, rfl, x, s3⟩
      | stuck => exact trivial
theorem while_sound {vc : VEnv → Q → RV Bool} {cn : PI.Env → HP → Res Bool} {vstep : VEnv → Q → FlV} {step : PI.Env → HP → Fl}
    (sc : ∀ (se1 : VEnv) (e1 : PI.Env) q h F, St VK K r b h F se1 e1 q → SR r h F (fun _ _ (x y : Bool) => x = y) (vc se1 q) (cn e1 h))
    (st : ∀ (se1 : VEnv) (e1 : PI.Env) q h F, St VK K r b h F se1 e1 q → FR VK K r b h F (vstep se1 q) (step e1 h)) :
    ∀ (n : Nat) (se : VEnv) (e : PI.Env) (q : Q) (h : HP) (F : Fz), St VK K r b h F se e q → FR VK K r b h F (whileV vc vstep n se q) (whileI cn step n e h)
  | 0, _, _, _, _, _, _ => trivial
  | n + 1, se, e, q, h, F, s => by
    unfold whileV whileI
    refine FR.fl s (sc se e q h F s) fun k k2 h1 F1 q1 x1 s1 eq => ?_
    subst eq
    cases k with
    | false => exact ⟨e, h1, F1, rfl, .refl, s1⟩
    | true =>
      have z := st se e q1 h1 F1 s1
      show FR VK K r b h1 F1 (match vstep se q1 with | .nx e2 q2 => whileV vc vstep n e2 q2 | .ct e2 q2 => whileV vc vstep n e2 q2 | .bk e2 q2 => .nx e2 q2 | r => r)
        (match step e h1 with | .nx e2 h2 => whileI cn step n e2 h2 | .ct e2 h2 => whileI cn step n e2 h2 | .bk e2 h2 => .nx e2 h2 | r => r)
      cases y : vstep se q1 with
      | nx se3 q3 =>
        rw [y] at z
        obtain ⟨e3, h3, F3, y2, x, s3⟩ := z
        rw [y2]
        exact (while_sound sc st n se3 e3 q3 h3 F3 s3).ex x
      | ct se3 q3 =>
        rw [y] at z
        obtain ⟨e3, h3, F3, y2, x, s3⟩ := z
        rw [y2]
        exact (while_sound sc st n se3 e3 q3 h3 F3 s3).ex x
      | bk se3 q3 =>
        rw [y] at z
        obtain ⟨e3, h3, F3, y2, x, s3⟩ := z
        rw [y2]
        exact ⟨e3, h3, F3, rfl, x, s3⟩
      | rt a q3 =>
        rw [y] at z
        obtain ⟨d3, h3, F3, y2, x, s3⟩ := z
        rw [y2]
        exact ⟨d3, h3, F3, rfl, x, s3⟩
      | ex c x3 se3 q3 =>
        rw [y] at z
        obtain ⟨d3, e3, h3, F3, y2, x, s3⟩ := z
        rw [y2]
        exact ⟨d3, e3, h3, F3, rfl, x, s3⟩
      | stuck => exact trivial
end
theorem ss_iff {c : E} {x y : B} (ix : SB x) (iy : SB y) : SS (.iff c x y) := fun VK K r b se e q h F kr s => by
  refine FR.fl s (sr_asB (allE c VK K r b true se e q h F kr s)) fun k k2 h1 F1 q1 x1 s1 eq => ?_
  subst eq
  cases k with
  | true => exact ix VK K r b se e q1 h1 F1 kr s1
  | false => exact iy VK K r b se e q1 h1 F1 kr s1
theorem ss_for {t : Tgt} {it : It} {body : B} {ks : List Nat} (ib : SB body) : SS (.forr t it body ks) := fun VK K r b se e q h F kr s => by
  obtain ⟨F1, x1, s1⟩ := s.frzI VK.g it
  refine FR.ex (FR.fl s1 (allI it VK K r b true _ e q h F1 kr s1) fun vs J h1 F2 q1 x2 s2 p => ?_) x1
  obtain ⟨⟨ds, rs, src⟩, len⟩ := p
  refine FR.then (loop_sound (fun se1 e1 q h F s => ib VK K r b se1 e1 q h F kr s) vs vs 0 fuel _ e q1 h1 F2 rfl (Nat.zero_le _) (by rw [fuel_eq]; exact len) rs (fun h' f => src h' fun k _ _ fk => f k (fk rfl)) s2) fun se3 e3 q3 h3 F3 s3 => ?_
  exact ⟨_, h3, F3, rfl, .refl, s3.kill ks⟩
theorem ss_whl {c : E} {body : B} {ks : List Nat} (ib : SB body) : SS (.whl c body ks) := fun VK K r b se e q h F kr s => by
  have w := while_sound (VK := VK) (K := K) (fun se1 e1 q h F s => sr_asB (allE c VK K r b true se1 e1 q h F kr s)) (fun se1 e1 q h F s => ib VK K r b se1 e1 q h F kr s) fuelV se e q h F s
  have z : ∀ n, n = fuel → evS K (.whl c body ks) e h = (whileI (fun e1 h1 => evT K c e1 h1) (fun e1 h1 => evB K body e1 h1) n e h).then fun e2 h2 => .nx (killE ks e2) h2 := fun n z => by rw [z]; rfl
  rw [z _ fuelV_eq]
  refine FR.then w fun se3 e3 q3 h3 F3 s3 => ?_
  exact ⟨_, h3, F3, rfl, .refl, s3.kill ks⟩
theorem ss_rais {c : Nat} {a : E} : SS (.rais c a) := fun VK K r b se e q h F kr s => by
  obtain ⟨F1, x1, s1⟩ := s.frzE VK.g a
  refine FR.ex (FR.fl s1 (sr_tk (allE a VK K r b false _ e q h F1 kr s1)) fun v d h1 F2 q1 x2 s2 p => ?_) x1
  show FR VK K r b h1 F2 (if VK.x.isSome then _ else _) (if K.x.isSome then _ else _)
  rw [s2.x.some]
  split
  · exact trivial
  · exact ⟨d, e, h1, F2, rfl, .refl, s2, p⟩
theorem ss_unl {is : List Nat} {a : E} : SS (.unl is a) := fun VK K r b se e q h F kr s => by
  obtain ⟨F1, x1, s1⟩ := s.frzE VK.g a
  refine FR.ex (FR.fl s1 (sr_tk (allE a VK K r b false _ e q h F1 kr s1)) fun v d h1 F2 q1 x2 s2 p => ?_) x1
  show FR VK K r b h1 F2 (match VI.bindV (.tp is) (.v (unlV v)) (VI.frzE VK.g a se) with | some e1 => .nx e1 q1 | none => .stuck) (match bindT (.tp is) (unlD h1 d) e with | some e1 => .nx e1 h1 | none => .stuck)
  have p3 : Rep h1 F2 (unlV v) (unlD h1 d) := by
    cases v with
    | lst vs =>
      obtain ⟨k, ds, rfl, f, g, rs⟩ := p
      have : unlD h1 (.ref k) = .tup ds := by simp only [unlD, seqOf, g]
      rw [this]
      exact ⟨ds, rfl, rs⟩
    | con vs =>
      obtain ⟨k, ds, rfl, f, g, rs⟩ := p
      have : unlD h1 (.ref k) = .tup ds := by simp only [unlD, seqOf, g]
      rw [this]
      exact ⟨ds, rfl, rs⟩
    | tup vs =>
      obtain ⟨ds, rfl, rs⟩ := p
      exact ⟨ds, rfl, rs⟩
    | non => cases p; rfl
    | bl _ => cases p; rfl
    | int _ => cases p; rfl
    | str _ => cases p; rfl
  cases w : VI.bindV (.tp is) (.v (unlV v)) (VI.frzE VK.g a se) with
  | none => exact trivial
  | some se2 =>
    obtain ⟨e2, w2, s3⟩ := s2.bindU p3 w
    rw [w2]
    exact ⟨e2, h1, F2, rfl, .refl, s3⟩
theorem ss_try {body : B} {hs : Hs} (ib : SB body) (ih : SH hs) : SS (.tryy body hs) := fun VK K r b se e q h F kr s => by
  have z := ib VK K r b se e q h F kr s
  show FR VK K r b h F (match vevB VK body se q with | .ex c d e1 q1 => (if VK.x.isSome then .stuck else vevH VK c d hs e1 q1) | r => r) (match evB K body e h with | .ex c d e1 h1 => (if K.x.isSome then .stuck else evH K c d hs e1 h1) | r => r)
  cases y : vevB VK body se q with
  | nx se3 q3 => rw [y] at z; obtain ⟨e3, h3, F3, y2, z⟩ := z; rw [y2]; exact ⟨e3, h3, F3, rfl, z⟩
  | bk se3 q3 => rw [y] at z; obtain ⟨e3, h3, F3, y2, z⟩ := z; rw [y2]; exact ⟨e3, h3, F3, rfl, z⟩
  | ct se3 q3 => rw [y] at z; obtain ⟨e3, h3, F3, y2, z⟩ := z; rw [y2]; exact ⟨e3, h3, F3, rfl, z⟩
  | rt a q3 => rw [y] at z; obtain ⟨e3, h3, F3, y2, z⟩ := z; rw [y2]; exact ⟨e3, h3, F3, rfl, z⟩
  | stuck => exact trivial
  | ex c x se3 q3 =>
    rw [y] at z
    obtain ⟨d3, e3, h3, F3, y2, x3, s3, p⟩ := z
    rw [y2]
    show FR VK K r b h F (if VK.x.isSome then _ else _) (if K.x.isSome then _ else _)
    rw [s3.x.some]
    split
    · exact trivial
    · rename_i nx
      have nn : VK.x = none := by
        cases w : VK.x with
        | none => rfl
        | some _ => rw [w] at nx; exact absurd rfl nx
      exact (ih VK K r b c x d3 se3 e3 q3 h3 F3 kr nn s3 p).ex x3
theorem sb_nil : SB .nil := fun VK K r b se e q h F kr s => ⟨e, h, F, rfl, .refl, s⟩
theorem sb_cons {s : S} {c : B} (is : SS s) (ic : SB c) : SB (.cons s c) := fun VK K r b se e q h F kr s => FR.then (is VK K r b se e q h F kr s) fun se1 e1 q1 h1 F1 s1 => ic VK K r b se1 e1 q1 h1 F1 kr s1
theorem sh_nil : SH .nil := fun VK K r b cl x d se e q h F kr nn s p => ⟨d, e, h, F, rfl, .refl, s, p⟩
theorem sh_cons {c : Nat} {sl : Option Nat} {body : B} {hs : Hs} (ib : SB body) (ih : SH hs) : SH (.cons c sl body hs) := fun VK K r b cl x d se e q h F kr nn s p => by
  show FR VK K r b h F (if VK.sub cl c then (if slOkV sl se then _ else _) else _) (if K.sub cl c then (if slOk sl e then _ else _) else _)
  by_cases hs1 : VK.sub cl c = true
  · have hs2 : K.sub cl c = true := by rw [← kr.sub]; exact hs1
    rw [if_pos hs1, if_pos hs2]
    have so : slOkV sl se = slOk sl e := by
      cases sl with
      | none => rfl
      | some i => show decide _ = decide _; rw [s.len]
    rw [so]
    split
    · have kx : K.x = none := by
        have := s.x
        rw [nn] at this
        exact this
      have wipe : ∀ {VK : VCx} {K : Cx} {h : HP} {F : Fz} {se : VEnv} {e : PI.Env} {q : Q}, St VK K r b h F se e q → St VK K r b h F (wipeV sl se) (wipeE sl e) q := fun s => by
        cases sl with
        | none => exact s
        | some i => exact s.kill1 i
      have kr2 : KR { VK with x := some (cl, x) } { K with x := some (cl, d) } := ⟨kr.C, kr.sub⟩
      have chg : ∀ {h : HP} {F : Fz} {se : VEnv} {e : PI.Env} {q : Q}, Rep h F x d → St VK K r b h F se e q → St { VK with x := some (cl, x) } { K with x := some (cl, d) } r b h F se e q := fun p s => ⟨s.bl, s.bd, s.dq, ⟨d, rfl, p⟩, s.len, s.as, s.dis⟩
      have chb : ∀ {h : HP} {F : Fz} {se : VEnv} {e : PI.Env} {q : Q}, St { VK with x := some (cl, x) } { K with x := some (cl, d) } r b h F se e q → St VK K r b h F se e q := fun s => ⟨s.bl, s.bd, s.dq, by rw [nn]; exact kx, s.len, s.as, s.dis⟩
      have z := ib { VK with x := some (cl, x) } { K with x := some (cl, d) } r b _ _ q h F kr2 (chg p (wipe s))
      cases y : vevB { VK with x := some (cl, x) } body (wipeV sl se) q with
      | nx se3 q3 => rw [y] at z; obtain ⟨e3, h3, F3, y2, x3, s3⟩ := z; rw [y2]; exact ⟨_, h3, F3, rfl, x3, wipe (chb s3)⟩
      | bk se3 q3 => rw [y] at z; obtain ⟨e3, h3, F3, y2, x3, s3⟩ := z; rw [y2]; exact ⟨_, h3, F3, rfl, x3, wipe (chb s3)⟩
      | ct se3 q3 => rw [y] at z; obtain ⟨e3, h3, F3, y2, x3, s3⟩ := z; rw [y2]; exact ⟨_, h3, F3, rfl, x3, wipe (chb s3)⟩
      | rt a q3 => rw [y] at z; obtain ⟨d3, h3, F3, y2, x3, s3⟩ := z; rw [y2]; exact ⟨d3, h3, F3, rfl, x3, s3⟩
      | ex c x se3 q3 => exact trivial
      | stuck => exact trivial
    · exact trivial
  · have hs2 : ¬ K.sub cl c = true := by rw [← kr.sub]; exact hs1
    rw [if_neg hs1, if_neg hs2]
    exact ih VK K r b cl x d se e q h F kr nn s p
mutual
theorem allS : ∀ c : S, SS c
  | .asg _ _ => ss_asg
  | .put _ _ _ => ss_put
  | .expr _ => ss_expr
  | .ret _ => ss_ret
  | .retN => fun VK K r b se e q h F kr s => ⟨.non, h, F, rfl, .refl, s.bd, s.dq, rfl⟩
  | .iff _ a b => ss_iff (allB a) (allB b)
  | .forr _ _ b _ => ss_for (allB b)
  | .whl _ b _ => ss_whl (allB b)
  | .brk => fun VK K r b se e q h F kr s => ⟨e, h, F, rfl, .refl, s⟩
  | .cnt => fun VK K r b se e q h F kr s => ⟨e, h, F, rfl, .refl, s⟩
  | .pass => fun VK K r b se e q h F kr s => ⟨e, h, F, rfl, .refl, s⟩
  | .rais _ _ => ss_rais
  | .unl _ _ => ss_unl
  | .tryy b hs => ss_try (allB b) (allH hs)
theorem allB : ∀ c : B, SB c
  | .nil => sb_nil
  | .cons s b => sb_cons (allS s) (allB b)
theorem allH : ∀ c : Hs, SH c
  | .nil => sh_nil
  | .cons _ _ b hs => sh_cons (allB b) (allH hs)
end
/-! ### defs -/
theorem ARs.length {r : Option Nat} {P : V → D → Prop} : ∀ {as : List A} {ds : List D}, ARs r P as ds → ds.length = as.length
  | [], _, p => by cases p; rfl
  | a :: as, _, ⟨d, e, rfl, p1, p2⟩ => by simp [p2.length]
theorem ARs.at {r : Option Nat} {P : V → D → Prop} : ∀ {as : List A} {ds : List D} {i : Nat} {a : A}, ARs r P as ds → as[i]? = some a → ∃ d, ds[i]? = some d ∧ AR r P a d
  | [], _, _, _, _, e => by simp at e
  | a :: as, _, 0, _, ⟨d, e, rfl, p1, p2⟩, z => by simp at z; subst z; exact ⟨d, rfl, p1⟩
  | a :: as, _, i + 1, _, ⟨d, e, rfl, p1, p2⟩, z => by
    simp at z
    obtain ⟨d, e1, e2⟩ := p2.at z
    exact ⟨d, by simpa using e1, e2⟩
theorem run_sound {VK : VCx} {K : Cx} (kr : KR VK K) (nx : VK.x = none) (nk : K.x = none) (f : Fn) {r : Option Nat} {h : HP} {F : Fz} {as : List A} {ds : List D} {q : Q} (bd : ∀ k, F k → k < h.length) (dq : Dq r h F q) (ar : ARs r (Rep h F) as ds) :
    SR r h F (RA r h.length) (runV VK f as q) (runFn K f ds h) := by
  unfold runV runFn
  rw [ar.length]
  split
  · rename_i hl
    have s : St VK K r h.length h F (envV f as) (ds.map some ++ List.replicate (f.ns - f.np) none) q := by
      have look : ∀ (i : Nat) a, (envV f as)[i]? = some (some a) → ∃ d, (ds.map some ++ List.replicate (f.ns - f.np) none)[i]? = some (some d) ∧ AR r (Rep h F) a d := fun i a z => by
        unfold envV at z
        by_cases hi : i < as.length
        · rw [List.getElem?_append_left (by simpa using hi), List.getElem?_map] at z
          obtain ⟨a', z1, z2⟩ := Option.map_eq_some_iff.mp z
          cases z2
          obtain ⟨d, e1, e2⟩ := ar.at z1
          refine ⟨d, ?_, e2⟩
          rw [List.getElem?_append_left (by simpa [ar.length] using hi), List.getElem?_map, e1]; rfl
        · rw [List.getElem?_append_right (by simpa using hi), List.getElem?_replicate] at z
          split at z <;> cases z
      refine ⟨Nat.le_refl _, bd, dq, by rw [nx]; exact nk, by simp [envV, ar.length], fun i a z => ?_, fun i j vs us k nj z1 => ?_⟩
      · obtain ⟨d, e1, e2⟩ := look i a z
        refine ⟨d, e1, ?_⟩
        cases a with
        | v x => exact e2
        | dr => exact e2
        | own _ => exact e2.elim
        | bor _ => exact e2.elim
      · obtain ⟨d, e1, e2⟩ := look i _ z1
        exact e2.elim
    have z := allB f.body VK K r h.length _ _ q h F kr s
    cases y : vevB VK f.body (envV f as) q with
    | nx se3 q3 => rw [y] at z; obtain ⟨e3, h3, F3, y2, x3, s3⟩ := z; rw [y2]; exact ⟨_, h3, F3, rfl, x3, s3.bd, s3.dq, rfl⟩
    | rt a q3 => rw [y] at z; obtain ⟨d3, h3, F3, y2, x3, s3⟩ := z; rw [y2]; exact ⟨d3, h3, F3, rfl, x3, s3⟩
    | ex c x se3 q3 => rw [y] at z; obtain ⟨d3, e3, h3, F3, y2, x3, s3, p⟩ := z; rw [y2]; exact ⟨d3, h3, F3, rfl, x3, s3.bd, s3.dq, p⟩
    | _ => exact trivial
  · exact trivial
theorem call_sound (P : Prg) (g : Nat → Bool) : ∀ n, CS (callV P g n) (callI P n)
  | 0 => fun r h F f as ds q bd dq ar => trivial
  | n + 1 => fun r h F f as ds q bd dq ar => by
    show SR r h F (RA r h.length) (match P.fns[f]? with | some fd => _ | none => _) (match P.fns[f]? with | some fd => _ | none => _)
    cases P.fns[f]? with
    | none => exact trivial
    | some fd => exact run_sound (VK := ⟨callV P g n, none, P.sub, g⟩) (K := ⟨callI P n, none, P.sub⟩) ⟨call_sound P g n, rfl⟩ rfl rfl fd bd dq ar
/-- a law: its draws are made first, then known by name -/
theorem law_V {P : Prg} {g : Nat → Bool} {n ix dx : Nat} {fd : Fn} {rest : B} {is : List Int} {qs : List V} {q2 : Q} (f : P.fns[ix]? = some fd) (np : fd.np = 1) (ns : 1 < fd.ns)
    (body : fd.body = .cons (.asg (.v 1) (.call dx (.cons (.var 0) .nil))) rest)
    (draws : callV P g n dx [.v (.con (is.map V.int))] none = .ok (.own qs) none) (gd : g dx = false) (nl : noLs qs = true)
    (run : vevB ⟨callV P g n, none, P.sub, g⟩ rest ((envV fd [.v (.con (is.map V.int))]).set 1 (some .dr)) (some qs) = .rt (.v (.bl true)) q2) :
    ∃ h', callI P (n + 1) ix [.ref 0] [.con (is.map D.int)] = .ok (.bl true) h' := by
  have kr : KR ⟨callV P g n, none, P.sub, g⟩ ⟨callI P n, none, P.sub⟩ := ⟨call_sound P g n, rfl⟩
  let h0 : HP := [.con (is.map D.int)]
  let F0 : Fz := fun k => k = 0
  have bd0 : ∀ k, F0 k → k < h0.length := fun k e => by cases e; exact Nat.zero_lt_one
  have dq0 : Dq none h0 F0 none := fun k e => by cases e
  have reps : ∀ (l : List Int), Reps h0 F0 (l.map V.int) (l.map D.int) := by
    intro l
    induction l with
    | nil => rfl
    | cons i l ih => exact ⟨.int i, l.map D.int, rfl, rfl, ih⟩
  have rep0 : Rep h0 F0 (.con (is.map V.int)) (.ref 0) := ⟨0, is.map D.int, rfl, rfl, rfl, reps is⟩
  have z := call_sound P g n none h0 F0 dx [.v (.con (is.map V.int))] [.ref 0] none bd0 dq0 ⟨.ref 0, [], rfl, rep0, rfl⟩
  rw [draws] at z
  obtain ⟨d, h1, F1, e1, x1, bd1, dq1, k, ds, rfl, lk, nr, nf, gk, rs⟩ := z
  have len : ∀ a, (envV fd [.v a]).length = fd.ns := fun a => by simp [envV, np]; omega
  have s : St ⟨callV P g n, none, P.sub, g⟩ ⟨callI P n, none, P.sub⟩ (some k) h1.length h1 F1 ((envV fd [.v (.con (is.map V.int))]).set 1 (some .dr)) (([D.ref 0].map some ++ List.replicate (fd.ns - fd.np) none).set 1 (some (.ref k))) (some qs) := by
    have dqk : Dq (some k) h1 F1 (some qs) := fun j ej => by cases ej; exact ⟨qs, ds, rfl, gk, rs, nf, nl⟩
    have s0 : St ⟨callV P g n, none, P.sub, g⟩ ⟨callI P n, none, P.sub⟩ (some k) h1.length h1 F1 (envV fd [.v (.con (is.map V.int))]) ([D.ref 0].map some ++ List.replicate (fd.ns - fd.np) none) (some qs) := by
      refine ⟨Nat.le_refl _, bd1, dqk, rfl, by simp [envV], fun i a z => ?_, fun i j vs us k2 nj z1 => ?_⟩
      · cases i with
        | zero =>
          have z : some (some (A.v (.con (is.map V.int)))) = some (some a) := z
          cases z
          exact ⟨.ref 0, rfl, x1.rep rep0⟩
        | succ i =>
          have z : (List.replicate (fd.ns - fd.np) (none : Option A))[i]? = some (some a) := by simpa [envV] using z
          rw [List.getElem?_replicate] at z
          split at z <;> cases z
      · cases i with
        | zero =>
          have z : some (some (A.v (.con (is.map V.int)))) = some (some (.own vs)) := z1
          cases z
        | succ i =>
          have z : (List.replicate (fd.ns - fd.np) (none : Option A))[i]? = some (some (.own vs)) := by simpa [envV] using z1
          rw [List.getElem?_replicate] at z
          split at z <;> cases z
    exact s0.set (a := .dr) (d := .ref k) ⟨k, rfl, rfl⟩ (fun _ e => by cases e) 1
  have zz := allB rest _ _ (some k) h1.length _ _ (some qs) h1 F1 kr s
  rw [run] at zz
  obtain ⟨d2, h2, F2, e2, x2, bd2, dq2, p2⟩ := zz
  cases (show d2 = .bl true from p2)
  refine ⟨h2, ?_⟩
  show (match P.fns[ix]? with | some fd => _ | none => _) = _
  rw [f]
  show runFn _ fd [.ref 0] h0 = _
  unfold runFn
  rw [if_pos (by rw [np]; rfl), body]
  have a1 : evS ⟨callI P n, none, P.sub⟩ (.asg (.v 1) (.call dx (.cons (.var 0) .nil))) ([D.ref 0].map some ++ List.replicate (fd.ns - fd.np) none) h0 = .nx (([D.ref 0].map some ++ List.replicate (fd.ns - fd.np) none).set 1 (some (.ref k))) h1 := by
    have c1 : ev ⟨callI P n, none, P.sub⟩ (.call dx (.cons (.var 0) .nil)) false ([D.ref 0].map some ++ List.replicate (fd.ns - fd.np) none) h0 = .ok (.ref k) h1 := e1
    show Res.fl (ev ⟨callI P n, none, P.sub⟩ (.call dx (.cons (.var 0) .nil)) false _ h0) _ _ = _
    rw [c1]
    have b1 : bindT (.v 1) (.ref k) ([D.ref 0].map some ++ List.replicate (fd.ns - fd.np) none) = some (([D.ref 0].map some ++ List.replicate (fd.ns - fd.np) none).set 1 (some (.ref k))) := if_pos (by simp [np]; omega)
    simp only [Res.fl, b1]
  show (match (Fl.then (evS ⟨callI P n, none, P.sub⟩ _ _ h0) fun e1 h1 => evB ⟨callI P n, none, P.sub⟩ rest e1 h1) with | .nx _ h1 => _ | .rt d h1 => _ | .ex c d _ h1 => _ | _ => _) = _
  rw [a1]
  show (match evB ⟨callI P n, none, P.sub⟩ rest _ h1 with | .nx _ h1 => _ | .rt d h1 => _ | .ex c d _ h1 => _ | _ => _) = _
  rw [e2]
end VI

set_option Elab.async false
set_option linter.all false
set_option maxRecDepth 100000
set_option maxHeartbeats 4000000
/-! Evaluation over values, step by step. -/
namespace VI
open PySem PI
noncomputable section
def lkV (e : VEnv) (i : Nat) (q : Q) : RV A := match e[i]? with
  | some (some (.v x)) => .ok (.v x) q
  | some (some (.own vs)) => .ok (.bor vs) q
  | some (some .dr) => .ok .dr q
  | _ => .stuck
/-- a name that holds a value or nothing -/
def vo (o : Option V) : Option A := o.map A.v
def retLk (e : VEnv) (i : Nat) (q : Q) : FlV := match e[i]? with
  | some (some (.v x)) => .rt (.v x) q
  | some (some (.own vs)) => .rt (.own vs) q
  | _ => .stuck
def isVar : E → Bool
  | .var _ => true
  | _ => false
def isMeth : E → Bool
  | .meth _ _ _ => true
  | _ => false
def cStepV (K : VCx) (c : OE) (el : E) : VEnv → Q → RV (Option V) := fun e1 q2 => (vevC K c e1 q2).bind fun b q3 => if b then (tk (vev K el false e1 q3)).bind fun d q4 => .ok (some d) q4 else .ok none q3
def cndV (K : VCx) (c : E) : VEnv → Q → RV Bool := fun e1 q1 => asBV (vev K c true e1 q1)
def methK (K : VCx) (m : Mt) (es : Es) (e : VEnv) (a : A) (q1 : Q) : RV A := match a with
  | .dr => (vevTs K es e q1).bind fun xs q2 => (match q2 with
    | some ds => (match mtV m ds xs with
      | some (d, ds2) => if noLs ds2 then .ok (.v d) (some ds2) else .stuck
      | none => .stuck)
    | none => .stuck)
  | _ => .stuck
def ownR (ds : List V) (q2 : Q) : RV A := .ok (.own ds) q2
def bindK (t : Tgt) (r : A × VEnv) (q1 : Q) : FlV := match bindV t r.1 r.2 with
  | some e1 => .nx e1 q1
  | none => .stuck
def unlB (is : List Nat) (e : VEnv) (d : V) (q1 : Q) : FlV := bindK (.tp is) (.v (unlV d), e) q1
def unlK (K : VCx) (is : List Nat) (a : E) (e : VEnv) (q : Q) : FlV := (tk (vev K a false e q)).fl e (unlB is e)
def nxK (r : A × VEnv) (q1 : Q) : FlV := .nx r.2 q1
def asgK (K : VCx) (t : Tgt) (a : E) (e : VEnv) (q : Q) : FlV := (vevM K a e q).fl e (bindK t)
def exprK (K : VCx) (a : E) (e : VEnv) (q : Q) : FlV := (vevM K a e q).fl e nxK
def retK (K : VCx) (a : E) (e : VEnv) (q : Q) : FlV := (vev K a false e q).fl e rtV
def raisK (K : VCx) (c : Nat) (a : E) (e : VEnv) (q : Q) : FlV := (tk (vev K a false e q)).fl e fun d q1 => if K.x.isSome then .stuck else .ex c d e q1
def forK (K : VCx) (t : Tgt) (it : It) (body : B) (ks : List Nat) (e : VEnv) (q : Q) : FlV := (vevIt K true it e q).fl e fun J q1 => (loopV t (vevB K body) J e q1).then fun e2 q2 => .nx (killV ks e2) q2
def tryV (K : VCx) (hs : Hs) (r : FlV) : FlV := match r with
  | .ex c d e1 q1 => if K.x.isSome then .stuck else vevH K c d hs e1 q1
  | r => r
def kBin (K : VCx) (op : BOp) (b : E) (e : VEnv) (x : V) (q : Q) : RV A := (pk (vev K b false e q)).bind (binV op x)
def kNot (b : Bool) (q : Q) : RV A := .ok (.v (.bl !b)) q
def kCmp2 (op : COp) (x y : V) (q : Q) : RV A := ofOV (cmpV op x y) q
def kCmp (K : VCx) (op : COp) (b : E) (e : VEnv) (x : V) (q : Q) : RV A := (pk (vev K b false e q)).bind (kCmp2 op x)
def kCh3 (K : VCx) (o2 : COp) (c : E) (e : VEnv) (y : V) (k : Bool) (q : Q) : RV A := if k then (pk (vev K c false e q)).bind (kCmp2 o2 y) else .ok (.v (.bl false)) q
def kCh2 (K : VCx) (o1 o2 : COp) (c : E) (e : VEnv) (x y : V) (q : Q) : RV A := (ofBV (cmpV o1 x y) q).bind (kCh3 K o2 c e y)
def kCh1 (K : VCx) (o1 o2 : COp) (b c : E) (e : VEnv) (x : V) (q : Q) : RV A := (pk (vev K b false e q)).bind (kCh2 K o1 o2 c e x)
def kIfe (K : VCx) (a b : E) (t : Bool) (e : VEnv) (k : Bool) (q : Q) : RV A := if k then vev K a t e q else vev K b t e q
def kCall (K : VCx) (f : Nat) (as : List A) (q : Q) : RV A := gr (K.g f) (K.C f as q)
def kIx (K : VCx) (i : E) (e : VEnv) (x : V) (q : Q) : RV A := (pk (vev K i false e q)).bind (ixRV x)
def kSl3 (x : V) (l u : Option Int) (q : Q) : RV A := slV x l u q
def kSl2 (K : VCx) (hi : OE) (e : VEnv) (x : V) (l : Option Int) (q : Q) : RV A := (vevO K hi e q).bind (kSl3 x l)
def kSl1 (K : VCx) (lo hi : OE) (e : VEnv) (x : V) (q : Q) : RV A := (vevO K lo e q).bind (kSl2 K hi e x)
def kCo (K : VCx) (ks : List Nat) (tg : Tgt) (c : OE) (el : E) (e : VEnv) (J : List V) (q : Q) : RV A := (compV tg (killV ks e) (cStepV K c el) J [] q).bind ownR
def kLr (K : VCx) (tp : Bool) (b : E) (e : VEnv) (x : V) (q : Q) : RV A := (pk (vev K b false e q)).bind (lrgV2 tp x)
def kTs2 (x : V) (xs : List V) (q : Q) : RV (List V) := .ok (x :: xs) q
def kTs1 (K : VCx) (r : Es) (e : VEnv) (x : V) (q : Q) : RV (List V) := (vevTs K r e q).bind (kTs2 x)
def kPs1 (x : V) (q : Q) : RV (List V) := .ok [x] q
def kPs (K : VCx) (r : Es) (e : VEnv) (x : V) (q : Q) : RV (List V) := (vevPs K r e q).bind (kTs2 x)
def kAs2 (x : A) (xs : List A) (q : Q) : RV (List A) := .ok (x :: xs) q
def kAs1 (K : VCx) (l : Bool) (r : Es) (e : VEnv) (x : A) (q : Q) : RV (List A) := (vevAs K l r e q).bind (kAs2 x)
def kBs (K : VCx) (k t : Bool) (r : Es) (e : VEnv) (x : Bool) (q : Q) : RV A := if x == k then vevBs K k t r e q else .ok (.v (.bl x)) q
def kRng (K : VCx) (b : E) (e : VEnv) (x : V) (q : Q) : RV (List V) := (pk (vev K b false e q)).bind (rng2V x)
def kIff (K : VCx) (a b : B) (e : VEnv) (k : Bool) (q : Q) : FlV := if k then vevB K a e q else vevB K b e q
def kKill (ks : List Nat) (e : VEnv) (q : Q) : FlV := .nx (killV ks e) q
def kPut (K : VCx) (x : Nat) (i : E) (e : VEnv) (d : V) (q : Q) : FlV := (pk (vev K i false e q)).fl e (putE x e d)
def kRais (K : VCx) (c : Nat) (e : VEnv) (d : V) (q : Q) : FlV := if K.x.isSome then .stuck else .ex c d e q
def kFor (K : VCx) (g : Tgt) (body : B) (ks : List Nat) (e : VEnv) (J : List V) (q : Q) : FlV := (loopV g (vevB K body) J e q).then (kKill ks)
def kM (e : VEnv) (x : A) (q : Q) : RV (A × VEnv) := .ok (x, e) q
def kCs2 (d : V) (q : Q) : RV (Option V) := .ok (some d) q
def kCs (K : VCx) (el : E) (e : VEnv) (b : Bool) (q : Q) : RV (Option V) := if b then (tk (vev K el false e q)).bind kCs2 else .ok none q
def kMeD (m : Mt) (xs : List V) (q : Q) : RV A := (match q with | some ds => (match mtV m ds xs with | some (d, ds2) => if noLs ds2 then .ok (.v d) (some ds2) else .stuck | none => .stuck) | none => .stuck)
section
variable {K : VCx} {o : Option A} {e : VEnv} {q : Q}
theorem x_var {i : Nat} {t : Bool} : vev K (.var i) t (o :: e) q = finV t (lkV (o :: e) i q) := id rfl
theorem x_int {i : Int} {t : Bool} : vev K (.int i) t (o :: e) q = finV t (.ok (.v (.int i)) q) := id rfl
theorem x_str {s : Str} {t : Bool} : vev K (.str s) t (o :: e) q = finV t (.ok (.v (.str s)) q) := id rfl
theorem x_bl {b : Bool} {t : Bool} : vev K (.bl b) t (o :: e) q = finV t (.ok (.v (.bl b)) q) := id rfl
theorem x_non {t : Bool} : vev K .non t (o :: e) q = finV t (.ok (.v .non) q) := id rfl
theorem k_bin {op : BOp} {b : E} {x : V} : kBin K op b (o :: e) x q = (pk (vev K b false (o :: e) q)).bind (binV op x) := id rfl
theorem x_bin {op : BOp} {a b : E} {t : Bool} : vev K (.bin op a b) t (o :: e) q = finV t ((pk (vev K a false (o :: e) q)).bind (kBin K op b (o :: e))) := id rfl
theorem x_neg {a : E} {t : Bool} : vev K (.neg a) t (o :: e) q = finV t ((pk (vev K a false (o :: e) q)).bind negV) := id rfl
theorem k_not {b : Bool} : kNot b q = RV.ok (.v (.bl !b)) q := id rfl
theorem x_not_f {a : E} : vev K (.not a) false (o :: e) q = (tstV (vev K a false (o :: e) q)).bind kNot := id rfl
theorem x_not_t {a : E} : vev K (.not a) true (o :: e) q = (asBV (vev K a true (o :: e) q)).bind kNot := id rfl
theorem k_cmp2 {op : COp} {x y : V} : kCmp2 op x y q = ofOV (cmpV op x y) q := id rfl
theorem k_cmp {op : COp} {b : E} {x : V} : kCmp K op b (o :: e) x q = (pk (vev K b false (o :: e) q)).bind (kCmp2 op x) := id rfl
theorem x_cmp {op : COp} {a b : E} {t : Bool} : vev K (.cmp op a b) t (o :: e) q = finV t ((pk (vev K a false (o :: e) q)).bind (kCmp K op b (o :: e))) := id rfl
theorem k_ch3t {o2 : COp} {c : E} {y : V} : kCh3 K o2 c (o :: e) y true q = (pk (vev K c false (o :: e) q)).bind (kCmp2 o2 y) := id rfl
theorem k_ch3f {o2 : COp} {c : E} {y : V} : kCh3 K o2 c (o :: e) y false q = RV.ok (.v (.bl false)) q := id rfl
theorem k_ch2 {o1 o2 : COp} {c : E} {x y : V} : kCh2 K o1 o2 c (o :: e) x y q = (ofBV (cmpV o1 x y) q).bind (kCh3 K o2 c (o :: e) y) := id rfl
theorem k_ch1 {o1 o2 : COp} {b c : E} {x : V} : kCh1 K o1 o2 b c (o :: e) x q = (pk (vev K b false (o :: e) q)).bind (kCh2 K o1 o2 c (o :: e) x) := id rfl
theorem x_chain {o1 o2 : COp} {a b c : E} {t : Bool} : vev K (.chain o1 o2 a b c) t (o :: e) q = finV t ((pk (vev K a false (o :: e) q)).bind (kCh1 K o1 o2 b c (o :: e))) := id rfl
theorem x_boo {k : Bool} {es : Es} {t : Bool} : vev K (.boo k es) t (o :: e) q = vevBs K k t es (o :: e) q := id rfl
theorem k_ifet {a b : E} {t : Bool} : kIfe K a b t (o :: e) true q = vev K a t (o :: e) q := id rfl
theorem k_ifef {a b : E} {t : Bool} : kIfe K a b t (o :: e) false q = vev K b t (o :: e) q := id rfl
theorem x_ife {c a b : E} {t : Bool} : vev K (.ife c a b) t (o :: e) q = (asBV (vev K c true (o :: e) q)).bind (kIfe K a b t (o :: e)) := id rfl
theorem x_tup {es : Es} {t : Bool} : vev K (.tup es) t (o :: e) q = finV t ((vevTs K es (o :: e) q).bind tupV) := id rfl
theorem x_lst {es : Es} {t : Bool} : vev K (.lst es) t (o :: e) q = finV t ((vevTs K es (o :: e) q).bind lstV) := id rfl
theorem k_call {f : Nat} {as : List A} : kCall K f as q = gr (K.g f) (K.C f as q) := id rfl
theorem x_call {f : Nat} {es : Es} {t : Bool} : vev K (.call f es) t (o :: e) q = finV t (if K.x.isSome then .stuck else (vevAs K (K.g f) es (o :: e) q).bind (kCall K f)) := id rfl
theorem x_bi {b : BI} {es : Es} {t : Bool} : vev K (.bi b es) t (o :: e) q = finV t ((vevPs K es (o :: e) q).bind (biV b)) := id rfl
theorem x_isin {a : E} {ts : List Ty} {k : Bool} {t : Bool} : vev K (.isin a ts k) t (o :: e) q = finV t ((pkQ (vev K a false (o :: e) q)).bind (isinV ts)) := id rfl
theorem k_ix {i : E} {x : V} : kIx K i (o :: e) x q = (pk (vev K i false (o :: e) q)).bind (ixRV x) := id rfl
theorem x_ix {a i : E} {t : Bool} : vev K (.ix a i) t (o :: e) q = finV t ((pk (vev K a false (o :: e) q)).bind (kIx K i (o :: e))) := id rfl
theorem k_sl3 {x : V} {l u : Option Int} : kSl3 x l u q = slV x l u q := id rfl
theorem k_sl2 {hi : OE} {x : V} {l : Option Int} : kSl2 K hi (o :: e) x l q = (vevO K hi (o :: e) q).bind (kSl3 x l) := id rfl
theorem k_sl1 {lo hi : OE} {x : V} : kSl1 K lo hi (o :: e) x q = (vevO K lo (o :: e) q).bind (kSl2 K hi (o :: e) x) := id rfl
theorem x_sl {a : E} {lo hi : OE} {t : Bool} : vev K (.sl a lo hi) t (o :: e) q = finV t ((pk (vev K a false (o :: e) q)).bind (kSl1 K lo hi (o :: e))) := id rfl
theorem x_meth {m : Mt} {a : E} {es : Es} {t : Bool} : vev K (.meth m a es) t (o :: e) q = finV t ((vev K a false (o :: e) q).bind (methK K m es (o :: e))) := id rfl
theorem k_co {ks : List Nat} {tg : Tgt} {c : OE} {el : E} {J : List V} : kCo K ks tg c el (o :: e) J q = (compV tg (killV ks (o :: e)) (cStepV K c el) J [] q).bind ownR := id rfl
theorem x_comp {own : List (Str × Nat)} {tg : Tgt} {it : It} {c : OE} {el : E} {t : Bool} : vev K (.comp own tg it c el) t (o :: e) q = finV t ((vevIt K false it (o :: e) q).bind (kCo K (own.map (·.2)) tg c el (o :: e))) := id rfl
theorem x_cst {n : Str} {v : Int} {t : Bool} : vev K (.cst n v) t (o :: e) q = finV t (.ok (.v (.int v)) q) := id rfl
theorem x_lrg1 {tp : Bool} {a : E} {t : Bool} : vev K (.lrg1 tp a) t (o :: e) q = finV t ((pk (vev K a false (o :: e) q)).bind (lrgV1 tp)) := id rfl
theorem k_lr {tp : Bool} {b : E} {x : V} : kLr K tp b (o :: e) x q = (pk (vev K b false (o :: e) q)).bind (lrgV2 tp x) := id rfl
theorem x_lrg3 {tp : Bool} {es : Es} {t : Bool} : vev K (.lrg3 tp es) t (o :: e) q = finV t ((vevTs K es (o :: e) q).bind (lrgV3 tp)) := id rfl
theorem x_lrg2 {tp : Bool} {a b : E} {t : Bool} : vev K (.lrg2 tp a b) t (o :: e) q = finV t ((pk (vev K a false (o :: e) q)).bind (kLr K tp b (o :: e))) := id rfl
theorem x_xfld {t : Bool} : vev K .xfld t (o :: e) q = finV t (match K.x with | some (_, d) => .ok (.v d) q | none => .stuck) := id rfl
theorem x_xis {cs : List Nat} {k : Bool} {t : Bool} : vev K (.xis cs k) t (o :: e) q = finV t (match K.x with | some (c, _) => .ok (.v (.bl (cs.any (K.sub c)))) q | none => .stuck) := id rfl
theorem x_ts0 : vevTs K .nil (o :: e) q = .ok [] q := id rfl
theorem k_ts2 {x : V} {xs : List V} : kTs2 x xs q = RV.ok (x :: xs) q := id rfl
theorem k_ts1 {r : Es} {x : V} : kTs1 K r (o :: e) x q = (vevTs K r (o :: e) q).bind (kTs2 x) := id rfl
theorem x_ts {a : E} {r : Es} : vevTs K (.cons a r) (o :: e) q = (tk (vev K a false (o :: e) q)).bind (kTs1 K r (o :: e)) := id rfl
theorem x_ps0 : vevPs K .nil (o :: e) q = .ok [] q := id rfl
theorem k_ps1 {x : V} : kPs1 x q = RV.ok [x] q := id rfl
theorem x_ps1 {a : E} : vevPs K (.cons a .nil) (o :: e) q = (pkQ (vev K a false (o :: e) q)).bind kPs1 := id rfl
theorem k_ps {r : Es} {x : V} : kPs K r (o :: e) x q = (vevPs K r (o :: e) q).bind (kTs2 x) := id rfl
theorem x_ps {a b : E} {r : Es} : vevPs K (.cons a (.cons b r)) (o :: e) q = (pk (vev K a false (o :: e) q)).bind (kPs K (.cons b r) (o :: e)) := id rfl
theorem x_as0 {l : Bool} : vevAs K l .nil (o :: e) q = .ok [] q := id rfl
theorem k_as2 {x : A} {xs : List A} : kAs2 x xs q = RV.ok (x :: xs) q := id rfl
theorem k_as1 {l : Bool} {r : Es} {x : A} : kAs1 K l r (o :: e) x q = (vevAs K l r (o :: e) q).bind (kAs2 x) := id rfl
theorem x_as {a : E} {r : Es} {l : Bool} : vevAs K l (.cons a r) (o :: e) q = (ag l (vev K a false (o :: e) q)).bind (kAs1 K l r (o :: e)) := id rfl
theorem x_bs1 {a : E} {k t : Bool} : vevBs K k t (.cons a .nil) (o :: e) q = vev K a t (o :: e) q := id rfl
theorem k_bstt {t : Bool} {r : Es} : kBs K true t r (o :: e) true q = vevBs K true t r (o :: e) q := id rfl
theorem k_bsff {t : Bool} {r : Es} : kBs K false t r (o :: e) false q = vevBs K false t r (o :: e) q := id rfl
theorem k_bstf {t : Bool} {r : Es} : kBs K true t r (o :: e) false q = RV.ok (.v (.bl false)) q := id rfl
theorem k_bsft {t : Bool} {r : Es} : kBs K false t r (o :: e) true q = RV.ok (.v (.bl true)) q := id rfl
theorem x_bs {a b : E} {r : Es} {k t : Bool} : vevBs K k t (.cons a (.cons b r)) (o :: e) q = (asBV (vev K a t (o :: e) q)).bind (kBs K k t (.cons b r) (o :: e)) := id rfl
theorem x_o0 : vevO K .none (o :: e) q = .ok none q := id rfl
theorem x_o {a : E} : vevO K (.some a) (o :: e) q = (pk (vev K a false (o :: e) q)).bind intOV := id rfl
theorem x_c0 : vevC K .none (o :: e) q = .ok true q := id rfl
theorem x_c {a : E} : vevC K (.some a) (o :: e) q = asBV (vev K a true (o :: e) q) := id rfl
theorem x_seq {a : E} {l : Bool} : vevIt K l (.seq a) (o :: e) q = ((pt l (vev K a false (o :: e) q)).bind seqIV).bind wlk := id rfl
theorem x_rng1 {a : E} {l : Bool} : vevIt K l (.rng1 a) (o :: e) q = ((pk (vev K a false (o :: e) q)).bind rng1V).bind wlk := id rfl
theorem k_rng {b : E} {x : V} : kRng K b (o :: e) x q = (pk (vev K b false (o :: e) q)).bind (rng2V x) := id rfl
theorem x_rng2 {a b : E} {l : Bool} : vevIt K l (.rng2 a b) (o :: e) q = ((pk (vev K a false (o :: e) q)).bind (kRng K b (o :: e))).bind wlk := id rfl
theorem x_enum {a : E} {l : Bool} : vevIt K l (.enum a) (o :: e) q = ((pt l (vev K a false (o :: e) q)).bind enumIV).bind wlk := id rfl
theorem x_asg {g : Tgt} {a : E} : vevS K (.asg g a) (o :: e) q = asgK K g a (frzE K.g a (o :: e)) q := id rfl
theorem x_unl {is : List Nat} {a : E} : vevS K (.unl is a) (o :: e) q = unlK K is a (frzE K.g a (o :: e)) q := id rfl
theorem x_put {x : Nat} {i a : E} : vevS K (.put (.var x) i a) (o :: e) q = putV K x i a (frzE K.g a (o :: e)) q := id rfl
theorem x_expr {a : E} : vevS K (.expr a) (o :: e) q = exprK K a (frzE K.g a (o :: e)) q := id rfl
theorem x_retv {i : Nat} : vevS K (.ret (.var i)) (o :: e) q = retLk (o :: e) i q := id rfl
theorem x_retN : vevS K .retN (o :: e) q = .rt (.v .non) q := id rfl
theorem k_ifft {a b : B} : kIff K a b (o :: e) true q = vevB K a (o :: e) q := id rfl
theorem k_ifff {a b : B} : kIff K a b (o :: e) false q = vevB K b (o :: e) q := id rfl
theorem x_iff {c : E} {a b : B} : vevS K (.iff c a b) (o :: e) q = (asBV (vev K c true (o :: e) q)).fl (o :: e) (kIff K a b (o :: e)) := id rfl
theorem x_for {g : Tgt} {it : It} {body : B} {ks : List Nat} : vevS K (.forr g it body ks) (o :: e) q = forK K g it body ks (frzI K.g it (o :: e)) q := id rfl
theorem k_kill {ks : List Nat} : kKill ks (o :: e) q = FlV.nx (killV ks (o :: e)) q := id rfl
theorem x_whl {c : E} {body : B} {ks : List Nat} : vevS K (.whl c body ks) (o :: e) q = (whileV (cndV K c) (vevB K body) fuelV (o :: e) q).then (kKill ks) := id rfl
theorem x_brk : vevS K .brk (o :: e) q = .bk (o :: e) q := id rfl
theorem x_cnt : vevS K .cnt (o :: e) q = .ct (o :: e) q := id rfl
theorem x_pass : vevS K .pass (o :: e) q = .nx (o :: e) q := id rfl
theorem x_rais {c : Nat} {a : E} : vevS K (.rais c a) (o :: e) q = raisK K c a (frzE K.g a (o :: e)) q := id rfl
theorem x_try {body : B} {hs : Hs} : vevS K (.tryy body hs) (o :: e) q = tryV K hs (vevB K body (o :: e) q) := id rfl
theorem x_b0 : vevB K .nil (o :: e) q = .nx (o :: e) q := id rfl
theorem x_b {s : S} {b : B} : vevB K (.cons s b) (o :: e) q = (vevS K s (o :: e) q).then (vevB K b) := id rfl
theorem x_h0 {c : Nat} {d : V} : vevH K c d .nil (o :: e) q = .ex c d (o :: e) q := id rfl
theorem x_h {c c1 : Nat} {d : V} {sl : Option Nat} {body : B} {r : Hs} : vevH K c d (.cons c1 sl body r) (o :: e) q = (if K.sub c c1 then (if slOkV sl (o :: e) then (vevB { K with x := some (c, d) } body (wipeV sl (o :: e)) q).sui sl else .stuck) else vevH K c d r (o :: e) q) := id rfl
theorem y_unl {is : List Nat} {a : E} : unlK K is a (o :: e) q = (tk (vev K a false (o :: e) q)).fl (o :: e) (unlB is (o :: e)) := id rfl
theorem y_unb {is : List Nat} {d : V} : unlB is (o :: e) d q = bindK (.tp is) (.v (unlV d), o :: e) q := id rfl
theorem unl_t {vs : List V} : unlV (.tup vs) = .tup vs := id rfl
theorem unl_l {vs : List V} : unlV (.lst vs) = .tup vs := id rfl
theorem unl_c {vs : List V} : unlV (.con vs) = .tup vs := id rfl
theorem y_asg {g : Tgt} {a : E} : asgK K g a (o :: e) q = (vevM K a (o :: e) q).fl (o :: e) (bindK g) := id rfl
theorem k_put {x : Nat} {i : E} {d : V} : kPut K x i (o :: e) d q = (pk (vev K i false (o :: e) q)).fl (o :: e) (putE x (o :: e) d) := id rfl
theorem y_put {x : Nat} {i a : E} : putV K x i a (o :: e) q = if ownAt (o :: e) x then (tk (vev K a false (o :: e) q)).fl (o :: e) (kPut K x i (o :: e)) else .stuck := id rfl
theorem y_pute {x : Nat} {d : V} {j : Int} : putE x (o :: e) d (.int j) q = (match (o :: e)[x]? with | some (some (.own vs)) => (match L2.ixN vs.length j with | some k => .nx ((o :: e).set x (some (.own (vs.set k d)))) q | none => .stuck) | _ => .stuck) := id rfl
theorem y_expr {a : E} : exprK K a (o :: e) q = (vevM K a (o :: e) q).fl (o :: e) nxK := id rfl
theorem y_ret {a : E} : retK K a (o :: e) q = (vev K a false (o :: e) q).fl (o :: e) rtV := id rfl
theorem k_rais {c : Nat} {d : V} : kRais K c (o :: e) d q = (if K.x.isSome then .stuck else .ex c d (o :: e) q) := id rfl
theorem y_rais {c : Nat} {a : E} : raisK K c a (o :: e) q = (tk (vev K a false (o :: e) q)).fl (o :: e) (kRais K c (o :: e)) := id rfl
theorem k_for {g : Tgt} {body : B} {ks : List Nat} {J : List V} : kFor K g body ks (o :: e) J q = (loopV g (vevB K body) J (o :: e) q).then (kKill ks) := id rfl
theorem y_for {g : Tgt} {it : It} {body : B} {ks : List Nat} : forK K g it body ks (o :: e) q = (vevIt K true it (o :: e) q).fl (o :: e) (kFor K g body ks (o :: e)) := id rfl
theorem k_m {x : A} : kM (o :: e) x q = RV.ok (x, o :: e) q := id rfl
theorem xr_int {i : Int} : vevS K (.ret (.int i)) (o :: e) q = retK K (.int i) (frzE K.g (.int i) (o :: e)) q := id rfl
theorem ym_int {i : Int} : vevM K (.int i) (o :: e) q = (vev K (.int i) false (o :: e) q).bind (kM (o :: e)) := id rfl
theorem xr_str {s : Str} : vevS K (.ret (.str s)) (o :: e) q = retK K (.str s) (frzE K.g (.str s) (o :: e)) q := id rfl
theorem ym_str {s : Str} : vevM K (.str s) (o :: e) q = (vev K (.str s) false (o :: e) q).bind (kM (o :: e)) := id rfl
theorem xr_bl {b : Bool} : vevS K (.ret (.bl b)) (o :: e) q = retK K (.bl b) (frzE K.g (.bl b) (o :: e)) q := id rfl
theorem ym_bl {b : Bool} : vevM K (.bl b) (o :: e) q = (vev K (.bl b) false (o :: e) q).bind (kM (o :: e)) := id rfl
theorem xr_non : vevS K (.ret .non) (o :: e) q = retK K .non (frzE K.g .non (o :: e)) q := id rfl
theorem ym_non : vevM K .non (o :: e) q = (vev K .non false (o :: e) q).bind (kM (o :: e)) := id rfl
theorem xr_bin {op : BOp} {a b : E} : vevS K (.ret (.bin op a b)) (o :: e) q = retK K (.bin op a b) (frzE K.g (.bin op a b) (o :: e)) q := id rfl
theorem ym_bin {op : BOp} {a b : E} : vevM K (.bin op a b) (o :: e) q = (vev K (.bin op a b) false (o :: e) q).bind (kM (o :: e)) := id rfl
theorem xr_neg {a : E} : vevS K (.ret (.neg a)) (o :: e) q = retK K (.neg a) (frzE K.g (.neg a) (o :: e)) q := id rfl
theorem ym_neg {a : E} : vevM K (.neg a) (o :: e) q = (vev K (.neg a) false (o :: e) q).bind (kM (o :: e)) := id rfl
theorem xr_not {a : E} : vevS K (.ret (.not a)) (o :: e) q = retK K (.not a) (frzE K.g (.not a) (o :: e)) q := id rfl
theorem ym_not {a : E} : vevM K (.not a) (o :: e) q = (vev K (.not a) false (o :: e) q).bind (kM (o :: e)) := id rfl
theorem xr_cmp {op : COp} {a b : E} : vevS K (.ret (.cmp op a b)) (o :: e) q = retK K (.cmp op a b) (frzE K.g (.cmp op a b) (o :: e)) q := id rfl
theorem ym_cmp {op : COp} {a b : E} : vevM K (.cmp op a b) (o :: e) q = (vev K (.cmp op a b) false (o :: e) q).bind (kM (o :: e)) := id rfl
theorem xr_chain {o1 o2 : COp} {a b c : E} : vevS K (.ret (.chain o1 o2 a b c)) (o :: e) q = retK K (.chain o1 o2 a b c) (frzE K.g (.chain o1 o2 a b c) (o :: e)) q := id rfl
theorem ym_chain {o1 o2 : COp} {a b c : E} : vevM K (.chain o1 o2 a b c) (o :: e) q = (vev K (.chain o1 o2 a b c) false (o :: e) q).bind (kM (o :: e)) := id rfl
theorem xr_boo {k : Bool} {es : Es} : vevS K (.ret (.boo k es)) (o :: e) q = retK K (.boo k es) (frzE K.g (.boo k es) (o :: e)) q := id rfl
theorem ym_boo {k : Bool} {es : Es} : vevM K (.boo k es) (o :: e) q = (vev K (.boo k es) false (o :: e) q).bind (kM (o :: e)) := id rfl
theorem xr_ife {c a b : E} : vevS K (.ret (.ife c a b)) (o :: e) q = retK K (.ife c a b) (frzE K.g (.ife c a b) (o :: e)) q := id rfl
theorem ym_ife {c a b : E} : vevM K (.ife c a b) (o :: e) q = (vev K (.ife c a b) false (o :: e) q).bind (kM (o :: e)) := id rfl
theorem xr_tup {es : Es} : vevS K (.ret (.tup es)) (o :: e) q = retK K (.tup es) (frzE K.g (.tup es) (o :: e)) q := id rfl
theorem ym_tup {es : Es} : vevM K (.tup es) (o :: e) q = (vev K (.tup es) false (o :: e) q).bind (kM (o :: e)) := id rfl
theorem xr_lst {es : Es} : vevS K (.ret (.lst es)) (o :: e) q = retK K (.lst es) (frzE K.g (.lst es) (o :: e)) q := id rfl
theorem ym_lst {es : Es} : vevM K (.lst es) (o :: e) q = (vev K (.lst es) false (o :: e) q).bind (kM (o :: e)) := id rfl
theorem xr_call {f : Nat} {es : Es} : vevS K (.ret (.call f es)) (o :: e) q = retK K (.call f es) (frzE K.g (.call f es) (o :: e)) q := id rfl
theorem ym_call {f : Nat} {es : Es} : vevM K (.call f es) (o :: e) q = (vev K (.call f es) false (o :: e) q).bind (kM (o :: e)) := id rfl
theorem xr_bi {b : BI} {es : Es} : vevS K (.ret (.bi b es)) (o :: e) q = retK K (.bi b es) (frzE K.g (.bi b es) (o :: e)) q := id rfl
theorem ym_bi {b : BI} {es : Es} : vevM K (.bi b es) (o :: e) q = (vev K (.bi b es) false (o :: e) q).bind (kM (o :: e)) := id rfl
theorem xr_isin {a : E} {ts : List Ty} {k : Bool} : vevS K (.ret (.isin a ts k)) (o :: e) q = retK K (.isin a ts k) (frzE K.g (.isin a ts k) (o :: e)) q := id rfl
theorem ym_isin {a : E} {ts : List Ty} {k : Bool} : vevM K (.isin a ts k) (o :: e) q = (vev K (.isin a ts k) false (o :: e) q).bind (kM (o :: e)) := id rfl
theorem xr_ix {a i : E} : vevS K (.ret (.ix a i)) (o :: e) q = retK K (.ix a i) (frzE K.g (.ix a i) (o :: e)) q := id rfl
theorem ym_ix {a i : E} : vevM K (.ix a i) (o :: e) q = (vev K (.ix a i) false (o :: e) q).bind (kM (o :: e)) := id rfl
theorem xr_sl {a : E} {lo hi : OE} : vevS K (.ret (.sl a lo hi)) (o :: e) q = retK K (.sl a lo hi) (frzE K.g (.sl a lo hi) (o :: e)) q := id rfl
theorem ym_sl {a : E} {lo hi : OE} : vevM K (.sl a lo hi) (o :: e) q = (vev K (.sl a lo hi) false (o :: e) q).bind (kM (o :: e)) := id rfl
theorem xr_comp {own : List (Str × Nat)} {tg : Tgt} {it : It} {c : OE} {el : E} : vevS K (.ret (.comp own tg it c el)) (o :: e) q = retK K (.comp own tg it c el) (frzE K.g (.comp own tg it c el) (o :: e)) q := id rfl
theorem ym_comp {own : List (Str × Nat)} {tg : Tgt} {it : It} {c : OE} {el : E} : vevM K (.comp own tg it c el) (o :: e) q = (vev K (.comp own tg it c el) false (o :: e) q).bind (kM (o :: e)) := id rfl
theorem xr_cst {n : Str} {v : Int} : vevS K (.ret (.cst n v)) (o :: e) q = retK K (.cst n v) (frzE K.g (.cst n v) (o :: e)) q := id rfl
theorem ym_cst {n : Str} {v : Int} : vevM K (.cst n v) (o :: e) q = (vev K (.cst n v) false (o :: e) q).bind (kM (o :: e)) := id rfl
theorem xr_lrg1 {tp : Bool} {a : E} : vevS K (.ret (.lrg1 tp a)) (o :: e) q = retK K (.lrg1 tp a) (frzE K.g (.lrg1 tp a) (o :: e)) q := id rfl
theorem ym_lrg1 {tp : Bool} {a : E} : vevM K (.lrg1 tp a) (o :: e) q = (vev K (.lrg1 tp a) false (o :: e) q).bind (kM (o :: e)) := id rfl
theorem xr_lrg2 {tp : Bool} {a b : E} : vevS K (.ret (.lrg2 tp a b)) (o :: e) q = retK K (.lrg2 tp a b) (frzE K.g (.lrg2 tp a b) (o :: e)) q := id rfl
theorem ym_lrg2 {tp : Bool} {a b : E} : vevM K (.lrg2 tp a b) (o :: e) q = (vev K (.lrg2 tp a b) false (o :: e) q).bind (kM (o :: e)) := id rfl
theorem xr_lrg3 {tp : Bool} {es : Es} : vevS K (.ret (.lrg3 tp es)) (o :: e) q = retK K (.lrg3 tp es) (frzE K.g (.lrg3 tp es) (o :: e)) q := id rfl
theorem ym_lrg3 {tp : Bool} {es : Es} : vevM K (.lrg3 tp es) (o :: e) q = (vev K (.lrg3 tp es) false (o :: e) q).bind (kM (o :: e)) := id rfl
theorem xr_xfld : vevS K (.ret .xfld) (o :: e) q = retK K .xfld (frzE K.g .xfld (o :: e)) q := id rfl
theorem ym_xfld : vevM K .xfld (o :: e) q = (vev K .xfld false (o :: e) q).bind (kM (o :: e)) := id rfl
theorem xr_xis {cs : List Nat} {k : Bool} : vevS K (.ret (.xis cs k)) (o :: e) q = retK K (.xis cs k) (frzE K.g (.xis cs k) (o :: e)) q := id rfl
theorem ym_xis {cs : List Nat} {k : Bool} : vevM K (.xis cs k) (o :: e) q = (vev K (.xis cs k) false (o :: e) q).bind (kM (o :: e)) := id rfl
theorem ym_var {i : Nat} : vevM K (.var i) (o :: e) q = (vev K (.var i) false (o :: e) q).bind (kM (o :: e)) := id rfl
theorem xr_meth {m : Mt} {a : E} {es : Es} : vevS K (.ret (.meth m a es)) (o :: e) q = retK K (.meth m a es) (frzE K.g (.meth m a es) (o :: e)) q := id rfl
theorem y_mv {i : Nat} {m : Mt} {es : Es} : vevM K (.meth m (.var i) es) (o :: e) q = if ownAt (o :: e) i then (vevTs K es (o :: e) q).bind (mtE i m (o :: e)) else (vev K (.meth m (.var i) es) false (o :: e) q).bind (kM (o :: e)) := id rfl
theorem y_bind {g : Tgt} {a : A} : bindK g (a, o :: e) q = (match bindV g a (o :: e) with | some e1 => FlV.nx e1 q | none => .stuck) := id rfl
theorem y_nx {a : A} : nxK (a, o :: e) q = FlV.nx (o :: e) q := id rfl
theorem k_cs2 {d : V} : kCs2 d q = RV.ok (some d) q := id rfl
theorem k_cst {el : E} : kCs K el (o :: e) true q = (tk (vev K el false (o :: e) q)).bind kCs2 := id rfl
theorem k_csf {el : E} : kCs K el (o :: e) false q = RV.ok none q := id rfl
theorem y_cs {c : OE} {el : E} : cStepV K c el (o :: e) q = (vevC K c (o :: e) q).bind (kCs K el (o :: e)) := id rfl
theorem y_cnd {c : E} : cndV K c (o :: e) q = asBV (vev K c true (o :: e) q) := id rfl
theorem k_med {m : Mt} {xs ds : List V} : kMeD m xs (some ds) = (match mtV m ds xs with | some (d, ds2) => if noLs ds2 then RV.ok (.v d) (some ds2) else .stuck | none => .stuck) := id rfl
theorem y_methD {m : Mt} {es : Es} : methK K m es (o :: e) A.dr q = (vevTs K es (o :: e) q).bind (kMeD m) := id rfl
end
/-! ### how results go on -/
theorem b_ok {α β : Type} {a : α} {q : Q} {f : α → Q → RV β} : (RV.ok a q).bind f = f a q := id rfl
theorem b_exc {α β : Type} {c : Nat} {x : V} {q : Q} {f : α → Q → RV β} : (RV.exc c x q : RV α).bind f = .exc c x q := id rfl
theorem f_ok {α : Type} {a : α} {q : Q} {e : VEnv} {f : α → Q → FlV} : (RV.ok a q).fl e f = f a q := id rfl
theorem f_exc {α : Type} {c : Nat} {x : V} {q : Q} {e : VEnv} {f : α → Q → FlV} : (RV.exc c x q : RV α).fl e f = .ex c x e q := id rfl
theorem t_nx {e : VEnv} {q : Q} {f : VEnv → Q → FlV} : (FlV.nx e q).then f = f e q := id rfl
theorem t_rt {a : A} {q : Q} {f : VEnv → Q → FlV} : (FlV.rt a q).then f = .rt a q := id rfl
theorem t_bk {e : VEnv} {q : Q} {f : VEnv → Q → FlV} : (FlV.bk e q).then f = .bk e q := id rfl
theorem t_ct {e : VEnv} {q : Q} {f : VEnv → Q → FlV} : (FlV.ct e q).then f = .ct e q := id rfl
theorem t_ex {c : Nat} {x : V} {e : VEnv} {q : Q} {f : VEnv → Q → FlV} : (FlV.ex c x e q).then f = .ex c x e q := id rfl
theorem o_nx {e : VEnv} {q : Q} : (FlV.nx e q).out = .ok (.v .non) q := id rfl
theorem o_rt {a : A} {q : Q} : (FlV.rt a q).out = .ok a q := id rfl
theorem o_ex {c : Nat} {x : V} {e : VEnv} {q : Q} : (FlV.ex c x e q).out = .exc c x q := id rfl
theorem u_nx {K : VCx} {hs : Hs} {e : VEnv} {q : Q} : tryV K hs (.nx e q) = .nx e q := id rfl
theorem u_rt {K : VCx} {hs : Hs} {a : A} {q : Q} : tryV K hs (.rt a q) = .rt a q := id rfl
theorem u_ex {K : VCx} {hs : Hs} {c : Nat} {x : V} {e : VEnv} {q : Q} : tryV K hs (.ex c x e q) = (if K.x.isSome then .stuck else vevH K c x hs e q) := id rfl
theorem s_nx {sl : Option Nat} {e : VEnv} {q : Q} : (FlV.nx e q).sui sl = .nx (wipeV sl e) q := id rfl
theorem s_rt {sl : Option Nat} {a : A} {q : Q} : (FlV.rt a q).sui sl = .rt a q := id rfl
theorem fin_F {r : RV A} : finV false r = r := id rfl
theorem fin_T {r : RV A} : finV true r = (tstV r).bind fun b q => .ok (.v (.bl b)) q := id rfl
theorem tst_bl {b : Bool} {q : Q} : tstV (.ok (.v (.bl b)) q) = .ok b q := id rfl
theorem tst_int {i : Int} {q : Q} : tstV (.ok (.v (.int i)) q) = .ok (i != 0) q := id rfl
theorem tst_tup {vs : List V} {q : Q} : tstV (.ok (.v (.tup vs)) q) = .ok (!vs.isEmpty) q := id rfl
theorem tst_lst {vs : List V} {q : Q} : tstV (.ok (.v (.lst vs)) q) = .ok (!vs.isEmpty) q := id rfl
theorem tst_own {vs : List V} {q : Q} : tstV (.ok (.own vs) q) = .ok (!vs.isEmpty) q := id rfl
theorem tst_bor {vs : List V} {q : Q} : tstV (.ok (.bor vs) q) = .ok (!vs.isEmpty) q := id rfl
theorem tst_non {q : Q} : tstV (.ok (.v .non) q) = .ok false q := id rfl
theorem tst_exc {c : Nat} {x : V} {q : Q} : tstV (.exc c x q) = .exc c x q := id rfl
theorem asB_bl {b : Bool} {q : Q} : asBV (.ok (.v (.bl b)) q) = .ok b q := id rfl
theorem asB_exc {c : Nat} {x : V} {q : Q} : asBV (.exc c x q) = .exc c x q := id rfl
theorem pk_v {x : V} {q : Q} : pk (.ok (.v x) q) = .ok x q := id rfl
theorem pk_own {vs : List V} {q : Q} : pk (.ok (.own vs) q) = .ok (.lst vs) q := id rfl
theorem pk_bor {vs : List V} {q : Q} : pk (.ok (.bor vs) q) = .ok (.lst vs) q := id rfl
theorem pk_exc {c : Nat} {x : V} {q : Q} : pk (.exc c x q) = .exc c x q := id rfl
theorem pkQ_v {x : V} {q : Q} : pkQ (.ok (.v x) q) = .ok x q := id rfl
theorem pkQ_own {vs : List V} {q : Q} : pkQ (.ok (.own vs) q) = .ok (.lst vs) q := id rfl
theorem pkQ_bor {vs : List V} {q : Q} : pkQ (.ok (.bor vs) q) = .ok (.lst vs) q := id rfl
theorem pkQ_exc {c : Nat} {x : V} {q : Q} : pkQ (.exc c x q) = .exc c x q := id rfl
theorem tk_v {x : V} {q : Q} : tk (.ok (.v x) q) = .ok x q := id rfl
theorem tk_own {vs : List V} {q : Q} : tk (.ok (.own vs) q) = .ok (.lst vs) q := id rfl
theorem tk_exc {c : Nat} {x : V} {q : Q} : tk (.exc c x q) = .exc c x q := id rfl
theorem pkQ_dr {vs : List V} : pkQ (.ok .dr (some vs)) = .ok (.lst vs) (some vs) := id rfl
theorem pt_T {r : RV A} : pt true r = tk r := id rfl
theorem pt_F {r : RV A} : pt false r = pk r := id rfl
theorem ag_v {l : Bool} {x : V} {q : Q} : ag l (.ok (.v x) q) = .ok (.v x) q := id rfl
theorem ag_own {l : Bool} {vs : List V} {q : Q} : ag l (.ok (.own vs) q) = .ok (.v (.lst vs)) q := id rfl
theorem ag_bor {vs : List V} {q : Q} : ag true (.ok (.bor vs) q) = .ok (.v (.lst vs)) q := id rfl
theorem ag_dr {l : Bool} {q : Q} : ag l (.ok .dr q) = .ok .dr q := id rfl
theorem ag_exc {l : Bool} {c : Nat} {x : V} {q : Q} : ag l (.exc c x q) = .exc c x q := id rfl
theorem gr_F {r : RV A} : gr false r = r := id rfl
theorem gr_v {x : V} {q : Q} : gr true (.ok (.v x) q) = if noL x then .ok (.v x) q else .stuck := id rfl
theorem gr_exc {c : Nat} {x : V} {q : Q} : gr true (.exc c x q) = if noL x then .exc c x q else .stuck := id rfl
theorem own_v {x : V} : isOwn (some (.v x)) = false := id rfl
theorem own_own {vs : List V} : isOwn (some (.own vs)) = true := id rfl
theorem own_dr : isOwn (some .dr) = false := id rfl
theorem own_no : isOwn none = false := id rfl
theorem vo_n : vo none = none := id rfl
theorem vo_s {x : V} : vo (some x) = some (.v x) := id rfl
theorem own_vo {o : Option V} : isOwn (vo o) = false := by cases o <;> rfl
theorem frz_vo {o : Option V} : frz1 (vo o) = vo o := by cases o <;> rfl
theorem rt_v {x : V} {q : Q} : rtV (.v x) q = .rt (.v x) q := id rfl
theorem rt_own {vs : List V} {q : Q} : rtV (.own vs) q = .rt (.own vs) q := id rfl
theorem ofO_s {b : Bool} {q : Q} : ofOV (some b) q = .ok (.v (.bl b)) q := id rfl
theorem ofB_s {b : Bool} {q : Q} : ofBV (some b) q = .ok b q := id rfl
theorem bind_v {i : Nat} {x : V} {e : VEnv} : bindV (.v i) (.v x) e = if i < e.length then some (e.set i (some (.v x))) else none := id rfl
theorem bind_own {i : Nat} {vs : List V} {e : VEnv} : bindV (.v i) (.own vs) e = if i < e.length then some (e.set i (some (.own vs))) else none := id rfl
theorem bind_dr {i : Nat} {e : VEnv} : bindV (.v i) .dr e = if i < e.length then some (e.set i (some .dr)) else none := id rfl
theorem bind_tp {is : List Nat} {ds : List V} {e : VEnv} : bindV (.tp is) (.v (.tup ds)) e = if is.length = ds.length then some ((is.zip ds).foldl (fun e p => e.set p.1 (some (.v p.2))) e) else none := id rfl
theorem frz_v {x : V} : frz1 (some (.v x)) = some (.v x) := id rfl
theorem frz_own {vs : List V} : frz1 (some (.own vs)) = some (.v (.lst vs)) := id rfl
theorem frz_dr : frz1 (some .dr) = some .dr := id rfl
theorem frz_no : frz1 none = none := id rfl
theorem add_int {a b : Int} {q : Q} : binV .add (.int a) (.int b) q = .ok (.v (.int (a + b))) q := id rfl
theorem sub_int {a b : Int} {q : Q} : binV .sub (.int a) (.int b) q = .ok (.v (.int (a - b))) q := id rfl
theorem cmp_eq {a b : V} : cmpV .eq a b = eqV a b := id rfl
theorem cmp_ne {a b : V} : cmpV .ne a b = (eqV a b).map (!·) := id rfl
theorem cmp_in {a b : V} : cmpV .inn a b = inV a b := id rfl
theorem cmp_nin {a b : V} : cmpV .nin a b = (inV a b).map (!·) := id rfl
theorem cmp_isN {a : V} : cmpV .is a .non = some (isNonV a) := id rfl
theorem cmp_isnN {a : V} : cmpV .isn a .non = some (!isNonV a) := id rfl
theorem cmp_isB {a : V} {b : Bool} : cmpV .is a (.bl b) = isBlV b a := id rfl
theorem cmp_isnB {a : V} {b : Bool} : cmpV .isn a (.bl b) = (isBlV b a).map (!·) := id rfl
theorem cmp_lt {a b : Int} : cmpV .lt (.int a) (.int b) = some (decide (a < b)) := id rfl
theorem cmp_le {a b : Int} : cmpV .le (.int a) (.int b) = some (decide (a ≤ b)) := id rfl
theorem cmp_gt {a b : Int} : cmpV .gt (.int a) (.int b) = some (decide (b < a)) := id rfl
theorem cmp_ge {a b : Int} : cmpV .ge (.int a) (.int b) = some (decide (b ≤ a)) := id rfl
theorem eq_str {a b : Str} : eqV (.str a) (.str b) = some (decide (a = b)) := id rfl
theorem bi_1 {b : BI} {a : V} {q : Q} : biV b [a] q = bi1V b a q := id rfl
theorem bi_2 {b : BI} {i j : Int} {q : Q} : biV b [.int i, .int j] q = bi2V b i j q := id rfl
theorem len_tup {vs : List V} {q : Q} : bi1V .len (.tup vs) q = .ok (.v (.int vs.length)) q := id rfl
theorem len_lst {vs : List V} {q : Q} : bi1V .len (.lst vs) q = .ok (.v (.int vs.length)) q := id rfl
theorem len_con {vs : List V} {q : Q} : bi1V .len (.con vs) q = .ok (.v (.int vs.length)) q := id rfl
theorem bi_int {i : Int} {q : Q} : bi1V .int (.int i) q = .ok (.v (.int i)) q := id rfl
theorem bi_abs {i : Int} {q : Q} : bi1V .abs (.int i) q = .ok (.v (.int (if i < 0 then -i else i))) q := id rfl
theorem bi_tup {vs : List V} {q : Q} : bi1V .tuple (.tup vs) q = .ok (.v (.tup vs)) q := id rfl
theorem bi_tupL {vs : List V} {q : Q} : bi1V .tuple (.lst vs) q = .ok (.v (.tup vs)) q := id rfl
theorem bi_lst {vs : List V} {q : Q} : bi1V .list (.tup vs) q = .ok (.own vs) q := id rfl
theorem bi_lstL {vs : List V} {q : Q} : bi1V .list (.lst vs) q = .ok (.own vs) q := id rfl
theorem bi_max {i j : Int} {q : Q} : bi2V .max2 i j q = .ok (.v (.int (if j > i then j else i))) q := id rfl
theorem bi_min {i j : Int} {q : Q} : bi2V .min2 i j q = .ok (.v (.int (if j < i then j else i))) q := id rfl
theorem gcd_i {a b : Int} {q : Q} : bi2V .gcd a b q = .ok (.v (.int ((Nat.gcd a.natAbs b.natAbs : Nat) : Int))) q := id rfl
theorem sl_tup {vs : List V} {lo hi : Option Int} {q : Q} : slV (.tup vs) lo hi q = .ok (.v (.tup (cut vs lo hi))) q := id rfl
theorem sl_lst {vs : List V} {lo hi : Option Int} {q : Q} : slV (.lst vs) lo hi q = .ok (.own (cut vs lo hi)) q := id rfl
theorem int_o {i : Int} {q : Q} : intOV (.int i) q = .ok (some i) q := id rfl
theorem neg_i {i : Int} {q : Q} : negV (.int i) q = .ok (.v (.int (-i))) q := id rfl
theorem sq_tup {vs : List V} {q : Q} : seqIV (.tup vs) q = .ok vs q := id rfl
theorem sq_lst {vs : List V} {q : Q} : seqIV (.lst vs) q = .ok vs q := id rfl
theorem sq_con {vs : List V} {q : Q} : seqIV (.con vs) q = .ok vs q := id rfl
theorem en_tup {vs : List V} {q : Q} : enumIV (.tup vs) q = .ok (enV vs) q := id rfl
theorem en_lst {vs : List V} {q : Q} : enumIV (.lst vs) q = .ok (enV vs) q := id rfl
theorem sqv_tup {vs : List V} : seqV (.tup vs) = some vs := id rfl
theorem sqv_lst {vs : List V} : seqV (.lst vs) = some vs := id rfl
theorem sqv_con {vs : List V} : seqV (.con vs) = some vs := id rfl
theorem isin_ {ts : List Ty} {x : V} {q : Q} : isinV ts x q = .ok (.v (.bl ((tyV x).any ts.contains))) q := id rfl
theorem own_R {ds : List V} {q : Q} : ownR ds q = .ok (.own ds) q := id rfl
theorem kill0 {e : VEnv} : killV [] e = e := id rfl
theorem kill1 {k : Nat} {ks : List Nat} {e : VEnv} : killV (k :: ks) e = killV ks (e.set k none) := id rfl
theorem frz_none {g : Nat → Bool} {a : E} {e : VEnv} (h : e.any isOwn = false) : frzE g a e = e := by
  unfold frzE
  rw [h]; rfl
theorem frz_some {g : Nat → Bool} {a : E} {e : VEnv} (h : e.any isOwn = true) : frzE g a e = frzL (esc g a) e := by
  unfold frzE
  rw [h]; rfl
theorem frzI_none {g : Nat → Bool} {a : It} {e : VEnv} (h : e.any isOwn = false) : frzI g a e = e := by
  unfold frzI
  rw [h]; rfl
theorem frzI_some {g : Nat → Bool} {a : It} {e : VEnv} (h : e.any isOwn = true) : frzI g a e = frzL (escF g a) e := by
  unfold frzI
  rw [h]; rfl
theorem frzL0 {e : VEnv} : frzL [] e = e := id rfl
theorem frzL1 {k : Nat} {ks : List Nat} {e : VEnv} {o : Option A} (h : e[k]? = some o) : frzL (k :: ks) e = frzL ks (e.set k (frz1 o)) := by
  unfold frzL
  rw [List.foldl_cons, h]
theorem tup_ok {vs : List V} {q : Q} (h : vs.length ≤ SL) : tupV vs q = .ok (.v (.tup vs)) q := if_pos h
theorem lst_ok {vs : List V} {q : Q} (h : vs.length ≤ SL) : lstV vs q = .ok (.own vs) q := if_pos h
theorem wlk_ok {vs : List V} {q : Q} (h : vs.length < 1000000000000) : wlk vs q = .ok vs q := if_pos h
theorem isVar_no {a : E} (h : isVar a = false) : isVar a = false := h
/-! ### values -/
theorem le_0 : (0 ≤ SL) = True := eq_true (by decide)
theorem le_1 : (1 ≤ SL) = True := eq_true (by decide)
theorem le_2 : (2 ≤ SL) = True := eq_true (by decide)
theorem le_3 : (3 ≤ SL) = True := eq_true (by decide)
theorem le_4 : (4 ≤ SL) = True := eq_true (by decide)
theorem le_5 : (5 ≤ SL) = True := eq_true (by decide)
theorem le_6 : (6 ≤ SL) = True := eq_true (by decide)
theorem le_7 : (7 ≤ SL) = True := eq_true (by decide)
theorem le_8 : (8 ≤ SL) = True := eq_true (by decide)
theorem le_9 : (9 ≤ SL) = True := eq_true (by decide)
theorem le_10 : (10 ≤ SL) = True := eq_true (by decide)
theorem le_11 : (11 ≤ SL) = True := eq_true (by decide)
theorem le_12 : (12 ≤ SL) = True := eq_true (by decide)
theorem le_13 : (13 ≤ SL) = True := eq_true (by decide)
theorem le_14 : (14 ≤ SL) = True := eq_true (by decide)
theorem le_15 : (15 ≤ SL) = True := eq_true (by decide)
theorem le_16 : (16 ≤ SL) = True := eq_true (by decide)
theorem mul_int {a b : Int} {q : Q} (k : mulOk a b = true) : binV .mul (.int a) (.int b) q = .ok (.v (.int (a * b))) q := if_pos k
theorem mod_int {a b : Int} {q : Q} (k : 0 < b) : binV .mod (.int a) (.int b) q = .ok (.v (.int (a % b))) q := if_pos k
theorem big9_lt : 10 ^ 2000 < big9 := by unfold big9; decide +kernel
theorem div_int {a b : Int} {q : Q} (k : 0 < b) (l : b ≤ 10 ^ 2000) : binV .div (.int a) (.int b) q = .ok (.v (.int (a / b))) q := if_pos ⟨k, Nat.lt_of_le_of_lt (by omega) big9_lt⟩
theorem div_small {a b : Int} {q : Q} (k : 0 < b) (l : b ≤ 1000000) : binV .div (.int a) (.int b) q = .ok (.v (.int (a / b))) q := div_int k (by omega)
theorem add_tup {a b : List V} {q : Q} (k : a.length + b.length ≤ SL) : binV .add (.tup a) (.tup b) q = .ok (.v (.tup (a ++ b))) q := if_pos k
theorem add_lst {a b : List V} {q : Q} (k : a.length + b.length ≤ SL) : binV .add (.lst a) (.lst b) q = .ok (.own (a ++ b)) q := if_pos k
theorem add_str {a b : Str} {q : Q} (k : a.length + b.length ≤ SL) : binV .add (.str a) (.str b) q = .ok (.v (.str (a ++ b))) q := if_pos k
theorem mul_tup {a : List V} {k : Int} {q : Q} (h : a.length ≤ 1000) (h2 : k ≤ 1000) (h3 : -1000 ≤ k) : binV .mul (.tup a) (.int k) q = .ok (.v (.tup (repV a k))) q := if_pos ⟨h, h2, h3⟩
theorem len_str {s : Str} {q : Q} (k : s.length ≤ SL) : bi1V .len (.str s) q = .ok (.v (.int s.length)) q := if_pos k
theorem sq_str {s : Str} {q : Q} (k : s.length ≤ SL) : seqIV (.str s) q = .ok (s.cps.toList.map fun c => .str ⟨#[c]⟩) q := if_pos k
theorem rng1_int {n : Int} {q : Q} (k : okRng n = true) : rng1V (.int n) q = .ok (rngV 0 n) q := if_pos k
theorem rng2_int {m n : Int} {q : Q} (k : okRng m = true) (k2 : okRng n = true) : rng2V (.int m) (.int n) q = .ok (rngV m n) q := by
  show (if okRng m && okRng n then _ else _) = _
  rw [k, k2]; rfl
theorem okRng_int0 {n : Int} (h : -(2 ^ 40) < n) (h2 : n < 2 ^ 40) : okRng n = true := by
  unfold okRng
  rw [decide_eq_true (show -(2 ^ 62) ≤ n by omega), decide_eq_true (show n < 2 ^ 62 by omega)]; rfl
theorem rng1_ok {n : Int} {q : Q} (h : -100000000000 < n) (h2 : n < 100000000000) : (rng1V (.int n) q).bind wlk = .ok (rngV 0 n) q := by
  rw [rng1_int (okRng_int0 (by omega) (by omega))]
  exact if_pos (by simp [rngV]; omega)
theorem rng2_ok {m n : Int} {q : Q} (h0 : -100000000000 < m) (h1 : m < 100000000000) (h : -100000000000 < n) (h2 : n < 100000000000) : (rng2V (.int m) (.int n) q).bind wlk = .ok (rngV m n) q := by
  rw [rng2_int (okRng_int0 (by omega) (by omega)) (okRng_int0 (by omega) (by omega))]
  exact if_pos (by simp [rngV]; omega)
theorem okRng_int {n : Int} (h : -(2 ^ 40) < n) (h2 : n < 2 ^ 40) : okRng n = true := by
  unfold okRng
  rw [decide_eq_true (show -(2 ^ 62) ≤ n by omega), decide_eq_true (show n < 2 ^ 62 by omega)]; rfl
theorem rngV_length (lo hi : Int) : (rngV lo hi).length = (hi - lo).toNat := by simp [rngV]
theorem rngV_nat (n : Nat) : rngV 0 (n : Int) = (List.range n).map fun (k : Nat) => V.int (k : Int) := by simp [rngV]
theorem rngV_from (m n : Nat) : rngV (m : Int) (n : Int) = (List.range (n - m)).map fun (k : Nat) => V.int ((m + k : Nat) : Int) := by
  unfold rngV
  have : ((n : Int) - (m : Int)).toNat = n - m := by omega
  rw [this]
  apply List.map_congr_left
  intro k _
  congr 1
theorem enV_length (vs : List V) : (enV vs).length = vs.length := by simp [enV]
theorem cut_to {α : Type} (xs : List α) (k : Nat) : cut xs none (some (k : Int)) = xs.take k := by
  simp only [cut, _root_.HT.sIx_nat, _root_.HT.sIx_none, Nat.sub_zero, List.drop_zero]
  by_cases h : k ≤ xs.length
  · rw [Nat.min_eq_left h]
  · rw [Nat.min_eq_right (by omega), List.take_of_length_le (Nat.le_refl _), List.take_of_length_le (by omega)]
theorem cut_from {α : Type} (xs : List α) (k : Nat) : cut xs (some (k : Int)) none = xs.drop k := by
  simp only [cut, _root_.HT.sIx_nat, _root_.HT.sIx_none]
  by_cases h : k ≤ xs.length
  · rw [Nat.min_eq_left h, List.take_of_length_le (by rw [List.length_drop]; exact Nat.le_refl _)]
  · rw [Nat.min_eq_right (by omega), List.drop_eq_nil_of_le (by omega), List.drop_eq_nil_of_le (by omega)]
    simp
theorem cut_all {α : Type} (xs : List α) : cut xs none none = xs := by
  simp only [cut, _root_.HT.sIx_none, Nat.sub_zero, List.drop_zero]
  exact List.take_of_length_le (Nat.le_refl _)
theorem ix_nat {vs : List V} {k : Nat} {x : V} (e : vs[k]? = some x) : ixV (.tup vs) (.int (k : Int)) = some x := by
  have hl := (List.getElem?_eq_some_iff.mp e).1
  show ((some vs).bind fun ds => L2.atI ds (k : Int)) = _
  have := (List.getElem?_eq_some_iff.mp e).2
  simp [L2.atI, L2.ixN, e, hl, this]
theorem ixN_nat {n k : Nat} (h : k < n) : L2.ixN n (k : Int) = some k := by simp [L2.ixN, h]
theorem y_putn {d : V} {j : Nat} {x : Nat} {vs : List V} {o : Option A} {e : VEnv} {q : Q} (g : (o :: e)[x]? = some (some (.own vs))) (h : j < vs.length) : putE x (o :: e) d (.int (j : Int)) q = .nx ((o :: e).set x (some (.own (vs.set j d)))) q := by
  rw [y_pute, g]
  simp only [ixN_nat h]
theorem ix_natL {vs : List V} {k : Nat} {x : V} (e : vs[k]? = some x) : ixV (.lst vs) (.int (k : Int)) = some x := ix_nat e
theorem ix_natC {vs : List V} {k : Nat} {x : V} (e : vs[k]? = some x) : ixV (.con vs) (.int (k : Int)) = some x := ix_nat e
theorem ix_neg {vs : List V} {x : V} (e : vs.getLast? = some x) : ixV (.tup vs) (.int (-1)) = some x := by
  show ((some vs).bind fun ds => L2.atI ds (-1)) = _
  rw [List.getLast?_eq_getElem?] at e
  have hl := (List.getElem?_eq_some_iff.mp e).1
  have h1 : ¬ ((vs.length : Int) - 1 < 0) := by omega
  have : L2.ixN vs.length (-1) = some (vs.length - 1) := by
    simp [L2.ixN]
    omega
  simp only [Option.bind_some, L2.atI, this]
  exact e
theorem ix_negL {vs : List V} {x : V} (e : vs.getLast? = some x) : ixV (.lst vs) (.int (-1)) = some x := ix_neg e
theorem ixR_ok {x y v : V} {q : Q} (h : ixV x y = some v) : ixRV x y q = .ok (.v v) q := by
  unfold ixRV
  rw [h]
theorem lrg1_ok {tp : Bool} {n : Int} {q : Q} (h : 0 ≤ n) (h2 : n ≤ 1000000) : lrgV1 tp (.int n) q = if tp then .ok (.v (.tup (rngV 0 n))) q else .ok (.own (rngV 0 n)) q := by
  show (if lrgOk 0 n then _ else _) = _
  rw [if_pos (by unfold lrgOk; exact decide_eq_true (by omega))]
theorem lrg2_ok {tp : Bool} {m n : Int} {q : Q} (h0 : -1000000 ≤ m) (h1 : m ≤ 1000000) (h : -1000000 ≤ n) (h2 : n ≤ 1000000) : lrgV2 tp (.int m) (.int n) q = if tp then .ok (.v (.tup (rngV m n))) q else .ok (.own (rngV m n)) q := by
  show (if lrgOk m n then _ else _) = _
  rw [if_pos (by unfold lrgOk; exact decide_eq_true (by omega))]
theorem ints_map : ∀ is : List Int, intsV (is.map V.int) = some is
  | [] => rfl
  | i :: is => by
    show (intsV (is.map V.int)).map _ = _
    rw [ints_map is]; rfl
def maxI : List Int → Int
  | [] => 0
  | i :: is => is.foldl max i
def minI : List Int → Int
  | [] => 0
  | i :: is => is.foldl min i
theorem max_ok {x : V} {is : List Int} {q : Q} (h : seqV x = some (is.map V.int)) (n : is ≠ []) : bi1V .max2 x q = .ok (.v (.int (maxI is))) q := by
  cases is with
  | nil => exact absurd rfl n
  | cons i is =>
    show (match (seqV x).bind intsV with | some (i :: is) => _ | _ => _) = _
    rw [h, Option.bind_some, ints_map]; rfl
theorem min_ok {x : V} {is : List Int} {q : Q} (h : seqV x = some (is.map V.int)) (n : is ≠ []) : bi1V .min2 x q = .ok (.v (.int (minI is))) q := by
  cases is with
  | nil => exact absurd rfl n
  | cons i is =>
    show (match (seqV x).bind intsV with | some (i :: is) => _ | _ => _) = _
    rw [h, Option.bind_some, ints_map]; rfl
theorem sum_ok {x : V} {is : List Int} {q : Q} (h : lstOf x = some (is.map V.int)) : bi1V .sum x q = .ok (.v (.int is.sum)) q := by
  show (match (lstOf x).bind intsV with | some is => _ | none => _) = _
  rw [h, Option.bind_some, ints_map]
theorem foldl_max_mem : ∀ (is : List Int) (i : Int), is.foldl max i ∈ i :: is
  | [], i => by simp
  | j :: is, i => by
    have := foldl_max_mem is (max i j)
    rw [List.foldl_cons]
    rcases List.mem_cons.mp this with h | h
    · rw [h]
      by_cases z : i ≤ j
      · rw [Int.max_eq_right z]; simp
      · rw [Int.max_eq_left (by omega)]; simp
    · simp [h]
theorem foldl_max_le : ∀ (is : List Int) (i : Int), ∀ y ∈ i :: is, y ≤ is.foldl max i
  | [], i, y, h => by rw [List.mem_singleton.mp h]; exact Int.le_refl _
  | j :: is, i, y, h => by
    rw [List.foldl_cons]
    have := foldl_max_le is (max i j)
    rcases List.mem_cons.mp h with rfl | h
    · exact Int.le_trans (Int.le_max_left _ _) (this _ List.mem_cons_self)
    · rcases List.mem_cons.mp h with rfl | h
      · exact Int.le_trans (Int.le_max_right _ _) (this _ List.mem_cons_self)
      · exact this _ (List.mem_cons_of_mem _ h)
theorem foldl_min_mem : ∀ (is : List Int) (i : Int), is.foldl min i ∈ i :: is
  | [], i => by simp
  | j :: is, i => by
    have := foldl_min_mem is (min i j)
    rw [List.foldl_cons]
    rcases List.mem_cons.mp this with h | h
    · rw [h]
      by_cases z : i ≤ j
      · rw [Int.min_eq_left z]; simp
      · rw [Int.min_eq_right (by omega)]; simp
    · simp [h]
theorem foldl_min_le : ∀ (is : List Int) (i : Int), ∀ y ∈ i :: is, is.foldl min i ≤ y
  | [], i, y, h => by rw [List.mem_singleton.mp h]; exact Int.le_refl _
  | j :: is, i, y, h => by
    rw [List.foldl_cons]
    have := foldl_min_le is (min i j)
    rcases List.mem_cons.mp h with rfl | h
    · exact Int.le_trans (this _ List.mem_cons_self) (Int.min_le_left _ _)
    · rcases List.mem_cons.mp h with rfl | h
      · exact Int.le_trans (this _ List.mem_cons_self) (Int.min_le_right _ _)
      · exact this _ (List.mem_cons_of_mem _ h)
theorem maxI_mem {is : List Int} (h : is ≠ []) : maxI is ∈ is := by
  cases is with
  | nil => exact absurd rfl h
  | cons i is => exact foldl_max_mem is i
theorem maxI_le {is : List Int} {y : Int} (h : y ∈ is) : y ≤ maxI is := by
  cases is with
  | nil => cases h
  | cons i is => exact foldl_max_le is i y h
theorem minI_mem {is : List Int} (h : is ≠ []) : minI is ∈ is := by
  cases is with
  | nil => exact absurd rfl h
  | cons i is => exact foldl_min_mem is i
theorem minI_le {is : List Int} {y : Int} (h : y ∈ is) : minI is ≤ y := by
  cases is with
  | nil => cases h
  | cons i is => exact foldl_min_le is i y h
theorem sort_ok {x : V} {vs : List V} {q : Q} (h : seqV x = some vs) (o : srtOk (vs.map pyV) = true) : bi1V .sorted x q = .ok (.own (vs.mergeSort (PySem.W.dataLe false pyV))) q := by
  show (match seqV x with | some vs => _ | none => _) = _
  rw [h]
  exact if_pos o
theorem comb_at {a b : Int} {q : Q} (h : 0 ≤ a ∧ 0 ≤ b ∧ a < 2 ^ 64 ∧ (b ≤ 9000 ∨ a ≤ 18000)) : bi2V .comb a b q = .ok (.v (.int (PySem.W.mcComb a b))) q := by
  show (if _ then _ else _) = _
  exact if_pos h
end
end VI

set_option Elab.async false
set_option linter.all false
set_option maxRecDepth 100000
set_option maxHeartbeats 4000000
/-! Plain data over values: equality, texts. -/
namespace VI
open PySem PI PyProof.Rows PySem.PyData
mutual
/-- of a depth; its texts are texts -/
def wf : V → Nat → Bool
  | .non, _ => true
  | .bl _, _ => true
  | .int _, _ => true
  | .str s, _ => strOk s
  | .tup vs, k => match k with
    | 0 => false
    | k + 1 => wfs vs k
  | .lst vs, k => match k with
    | 0 => false
    | k + 1 => wfs vs k
  | .con vs, k => match k with
    | 0 => false
    | k + 1 => wfs vs k
def wfs : List V → Nat → Bool
  | [], _ => true
  | v :: vs, k => wf v k && wfs vs k
end
mutual
/-- its numbers can be told -/
def sh : V → Bool
  | .int i => decide (i.natAbs.log2 < 1920)
  | .tup vs => shs vs
  | .lst vs => shs vs
  | .con vs => shs vs
  | _ => true
def shs : List V → Bool
  | [] => true
  | v :: vs => sh v && shs vs
end
mutual
/-- equal is the same -/
def nb : V → Bool
  | .bl _ => false
  | .con _ => false
  | .tup vs => nbs vs
  | .lst vs => nbs vs
  | _ => true
def nbs : List V → Bool
  | [] => true
  | v :: vs => nb v && nbs vs
end
mutual
def sz : V → Nat
  | .non => 4
  | .bl _ => 5
  | .int _ => 1921
  | .str s => 10 * s.length + 2
  | .tup vs => szs vs + 3
  | .lst vs => szs vs + 3
  | .con vs => szs vs + 3
def szs : List V → Nat
  | [] => 0
  | v :: vs => sz v + 2 + szs vs
end
mutual
def beqV : V → V → Bool
  | .non, .non => true
  | .bl a, .bl b => decide (a = b)
  | .int a, .int b => decide (a = b)
  | .str a, .str b => decide (a = b)
  | .tup a, .tup b => beqVs a b
  | .lst a, .lst b => beqVs a b
  | .con a, .con b => beqVs a b
  | _, _ => false
def beqVs : List V → List V → Bool
  | [], [] => true
  | a :: as, b :: bs => beqV a b && beqVs as bs
  | _, _ => false
end
mutual
theorem beqV_eq : ∀ a b : V, beqV a b = true → a = b
  | .non, b, e => by cases b <;> first | rfl | cases e
  | .bl a, b, e => by cases b with
    | bl b => rw [of_decide_eq_true e]
    | _ => cases e
  | .int a, b, e => by cases b with
    | int b => rw [of_decide_eq_true e]
    | _ => cases e
  | .str a, b, e => by cases b with
    | str b => rw [of_decide_eq_true e]
    | _ => cases e
  | .tup a, b, e => by cases b with
    | tup b => rw [beqVs_eq a b e]
    | _ => cases e
  | .lst a, b, e => by cases b with
    | lst b => rw [beqVs_eq a b e]
    | _ => cases e
  | .con a, b, e => by cases b with
    | con b => rw [beqVs_eq a b e]
    | _ => cases e
theorem beqVs_eq : ∀ a b : List V, beqVs a b = true → a = b
  | [], [], _ => rfl
  | [], _ :: _, e => by cases e
  | _ :: _, [], e => by cases e
  | a :: as, b :: bs, e => by
    obtain ⟨e1, e2⟩ := Bool.and_eq_true_iff.mp (show (beqV a b && beqVs as bs) = true from e)
    rw [beqV_eq a b e1, beqVs_eq as bs e2]
end
mutual
theorem beqV_refl : ∀ a : V, beqV a a = true
  | .non => rfl
  | .bl a => decide_eq_true rfl
  | .int a => decide_eq_true rfl
  | .str a => decide_eq_true rfl
  | .tup a => beqVs_refl a
  | .lst a => beqVs_refl a
  | .con a => beqVs_refl a
theorem beqVs_refl : ∀ a : List V, beqVs a a = true
  | [] => rfl
  | a :: as => by
    show (beqV a a && beqVs as as) = true
    rw [beqV_refl a, beqVs_refl as]; rfl
end
instance : DecidableEq V := fun a b => if h : beqV a b = true then .isTrue (beqV_eq a b h) else .isFalse fun e => h (by rw [e]; exact beqV_refl b)
mutual
theorem wf_py : ∀ (x : V) (k : Nat), wf x k = true → (pyV x).canLay0 = true ∧ (pyV x).depth ≤ k
  | .non, k, g => ⟨rfl, Nat.zero_le _⟩
  | .bl b, k, g => ⟨rfl, Nat.zero_le _⟩
  | .int i, k, g => ⟨rfl, Nat.zero_le _⟩
  | .str s, k, g => ⟨g, Nat.zero_le _⟩
  | .tup vs, k, g => by
    cases k with
    | zero => cases g
    | succ k => exact ⟨(wfs_py vs k g).1, Nat.succ_le_succ (wfs_py vs k g).2⟩
  | .lst vs, k, g => by
    cases k with
    | zero => cases g
    | succ k => exact ⟨(wfs_py vs k g).1, Nat.succ_le_succ (wfs_py vs k g).2⟩
  | .con vs, k, g => by
    cases k with
    | zero => cases g
    | succ k => exact ⟨(wfs_py vs k g).1, Nat.succ_le_succ (wfs_py vs k g).2⟩
theorem wfs_py : ∀ (vs : List V) (k : Nat), wfs vs k = true → PyData.canLayAll0 (pyVs vs) = true ∧ PyData.depthAll (pyVs vs) ≤ k
  | [], k, g => ⟨rfl, Nat.zero_le _⟩
  | v :: vs, k, g => by
    obtain ⟨g1, g2⟩ := Bool.and_eq_true_iff.mp (show (wf v k && wfs vs k) = true from g)
    obtain ⟨b1, c1⟩ := wf_py v k g1
    obtain ⟨b2, c2⟩ := wfs_py vs k g2
    refine ⟨?_, ?_⟩
    · show (PyData.canLay0 _ && PyData.canLayAll0 _) = true
      rw [b1, b2]; rfl
    · show max _ _ ≤ k
      omega
end
theorem wf_shaped {x : V} {k : Nat} (g : wf x k = true) (h : k ≤ 64) : SeqAt.shaped (pyV x) = true := by
  obtain ⟨a, b⟩ := wf_py x k g
  unfold SeqAt.shaped
  rw [a, decide_eq_true (show (pyV x).depth ≤ 64 by omega)]; rfl
mutual
theorem sh_py : ∀ (x : V), sh x = true → (pyV x).showable = true
  | .non, g => rfl
  | .bl b, g => rfl
  | .int i, g => g
  | .str s, g => rfl
  | .tup vs, g => shs_py vs g
  | .lst vs, g => shs_py vs g
  | .con vs, g => shs_py vs g
theorem shs_py : ∀ (vs : List V), shs vs = true → PyData.showableAll (pyVs vs) = true
  | [], g => rfl
  | v :: vs, g => by
    obtain ⟨g1, g2⟩ := Bool.and_eq_true_iff.mp (show (sh v && shs vs) = true from g)
    show (PyData.showable _ && PyData.showableAll _) = true
    rw [sh_py v g1, shs_py vs g2]; rfl
end
mutual
theorem sz_py : ∀ (x : V) (k : Nat), wf x k = true → sh x = true → (pyV x).shown.length ≤ sz x
  | .non, k, g, _ => by show (PyData.shown .none).length ≤ 4; decide
  | .bl b, k, g, _ => by cases b <;> (show (PyData.shown (.bool _)).length ≤ 5; decide)
  | .int i, k, g, s => int_txt (of_decide_eq_true s)
  | .str s, k, g, _ => PySem.StrLaws.reprText_len s (strOk_lt g)
  | .tup vs, k, g, s => by
    cases k with
    | zero => cases g
    | succ k =>
      have := szs_py vs k g s
      have h2 := tupleText_len_le (PyData.shownAll (pyVs vs))
      show (tupleText (PyData.shownAll (pyVs vs))).length ≤ szs vs + 3
      omega
  | .lst vs, k, g, s => by
    cases k with
    | zero => cases g
    | succ k =>
      have := szs_py vs k g s
      have h2 := listText_len_le (PyData.shownAll (pyVs vs))
      show (listText (PyData.shownAll (pyVs vs))).length ≤ szs vs + 3
      omega
  | .con vs, k, g, s => by
    cases k with
    | zero => cases g
    | succ k =>
      have := szs_py vs k g s
      have h2 := listText_len_le (PyData.shownAll (pyVs vs))
      show (listText (PyData.shownAll (pyVs vs))).length ≤ szs vs + 3
      omega
theorem szs_py : ∀ (vs : List V) (k : Nat), wfs vs k = true → shs vs = true → ((PyData.shownAll (pyVs vs)).map (·.length)).sum + 2 * (PyData.shownAll (pyVs vs)).length ≤ szs vs
  | [], k, g, _ => by simp [pyVs, PyData.shownAll, szs]
  | v :: vs, k, g, s => by
    obtain ⟨g1, g2⟩ := Bool.and_eq_true_iff.mp (show (wf v k && wfs vs k) = true from g)
    obtain ⟨s1, s2⟩ := Bool.and_eq_true_iff.mp (show (sh v && shs vs) = true from s)
    have h1 := sz_py v k g1 s1
    have h2 := szs_py vs k g2 s2
    simp only [pyVs, PyData.shownAll, szs, List.map_cons, List.sum_cons, List.length_cons]
    omega
end
/-- repr -/
theorem repr_ok {x : V} {k : Nat} {q : Q} (g : wf x k = true) (s : sh x = true) (hk : k ≤ 64) (hz : sz x + 64 ≤ SL) : bi1V .repr x q = .ok (.v (.str (pyV x).shown)) q := by
  have z := sz_py x k g s
  refine if_pos ?_
  rw [wf_shaped g hk, sh_py x s, decide_eq_true (show (pyV x).shown.length + 64 ≤ SL by omega)]; rfl
mutual
theorem eqv_same : ∀ (a b : V), nb a = true → nb b = true → PyData.eqv (pyV a) (pyV b) = true → a = b
  | .non, b, _, hb, e => by cases b <;> first | rfl | (cases e; done) | (cases hb; done)
  | .int i, b, _, hb, e => by
    cases b with
    | int j => rw [eq_of_beq (show (i == j) = true from e)]
    | bl c => cases hb
    | _ => cases e
  | .str i, b, _, hb, e => by
    cases b with
    | str j => rw [eq_of_beq (show (i == j) = true from e)]
    | _ => first | cases e | cases hb
  | .tup ds, b, ha, hb, e => by
    cases b with
    | tup es => rw [eqvs_same ds es ha hb e]
    | _ => first | cases e | cases hb
  | .lst ds, b, ha, hb, e => by
    cases b with
    | lst es => rw [eqvs_same ds es ha hb e]
    | _ => first | cases e | cases hb
  | .bl _, b, ha, _, _ => by cases ha
  | .con _, b, ha, _, _ => by cases ha
theorem eqvs_same : ∀ (a b : List V), nbs a = true → nbs b = true → PyData.eqvAll (pyVs a) (pyVs b) = true → a = b
  | [], [], _, _, _ => rfl
  | [], _ :: _, _, _, e => by cases e
  | _ :: _, [], _, _, e => by cases e
  | x :: a, y :: b, ha, hb, e => by
    obtain ⟨a1, a2⟩ := Bool.and_eq_true_iff.mp (show (nb x && nbs a) = true from ha)
    obtain ⟨b1, b2⟩ := Bool.and_eq_true_iff.mp (show (nb y && nbs b) = true from hb)
    obtain ⟨e1, e2⟩ := Bool.and_eq_true_iff.mp (show (PyData.eqv (pyV x) (pyV y) && PyData.eqvAll (pyVs a) (pyVs b)) = true from e)
    rw [eqv_same x y a1 b1 e1, eqvs_same a b a2 b2 e2]
end
theorem eqv_iff {a b : V} {k : Nat} (g : wf a k = true) (ha : nb a = true) (hb : nb b = true) : PyData.eqv (pyV a) (pyV b) = decide (a = b) := by
  rw [Bool.eq_iff_iff, decide_eq_true_iff]
  exact ⟨eqv_same a b ha hb, fun e => by rw [← e]; exact PySem.SeqAt.eqv_refl _ (wf_py a k g).1⟩
theorem strEq_some {a b : V} {k : Bool} (h : strEqV a b = some k) : ∃ i j, a = .str i ∧ b = .str j ∧ k = decide (i = j) := by
  cases a <;> cases b <;> first | exact ⟨_, _, rfl, rfl, (Option.some.inj h).symm⟩ | cases h
/-- equality of plain data -/
theorem eq_wf {a b : V} {j k : Nat} (ga : wf a j = true) (gb : wf b k = true) (hj : j ≤ 64) (hk : k ≤ 64) : eqV a b = some (PyData.eqv (pyV a) (pyV b)) := by
  unfold eqV
  cases w : strEqV a b with
  | some k0 =>
    obtain ⟨i, j, rfl, rfl, rfl⟩ := strEq_some w
    show some (decide (i = j)) = some (i == j)
    congr 1
  | none =>
    show datEqV a b = _
    unfold datEqV
    rw [wf_shaped ga hj, wf_shaped gb hk]; rfl
theorem eq_ok {a b : V} {j k : Nat} (ga : wf a j = true) (gb : wf b k = true) (hj : j ≤ 64) (hk : k ≤ 64) (ha : nb a = true) (hb : nb b = true) : eqV a b = some (decide (a = b)) := by
  rw [eq_wf ga gb hj hk, eqv_iff ga ha hb]
theorem eq_refl {a : V} {j : Nat} (ga : wf a j = true) (hj : j ≤ 64) : eqV a a = some true := by
  rw [eq_wf ga ga hj hj, PySem.SeqAt.eqv_refl _ (wf_py a j ga).1]
theorem eq_int {a b : Int} : eqV (.int a) (.int b) = some (decide (a = b)) := by
  rw [eq_ok (j := 0) (k := 0) rfl rfl (by decide) (by decide) rfl rfl]
  simp
theorem wfs_mem {vs : List V} {k : Nat} : wfs vs k = true ↔ ∀ v ∈ vs, wf v k = true := by
  induction vs with
  | nil => exact ⟨fun _ v h => (by cases h), fun _ => rfl⟩
  | cons v vs ih =>
    show (wf v k && wfs vs k) = true ↔ _
    rw [Bool.and_eq_true_iff, ih]
    simp
theorem nbs_mem {vs : List V} : nbs vs = true ↔ ∀ v ∈ vs, nb v = true := by
  induction vs with
  | nil => exact ⟨fun _ v h => (by cases h), fun _ => rfl⟩
  | cons v vs ih =>
    show (nb v && nbs vs) = true ↔ _
    rw [Bool.and_eq_true_iff, ih]
    simp
theorem shs_mem {vs : List V} : shs vs = true ↔ ∀ v ∈ vs, sh v = true := by
  induction vs with
  | nil => exact ⟨fun _ v h => (by cases h), fun _ => rfl⟩
  | cons v vs ih =>
    show (sh v && shs vs) = true ↔ _
    rw [Bool.and_eq_true_iff, ih]
    simp
theorem noLs_mem {vs : List V} : noLs vs = true ↔ ∀ v ∈ vs, noL v = true := by
  induction vs with
  | nil => exact ⟨fun _ v h => (by cases h), fun _ => rfl⟩
  | cons v vs ih =>
    show (noL v && noLs vs) = true ↔ _
    rw [Bool.and_eq_true_iff, ih]
    simp
theorem szs_le {vs : List V} {n : Nat} (h : ∀ v ∈ vs, sz v ≤ n) : szs vs ≤ vs.length * (n + 2) := by
  induction vs with
  | nil => exact Nat.zero_le _
  | cons v vs ih =>
    have h1 := h v List.mem_cons_self
    have h2 := ih fun x hx => h x (List.mem_cons_of_mem _ hx)
    show sz v + 2 + szs vs ≤ (vs.length + 1) * (n + 2)
    rw [Nat.add_mul]
    omega
theorem noLs_ints (is : List Int) : noLs (is.map V.int) = true := noLs_mem.mpr fun v h => by
  obtain ⟨i, _, rfl⟩ := List.mem_map.mp h
  rfl
/-- x in a list of plain data -/
theorem in_ok {x : V} {vs : List V} {j k : Nat} (gx : wf x j = true) (gv : wfs vs k = true) (hj : j ≤ 64) (hk : k < 64) (nx : nb x = true) (nv : nbs vs = true) : inV x (.lst vs) = some (decide (x ∈ vs)) := by
  unfold inV
  show (if _ then _ else _) = _
  rw [wf_shaped gx hj, wf_shaped (x := .lst vs) (k := k + 1) gv (by omega)]
  show some _ = _
  congr 1
  rw [Bool.eq_iff_iff, List.any_eq_true, decide_eq_true_iff]
  constructor
  · rintro ⟨y, hy, e⟩
    rw [eqv_iff (wfs_mem.mp gv y hy) (nbs_mem.mp nv y hy) nx, decide_eq_true_iff] at e
    rw [← e]; exact hy
  · intro h
    exact ⟨x, h, by rw [eqv_iff gx nx nx, decide_eq_true_iff]⟩
/-- x in a tuple of plain data -/
theorem in_okT {x : V} {vs : List V} {j k : Nat} (gx : wf x j = true) (gv : wfs vs k = true) (hj : j ≤ 64) (hk : k < 64) (nx : nb x = true) (nv : nbs vs = true) : inV x (.tup vs) = some (decide (x ∈ vs)) := by
  have := in_ok gx gv hj hk nx nv
  rw [← this]
  unfold inV
  show (if _ then _ else _) = (if _ then _ else _)
  rw [wf_shaped gx hj, wf_shaped (x := .lst vs) (k := k + 1) gv (by omega), wf_shaped (x := .tup vs) (k := k + 1) gv (by omega)]
theorem in_ints {i : Int} {is : List Int} : inV (.int i) (.lst (is.map V.int)) = some (decide (i ∈ is)) ∧ inV (.int i) (.tup (is.map V.int)) = some (decide (i ∈ is)) := by
  have w : wfs (is.map V.int) 0 = true := wfs_mem.mpr fun v h => by obtain ⟨_, _, rfl⟩ := List.mem_map.mp h; rfl
  have n : nbs (is.map V.int) = true := nbs_mem.mpr fun v h => by obtain ⟨_, _, rfl⟩ := List.mem_map.mp h; rfl
  have e : (V.int i ∈ is.map V.int) ↔ i ∈ is := by
    rw [List.mem_map]
    exact ⟨fun ⟨j, h, e⟩ => by cases e; exact h, fun h => ⟨i, h, rfl⟩⟩
  refine ⟨?_, ?_⟩
  · rw [in_ok (j := 0) rfl w (by decide) (by decide) rfl n]; simp [e]
  · rw [in_okT (j := 0) rfl w (by decide) (by decide) rfl n]; simp [e]
end VI

set_option Elab.async false
set_option linter.all false
set_option maxRecDepth 100000
set_option maxHeartbeats 4000000
/-! Rules of loops and comprehensions over values. -/
namespace VI
open PySem PI
/-- a comprehension that changes nothing -/
theorem comp_flt {α : Type} {t : Tgt} {e : VEnv} {step : VEnv → Q → RV (Option V)} {q : Q} (a : α → V) (f : α → Option V) : ∀ (l : List α) (acc : List V), acc.length + l.length < SL →
    (∀ x, x ∈ l → ∃ e1, bindV t (.v (a x)) e = some e1 ∧ step e1 q = .ok (f x) q) → compV t e step (l.map a) acc q = .ok (acc ++ l.filterMap f) q
  | [], acc, _, _ => by simp [compV]
  | x :: l, acc, hz, turn => by
    obtain ⟨e1, b, s⟩ := turn x List.mem_cons_self
    have rest := fun acc' hz' => comp_flt (t := t) (e := e) (step := step) (q := q) a f l acc' hz' fun y hy => turn y (List.mem_cons_of_mem _ hy)
    simp only [List.map_cons, compV, b, s]
    simp only [List.length_cons] at hz
    cases w : f x with
    | none =>
      simp only []
      rw [rest acc (by omega)]
      simp [w]
    | some y =>
      simp only []
      rw [if_pos (by omega), rest (acc ++ [y]) (by simp; omega)]
      simp [w]
theorem comp_fm {α : Type} {t : Tgt} {e : VEnv} {step : VEnv → Q → RV (Option V)} {q : Q} (l : List α) (a : α → V) (f : α → Option V) (hz : l.length < SL)
    (turn : ∀ x, x ∈ l → ∃ e1, bindV t (.v (a x)) e = some e1 ∧ step e1 q = .ok (f x) q) : compV t e step (l.map a) [] q = .ok (l.filterMap f) q := by
  rw [comp_flt a f l [] (by simpa using hz) turn]; rfl
theorem comp_map {α : Type} {t : Tgt} {e : VEnv} {step : VEnv → Q → RV (Option V)} {q : Q} (l : List α) (a g : α → V) (hz : l.length < SL)
    (turn : ∀ x, x ∈ l → ∃ e1, bindV t (.v (a x)) e = some e1 ∧ step e1 q = .ok (some (g x)) q) : compV t e step (l.map a) [] q = .ok (l.map g) q := by
  rw [comp_fm l a (fun x => some (g x)) hz turn]
  congr 1
  induction l with
  | nil => rfl
  | cons x l ih => simp
theorem comp_filter {α : Type} {t : Tgt} {e : VEnv} {step : VEnv → Q → RV (Option V)} {q : Q} (l : List α) (a g : α → V) (p : α → Bool) (hz : l.length < SL)
    (turn : ∀ x, x ∈ l → ∃ e1, bindV t (.v (a x)) e = some e1 ∧ step e1 q = .ok (if p x then some (g x) else none) q) : compV t e step (l.map a) [] q = .ok ((l.filter p).map g) q := by
  rw [comp_fm l a (fun x => if p x then some (g x) else none) hz turn]
  congr 1
  induction l with
  | nil => rfl
  | cons x l ih =>
    have := ih (by simp at hz; omega) fun y hy => turn y (List.mem_cons_of_mem _ hy)
    by_cases w : p x = true <;> simp [List.filterMap_cons, List.filter_cons, w, this]
/-- a comprehension with a state -/
theorem comp_inv {t : Tgt} {e : VEnv} {step : VEnv → Q → RV (Option V)} (I : List V → List V → Q → Prop) : ∀ (l acc : List V) (q : Q), acc.length + l.length < SL → I l acc q →
    (∀ x r acc q, I (x :: r) acc q → ∃ e1, bindV t (.v x) e = some e1 ∧ ∃ o q2, step e1 q = .ok o q2 ∧ I r (match o with | some y => acc ++ [y] | none => acc) q2) → ∃ vs q2, compV t e step l acc q = .ok vs q2 ∧ I [] vs q2
  | [], acc, q, _, i, _ => ⟨acc, q, rfl, i⟩
  | x :: l, acc, q, hz, i, turn => by
    obtain ⟨e1, b, o, q2, s, i2⟩ := turn x l acc q i
    simp only [List.length_cons] at hz
    simp only [compV, b, s]
    cases o with
    | none => exact comp_inv I l acc q2 (by omega) i2 turn
    | some y =>
      simp only []
      rw [if_pos (by omega)]
      exact comp_inv I l (acc ++ [y]) q2 (by simp; omega) i2 turn
/-- a loop's turn: on, or out of the loop -/
inductive Ctl (σ : Type) where
  | go (s : σ) | out (r : FlV)
def foldC {σ α : Type} (f : σ → α → Ctl σ) : σ → List α → Ctl σ
  | s, [] => .go s
  | s, x :: l => match f s x with
    | .go s2 => foldC f s2 l
    | .out r => .out r
/-- a loop whose state is told by E; P: what holds of the states -/
theorem loop_fold {σ α : Type} {t : Tgt} {step : VEnv → Q → FlV} (a : α → V) (E : σ → VEnv) (X : σ → Q) (f : σ → α → Ctl σ) (P : σ → Prop) : ∀ (l : List α) (s : σ), P s →
    (∀ s x, x ∈ l → P s → ∃ e1, bindV t (.v (a x)) (E s) = some e1 ∧ match f s x with
      | .go s2 => (step e1 (X s) = .nx (E s2) (X s2) ∨ step e1 (X s) = .ct (E s2) (X s2)) ∧ P s2
      | .out r => (∃ e2 q2, step e1 (X s) = .bk e2 q2 ∧ r = .nx e2 q2) ∨ (∃ d q2, step e1 (X s) = .rt d q2 ∧ r = .rt d q2) ∨ (∃ c x e2 q2, step e1 (X s) = .ex c x e2 q2 ∧ r = .ex c x e2 q2)) →
    loopV t step (l.map a) (E s) (X s) = (match foldC f s l with | .go s2 => .nx (E s2) (X s2) | .out r => r) ∧ (∀ s2, foldC f s l = .go s2 → P s2)
  | [], s, p, _ => ⟨rfl, fun s2 e => by cases e; exact p⟩
  | x :: l, s, p, turn => by
    obtain ⟨e1, b, st⟩ := turn s x List.mem_cons_self p
    simp only [List.map_cons, loopV, b, foldC]
    cases w : f s x with
    | go s2 =>
      rw [w] at st
      obtain ⟨st, p2⟩ := st
      have r := loop_fold (t := t) (step := step) a E X f P l s2 p2 fun s y hy ps => turn s y (List.mem_cons_of_mem _ hy) ps
      rcases st with st | st <;> (rw [st]; exact r)
    | out r =>
      rw [w] at st
      refine ⟨?_, fun s2 e => by cases e⟩
      rcases st with ⟨e2, q2, st, rfl⟩ | ⟨d, q2, st, rfl⟩ | ⟨c, x, e2, q2, st, rfl⟩ <;> rw [st]
/-- a loop that is never left early -/
theorem loop_foldl {σ α : Type} {t : Tgt} {step : VEnv → Q → FlV} (a : α → V) (E : σ → VEnv) (X : σ → Q) (f : σ → α → σ) (P : σ → Prop) : ∀ (l : List α) (s : σ), P s →
    (∀ s x, x ∈ l → P s → ∃ e1, bindV t (.v (a x)) (E s) = some e1 ∧ (step e1 (X s) = .nx (E (f s x)) (X (f s x)) ∨ step e1 (X s) = .ct (E (f s x)) (X (f s x))) ∧ P (f s x)) →
    loopV t step (l.map a) (E s) (X s) = .nx (E (l.foldl f s)) (X (l.foldl f s)) ∧ P (l.foldl f s)
  | [], s, p, _ => ⟨rfl, p⟩
  | x :: l, s, p, turn => by
    obtain ⟨e1, b, st, p2⟩ := turn s x List.mem_cons_self p
    have r := loop_foldl (t := t) (step := step) a E X f P l (f s x) p2 fun s y hy ps => turn s y (List.mem_cons_of_mem _ hy) ps
    simp only [List.map_cons, loopV, b, List.foldl_cons]
    rcases st with st | st <;> (rw [st]; exact r)
/-- a loop that looks for something: the names stand as they were but for the loop's own -/
theorem loop_find {α β : Type} {t : Tgt} {step : VEnv → Q → FlV} {q : Q} (a : α → V) (E : β → VEnv) (p : α → Option FlV) : ∀ (l : List α) (o : β),
    (∀ x o, x ∈ l → ∃ e1 o2, bindV t (.v (a x)) (E o) = some e1 ∧ match p x with
      | none => step e1 q = .nx (E o2) q ∨ step e1 q = .ct (E o2) q
      | some r => (∃ e2 q2, step e1 q = .bk e2 q2 ∧ r = .nx e2 q2) ∨ (∃ d q2, step e1 q = .rt d q2 ∧ r = .rt d q2) ∨ (∃ c x e2 q2, step e1 q = .ex c x e2 q2 ∧ r = .ex c x e2 q2)) →
    (l.findSome? p = none ∧ ∃ o2, loopV t step (l.map a) (E o) q = .nx (E o2) q) ∨ ∃ r, l.findSome? p = some r ∧ loopV t step (l.map a) (E o) q = r
  | [], o, _ => .inl ⟨rfl, o, rfl⟩
  | x :: l, o, turn => by
    obtain ⟨e1, o2, b, st⟩ := turn x o List.mem_cons_self
    simp only [List.map_cons, loopV, b, List.findSome?_cons]
    cases w : p x with
    | none =>
      rw [w] at st
      have r := loop_find (t := t) (step := step) (q := q) a E p l o2 fun y o hy => turn y o (List.mem_cons_of_mem _ hy)
      rcases st with st | st <;> (rw [st]; exact r)
    | some r =>
      rw [w] at st
      refine .inr ⟨r, rfl, ?_⟩
      rcases st with ⟨e2, q2, st, rfl⟩ | ⟨d, q2, st, rfl⟩ | ⟨c, x, e2, q2, st, rfl⟩ <;> rw [st]
/-- turns that lead on, ahead of others -/
theorem loop_skip {α β : Type} {t : Tgt} {step : VEnv → Q → FlV} {q : Q} (a : α → V) (E : β → VEnv) (r : List V) : ∀ (l : List α) (o : β),
    (∀ x o, x ∈ l → ∃ e1 o2, bindV t (.v (a x)) (E o) = some e1 ∧ (step e1 q = .nx (E o2) q ∨ step e1 q = .ct (E o2) q)) → ∃ o2, loopV t step (l.map a ++ r) (E o) q = loopV t step r (E o2) q
  | [], o, _ => ⟨o, rfl⟩
  | x :: l, o, turn => by
    obtain ⟨e1, o2, b, st⟩ := turn x o List.mem_cons_self
    obtain ⟨o3, e⟩ := loop_skip (t := t) (step := step) (q := q) a E r l o2 fun y o hy => turn y o (List.mem_cons_of_mem _ hy)
    refine ⟨o3, ?_⟩
    simp only [List.map_cons, List.cons_append, loopV, b]
    rcases st with st | st <;> (rw [st]; exact e)
theorem loop_nil {t : Tgt} {step : VEnv → Q → FlV} {e : VEnv} {q : Q} : loopV t step [] e q = .nx e q := id rfl
/-- what follows a turn -/
noncomputable def loopK (t : Tgt) (step : VEnv → Q → FlV) (ds : List V) : FlV → FlV
  | .nx e2 q2 => loopV t step ds e2 q2
  | .ct e2 q2 => loopV t step ds e2 q2
  | .bk e2 q2 => .nx e2 q2
  | r => r
theorem loopK_nx {t : Tgt} {step : VEnv → Q → FlV} {ds : List V} {e : VEnv} {q : Q} : loopK t step ds (.nx e q) = loopV t step ds e q := id rfl
theorem loopK_ct {t : Tgt} {step : VEnv → Q → FlV} {ds : List V} {e : VEnv} {q : Q} : loopK t step ds (.ct e q) = loopV t step ds e q := id rfl
theorem loopK_bk {t : Tgt} {step : VEnv → Q → FlV} {ds : List V} {e : VEnv} {q : Q} : loopK t step ds (.bk e q) = .nx e q := id rfl
theorem loopK_rt {t : Tgt} {step : VEnv → Q → FlV} {ds : List V} {a : A} {q : Q} : loopK t step ds (.rt a q) = .rt a q := id rfl
theorem loopK_ex {t : Tgt} {step : VEnv → Q → FlV} {ds : List V} {c : Nat} {x : V} {e : VEnv} {q : Q} : loopK t step ds (.ex c x e q) = .ex c x e q := id rfl
theorem loop_cons {t : Tgt} {step : VEnv → Q → FlV} {d : V} {ds : List V} {e e1 : VEnv} {q : Q} (b : bindV t (.v d) e = some e1) : loopV t step (d :: ds) e q = loopK t step ds (step e1 q) := by
  unfold loopV
  rw [b]
  simp only []
  cases step e1 q <;> rfl
/-- a loop: an invariant -/
theorem loop_inv {t : Tgt} {step : VEnv → Q → FlV} (X : FlV → Prop) (I : List V → VEnv → Q → Prop) : ∀ (l : List V) (e : VEnv) (q : Q), I l e q →
    (∀ x r e q, I (x :: r) e q → ∃ e1, bindV t (.v x) e = some e1 ∧ match step e1 q with
      | .nx e2 q2 => I r e2 q2
      | .ct e2 q2 => I r e2 q2
      | .bk e2 q2 => X (.nx e2 q2)
      | r => X r) → (∃ e2 q2, loopV t step l e q = .nx e2 q2 ∧ I [] e2 q2) ∨ X (loopV t step l e q)
  | [], e, q, i, _ => .inl ⟨e, q, rfl, i⟩
  | x :: l, e, q, i, turn => by
    obtain ⟨e1, b, st⟩ := turn x l e q i
    simp only [loopV, b]
    cases w : step e1 q with
    | nx e2 q2 => rw [w] at st; exact loop_inv X I l e2 q2 st turn
    | ct e2 q2 => rw [w] at st; exact loop_inv X I l e2 q2 st turn
    | bk e2 q2 => rw [w] at st; exact .inr st
    | rt d q2 => rw [w] at st; exact .inr st
    | ex c x e2 q2 => rw [w] at st; exact .inr st
    | stuck => rw [w] at st; exact .inr st
/-- a loop that is never left: an invariant that counts the turns -/
theorem loop_keep {t : Tgt} {step : VEnv → Q → FlV} (I : Nat → VEnv → Q → Prop) (N : Nat) : ∀ (l : List V) (i : Nat) (e : VEnv) (q : Q), i + l.length = N → I i e q →
    (∀ x i e q, x ∈ l → i < N → I i e q → ∃ e1, bindV t (.v x) e = some e1 ∧ ∃ e2 q2, (step e1 q = .nx e2 q2 ∨ step e1 q = .ct e2 q2) ∧ I (i + 1) e2 q2) → ∃ e2 q2, loopV t step l e q = .nx e2 q2 ∧ I N e2 q2
  | [], i, e, q, hn, h, _ => ⟨e, q, rfl, by rw [← hn]; exact h⟩
  | x :: l, i, e, q, hn, h, turn => by
    simp only [List.length_cons] at hn
    obtain ⟨e1, b, e2, q2, st, h2⟩ := turn x i e q List.mem_cons_self (by omega) h
    obtain ⟨e3, q3, r, h3⟩ := loop_keep I N l (i + 1) e2 q2 (by omega) h2 fun y j e q hy => turn y j e q (List.mem_cons_of_mem _ hy)
    refine ⟨e3, q3, ?_, h3⟩
    simp only [loopV, b]
    rcases st with st | st <;> (rw [st]; exact r)
/-- a loop that is a fold: the turns are counted -/
theorem loop_foldN {σ α : Type} {t : Tgt} {step : VEnv → Q → FlV} (a : α → V) (E : σ → VEnv) (X : σ → Q) (f : σ → α → σ) (P : Nat → σ → Prop) (N : Nat) : ∀ (l : List α) (i : Nat) (s : σ), i + l.length = N → P i s →
    (∀ i s x, i < N → x ∈ l → P i s → ∃ e1, bindV t (.v (a x)) (E s) = some e1 ∧ (step e1 (X s) = .nx (E (f s x)) (X (f s x)) ∨ step e1 (X s) = .ct (E (f s x)) (X (f s x))) ∧ P (i + 1) (f s x)) →
    loopV t step (l.map a) (E s) (X s) = .nx (E (l.foldl f s)) (X (l.foldl f s)) ∧ P N (l.foldl f s)
  | [], i, s, hn, p, _ => ⟨rfl, by rw [← hn]; exact p⟩
  | x :: l, i, s, hn, p, turn => by
    simp only [List.length_cons] at hn
    obtain ⟨e1, b, st, p2⟩ := turn i s x (by omega) List.mem_cons_self p
    have r := loop_foldN (t := t) (step := step) a E X f P N l (i + 1) (f s x) (by omega) p2 fun i s y hi hy ps => turn i s y hi (List.mem_cons_of_mem _ hy) ps
    simp only [List.map_cons, loopV, b, List.foldl_cons]
    rcases st with st | st <;> (rw [st]; exact r)
/-- while: an invariant and a measure -/
theorem while_inv {cn : VEnv → Q → RV Bool} {step : VEnv → Q → FlV} (X : FlV → Prop) (I : Nat → VEnv → Q → Prop) : ∀ (f n : Nat) (e : VEnv) (q : Q), n < f → I n e q →
    (∀ n e q, I n e q → ∃ k q1, cn e q = .ok k q1 ∧ if k = true then (match step e q1 with
      | .nx e2 q2 => ∃ m, m < n ∧ I m e2 q2
      | .ct e2 q2 => ∃ m, m < n ∧ I m e2 q2
      | .bk e2 q2 => X (.nx e2 q2)
      | r => X r) else X (.nx e q1)) → X (whileV cn step f e q)
  | 0, n, _, _, l, _, _ => by omega
  | f + 1, n, e, q, l, i, turn => by
    obtain ⟨k, q1, c, st⟩ := turn n e q i
    unfold whileV
    rw [c]
    show X (if k then _ else _)
    cases k with
    | false =>
      rw [if_neg (by decide)] at st ⊢
      exact st
    | true =>
      rw [if_pos rfl] at st ⊢
      cases w : step e q1 with
      | nx e2 q2 =>
        rw [w] at st
        obtain ⟨m, lm, i2⟩ := st
        exact while_inv X I f m e2 q2 (by omega) i2 turn
      | ct e2 q2 =>
        rw [w] at st
        obtain ⟨m, lm, i2⟩ := st
        exact while_inv X I f m e2 q2 (by omega) i2 turn
      | bk e2 q2 => rw [w] at st; exact st
      | rt d q2 => rw [w] at st; exact st
      | ex c x e2 q2 => rw [w] at st; exact st
      | stuck => rw [w] at st; exact st
/-- a call -/
theorem call_at {p : Prg} {g : Nat → Bool} {n i : Nat} {as : List A} {q : Q} (c : Fn) (env : VEnv) (e : p.fns[i]? = some c) (he : (if as.length = c.np then some (as.map some ++ List.replicate (c.ns - c.np) none) else none) = some env) :
    callV p g (n + 1) i as q = (vevB ⟨callV p g n, none, p.sub, g⟩ c.body env q).out := by
  have u : callV p g (n + 1) i as q = runV ⟨callV p g n, none, p.sub, g⟩ c as q := by
    show (match p.fns[i]? with | some fd => _ | none => _) = _
    rw [e]
  rw [u]
  unfold runV
  split at he
  · rename_i hl
    rw [if_pos hl, ← Option.some.inj he]; rfl
  · cases he
end VI

set_option Elab.async false
set_option linter.all false
set_option maxRecDepth 100000
set_option maxHeartbeats 4000000
/-! Rules of loops and comprehensions whose source, code and names are read off the goal. -/
namespace VI
open PySem PI
noncomputable def lstep (t : Tgt) (step : VEnv → Q → FlV) (x : V) (e : VEnv) (q : Q) : FlV := match bindV t (.v x) e with
  | some e1 => step e1 q
  | none => .stuck
def TurnR (I : VEnv → Q → Prop) (X : FlV → Prop) : FlV → Prop
  | .nx e2 q2 => I e2 q2
  | .ct e2 q2 => I e2 q2
  | .bk e2 q2 => X (.nx e2 q2)
  | .stuck => False
  | r => X r
theorem loop_cons2 {t : Tgt} {step : VEnv → Q → FlV} {x : V} {l : List V} {e : VEnv} {q : Q} : loopV t step (x :: l) e q = loopK t step l (lstep t step x e q) := by
  unfold lstep
  cases b : bindV t (.v x) e with
  | none => simp only [loopV, b, loopK]
  | some e1 => exact loop_cons b
/-- a loop with an invariant; X: what holds where it is left -/
theorem loop_resX {t : Tgt} {step : VEnv → Q → FlV} (X : FlV → Prop) (I : List V → VEnv → Q → Prop) : ∀ {l : List V} {e : VEnv} {q : Q} {r : FlV}, loopV t step l e q = r → I l e q →
    (∀ x l e q, I (x :: l) e q → ∃ r, lstep t step x e q = r ∧ TurnR (I l) X r) → (∃ e2 q2, r = .nx e2 q2 ∧ I [] e2 q2) ∨ X r
  | [], e, q, r, h, i, _ => .inl ⟨e, q, by rw [← h]; rfl, i⟩
  | x :: l, e, q, r, h, i, turn => by
    obtain ⟨r1, s, st⟩ := turn x l e q i
    rw [loop_cons2, s] at h
    cases r1 with
    | nx e2 q2 => exact loop_resX X I h st turn
    | ct e2 q2 => exact loop_resX X I h st turn
    | bk e2 q2 => exact .inr (by rw [← h]; exact st)
    | rt d q2 => exact .inr (by rw [← h]; exact st)
    | ex c x e2 q2 => exact .inr (by rw [← h]; exact st)
    | stuck => exact st.elim
/-- a loop that is never left early -/
theorem loop_res {t : Tgt} {step : VEnv → Q → FlV} (I : List V → VEnv → Q → Prop) {l : List V} {e : VEnv} {q : Q} {r : FlV} (h : loopV t step l e q = r) (i : I l e q)
    (turn : ∀ x l e q, I (x :: l) e q → ∃ r, lstep t step x e q = r ∧ TurnR (I l) (fun _ => False) r) : ∃ e2 q2, r = .nx e2 q2 ∧ I [] e2 q2 := (loop_resX (fun _ => False) I h i turn).elim id False.elim
/-- a loop that looks for the first turn that leaves: P: the names, whatever the loop's own hold -/
theorem loop_seek {α : Type} {t : Tgt} {step : VEnv → Q → FlV} (E : VEnv → Prop) (a : α → V) (p : α → Option FlV) {q : Q} : ∀ {l : List α} {e : VEnv} {r : FlV}, loopV t step (l.map a) e q = r → E e →
    (∀ x e, x ∈ l → E e → ∃ r, lstep t step (a x) e q = r ∧ match p x with
      | none => ∃ e2, (r = .nx e2 q ∨ r = .ct e2 q) ∧ E e2
      | some y => r = y ∧ ((∃ d q2, y = .rt d q2) ∨ ∃ c x e2 q2, y = .ex c x e2 q2)) →
    (l.findSome? p = none ∧ ∃ e2, r = .nx e2 q ∧ E e2) ∨ l.findSome? p = some r
  | [], e, r, h, i, _ => .inl ⟨rfl, e, by rw [← h]; rfl, i⟩
  | x :: l, e, r, h, i, turn => by
    obtain ⟨r1, s, st⟩ := turn x e List.mem_cons_self i
    rw [List.map_cons, loop_cons2, s] at h
    rw [List.findSome?_cons]
    cases w : p x with
    | none =>
      rw [w] at st
      obtain ⟨e2, st, i2⟩ := st
      have h : loopV t step (l.map a) e2 q = r := by rcases st with rfl | rfl <;> exact h
      exact loop_seek E a p h i2 fun y e hy => turn y e (List.mem_cons_of_mem _ hy)
    | some y =>
      rw [w] at st
      obtain ⟨rfl, st⟩ := st
      refine .inr ?_
      rw [← h]
      rcases st with ⟨d, q2, rfl⟩ | ⟨c, x, e2, q2, rfl⟩ <;> rfl
/-! comprehensions -/
noncomputable def cturn (t : Tgt) (e : VEnv) (step : VEnv → Q → RV (Option V)) (x : V) (q : Q) : RV (Option V) := match bindV t (.v x) e with
  | some e1 => step e1 q
  | none => .stuck
theorem comp_at {α : Type} {t : Tgt} {e : VEnv} {step : VEnv → Q → RV (Option V)} {q : Q} {l : List α} {a : α → V} (f : α → Option V) (hz : l.length < SL) (turn : ∀ x, x ∈ l → cturn t e step (a x) q = .ok (f x) q) : compV t e step (l.map a) [] q = .ok (l.filterMap f) q :=
  comp_fm l a f hz fun x hx => by
    have := turn x hx
    unfold cturn at this
    split at this
    · exact ⟨_, ‹_›, this⟩
    · cases this
theorem comp_atM {α : Type} {t : Tgt} {e : VEnv} {step : VEnv → Q → RV (Option V)} {q : Q} {l : List α} {a : α → V} (g : α → V) (hz : l.length < SL) (turn : ∀ x, x ∈ l → cturn t e step (a x) q = .ok (some (g x)) q) : compV t e step (l.map a) [] q = .ok (l.map g) q :=
  comp_map l a g hz fun x hx => by
    have := turn x hx
    unfold cturn at this
    split at this
    · exact ⟨_, ‹_›, this⟩
    · cases this
theorem comp_atF {α : Type} {t : Tgt} {e : VEnv} {step : VEnv → Q → RV (Option V)} {q : Q} {l : List α} {a : α → V} (p : α → Bool) (g : α → V) (hz : l.length < SL) (turn : ∀ x, x ∈ l → cturn t e step (a x) q = .ok (if p x then some (g x) else none) q) : compV t e step (l.map a) [] q = .ok ((l.filter p).map g) q :=
  comp_filter l a g p hz fun x hx => by
    have := turn x hx
    unfold cturn at this
    split at this
    · exact ⟨_, ‹_›, this⟩
    · cases this
/-- a comprehension that changes the draws -/
theorem comp_res {t : Tgt} {e : VEnv} {step : VEnv → Q → RV (Option V)} (I : List V → List V → Q → Prop) {l : List V} {q : Q} {r : RV (List V)} (h : compV t e step l [] q = r) (hz : l.length < SL) (i : I l [] q)
    (turn : ∀ x l acc q, I (x :: l) acc q → ∃ o q2, cturn t e step x q = .ok o q2 ∧ I l (match o with | some y => acc ++ [y] | none => acc) q2) : ∃ vs q2, r = .ok vs q2 ∧ I [] vs q2 := by
  obtain ⟨vs, q2, e1, i2⟩ := comp_inv (t := t) (e := e) (step := step) I l [] q (by simpa using hz) i fun x r acc q hi => by
    obtain ⟨o, q2, h1, h2⟩ := turn x r acc q hi
    unfold cturn at h1
    split at h1
    · exact ⟨_, ‹_›, o, q2, h1, h2⟩
    · cases h1
  exact ⟨vs, q2, by rw [← h, e1], i2⟩
/-- while: an invariant and a measure -/
theorem while_res {cn : VEnv → Q → RV Bool} {step : VEnv → Q → FlV} (X : FlV → Prop) (I : Nat → VEnv → Q → Prop) {n : Nat} {e : VEnv} {q : Q} {r : FlV} (h : whileV cn step fuelV e q = r) (hn : n < 1000000000000) (i : I n e q)
    (turn : ∀ n e q, I n e q → ∃ k q1, cn e q = .ok k q1 ∧ if k = true then ∃ r, step e q1 = r ∧ TurnR (fun e2 q2 => ∃ m, m < n ∧ I m e2 q2) X r else X (.nx e q1)) : X r := by
  rw [← h]
  refine while_inv X I fuelV n e q (by rw [fuelV_eq, fuel_eq]; exact hn) i fun n e q hi => ?_
  obtain ⟨k, q1, h1, h2⟩ := turn n e q hi
  refine ⟨k, q1, h1, ?_⟩
  cases k with
  | false => exact h2
  | true =>
    rw [if_pos rfl] at h2 ⊢
    obtain ⟨r, e1, h3⟩ := h2
    rw [e1]
    cases r with
    | stuck => exact h3.elim
    | _ => exact h3
end VI

set_option Elab.async false
set_option linter.all false
set_option maxRecDepth 100000
set_option maxHeartbeats 4000000
namespace K72
open PySem PySem.Spec PyProof.Rows L2 PI
def top (i : Nat) : Stmt := PySem.Challenge.pw_onlywhatvaries_k72_fences_reckoned.main.body.getD i (.Pass ⟨0, 0, 0, 0⟩)
def inTop (i j : Nat) : Stmt := match top i with
  | .ClassDef _ _ _ b _ _ _ _ _ _ _ => b.getD j (.Pass ⟨0, 0, 0, 0⟩)
  | _ => .Pass ⟨0, 0, 0, 0⟩
/- is_int: 0 x -/
def d0_is_int : B := (.cons (.ret (.boo true (.cons (.isin (.var 0) [.int] false) (.cons (.not (.isin (.var 0) [.bool] false)) .nil)))) .nil)
def c_is_int : Fn := ⟨1, 1, d0_is_int⟩
def d_is_int : DefS := ⟨"is_int", top 6, ["x"], c_is_int⟩
/- plain_form: 0 x, 1 held, 2 done, 3 source, 4 at, 5 built, 6 above, 7 place, 8 told -/
def w_plain_form_1 : E := (.var 1)
def b_plain_form_1 : B := (.cons (.asg (.tp [3, 4, 5]) (.meth .pop (.var 1) .nil)) (.cons (.iff (.boo true (.cons (.cmp .lt (.var 4) (.bi .len (.cons (.var 3) .nil))) (.cons (.isin (.ix (.var 3) (.var 4)) [.list, .tuple] true) .nil))) (.cons (.expr (.meth .append (.var 1) (.cons (.tup (.cons (.var 3) (.cons (.var 4) (.cons (.var 5) .nil)))) .nil))) (.cons (.expr (.meth .append (.var 1) (.cons (.tup (.cons (.ix (.var 3) (.var 4)) (.cons (.int 0) (.cons (.tup .nil) .nil)))) .nil))) .nil)) (.cons (.iff (.cmp .lt (.var 4) (.bi .len (.cons (.var 3) .nil))) (.cons (.expr (.meth .append (.var 1) (.cons (.tup (.cons (.var 3) (.cons (.bin .add (.var 4) (.int 1)) (.cons (.bin .add (.var 5) (.tup (.cons (.ix (.var 3) (.var 4)) .nil))) .nil)))) .nil))) .nil) (.cons (.iff (.var 1) (.cons (.asg (.tp [6, 7, 8]) (.meth .pop (.var 1) .nil)) (.cons (.expr (.meth .append (.var 1) (.cons (.tup (.cons (.var 6) (.cons (.bin .add (.var 7) (.int 1)) (.cons (.bin .add (.var 8) (.tup (.cons (.var 5) .nil))) .nil)))) .nil))) .nil)) (.cons (.asg (.v 2) (.var 5)) .nil)) .nil)) .nil)) .nil))
def d0_plain_form : B := (.cons (.iff (.not (.isin (.var 0) [.list, .tuple] true)) (.cons (.ret (.var 0)) .nil) .nil) (.cons (.asg (.v 1) (.lst (.cons (.tup (.cons (.var 0) (.cons (.int 0) (.cons (.tup .nil) .nil)))) .nil))) (.cons (.asg (.v 2) (.tup .nil)) (.cons (.whl w_plain_form_1 b_plain_form_1 [3, 4, 5, 6, 7, 8]) (.cons (.ret (.var 2)) .nil)))))
def c_plain_form : Fn := ⟨1, 9, d0_plain_form⟩
def d_plain_form : DefS := ⟨"plain_form", top 7, ["x", "held", "done", "source", "at", "built", "above", "place", "told"], c_plain_form⟩
/- check_number: 0 x, 1 least -/
def d0_check_number : B := (.cons (.iff (.boo false (.cons (.not (.call 0 (.cons (.var 0) .nil))) (.cons (.cmp .lt (.var 0) (.var 1)) .nil))) (.cons (.rais 1 (.call 1 (.cons (.var 0) .nil))) .nil) .nil) (.cons (.ret (.var 0)) .nil))
def c_check_number : Fn := ⟨2, 2, d0_check_number⟩
def d_check_number : DefS := ⟨"check_number", top 8, ["x", "least"], c_check_number⟩
/- wrong_fence_part: 0 fence, 1 lo, 2 hi, 3 step -/
def d0_wrong_fence_part : B := (.cons (.iff (.boo false (.cons (.not (.isin (.var 0) [.tuple, .list] true)) (.cons (.cmp .ne (.bi .len (.cons (.var 0) .nil)) (.int 3)) .nil))) (.cons (.ret (.neg (.int 1))) .nil) .nil) (.cons (.unl [1, 2, 3] (.var 0)) (.cons (.iff (.not (.call 0 (.cons (.var 1) .nil))) (.cons (.ret (.int 0)) .nil) .nil) (.cons (.iff (.boo false (.cons (.not (.call 0 (.cons (.var 2) .nil))) (.cons (.cmp .lt (.var 2) (.var 1)) .nil))) (.cons (.ret (.int 1)) .nil) .nil) (.cons (.iff (.boo false (.cons (.not (.call 0 (.cons (.var 3) .nil))) (.cons (.cmp .lt (.var 3) (.int 0)) .nil))) (.cons (.ret (.int 2)) .nil) .nil) (.cons (.iff (.cmp .eq (.var 3) (.int 0)) (.cons (.ret (.ife (.cmp .eq (.var 1) (.var 2)) .non (.int 2))) .nil) .nil) (.cons (.ret (.ife (.boo true (.cons (.cmp .lt (.var 1) (.var 2)) (.cons (.cmp .eq (.bin .mod (.bin .sub (.var 2) (.var 1)) (.var 3)) (.int 0)) .nil))) .non (.int 2))) .nil)))))))
def c_wrong_fence_part : Fn := ⟨1, 4, d0_wrong_fence_part⟩
def d_wrong_fence_part : DefS := ⟨"wrong_fence_part", top 10, ["fence", "lo", "hi", "step"], c_wrong_fence_part⟩
/- check_fence: 0 fence, 1 wrong -/
def d0_check_fence : B := (.cons (.asg (.v 1) (.call 3 (.cons (.var 0) .nil))) (.cons (.iff (.cmp .isn (.var 1) .non) (.cons (.rais 2 (.var 1)) .nil) .nil) (.cons (.ret (.bi .tuple (.cons (.var 0) .nil))) .nil)))
def c_check_fence : Fn := ⟨1, 2, d0_check_fence⟩
def d_check_fence : DefS := ⟨"check_fence", top 11, ["fence", "wrong"], c_check_fence⟩
/- check_other_fence: 0 fence, 1 wrong -/
def d0_check_other_fence : B := (.cons (.asg (.v 1) (.call 3 (.cons (.var 0) .nil))) (.cons (.iff (.cmp .isn (.var 1) .non) (.cons (.rais 2 (.tup (.cons (.neg (.int 2)) (.cons (.var 1) .nil)))) .nil) .nil) (.cons (.ret (.bi .tuple (.cons (.var 0) .nil))) .nil)))
def c_check_other_fence : Fn := ⟨1, 2, d0_check_other_fence⟩
def d_check_other_fence : DefS := ⟨"check_other_fence", top 12, ["fence", "wrong"], c_check_other_fence⟩
/- check_integers: 0 numbers, 1 j, 2 number -/
def b_check_integers_1 : B := (.cons (.iff (.not (.call 0 (.cons (.var 2) .nil))) (.cons (.rais 2 (.var 1)) .nil) .nil) .nil)
def d0_check_integers : B := (.cons (.iff (.boo false (.cons (.not (.isin (.var 0) [.tuple, .list] true)) (.cons (.cmp .eq (.bi .len (.cons (.var 0) .nil)) (.int 0)) .nil))) (.cons (.rais 2 (.neg (.int 1))) .nil) .nil) (.cons (.forr (.tp [1, 2]) (.enum (.var 0)) b_check_integers_1 [1, 2]) (.cons (.ret (.bi .tuple (.cons (.var 0) .nil))) .nil)))
def c_check_integers : Fn := ⟨1, 3, d0_check_integers⟩
def d_check_integers : DefS := ⟨"check_integers", top 13, ["numbers", "j", "number"], c_check_integers⟩
/- fence_of_plain: 0 numbers, 1 lo, 2 step, 3 number -/
def b_fence_of_plain_1 : B := (.cons (.asg (.v 2) (.bi .gcd (.cons (.var 2) (.cons (.bin .sub (.var 3) (.var 1)) .nil)))) .nil)
def d0_fence_of_plain : B := (.cons (.asg (.v 1) (.bi .min2 (.cons (.var 0) .nil))) (.cons (.asg (.v 2) (.int 0)) (.cons (.forr (.v 3) (.seq (.var 0)) b_fence_of_plain_1 [3]) (.cons (.ret (.tup (.cons (.var 1) (.cons (.bi .max2 (.cons (.var 0) .nil)) (.cons (.var 2) .nil))))) .nil))))
def c_fence_of_plain : Fn := ⟨1, 4, d0_fence_of_plain⟩
def d_fence_of_plain : DefS := ⟨"fence_of_plain", top 14, ["numbers", "lo", "step", "number"], c_fence_of_plain⟩
/- fence_of: 0 values -/
def d0_fence_of : B := (.cons (.ret (.call 7 (.cons (.call 6 (.cons (.var 0) .nil)) .nil))) .nil)
def c_fence_of : Fn := ⟨1, 1, d0_fence_of⟩
def d_fence_of : DefS := ⟨"fence_of", top 15, ["values"], c_fence_of⟩
/- holds_number: 0 fence, 1 v, 2 lo, 3 hi, 4 step -/
def d0_holds_number : B := (.cons (.unl [2, 3, 4] (.var 0)) (.cons (.iff (.cmp .eq (.var 4) (.int 0)) (.cons (.ret (.cmp .eq (.var 1) (.var 2))) .nil) .nil) (.cons (.ret (.boo true (.cons (.chain .le .le (.var 2) (.var 1) (.var 3)) (.cons (.cmp .eq (.bin .mod (.bin .sub (.var 1) (.var 2)) (.var 4)) (.int 0)) .nil)))) .nil)))
def c_holds_number : Fn := ⟨2, 5, d0_holds_number⟩
def d_holds_number : DefS := ⟨"holds_number", top 16, ["fence", "v", "lo", "hi", "step"], c_holds_number⟩
/- has_number: 0 fence, 1 v, 2 told -/
def d0_has_number : B := (.cons (.asg (.v 2) (.call 4 (.cons (.var 0) .nil))) (.cons (.iff (.not (.call 0 (.cons (.var 1) .nil))) (.cons (.rais 1 (.call 1 (.cons (.var 1) .nil))) .nil) .nil) (.cons (.ret (.call 9 (.cons (.var 2) (.cons (.var 1) .nil)))) .nil)))
def c_has_number : Fn := ⟨2, 3, d0_has_number⟩
def d_has_number : DefS := ⟨"has_number", top 17, ["fence", "v", "told"], c_has_number⟩
/- fence_size: 0 fence, 1 lo, 2 hi, 3 step -/
def d0_fence_size : B := (.cons (.unl [1, 2, 3] (.call 4 (.cons (.var 0) .nil))) (.cons (.ret (.ife (.cmp .eq (.var 3) (.int 0)) (.int 1) (.bin .add (.bin .div (.bin .sub (.var 2) (.var 1)) (.var 3)) (.int 1)))) .nil))
def c_fence_size : Fn := ⟨1, 4, d0_fence_size⟩
def d_fence_size : DefS := ⟨"fence_size", top 18, ["fence", "lo", "hi", "step"], c_fence_size⟩
/- turned_by: 0 number, 1 base, 2 left, 3 right, 4 less, 5 more, 6 times -/
def w_turned_by_1 : E := (.cmp .ne (.var 3) (.int 0))
def b_turned_by_1 : B := (.cons (.asg (.v 6) (.bin .div (.var 2) (.var 3))) (.cons (.asg (.tp [2, 3]) (.tup (.cons (.var 3) (.cons (.bin .sub (.var 2) (.bin .mul (.var 6) (.var 3))) .nil)))) (.cons (.asg (.tp [4, 5]) (.tup (.cons (.var 5) (.cons (.bin .sub (.var 4) (.bin .mul (.var 6) (.var 5))) .nil)))) .nil)))
def d0_turned_by : B := (.cons (.asg (.tp [2, 3]) (.tup (.cons (.var 1) (.cons (.bin .mod (.var 0) (.var 1)) .nil)))) (.cons (.asg (.tp [4, 5]) (.tup (.cons (.int 0) (.cons (.int 1) .nil)))) (.cons (.whl w_turned_by_1 b_turned_by_1 [2, 3, 5, 6]) (.cons (.ret (.bin .mod (.var 4) (.var 1))) .nil))))
def c_turned_by : Fn := ⟨2, 7, d0_turned_by⟩
def d_turned_by : DefS := ⟨"turned_by", top 19, ["number", "base", "left", "right", "less", "more", "times"], c_turned_by⟩
/- common_numbers: 0 fence, 1 other, 2 step, 3 mate, 4 both, 5 around, 6 turns, 7 whole, 8 low, 9 high, 10 first, 11 last -/
def d0_common_numbers : B := (.cons (.asg (.tp [2, 3]) (.tup (.cons (.ix (.var 0) (.int 2)) (.cons (.ix (.var 1) (.int 2)) .nil)))) (.cons (.asg (.v 4) (.bi .gcd (.cons (.var 2) (.cons (.var 3) .nil)))) (.cons (.iff (.cmp .ne (.bin .mod (.bin .sub (.ix (.var 1) (.int 0)) (.ix (.var 0) (.int 0))) (.var 4)) (.int 0)) (.cons (.ret .non) .nil) .nil) (.cons (.asg (.v 5) (.bin .div (.var 3) (.var 4))) (.cons (.asg (.v 6) (.bin .mul (.bin .div (.bin .sub (.ix (.var 1) (.int 0)) (.ix (.var 0) (.int 0))) (.var 4)) (.call 12 (.cons (.bin .div (.var 2) (.var 4)) (.cons (.var 5) .nil))))) (.cons (.asg (.v 7) (.bi .lcm (.cons (.var 2) (.cons (.var 3) .nil)))) (.cons (.asg (.tp [8, 9]) (.tup (.cons (.bi .max2 (.cons (.ix (.var 0) (.int 0)) (.cons (.ix (.var 1) (.int 0)) .nil))) (.cons (.bi .min2 (.cons (.ix (.var 0) (.int 1)) (.cons (.ix (.var 1) (.int 1)) .nil))) .nil)))) (.cons (.asg (.v 10) (.bin .add (.ix (.var 0) (.int 0)) (.bin .mul (.var 2) (.bin .mod (.var 6) (.var 5))))) (.cons (.asg (.v 10) (.bin .add (.var 10) (.bin .mul (.bin .div (.bin .sub (.bin .add (.bin .sub (.var 8) (.var 10)) (.var 7)) (.int 1)) (.var 7)) (.var 7)))) (.cons (.iff (.cmp .gt (.var 10) (.var 9)) (.cons (.ret .non) .nil) .nil) (.cons (.asg (.v 11) (.bin .add (.var 10) (.bin .mul (.bin .div (.bin .sub (.var 9) (.var 10)) (.var 7)) (.var 7)))) (.cons (.ret (.tup (.cons (.var 10) (.cons (.var 11) (.cons (.ife (.cmp .eq (.var 10) (.var 11)) (.int 0) (.var 7)) .nil))))) .nil))))))))))))
def c_common_numbers : Fn := ⟨2, 12, d0_common_numbers⟩
def d_common_numbers : DefS := ⟨"common_numbers", top 20, ["fence", "other", "step", "mate", "both", "around", "turns", "whole", "low", "high", "first", "last"], c_common_numbers⟩
/- fences_met: 0 fence, 1 other, 2 told, 3 mate -/
def d0_fences_met : B := (.cons (.asg (.v 2) (.call 4 (.cons (.var 0) .nil))) (.cons (.asg (.v 3) (.call 5 (.cons (.var 1) .nil))) (.cons (.iff (.cmp .eq (.ix (.var 2) (.int 2)) (.int 0)) (.cons (.ret (.ife (.call 9 (.cons (.var 3) (.cons (.ix (.var 2) (.int 0)) .nil))) (.var 2) .non)) .nil) .nil) (.cons (.iff (.cmp .eq (.ix (.var 3) (.int 2)) (.int 0)) (.cons (.ret (.ife (.call 9 (.cons (.var 2) (.cons (.ix (.var 3) (.int 0)) .nil))) (.var 3) .non)) .nil) .nil) (.cons (.ret (.call 13 (.cons (.var 2) (.cons (.var 3) .nil)))) .nil)))))
def c_fences_met : Fn := ⟨2, 4, d0_fences_met⟩
def d_fences_met : DefS := ⟨"fences_met", top 21, ["fence", "other", "told", "mate"], c_fences_met⟩
/- is_fence_within: 0 fence, 1 other, 2 told, 3 mate -/
def d0_is_fence_within : B := (.cons (.asg (.v 2) (.call 4 (.cons (.var 0) .nil))) (.cons (.asg (.v 3) (.call 5 (.cons (.var 1) .nil))) (.cons (.iff (.boo false (.cons (.not (.call 9 (.cons (.var 3) (.cons (.ix (.var 2) (.int 0)) .nil)))) (.cons (.not (.call 9 (.cons (.var 3) (.cons (.ix (.var 2) (.int 1)) .nil)))) .nil))) (.cons (.ret (.bl false)) .nil) .nil) (.cons (.ret (.boo false (.cons (.cmp .eq (.ix (.var 2) (.int 2)) (.int 0)) (.cons (.cmp .eq (.bin .mod (.ix (.var 2) (.int 2)) (.ix (.var 3) (.int 2))) (.int 0)) .nil)))) .nil))))
def c_is_fence_within : Fn := ⟨2, 4, d0_is_fence_within⟩
def d_is_fence_within : DefS := ⟨"is_fence_within", top 22, ["fence", "other", "told", "mate"], c_is_fence_within⟩
/- fence_behind: 0 fence, 1 other, 2 told, 3 mate -/
def d0_fence_behind : B := (.cons (.asg (.v 2) (.call 4 (.cons (.var 0) .nil))) (.cons (.asg (.v 3) (.call 5 (.cons (.var 1) .nil))) (.cons (.ret (.tup (.cons (.bin .add (.ix (.var 2) (.int 0)) (.ix (.var 3) (.int 0))) (.cons (.bin .add (.ix (.var 2) (.int 1)) (.ix (.var 3) (.int 1))) (.cons (.bi .gcd (.cons (.ix (.var 2) (.int 2)) (.cons (.ix (.var 3) (.int 2)) .nil))) .nil))))) .nil)))
def c_fence_behind : Fn := ⟨2, 4, d0_fence_behind⟩
def d_fence_behind : DefS := ⟨"fence_behind", top 23, ["fence", "other", "told", "mate"], c_fence_behind⟩
/- either_fence: 0 told, 1 mate, 2 step -/
def d0_either_fence : B := (.cons (.asg (.v 2) (.bi .gcd (.cons (.bi .gcd (.cons (.ix (.var 0) (.int 2)) (.cons (.ix (.var 1) (.int 2)) .nil))) (.cons (.bin .sub (.ix (.var 1) (.int 0)) (.ix (.var 0) (.int 0))) .nil)))) (.cons (.ret (.tup (.cons (.bi .min2 (.cons (.ix (.var 0) (.int 0)) (.cons (.ix (.var 1) (.int 0)) .nil))) (.cons (.bi .max2 (.cons (.ix (.var 0) (.int 1)) (.cons (.ix (.var 1) (.int 1)) .nil))) (.cons (.var 2) .nil))))) .nil))
def c_either_fence : Fn := ⟨2, 3, d0_either_fence⟩
def d_either_fence : DefS := ⟨"either_fence", top 24, ["told", "mate", "step"], c_either_fence⟩
/- fence_either: 0 fence, 1 other, 2 told -/
def d0_fence_either : B := (.cons (.asg (.v 2) (.call 4 (.cons (.var 0) .nil))) (.cons (.ret (.call 17 (.cons (.var 2) (.cons (.call 5 (.cons (.var 1) .nil)) .nil)))) .nil))
def c_fence_either : Fn := ⟨2, 3, d0_fence_either⟩
def d_fence_either : DefS := ⟨"fence_either", top 25, ["fence", "other", "told"], c_fence_either⟩
/- fence_times: 0 fence, 1 k, 2 lo, 3 hi, 4 step -/
def d0_fence_times : B := (.cons (.unl [2, 3, 4] (.call 4 (.cons (.var 0) .nil))) (.cons (.expr (.call 2 (.cons (.var 1) (.cons (.int 1) .nil)))) (.cons (.ret (.tup (.cons (.bin .mul (.var 1) (.var 2)) (.cons (.bin .mul (.var 1) (.var 3)) (.cons (.var 4) .nil))))) .nil)))
def c_fence_times : Fn := ⟨2, 5, d0_fence_times⟩
def d_fence_times : DefS := ⟨"fence_times", top 26, ["fence", "k", "lo", "hi", "step"], c_fence_times⟩
/- _law_draws: 0 script, 1 draws, 2 at, 3 cell, 4 turn -/
def b_law_draws_1 : B := (.cons (.expr (.meth .append (.var 1) (.cons (.bin .mod (.bi .int (.cons (.var 3) .nil)) (.int 30)) .nil))) (.cons (.asg (.v 3) (.bin .div (.var 3) (.int 30))) (.cons (.iff (.cmp .eq (.var 3) (.int 0)) (.cons .brk .nil) .nil) .nil)))
def b_law_draws_2 : B := (.cons (.asg (.v 3) (.bi .int (.cons (.ix (.var 0) (.var 2)) .nil))) (.cons (.iff (.cmp .lt (.var 3) (.int 0)) (.cons (.asg (.v 3) (.bin .sub (.int 11) (.bin .mul (.int 2) (.var 3)))) .nil) .nil) (.cons (.asg (.v 3) (.bin .mod (.bi .int (.cons (.var 3) .nil)) (.bin .pow (.int 30) (.int 24)))) (.cons (.forr (.v 4) (.rng1 (.int 24)) b_law_draws_1 [3, 4]) .nil))))
def d0_law_draws : B := (.cons (.asg (.v 1) (.lst .nil)) (.cons (.forr (.v 2) (.rng1 (.bi .min2 (.cons (.bi .len (.cons (.var 0) .nil)) (.cons (.int 63) .nil)))) b_law_draws_2 [2, 3, 4]) (.cons (.expr (.meth .reverse (.var 1) .nil)) (.cons (.ret (.var 1)) .nil))))
def c_law_draws : Fn := ⟨1, 5, d0_law_draws⟩
def d_law_draws : DefS := ⟨"_law_draws", top 28, ["script", "draws", "at", "cell", "turn"], c_law_draws⟩
/- _law_take: 0 draws, 1 many -/
def d0_law_take : B := (.cons (.iff (.cmp .eq (.bi .len (.cons (.var 0) .nil)) (.int 0)) (.cons (.ret (.int 0)) .nil) .nil) (.cons (.ret (.bin .mod (.bi .int (.cons (.meth .pop (.var 0) .nil) .nil)) (.var 1))) .nil))
def c_law_take : Fn := ⟨2, 2, d0_law_take⟩
def d_law_take : DefS := ⟨"_law_take", top 29, ["draws", "many"], c_law_take⟩
/- _law_gcd: 0 a, 1 b, 2 turn -/
def b_law_gcd_1 : B := (.cons (.iff (.cmp .eq (.var 1) (.int 0)) (.cons .brk .nil) .nil) (.cons (.asg (.tp [0, 1]) (.tup (.cons (.var 1) (.cons (.bin .mod (.bi .int (.cons (.var 0) .nil)) (.bi .int (.cons (.var 1) .nil))) .nil)))) .nil))
def d0_law_gcd : B := (.cons (.asg (.v 0) (.bi .abs (.cons (.var 0) .nil))) (.cons (.asg (.v 1) (.bi .abs (.cons (.var 1) .nil))) (.cons (.forr (.v 2) (.rng1 (.int 300)) b_law_gcd_1 [1, 2]) (.cons (.ret (.var 0)) .nil))))
def c_law_gcd : Fn := ⟨2, 3, d0_law_gcd⟩
def d_law_gcd : DefS := ⟨"_law_gcd", top 30, ["a", "b", "turn"], c_law_gcd⟩
/- _law_is: 0 told, 1 due, 2 at -/
def t_law_is_1 : E := (.not (.call 24 (.cons (.ix (.var 0) (.var 2)) (.cons (.ix (.var 1) (.var 2)) .nil))))
def e_law_is_1 : E := (.var 2)
def d0_law_is : B := (.cons (.iff (.cmp .is (.var 1) .non) (.cons (.ret (.cmp .is (.var 0) .non)) .nil) .nil) (.cons (.iff (.isin (.var 1) [.tuple] false) (.cons (.iff (.boo false (.cons (.not (.isin (.var 0) [.tuple] false)) (.cons (.cmp .ne (.bi .len (.cons (.var 0) .nil)) (.bi .len (.cons (.var 1) .nil))) .nil))) (.cons (.ret (.bl false)) .nil) .nil) (.cons (.ret (.cmp .eq (.bi .len (.cons (.comp [("at", 2)] (.v 2) (.rng1 (.bi .len (.cons (.var 1) .nil))) (.some t_law_is_1) e_law_is_1) .nil)) (.int 0))) .nil)) .nil) (.cons (.ret (.call 24 (.cons (.var 0) (.cons (.var 1) .nil)))) .nil)))
def c_law_is : Fn := ⟨2, 3, d0_law_is⟩
def d_law_is : DefS := ⟨"_law_is", top 31, ["told", "due", "at"], c_law_is⟩
/- _law_is_number: 0 told, 1 due -/
def d0_law_is_number : B := (.cons (.ret (.boo true (.cons (.isin (.var 0) [.int] false) (.cons (.not (.isin (.var 0) [.bool] false)) (.cons (.cmp .eq (.var 0) (.var 1)) .nil))))) .nil)
def c_law_is_number : Fn := ⟨2, 2, d0_law_is_number⟩
def d_law_is_number : DefS := ⟨"_law_is_number", top 32, ["told", "due"], c_law_is_number⟩
/- _law_yes: 0 told, 1 due -/
def d0_law_yes : B := (.cons (.iff (.var 1) (.cons (.ret (.cmp .is (.var 0) (.bl true))) .nil) .nil) (.cons (.ret (.cmp .is (.var 0) (.bl false))) .nil))
def c_law_yes : Fn := ⟨2, 2, d0_law_yes⟩
def d_law_yes : DefS := ⟨"_law_yes", top 33, ["told", "due"], c_law_yes⟩
/- _law_fence: 0 draws, 1 lo, 2 many, 3 step -/
def d0_law_fence : B := (.cons (.asg (.v 1) (.bin .add (.ix (.lst (.cons (.int 0) (.cons (.int 3) (.cons (.neg (.int 5)) (.cons (.int 12) (.cons (.neg (.int 1)) (.cons (.int 7) .nil))))))) (.call 21 (.cons (.var 0) (.cons (.int 6) .nil)))) (.call 21 (.cons (.var 0) (.cons (.int 4) .nil))))) (.cons (.asg (.v 2) (.ix (.lst (.cons (.int 4) (.cons (.int 1) (.cons (.int 6) (.cons (.int 3) (.cons (.int 8) (.cons (.int 2) (.cons (.int 5) .nil)))))))) (.call 21 (.cons (.var 0) (.cons (.int 7) .nil))))) (.cons (.asg (.v 3) (.ix (.lst (.cons (.int 2) (.cons (.int 3) (.cons (.int 1) (.cons (.int 6) (.cons (.int 4) (.cons (.int 5) (.cons (.int 10) .nil)))))))) (.call 21 (.cons (.var 0) (.cons (.int 7) .nil))))) (.cons (.iff (.cmp .eq (.var 2) (.int 1)) (.cons (.ret (.tup (.cons (.var 1) (.cons (.var 1) (.cons (.int 0) .nil))))) .nil) .nil) (.cons (.ret (.tup (.cons (.var 1) (.cons (.bin .add (.var 1) (.bin .mul (.var 3) (.bin .sub (.var 2) (.int 1)))) (.cons (.var 3) .nil))))) .nil)))))
def c_law_fence : Fn := ⟨1, 4, d0_law_fence⟩
def d_law_fence : DefS := ⟨"_law_fence", top 34, ["draws", "lo", "many", "step"], c_law_fence⟩
/- _law_numbers: 0 fence -/
def d0_law_numbers : B := (.cons (.iff (.cmp .eq (.ix (.var 0) (.int 2)) (.int 0)) (.cons (.ret (.lst (.cons (.ix (.var 0) (.int 0)) .nil))) .nil) .nil) (.cons (.ret (.lrg3 false (.cons (.ix (.var 0) (.int 0)) (.cons (.bin .add (.ix (.var 0) (.int 1)) (.int 1)) (.cons (.ix (.var 0) (.int 2)) .nil))))) .nil))
def c_law_numbers : Fn := ⟨1, 1, d0_law_numbers⟩
def d_law_numbers : DefS := ⟨"_law_numbers", top 35, ["fence"], c_law_numbers⟩
/- _law_least: 0 values, 1 step, 2 value -/
def b_law_least_1 : B := (.cons (.asg (.v 1) (.call 22 (.cons (.var 1) (.cons (.bin .sub (.var 2) (.ix (.var 0) (.int 0))) .nil)))) .nil)
def d0_law_least : B := (.cons (.iff (.cmp .eq (.bi .len (.cons (.var 0) .nil)) (.int 0)) (.cons (.ret .non) .nil) .nil) (.cons (.asg (.v 1) (.int 0)) (.cons (.forr (.v 2) (.seq (.var 0)) b_law_least_1 [2]) (.cons (.ret (.tup (.cons (.bi .min2 (.cons (.var 0) .nil)) (.cons (.bi .max2 (.cons (.var 0) .nil)) (.cons (.var 1) .nil))))) .nil))))
def c_law_least : Fn := ⟨1, 3, d0_law_least⟩
def d_law_least : DefS := ⟨"_law_least", top 36, ["values", "step", "value"], c_law_least⟩
/- _law_sums: 0 values, 1 others, 2 sums, 3 value, 4 other -/
def t_law_sums_1 : E := (.cmp .nin (.bin .add (.var 3) (.var 4)) (.var 2))
def e_law_sums_1 : E := (.bin .add (.var 3) (.var 4))
def b_law_sums_1 : B := (.cons (.asg (.v 2) (.bin .add (.var 2) (.comp [("other", 4)] (.v 4) (.seq (.var 1)) (.some t_law_sums_1) e_law_sums_1))) .nil)
def d0_law_sums : B := (.cons (.asg (.v 2) (.lst .nil)) (.cons (.forr (.v 3) (.seq (.var 0)) b_law_sums_1 [3]) (.cons (.ret (.var 2)) .nil)))
def c_law_sums : Fn := ⟨2, 5, d0_law_sums⟩
def d_law_sums : DefS := ⟨"_law_sums", top 37, ["values", "others", "sums", "value", "other"], c_law_sums⟩
/- _law_far: 0 fence, 1 by, 2 more -/
def d0_law_far : B := (.cons (.ret (.tup (.cons (.bin .add (.bin .mul (.ix (.var 0) (.int 0)) (.var 1)) (.var 2)) (.cons (.bin .add (.bin .mul (.ix (.var 0) (.int 1)) (.var 1)) (.var 2)) (.cons (.bin .mul (.ix (.var 0) (.int 2)) (.var 1)) .nil))))) .nil)
def c_law_far : Fn := ⟨3, 3, d0_law_far⟩
def d_law_far : DefS := ⟨"_law_far", top 38, ["fence", "by", "more"], c_law_far⟩
/- _law_pair_right: 0 fence, 1 other, 2 by, 3 more, 4 one, 5 two, 6 common, 7 number, 8 first, 9 second, 10 due -/
def t_law_pair_right_1 : E := (.cmp .inn (.var 7) (.var 5))
def e_law_pair_right_1 : E := (.var 7)
def d0_law_pair_right : B := (.cons (.asg (.tp [4, 5]) (.tup (.cons (.call 27 (.cons (.var 0) .nil)) (.cons (.call 27 (.cons (.var 1) .nil)) .nil)))) (.cons (.asg (.v 6) (.comp [("number", 7)] (.v 7) (.seq (.var 4)) (.some t_law_pair_right_1) e_law_pair_right_1)) (.cons (.asg (.tp [8, 9]) (.tup (.cons (.call 30 (.cons (.var 0) (.cons (.var 2) (.cons (.var 3) .nil)))) (.cons (.call 30 (.cons (.var 1) (.cons (.var 2) (.cons (.var 3) .nil)))) .nil)))) (.cons (.asg (.v 10) (.call 28 (.cons (.var 6) .nil))) (.cons (.iff (.cmp .isn (.var 10) .non) (.cons (.asg (.v 10) (.call 30 (.cons (.var 10) (.cons (.var 2) (.cons (.var 3) .nil))))) .nil) .nil) (.cons (.iff (.boo false (.cons (.not (.call 23 (.cons (.call 14 (.cons (.var 8) (.cons (.bi .list (.cons (.var 9) .nil)) .nil))) (.cons (.var 10) .nil)))) (.cons (.not (.call 23 (.cons (.call 14 (.cons (.var 9) (.cons (.var 8) .nil))) (.cons (.var 10) .nil)))) .nil))) (.cons (.ret (.bl false)) .nil) .nil) (.cons (.iff (.not (.call 25 (.cons (.call 15 (.cons (.bi .list (.cons (.var 8) .nil)) (.cons (.var 9) .nil))) (.cons (.cmp .eq (.bi .len (.cons (.var 6) .nil)) (.bi .len (.cons (.var 4) .nil))) .nil)))) (.cons (.ret (.bl false)) .nil) .nil) (.cons (.iff (.cmp .isn (.var 10) .non) (.cons (.iff (.boo false (.cons (.cmp .isn (.call 15 (.cons (.var 10) (.cons (.var 8) .nil))) (.bl true)) (.cons (.cmp .isn (.call 15 (.cons (.var 10) (.cons (.var 9) .nil))) (.bl true)) .nil))) (.cons (.ret (.bl false)) .nil) .nil) .nil) .nil) (.cons (.iff (.not (.call 23 (.cons (.call 16 (.cons (.var 8) (.cons (.var 9) .nil))) (.cons (.call 30 (.cons (.call 28 (.cons (.call 29 (.cons (.var 4) (.cons (.var 5) .nil))) .nil)) (.cons (.var 2) (.cons (.bin .mul (.int 2) (.var 3)) .nil)))) .nil)))) (.cons (.ret (.bl false)) .nil) .nil) (.cons (.ret (.call 23 (.cons (.call 18 (.cons (.bi .list (.cons (.var 8) .nil)) (.cons (.var 9) .nil))) (.cons (.call 30 (.cons (.call 28 (.cons (.bin .add (.var 4) (.var 5)) .nil)) (.cons (.var 2) (.cons (.var 3) .nil)))) .nil)))) .nil))))))))))
def c_law_pair_right : Fn := ⟨4, 11, d0_law_pair_right⟩
def d_law_pair_right : DefS := ⟨"_law_pair_right", top 39, ["fence", "other", "by", "more", "one", "two", "common", "number", "first", "second", "due"], c_law_pair_right⟩
/- _law_one_right: 0 fence, 1 by, 2 more, 3 draws, 4 numbers, 5 far, 6 handed, 7 number, 8 some, 9 turn, 10 sums, 11 k -/
def b_law_one_right_1 : B := (.cons (.asg (.v 10) (.call 29 (.cons (.var 4) (.cons (.var 10) .nil)))) (.cons (.iff (.not (.call 23 (.cons (.call 19 (.cons (.var 5) (.cons (.var 11) .nil))) (.cons (.call 30 (.cons (.call 28 (.cons (.var 10) .nil)) (.cons (.var 1) (.cons (.bin .mul (.var 11) (.var 2)) .nil)))) .nil)))) (.cons (.ret (.bl false)) .nil) .nil) .nil))
def b_law_one_right_2 : B := (.cons (.iff (.not (.call 25 (.cons (.call 10 (.cons (.var 5) (.cons (.bin .add (.bin .mul (.var 7) (.var 1)) (.var 2)) .nil))) (.cons (.cmp .inn (.var 7) (.var 4)) .nil)))) (.cons (.ret (.bl false)) .nil) .nil) (.cons (.iff (.boo true (.cons (.cmp .gt (.var 1) (.int 1)) (.cons (.cmp .isn (.call 10 (.cons (.var 5) (.cons (.bin .add (.bin .add (.bin .mul (.var 7) (.var 1)) (.var 2)) (.int 1)) .nil))) (.bl false)) .nil))) (.cons (.ret (.bl false)) .nil) .nil) .nil))
def e_law_one_right_1 : E := (.ix (.var 6) (.bin .mod (.call 21 (.cons (.var 3) (.cons (.int 30) .nil))) (.bi .len (.cons (.var 6) .nil))))
def e_law_one_right_2 : E := (.bin .add (.bin .mul (.var 7) (.var 1)) (.var 2))
def d0_law_one_right : B := (.cons (.asg (.v 4) (.call 27 (.cons (.var 0) .nil))) (.cons (.asg (.v 5) (.call 30 (.cons (.var 0) (.cons (.var 1) (.cons (.var 2) .nil))))) (.cons (.asg (.v 6) (.comp [("number", 7)] (.v 7) (.seq (.var 4)) .none e_law_one_right_2)) (.cons (.asg (.v 8) (.bin .add (.sl (.var 6) .none (.some (.int 1))) (.comp [("turn", 9)] (.v 9) (.rng1 (.int 3)) .none e_law_one_right_1))) (.cons (.iff (.boo false (.cons (.not (.call 23 (.cons (.call 8 (.cons (.bin .add (.var 6) (.var 8)) .nil)) (.cons (.var 5) .nil)))) (.cons (.not (.call 23 (.cons (.call 8 (.cons (.bi .tuple (.cons (.var 8) .nil)) .nil)) (.cons (.call 28 (.cons (.var 8) .nil)) .nil)))) .nil))) (.cons (.ret (.bl false)) .nil) .nil) (.cons (.expr (.meth .reverse (.var 6) .nil)) (.cons (.iff (.boo false (.cons (.not (.call 23 (.cons (.call 8 (.cons (.var 6) .nil)) (.cons (.var 5) .nil)))) (.cons (.not (.call 23 (.cons (.call 11 (.cons (.bi .list (.cons (.var 5) .nil)) .nil)) (.cons (.bi .len (.cons (.var 4) .nil)) .nil)))) .nil))) (.cons (.ret (.bl false)) .nil) .nil) (.cons (.forr (.v 7) (.rng2 (.bin .sub (.ix (.var 0) (.int 0)) (.int 3)) (.bin .add (.ix (.var 0) (.int 1)) (.int 4))) b_law_one_right_2 [7]) (.cons (.asg (.v 10) (.lst (.cons (.int 0) .nil))) (.cons (.forr (.v 11) (.rng2 (.int 1) (.int 5)) b_law_one_right_1 [10, 11]) (.cons (.asg (.v 11) (.bin .add (.bin .pow (.int 10) (.int 20)) (.call 21 (.cons (.var 3) (.cons (.int 30) .nil))))) (.cons (.ret (.call 23 (.cons (.call 19 (.cons (.var 5) (.cons (.var 11) .nil))) (.cons (.tup (.cons (.bin .mul (.var 11) (.ix (.var 5) (.int 0))) (.cons (.bin .mul (.var 11) (.ix (.var 5) (.int 1))) (.cons (.ix (.var 5) (.int 2)) .nil)))) .nil)))) .nil))))))))))))
def c_law_one_right : Fn := ⟨4, 12, d0_law_one_right⟩
def d_law_one_right : DefS := ⟨"_law_one_right", top 40, ["fence", "by", "more", "draws", "numbers", "far", "handed", "number", "some", "turn", "sums", "k"], c_law_one_right⟩
/- _law_long_right: 0 draws, 1 far, 2 by, 3 steps, 4 counts, 5 turn, 6 middle, 7 one, 8 two, 9 both, 10 below, 11 above, 12 due, 13 moved, 14 shared, 15 lower, 16 upper -/
def e_law_long_right_1 : E := (.bin .mul (.bin .add (.int 1) (.call 21 (.cons (.var 0) (.cons (.int 30) .nil)))) (.ix (.lst (.cons (.int 1) (.cons (.var 1) (.cons (.int 1) (.cons (.int 10) .nil))))) (.call 21 (.cons (.var 0) (.cons (.int 4) .nil)))))
def d0_law_long_right : B := (.cons (.asg (.v 2) (.ix (.lst (.cons (.int 2) (.cons (.int 3) (.cons (.int 6) (.cons (.bin .add (.bin .pow (.int 10) (.int 9)) (.int 7)) (.cons (.bin .mul (.int 7) (.bin .pow (.int 10) (.int 8))) (.cons (.int 4) .nil))))))) (.call 21 (.cons (.var 0) (.cons (.int 6) .nil))))) (.cons (.asg (.v 3) (.lst (.cons (.bin .mul (.var 2) (.bin .add (.int 2) (.call 21 (.cons (.var 0) (.cons (.int 12) .nil))))) (.cons (.bin .mul (.var 2) (.bin .add (.int 3) (.call 21 (.cons (.var 0) (.cons (.int 12) .nil))))) .nil)))) (.cons (.asg (.v 4) (.comp [("turn", 5)] (.v 5) (.rng1 (.int 4)) .none e_law_long_right_1)) (.cons (.asg (.v 6) (.bin .add (.ix (.lst (.cons (.int 0) (.cons (.bin .pow (.int 10) (.int 30)) (.cons (.bin .sub (.neg (.bin .pow (.int 10) (.int 25))) (.int 1)) .nil)))) (.call 21 (.cons (.var 0) (.cons (.int 3) .nil)))) (.call 21 (.cons (.var 0) (.cons (.int 30) .nil))))) (.cons (.asg (.v 7) (.tup (.cons (.bin .sub (.var 6) (.bin .mul (.ix (.var 4) (.int 0)) (.ix (.var 3) (.int 0)))) (.cons (.bin .add (.var 6) (.bin .mul (.ix (.var 4) (.int 1)) (.ix (.var 3) (.int 0)))) (.cons (.ix (.var 3) (.int 0)) .nil))))) (.cons (.asg (.v 8) (.tup (.cons (.bin .sub (.var 6) (.bin .mul (.ix (.var 4) (.int 2)) (.ix (.var 3) (.int 1)))) (.cons (.bin .add (.var 6) (.bin .mul (.ix (.var 4) (.int 3)) (.ix (.var 3) (.int 1)))) (.cons (.ix (.var 3) (.int 1)) .nil))))) (.cons (.asg (.v 9) (.bin .mul (.bin .div (.ix (.var 3) (.int 0)) (.call 22 (.cons (.ix (.var 3) (.int 0)) (.cons (.ix (.var 3) (.int 1)) .nil)))) (.ix (.var 3) (.int 1)))) (.cons (.asg (.v 10) (.bin .div (.bi .min2 (.cons (.bin .mul (.ix (.var 4) (.int 0)) (.ix (.var 3) (.int 0))) (.cons (.bin .mul (.ix (.var 4) (.int 2)) (.ix (.var 3) (.int 1))) .nil))) (.var 9))) (.cons (.asg (.v 11) (.bin .div (.bi .min2 (.cons (.bin .mul (.ix (.var 4) (.int 1)) (.ix (.var 3) (.int 0))) (.cons (.bin .mul (.ix (.var 4) (.int 3)) (.ix (.var 3) (.int 1))) .nil))) (.var 9))) (.cons (.asg (.v 12) (.tup (.cons (.bin .sub (.var 6) (.bin .mul (.var 10) (.var 9))) (.cons (.bin .add (.var 6) (.bin .mul (.var 11) (.var 9))) (.cons (.var 9) .nil))))) (.cons (.iff (.cmp .eq (.bin .add (.var 10) (.var 11)) (.int 0)) (.cons (.asg (.v 12) (.tup (.cons (.var 6) (.cons (.var 6) (.cons (.int 0) .nil))))) .nil) .nil) (.cons (.iff (.boo false (.cons (.not (.call 23 (.cons (.call 14 (.cons (.var 7) (.cons (.var 8) .nil))) (.cons (.var 12) .nil)))) (.cons (.not (.call 23 (.cons (.call 14 (.cons (.var 8) (.cons (.var 7) .nil))) (.cons (.var 12) .nil)))) .nil))) (.cons (.ret (.bl false)) .nil) .nil) (.cons (.asg (.v 13) (.tup (.cons (.bin .add (.ix (.var 8) (.int 0)) (.int 1)) (.cons (.bin .add (.ix (.var 8) (.int 1)) (.int 1)) (.cons (.ix (.var 8) (.int 2)) .nil))))) (.cons (.iff (.boo false (.cons (.cmp .isn (.call 14 (.cons (.var 7) (.cons (.var 13) .nil))) .non) (.cons (.cmp .isn (.call 15 (.cons (.var 13) (.cons (.var 7) .nil))) (.bl false)) .nil))) (.cons (.ret (.bl false)) .nil) .nil) (.cons (.iff (.boo false (.cons (.cmp .isn (.call 15 (.cons (.var 12) (.cons (.var 7) .nil))) (.bl true)) (.cons (.cmp .isn (.call 15 (.cons (.var 12) (.cons (.var 8) .nil))) (.bl true)) .nil))) (.cons (.ret (.bl false)) .nil) .nil) (.cons (.iff (.not (.call 23 (.cons (.call 11 (.cons (.var 7) .nil)) (.cons (.bin .add (.bin .add (.ix (.var 4) (.int 0)) (.ix (.var 4) (.int 1))) (.int 1)) .nil)))) (.cons (.ret (.bl false)) .nil) .nil) (.cons (.asg (.v 14) (.call 22 (.cons (.ix (.var 3) (.int 0)) (.cons (.ix (.var 3) (.int 1)) .nil)))) (.cons (.asg (.tp [15, 16]) (.tup (.cons (.bi .min2 (.cons (.ix (.var 7) (.int 0)) (.cons (.ix (.var 13) (.int 0)) .nil))) (.cons (.bi .max2 (.cons (.ix (.var 7) (.int 1)) (.cons (.ix (.var 13) (.int 1)) .nil))) .nil)))) (.cons (.iff (.not (.call 23 (.cons (.call 16 (.cons (.var 7) (.cons (.var 8) .nil))) (.cons (.tup (.cons (.bin .add (.ix (.var 7) (.int 0)) (.ix (.var 8) (.int 0))) (.cons (.bin .add (.ix (.var 7) (.int 1)) (.ix (.var 8) (.int 1))) (.cons (.var 14) .nil)))) .nil)))) (.cons (.ret (.bl false)) .nil) .nil) (.cons (.ret (.call 23 (.cons (.call 18 (.cons (.var 7) (.cons (.var 13) .nil))) (.cons (.tup (.cons (.var 15) (.cons (.var 16) (.cons (.call 22 (.cons (.var 14) (.cons (.bin .sub (.ix (.var 13) (.int 0)) (.ix (.var 7) (.int 0))) .nil))) .nil)))) .nil)))) .nil))))))))))))))))))))
def c_law_long_right : Fn := ⟨2, 17, d0_law_long_right⟩
def d_law_long_right : DefS := ⟨"_law_long_right", top 41, ["draws", "far", "by", "steps", "counts", "turn", "middle", "one", "two", "both", "below", "above", "due", "moved", "shared", "lower", "upper"], c_law_long_right⟩
/- _law_asked: 0 which, 1 one, 2 two -/
def d0_law_asked : B := (.cons (.iff (.cmp .eq (.var 0) (.int 0)) (.cons (.ret (.call 8 (.cons (.var 1) .nil))) .nil) .nil) (.cons (.iff (.cmp .eq (.var 0) (.int 1)) (.cons (.ret (.call 10 (.cons (.var 1) (.cons (.var 2) .nil)))) .nil) .nil) (.cons (.iff (.cmp .eq (.var 0) (.int 2)) (.cons (.ret (.call 11 (.cons (.var 1) .nil))) .nil) .nil) (.cons (.iff (.cmp .eq (.var 0) (.int 3)) (.cons (.ret (.call 19 (.cons (.var 1) (.cons (.var 2) .nil)))) .nil) .nil) (.cons (.iff (.cmp .eq (.var 0) (.int 4)) (.cons (.ret (.call 14 (.cons (.var 1) (.cons (.var 2) .nil)))) .nil) .nil) (.cons (.iff (.cmp .eq (.var 0) (.int 5)) (.cons (.ret (.call 15 (.cons (.var 1) (.cons (.var 2) .nil)))) .nil) .nil) (.cons (.iff (.cmp .eq (.var 0) (.int 6)) (.cons (.ret (.call 16 (.cons (.var 1) (.cons (.var 2) .nil)))) .nil) .nil) (.cons (.ret (.call 18 (.cons (.var 1) (.cons (.var 2) .nil)))) .nil))))))))
def c_law_asked : Fn := ⟨3, 3, d0_law_asked⟩
def d_law_asked : DefS := ⟨"_law_asked", top 42, ["which", "one", "two"], c_law_asked⟩
/- _law_refused: 0 which, 1 one, 2 two, 3 told, 4 raised -/
def d0_law_refused : B := (.cons (.asg (.v 3) .non) (.cons (.tryy (.cons (.expr (.call 34 (.cons (.var 0) (.cons (.var 1) (.cons (.var 2) .nil))))) .nil) (.cons 2 (some 4) (.cons (.asg (.v 3) (.tup (.cons (.str "BadRow") (.cons .xfld (.cons (.xis [0] false) .nil))))) .nil) (.cons 1 (some 4) (.cons (.asg (.v 3) (.tup (.cons (.str "BadNumber") (.cons .xfld (.cons (.xis [0] false) .nil))))) .nil) (.cons 0 none (.cons (.asg (.v 3) (.tup (.cons (.str "other") (.cons (.int 0) (.cons (.bl true) .nil))))) .nil) .nil)))) (.cons (.ret (.var 3)) .nil)))
def c_law_refused : Fn := ⟨3, 5, d0_law_refused⟩
def d_law_refused : DefS := ⟨"_law_refused", top 43, ["which", "one", "two", "told", "raised"], c_law_refused⟩
/- _law_refusals: 0 wrong, 1 fence, 2 at, 3 which, 4 values, 5 number, 6 told -/
def b_law_refusals_1 : B := (.cons (.iff (.cmp .ne (.call 35 (.cons (.var 3) (.cons (.tup (.cons (.int 0) (.cons (.int 4) (.cons (.int 2) .nil)))) (.cons (.var 5) .nil)))) (.tup (.cons (.str "BadNumber") (.cons (.var 2) (.cons (.bl true) .nil))))) (.cons (.ret (.bl false)) .nil) .nil) .nil)
def b_law_refusals_2 : B := (.cons (.forr (.tp [5, 2]) (.seq (.lst (.cons (.tup (.cons (.str "a") (.cons (.str "a") .nil))) (.cons (.tup (.cons .non (.cons .non .nil))) (.cons (.tup (.cons (.lst (.cons (.int 1) .nil)) (.cons (.tup (.cons (.int 1) .nil)) .nil))) (.cons (.tup (.cons (.tup .nil) (.cons (.tup .nil) .nil))) .nil)))))) b_law_refusals_1 [2, 5]) (.cons (.asg (.v 6) (.call 35 (.cons (.var 3) (.cons (.tup (.cons (.int 0) (.cons (.int 4) (.cons (.int 2) .nil)))) (.cons (.bl true) .nil))))) (.cons (.iff (.boo false (.cons (.cmp .ne (.var 6) (.tup (.cons (.str "BadNumber") (.cons (.bl true) (.cons (.bl true) .nil))))) (.cons (.cmp .isn (.ix (.var 6) (.int 1)) (.bl true)) .nil))) (.cons (.ret (.bl false)) .nil) .nil) .nil)))
def b_law_refusals_3 : B := (.cons (.iff (.cmp .ne (.call 35 (.cons (.int 0) (.cons (.var 4) (.cons (.int 0) .nil)))) (.tup (.cons (.str "BadRow") (.cons (.var 2) (.cons (.bl true) .nil))))) (.cons (.ret (.bl false)) .nil) .nil) .nil)
def b_law_refusals_4 : B := (.cons (.iff (.cmp .ne (.call 35 (.cons (.var 3) (.cons (.tup (.cons (.int 0) (.cons (.int 4) (.cons (.int 2) .nil)))) (.cons (.var 1) .nil)))) (.tup (.cons (.str "BadRow") (.cons (.tup (.cons (.neg (.int 2)) (.cons (.var 2) .nil))) (.cons (.bl true) .nil))))) (.cons (.ret (.bl false)) .nil) .nil) .nil)
def b_law_refusals_5 : B := (.cons (.iff (.cmp .ne (.call 35 (.cons (.var 3) (.cons (.var 1) (.cons (.str "zzz") .nil)))) (.tup (.cons (.str "BadRow") (.cons (.var 2) (.cons (.bl true) .nil))))) (.cons (.ret (.bl false)) .nil) .nil) .nil)
def b_law_refusals_6 : B := (.cons (.forr (.v 3) (.rng2 (.int 1) (.int 8)) b_law_refusals_5 [3]) (.cons (.forr (.v 3) (.rng2 (.int 4) (.int 8)) b_law_refusals_4 [3]) .nil))
def d0_law_refusals : B := (.cons (.asg (.v 0) (.lst (.cons (.tup (.cons (.int 5) (.cons (.neg (.int 1)) .nil))) (.cons (.tup (.cons (.str "abc") (.cons (.neg (.int 1)) .nil))) (.cons (.tup (.cons (.tup (.cons (.int 1) (.cons (.int 2) .nil))) (.cons (.neg (.int 1)) .nil))) (.cons (.tup (.cons (.tup (.cons (.int 1) (.cons (.int 2) (.cons (.int 1) (.cons (.int 1) .nil))))) (.cons (.neg (.int 1)) .nil))) (.cons (.tup (.cons (.tup (.cons .non (.cons (.int 2) (.cons (.int 1) .nil)))) (.cons (.int 0) .nil))) (.cons (.tup (.cons (.tup (.cons (.bl true) (.cons (.int 2) (.cons (.int 1) .nil)))) (.cons (.int 0) .nil))) (.cons (.tup (.cons (.tup (.cons (.str "a") (.cons (.str "b") (.cons (.int 1) .nil)))) (.cons (.int 0) .nil))) .nil))))))))) (.cons (.asg (.v 0) (.bin .add (.var 0) (.lst (.cons (.tup (.cons (.tup (.cons (.int 3) (.cons (.int 2) (.cons (.int 1) .nil)))) (.cons (.int 1) .nil))) (.cons (.tup (.cons (.tup (.cons (.int 0) (.cons (.str "a") (.cons (.int 1) .nil)))) (.cons (.int 1) .nil))) (.cons (.tup (.cons (.tup (.cons (.int 0) (.cons (.bl true) (.cons (.int 1) .nil)))) (.cons (.int 1) .nil))) (.cons (.tup (.cons (.tup (.cons (.int 0) (.cons (.int 4) (.cons (.int 3) .nil)))) (.cons (.int 2) .nil))) (.cons (.tup (.cons (.tup (.cons (.int 0) (.cons (.int 4) (.cons (.int 0) .nil)))) (.cons (.int 2) .nil))) (.cons (.tup (.cons (.tup (.cons (.int 0) (.cons (.int 0) (.cons (.int 1) .nil)))) (.cons (.int 2) .nil))) .nil))))))))) (.cons (.asg (.v 0) (.bin .add (.var 0) (.lst (.cons (.tup (.cons (.tup (.cons (.int 0) (.cons (.int 4) (.cons (.neg (.int 2)) .nil)))) (.cons (.int 2) .nil))) (.cons (.tup (.cons (.tup (.cons (.int 0) (.cons (.int 4) (.cons (.str "a") .nil)))) (.cons (.int 2) .nil))) (.cons (.tup (.cons (.tup (.cons (.int 0) (.cons (.int 1) (.cons (.bl true) .nil)))) (.cons (.int 2) .nil))) (.cons (.tup (.cons (.tup (.cons (.int 0) (.cons (.int 4) (.cons (.int 8) .nil)))) (.cons (.int 2) .nil))) .nil))))))) (.cons (.forr (.tp [1, 2]) (.seq (.var 0)) b_law_refusals_6 [1, 2, 3]) (.cons (.forr (.tp [4, 2]) (.seq (.lst (.cons (.tup (.cons (.int 5) (.cons (.neg (.int 1)) .nil))) (.cons (.tup (.cons (.tup .nil) (.cons (.neg (.int 1)) .nil))) (.cons (.tup (.cons (.str "12") (.cons (.neg (.int 1)) .nil))) (.cons (.tup (.cons (.tup (.cons (.int 1) (.cons (.str "a") (.cons .non .nil)))) (.cons (.int 1) .nil))) (.cons (.tup (.cons (.tup (.cons (.bl true) (.cons (.int 1) .nil))) (.cons (.int 0) .nil))) (.cons (.tup (.cons (.tup (.cons (.int 1) (.cons (.int 2) (.cons (.tup (.cons (.int 3) .nil)) .nil)))) (.cons (.int 2) .nil))) .nil)))))))) b_law_refusals_3 [2, 4]) (.cons (.forr (.v 3) (.seq (.lst (.cons (.int 1) (.cons (.int 3) .nil)))) b_law_refusals_2 [2, 3, 5, 6]) (.cons (.ret (.boo true (.cons (.cmp .eq (.call 35 (.cons (.int 3) (.cons (.tup (.cons (.int 0) (.cons (.int 4) (.cons (.int 2) .nil)))) (.cons (.int 0) .nil)))) (.tup (.cons (.str "BadNumber") (.cons (.int 0) (.cons (.bl true) .nil))))) (.cons (.cmp .eq (.call 35 (.cons (.int 3) (.cons (.tup (.cons (.int 0) (.cons (.int 0) (.cons (.int 0) .nil)))) (.cons (.neg (.int 1)) .nil)))) (.tup (.cons (.str "BadNumber") (.cons (.neg (.int 1)) (.cons (.bl true) .nil))))) .nil)))) .nil)))))))
def c_law_refusals : Fn := ⟨0, 7, d0_law_refusals⟩
def d_law_refusals : DefS := ⟨"_law_refusals", top 44, ["wrong", "fence", "at", "which", "values", "number", "told"], c_law_refusals⟩
/- law: 0 script, 1 draws, 2 fence, 3 other, 4 by, 5 more, 6 far, 7 near, 8 one, 9 two -/
def b_law_1 : B := (.cons (.iff (.not (.call 31 (.cons (.var 8) (.cons (.var 9) (.cons (.var 4) (.cons (.var 5) .nil)))))) (.cons (.ret (.bl false)) .nil) .nil) .nil)
def d0_law : B := (.cons (.asg (.v 1) (.call 20 (.cons (.var 0) .nil))) (.cons (.asg (.tp [2, 3]) (.tup (.cons (.call 26 (.cons (.var 1) .nil)) (.cons (.call 26 (.cons (.var 1) .nil)) .nil)))) (.cons (.asg (.v 4) (.ix (.lst (.cons (.int 1) (.cons (.bin .pow (.int 10) (.int 30)) (.cons (.int 1) (.cons (.bin .add (.bin .pow (.int 10) (.int 18)) (.int 9)) .nil))))) (.call 21 (.cons (.var 1) (.cons (.int 4) .nil))))) (.cons (.asg (.v 5) (.ix (.lst (.cons (.int 0) (.cons (.bin .add (.bin .pow (.int 10) (.int 35)) (.int 7)) (.cons (.neg (.bin .pow (.int 10) (.int 20))) .nil)))) (.call 21 (.cons (.var 1) (.cons (.int 3) .nil))))) (.cons (.asg (.v 6) (.bin .add (.bin .pow (.int 10) (.int 12)) (.call 21 (.cons (.var 1) (.cons (.int 30) .nil))))) (.cons (.asg (.v 7) (.tup (.cons (.bin .add (.ix (.var 2) (.int 0)) (.ix (.var 2) (.int 2))) (.cons (.ix (.var 2) (.int 1)) (.cons (.ix (.var 2) (.int 2)) .nil))))) (.cons (.iff (.cmp .le (.bin .sub (.ix (.var 2) (.int 1)) (.ix (.var 2) (.int 0))) (.ix (.var 2) (.int 2))) (.cons (.asg (.v 7) (.tup (.cons (.ix (.var 2) (.int 1)) (.cons (.ix (.var 2) (.int 1)) (.cons (.int 0) .nil))))) .nil) .nil) (.cons (.forr (.tp [8, 9]) (.seq (.lst (.cons (.tup (.cons (.var 2) (.cons (.var 3) .nil))) (.cons (.tup (.cons (.var 3) (.cons (.var 2) .nil))) (.cons (.tup (.cons (.var 2) (.cons (.var 2) .nil))) (.cons (.tup (.cons (.var 7) (.cons (.var 2) .nil))) (.cons (.tup (.cons (.var 2) (.cons (.var 7) .nil))) .nil))))))) b_law_1 [8, 9]) (.cons (.iff (.boo false (.cons (.not (.call 32 (.cons (.var 2) (.cons (.var 4) (.cons (.var 5) (.cons (.var 1) .nil)))))) (.cons (.not (.call 32 (.cons (.var 3) (.cons (.int 1) (.cons (.int 0) (.cons (.var 1) .nil)))))) .nil))) (.cons (.ret (.bl false)) .nil) .nil) (.cons (.ret (.boo true (.cons (.call 33 (.cons (.var 1) (.cons (.var 6) .nil))) (.cons (.call 36 .nil) .nil)))) .nil))))))))))
def c_law : Fn := ⟨1, 10, d0_law⟩
def d_law : DefS := ⟨"law", top 45, ["script", "draws", "fence", "other", "by", "more", "far", "near", "one", "two"], c_law⟩
def e_VariesError : ErrS := ⟨"VariesError", "", .Pass ⟨0, 0, 0, 0⟩, "", ""⟩
def e_BadNumber : ErrS := ⟨"BadNumber", "at", inTop 3 0, "self", "at"⟩
def e_BadRow : ErrS := ⟨"BadRow", "at", inTop 4 0, "self", "at"⟩
def pg : PgS := ⟨[d_is_int, d_plain_form, d_check_number, d_wrong_fence_part, d_check_fence, d_check_other_fence, d_check_integers, d_fence_of_plain, d_fence_of, d_holds_number, d_has_number, d_fence_size, d_turned_by, d_common_numbers, d_fences_met, d_is_fence_within, d_fence_behind, d_either_fence, d_fence_either, d_fence_times, d_law_draws, d_law_take, d_law_gcd, d_law_is, d_law_is_number, d_law_yes, d_law_fence, d_law_numbers, d_law_least, d_law_sums, d_law_far, d_law_pair_right, d_law_one_right, d_law_long_right, d_law_asked, d_law_refused, d_law_refusals, d_law], [e_VariesError, e_BadNumber, e_BadRow], [.gcd, .lcm], []⟩
theorem o_is_int : DefOk pg.sig d_is_int := ⟨⟨rfl, rfl, rfl, by decide +kernel, by decide +kernel, by decide +kernel, by decide +kernel⟩, fun _ _ _ _ _ _ us hl => (match us, hl with | [_], _ => rfl), by decide +kernel, by decide +kernel, by decide +kernel⟩
theorem o_plain_form : DefOk pg.sig d_plain_form := ⟨⟨rfl, rfl, rfl, by decide +kernel, by decide +kernel, by decide +kernel, by decide +kernel⟩, fun _ _ _ _ _ _ us hl => (match us, hl with | [_], _ => rfl), by decide +kernel, by decide +kernel, by decide +kernel⟩
theorem o_check_number : DefOk pg.sig d_check_number := ⟨⟨rfl, rfl, rfl, by decide +kernel, by decide +kernel, by decide +kernel, by decide +kernel⟩, fun _ _ _ _ _ _ us hl => (match us, hl with | [_, _], _ => rfl), by decide +kernel, by decide +kernel, by decide +kernel⟩
theorem o_wrong_fence_part : DefOk pg.sig d_wrong_fence_part := ⟨⟨rfl, rfl, rfl, by decide +kernel, by decide +kernel, by decide +kernel, by decide +kernel⟩, fun _ _ _ _ _ _ us hl => (match us, hl with | [_], _ => rfl), by decide +kernel, by decide +kernel, by decide +kernel⟩
theorem o_check_fence : DefOk pg.sig d_check_fence := ⟨⟨rfl, rfl, rfl, by decide +kernel, by decide +kernel, by decide +kernel, by decide +kernel⟩, fun _ _ _ _ _ _ us hl => (match us, hl with | [_], _ => rfl), by decide +kernel, by decide +kernel, by decide +kernel⟩
theorem o_check_other_fence : DefOk pg.sig d_check_other_fence := ⟨⟨rfl, rfl, rfl, by decide +kernel, by decide +kernel, by decide +kernel, by decide +kernel⟩, fun _ _ _ _ _ _ us hl => (match us, hl with | [_], _ => rfl), by decide +kernel, by decide +kernel, by decide +kernel⟩
theorem o_check_integers : DefOk pg.sig d_check_integers := ⟨⟨rfl, rfl, rfl, by decide +kernel, by decide +kernel, by decide +kernel, by decide +kernel⟩, fun _ _ _ _ _ _ us hl => (match us, hl with | [_], _ => rfl), by decide +kernel, by decide +kernel, by decide +kernel⟩
theorem o_fence_of_plain : DefOk pg.sig d_fence_of_plain := ⟨⟨rfl, rfl, rfl, by decide +kernel, by decide +kernel, by decide +kernel, by decide +kernel⟩, fun _ _ _ _ _ _ us hl => (match us, hl with | [_], _ => rfl), by decide +kernel, by decide +kernel, by decide +kernel⟩
theorem o_fence_of : DefOk pg.sig d_fence_of := ⟨⟨rfl, rfl, rfl, by decide +kernel, by decide +kernel, by decide +kernel, by decide +kernel⟩, fun _ _ _ _ _ _ us hl => (match us, hl with | [_], _ => rfl), by decide +kernel, by decide +kernel, by decide +kernel⟩
theorem o_holds_number : DefOk pg.sig d_holds_number := ⟨⟨rfl, rfl, rfl, by decide +kernel, by decide +kernel, by decide +kernel, by decide +kernel⟩, fun _ _ _ _ _ _ us hl => (match us, hl with | [_, _], _ => rfl), by decide +kernel, by decide +kernel, by decide +kernel⟩
theorem o_has_number : DefOk pg.sig d_has_number := ⟨⟨rfl, rfl, rfl, by decide +kernel, by decide +kernel, by decide +kernel, by decide +kernel⟩, fun _ _ _ _ _ _ us hl => (match us, hl with | [_, _], _ => rfl), by decide +kernel, by decide +kernel, by decide +kernel⟩
theorem o_fence_size : DefOk pg.sig d_fence_size := ⟨⟨rfl, rfl, rfl, by decide +kernel, by decide +kernel, by decide +kernel, by decide +kernel⟩, fun _ _ _ _ _ _ us hl => (match us, hl with | [_], _ => rfl), by decide +kernel, by decide +kernel, by decide +kernel⟩
theorem o_turned_by : DefOk pg.sig d_turned_by := ⟨⟨rfl, rfl, rfl, by decide +kernel, by decide +kernel, by decide +kernel, by decide +kernel⟩, fun _ _ _ _ _ _ us hl => (match us, hl with | [_, _], _ => rfl), by decide +kernel, by decide +kernel, by decide +kernel⟩
theorem o_common_numbers : DefOk pg.sig d_common_numbers := ⟨⟨rfl, rfl, rfl, by decide +kernel, by decide +kernel, by decide +kernel, by decide +kernel⟩, fun _ _ _ _ _ _ us hl => (match us, hl with | [_, _], _ => rfl), by decide +kernel, by decide +kernel, by decide +kernel⟩
theorem o_fences_met : DefOk pg.sig d_fences_met := ⟨⟨rfl, rfl, rfl, by decide +kernel, by decide +kernel, by decide +kernel, by decide +kernel⟩, fun _ _ _ _ _ _ us hl => (match us, hl with | [_, _], _ => rfl), by decide +kernel, by decide +kernel, by decide +kernel⟩
theorem o_is_fence_within : DefOk pg.sig d_is_fence_within := ⟨⟨rfl, rfl, rfl, by decide +kernel, by decide +kernel, by decide +kernel, by decide +kernel⟩, fun _ _ _ _ _ _ us hl => (match us, hl with | [_, _], _ => rfl), by decide +kernel, by decide +kernel, by decide +kernel⟩
theorem o_fence_behind : DefOk pg.sig d_fence_behind := ⟨⟨rfl, rfl, rfl, by decide +kernel, by decide +kernel, by decide +kernel, by decide +kernel⟩, fun _ _ _ _ _ _ us hl => (match us, hl with | [_, _], _ => rfl), by decide +kernel, by decide +kernel, by decide +kernel⟩
theorem o_either_fence : DefOk pg.sig d_either_fence := ⟨⟨rfl, rfl, rfl, by decide +kernel, by decide +kernel, by decide +kernel, by decide +kernel⟩, fun _ _ _ _ _ _ us hl => (match us, hl with | [_, _], _ => rfl), by decide +kernel, by decide +kernel, by decide +kernel⟩
theorem o_fence_either : DefOk pg.sig d_fence_either := ⟨⟨rfl, rfl, rfl, by decide +kernel, by decide +kernel, by decide +kernel, by decide +kernel⟩, fun _ _ _ _ _ _ us hl => (match us, hl with | [_, _], _ => rfl), by decide +kernel, by decide +kernel, by decide +kernel⟩
theorem o_fence_times : DefOk pg.sig d_fence_times := ⟨⟨rfl, rfl, rfl, by decide +kernel, by decide +kernel, by decide +kernel, by decide +kernel⟩, fun _ _ _ _ _ _ us hl => (match us, hl with | [_, _], _ => rfl), by decide +kernel, by decide +kernel, by decide +kernel⟩
theorem o_law_draws : DefOk pg.sig d_law_draws := ⟨⟨rfl, rfl, rfl, by decide +kernel, by decide +kernel, by decide +kernel, by decide +kernel⟩, fun _ _ _ _ _ _ us hl => (match us, hl with | [_], _ => rfl), by decide +kernel, by decide +kernel, by decide +kernel⟩
theorem o_law_take : DefOk pg.sig d_law_take := ⟨⟨rfl, rfl, rfl, by decide +kernel, by decide +kernel, by decide +kernel, by decide +kernel⟩, fun _ _ _ _ _ _ us hl => (match us, hl with | [_, _], _ => rfl), by decide +kernel, by decide +kernel, by decide +kernel⟩
theorem o_law_gcd : DefOk pg.sig d_law_gcd := ⟨⟨rfl, rfl, rfl, by decide +kernel, by decide +kernel, by decide +kernel, by decide +kernel⟩, fun _ _ _ _ _ _ us hl => (match us, hl with | [_, _], _ => rfl), by decide +kernel, by decide +kernel, by decide +kernel⟩
theorem o_law_is : DefOk pg.sig d_law_is := ⟨⟨rfl, rfl, rfl, by decide +kernel, by decide +kernel, by decide +kernel, by decide +kernel⟩, fun _ _ _ _ _ _ us hl => (match us, hl with | [_, _], _ => rfl), by decide +kernel, by decide +kernel, by decide +kernel⟩
theorem o_law_is_number : DefOk pg.sig d_law_is_number := ⟨⟨rfl, rfl, rfl, by decide +kernel, by decide +kernel, by decide +kernel, by decide +kernel⟩, fun _ _ _ _ _ _ us hl => (match us, hl with | [_, _], _ => rfl), by decide +kernel, by decide +kernel, by decide +kernel⟩
theorem o_law_yes : DefOk pg.sig d_law_yes := ⟨⟨rfl, rfl, rfl, by decide +kernel, by decide +kernel, by decide +kernel, by decide +kernel⟩, fun _ _ _ _ _ _ us hl => (match us, hl with | [_, _], _ => rfl), by decide +kernel, by decide +kernel, by decide +kernel⟩
theorem o_law_fence : DefOk pg.sig d_law_fence := ⟨⟨rfl, rfl, rfl, by decide +kernel, by decide +kernel, by decide +kernel, by decide +kernel⟩, fun _ _ _ _ _ _ us hl => (match us, hl with | [_], _ => rfl), by decide +kernel, by decide +kernel, by decide +kernel⟩
theorem o_law_numbers : DefOk pg.sig d_law_numbers := ⟨⟨rfl, rfl, rfl, by decide +kernel, by decide +kernel, by decide +kernel, by decide +kernel⟩, fun _ _ _ _ _ _ us hl => (match us, hl with | [_], _ => rfl), by decide +kernel, by decide +kernel, by decide +kernel⟩
theorem o_law_least : DefOk pg.sig d_law_least := ⟨⟨rfl, rfl, rfl, by decide +kernel, by decide +kernel, by decide +kernel, by decide +kernel⟩, fun _ _ _ _ _ _ us hl => (match us, hl with | [_], _ => rfl), by decide +kernel, by decide +kernel, by decide +kernel⟩
theorem o_law_sums : DefOk pg.sig d_law_sums := ⟨⟨rfl, rfl, rfl, by decide +kernel, by decide +kernel, by decide +kernel, by decide +kernel⟩, fun _ _ _ _ _ _ us hl => (match us, hl with | [_, _], _ => rfl), by decide +kernel, by decide +kernel, by decide +kernel⟩
theorem o_law_far : DefOk pg.sig d_law_far := ⟨⟨rfl, rfl, rfl, by decide +kernel, by decide +kernel, by decide +kernel, by decide +kernel⟩, fun _ _ _ _ _ _ us hl => (match us, hl with | [_, _, _], _ => rfl), by decide +kernel, by decide +kernel, by decide +kernel⟩
theorem o_law_pair_right : DefOk pg.sig d_law_pair_right := ⟨⟨rfl, rfl, rfl, by decide +kernel, by decide +kernel, by decide +kernel, by decide +kernel⟩, fun _ _ _ _ _ _ us hl => (match us, hl with | [_, _, _, _], _ => rfl), by decide +kernel, by decide +kernel, by decide +kernel⟩
theorem o_law_one_right : DefOk pg.sig d_law_one_right := ⟨⟨rfl, rfl, rfl, by decide +kernel, by decide +kernel, by decide +kernel, by decide +kernel⟩, fun _ _ _ _ _ _ us hl => (match us, hl with | [_, _, _, _], _ => rfl), by decide +kernel, by decide +kernel, by decide +kernel⟩
theorem o_law_long_right : DefOk pg.sig d_law_long_right := ⟨⟨rfl, rfl, rfl, by decide +kernel, by decide +kernel, by decide +kernel, by decide +kernel⟩, fun _ _ _ _ _ _ us hl => (match us, hl with | [_, _], _ => rfl), by decide +kernel, by decide +kernel, by decide +kernel⟩
theorem o_law_asked : DefOk pg.sig d_law_asked := ⟨⟨rfl, rfl, rfl, by decide +kernel, by decide +kernel, by decide +kernel, by decide +kernel⟩, fun _ _ _ _ _ _ us hl => (match us, hl with | [_, _, _], _ => rfl), by decide +kernel, by decide +kernel, by decide +kernel⟩
theorem o_law_refused : DefOk pg.sig d_law_refused := ⟨⟨rfl, rfl, rfl, by decide +kernel, by decide +kernel, by decide +kernel, by decide +kernel⟩, fun _ _ _ _ _ _ us hl => (match us, hl with | [_, _, _], _ => rfl), by decide +kernel, by decide +kernel, by decide +kernel⟩
theorem o_law_refusals : DefOk pg.sig d_law_refusals := ⟨⟨rfl, rfl, rfl, by decide +kernel, by decide +kernel, by decide +kernel, by decide +kernel⟩, fun _ _ _ _ _ _ us hl => (match us, hl with | [], _ => rfl), by decide +kernel, by decide +kernel, by decide +kernel⟩
theorem o_law : DefOk pg.sig d_law := ⟨⟨rfl, rfl, rfl, by decide +kernel, by decide +kernel, by decide +kernel, by decide +kernel⟩, fun _ _ _ _ _ _ us hl => (match us, hl with | [_], _ => rfl), by decide +kernel, by decide +kernel, by decide +kernel⟩
theorem oks : AllOk pg.sig pg.fns := ⟨o_is_int, o_plain_form, o_check_number, o_wrong_fence_part, o_check_fence, o_check_other_fence, o_check_integers, o_fence_of_plain, o_fence_of, o_holds_number, o_has_number, o_fence_size, o_turned_by, o_common_numbers, o_fences_met, o_is_fence_within, o_fence_behind, o_either_fence, o_fence_either, o_fence_times, o_law_draws, o_law_take, o_law_gcd, o_law_is, o_law_is_number, o_law_yes, o_law_fence, o_law_numbers, o_law_least, o_law_sums, o_law_far, o_law_pair_right, o_law_one_right, o_law_long_right, o_law_asked, o_law_refused, o_law_refusals, o_law, trivial⟩
theorem oe_BadNumber : ErrOk e_BadNumber := ⟨⟨rfl, rfl, rfl, by decide +kernel, by decide +kernel, by decide +kernel, by decide +kernel⟩, fun _ _ _ _ _ _ us hl => (match us, hl with | [_, _], _ => rfl), ⟨_, _, _, _, rfl⟩, ⟨.inl (by decide +kernel), .inl (by decide +kernel)⟩, by decide +kernel⟩
theorem oe_BadRow : ErrOk e_BadRow := ⟨⟨rfl, rfl, rfl, by decide +kernel, by decide +kernel, by decide +kernel, by decide +kernel⟩, fun _ _ _ _ _ _ us hl => (match us, hl with | [_, _], _ => rfl), ⟨_, _, _, _, rfl⟩, ⟨.inl (by decide +kernel), .inl (by decide +kernel)⟩, by decide +kernel⟩
theorem ers : AllErr pg.ers := ⟨fun h => absurd rfl h, fun _ => oe_BadNumber, fun _ => oe_BadRow, trivial⟩
def lawAt : Nat := 45
def imps : List Nat := [0]
def loose : List Str := (["VariesError", "BadNumber", "BadRow", "is_int", "plain_form", "check_number", "wrong_fence_part", "check_fence", "check_other_fence", "check_integers", "fence_of_plain", "fence_of", "holds_number", "has_number", "fence_size", "turned_by", "common_numbers", "fences_met", "is_fence_within", "fence_behind", "either_fence", "fence_either", "fence_times", "_law_draws", "_law_take", "_law_gcd", "_law_is", "_law_is_number", "_law_yes", "_law_fence"] : List Str) ++ (["_law_numbers", "_law_least", "_law_sums", "_law_far", "_law_pair_right", "_law_one_right", "_law_long_right", "_law_asked", "_law_refused", "_law_refusals"] : List Str)
def lawIx : Nat := 37
end K72

set_option Elab.async false
set_option linter.all false
set_option maxRecDepth 100000
set_option maxHeartbeats 4000000
namespace K72
open PySem PI VI
def gs : Nat → Bool := fun f => ([28, 8] : List Nat).contains f
theorem gs_0 : gs 0 = false := id rfl
theorem gs_1 : gs 1 = false := id rfl
theorem gs_2 : gs 2 = false := id rfl
theorem gs_3 : gs 3 = false := id rfl
theorem gs_4 : gs 4 = false := id rfl
theorem gs_5 : gs 5 = false := id rfl
theorem gs_6 : gs 6 = false := id rfl
theorem gs_7 : gs 7 = false := id rfl
theorem gs_8 : gs 8 = true := id rfl
theorem gs_9 : gs 9 = false := id rfl
theorem gs_10 : gs 10 = false := id rfl
theorem gs_11 : gs 11 = false := id rfl
theorem gs_12 : gs 12 = false := id rfl
theorem gs_13 : gs 13 = false := id rfl
theorem gs_14 : gs 14 = false := id rfl
theorem gs_15 : gs 15 = false := id rfl
theorem gs_16 : gs 16 = false := id rfl
theorem gs_17 : gs 17 = false := id rfl
theorem gs_18 : gs 18 = false := id rfl
theorem gs_19 : gs 19 = false := id rfl
theorem gs_20 : gs 20 = false := id rfl
theorem gs_21 : gs 21 = false := id rfl
theorem gs_22 : gs 22 = false := id rfl
theorem gs_23 : gs 23 = false := id rfl
theorem gs_24 : gs 24 = false := id rfl
theorem gs_25 : gs 25 = false := id rfl
theorem gs_26 : gs 26 = false := id rfl
theorem gs_27 : gs 27 = false := id rfl
theorem gs_28 : gs 28 = true := id rfl
theorem gs_29 : gs 29 = false := id rfl
theorem gs_30 : gs 30 = false := id rfl
theorem gs_31 : gs 31 = false := id rfl
theorem gs_32 : gs 32 = false := id rfl
theorem gs_33 : gs 33 = false := id rfl
theorem gs_34 : gs 34 = false := id rfl
theorem gs_35 : gs 35 = false := id rfl
theorem gs_36 : gs 36 = false := id rfl
theorem gs_37 : gs 37 = false := id rfl
noncomputable abbrev KV (n : Nat) : VCx := ⟨callV pg.prg gs n, none, pg.prg.sub, gs⟩
noncomputable abbrev cl (n : Nat) : Nat → List A → Q → RV A := callV pg.prg gs n
theorem u_is_int {n : Nat} {q : Q} {x0 : A} : callV pg.prg gs (n + 1) 0 [x0] q = (vevB (KV n) d0_is_int [some x0] q).out := VI.call_at c_is_int _ rfl rfl
theorem es_w_plain_form_1 : esc gs w_plain_form_1 = [1] := id rfl
theorem u_plain_form {n : Nat} {q : Q} {x0 : A} : callV pg.prg gs (n + 1) 1 [x0] q = (vevB (KV n) d0_plain_form [some x0, none, none, none, none, none, none, none, none] q).out := VI.call_at c_plain_form _ rfl rfl
theorem u_check_number {n : Nat} {q : Q} {x0 : A} {x1 : A} : callV pg.prg gs (n + 1) 2 [x0, x1] q = (vevB (KV n) d0_check_number [some x0, some x1] q).out := VI.call_at c_check_number _ rfl rfl
theorem u_wrong_fence_part {n : Nat} {q : Q} {x0 : A} : callV pg.prg gs (n + 1) 3 [x0] q = (vevB (KV n) d0_wrong_fence_part [some x0, none, none, none] q).out := VI.call_at c_wrong_fence_part _ rfl rfl
theorem u_check_fence {n : Nat} {q : Q} {x0 : A} : callV pg.prg gs (n + 1) 4 [x0] q = (vevB (KV n) d0_check_fence [some x0, none] q).out := VI.call_at c_check_fence _ rfl rfl
theorem u_check_other_fence {n : Nat} {q : Q} {x0 : A} : callV pg.prg gs (n + 1) 5 [x0] q = (vevB (KV n) d0_check_other_fence [some x0, none] q).out := VI.call_at c_check_other_fence _ rfl rfl
theorem u_check_integers {n : Nat} {q : Q} {x0 : A} : callV pg.prg gs (n + 1) 6 [x0] q = (vevB (KV n) d0_check_integers [some x0, none, none] q).out := VI.call_at c_check_integers _ rfl rfl
theorem u_fence_of_plain {n : Nat} {q : Q} {x0 : A} : callV pg.prg gs (n + 1) 7 [x0] q = (vevB (KV n) d0_fence_of_plain [some x0, none, none, none] q).out := VI.call_at c_fence_of_plain _ rfl rfl
theorem u_fence_of {n : Nat} {q : Q} {x0 : A} : callV pg.prg gs (n + 1) 8 [x0] q = (vevB (KV n) d0_fence_of [some x0] q).out := VI.call_at c_fence_of _ rfl rfl
theorem u_holds_number {n : Nat} {q : Q} {x0 : A} {x1 : A} : callV pg.prg gs (n + 1) 9 [x0, x1] q = (vevB (KV n) d0_holds_number [some x0, some x1, none, none, none] q).out := VI.call_at c_holds_number _ rfl rfl
theorem u_has_number {n : Nat} {q : Q} {x0 : A} {x1 : A} : callV pg.prg gs (n + 1) 10 [x0, x1] q = (vevB (KV n) d0_has_number [some x0, some x1, none] q).out := VI.call_at c_has_number _ rfl rfl
theorem u_fence_size {n : Nat} {q : Q} {x0 : A} : callV pg.prg gs (n + 1) 11 [x0] q = (vevB (KV n) d0_fence_size [some x0, none, none, none] q).out := VI.call_at c_fence_size _ rfl rfl
theorem es_w_turned_by_1 : esc gs w_turned_by_1 = [] := id rfl
theorem u_turned_by {n : Nat} {q : Q} {x0 : A} {x1 : A} : callV pg.prg gs (n + 1) 12 [x0, x1] q = (vevB (KV n) d0_turned_by [some x0, some x1, none, none, none, none, none] q).out := VI.call_at c_turned_by _ rfl rfl
theorem u_common_numbers {n : Nat} {q : Q} {x0 : A} {x1 : A} : callV pg.prg gs (n + 1) 13 [x0, x1] q = (vevB (KV n) d0_common_numbers [some x0, some x1, none, none, none, none, none, none, none, none, none, none] q).out := VI.call_at c_common_numbers _ rfl rfl
theorem u_fences_met {n : Nat} {q : Q} {x0 : A} {x1 : A} : callV pg.prg gs (n + 1) 14 [x0, x1] q = (vevB (KV n) d0_fences_met [some x0, some x1, none, none] q).out := VI.call_at c_fences_met _ rfl rfl
theorem u_is_fence_within {n : Nat} {q : Q} {x0 : A} {x1 : A} : callV pg.prg gs (n + 1) 15 [x0, x1] q = (vevB (KV n) d0_is_fence_within [some x0, some x1, none, none] q).out := VI.call_at c_is_fence_within _ rfl rfl
theorem u_fence_behind {n : Nat} {q : Q} {x0 : A} {x1 : A} : callV pg.prg gs (n + 1) 16 [x0, x1] q = (vevB (KV n) d0_fence_behind [some x0, some x1, none, none] q).out := VI.call_at c_fence_behind _ rfl rfl
theorem u_either_fence {n : Nat} {q : Q} {x0 : A} {x1 : A} : callV pg.prg gs (n + 1) 17 [x0, x1] q = (vevB (KV n) d0_either_fence [some x0, some x1, none] q).out := VI.call_at c_either_fence _ rfl rfl
theorem u_fence_either {n : Nat} {q : Q} {x0 : A} {x1 : A} : callV pg.prg gs (n + 1) 18 [x0, x1] q = (vevB (KV n) d0_fence_either [some x0, some x1, none] q).out := VI.call_at c_fence_either _ rfl rfl
theorem u_fence_times {n : Nat} {q : Q} {x0 : A} {x1 : A} : callV pg.prg gs (n + 1) 19 [x0, x1] q = (vevB (KV n) d0_fence_times [some x0, some x1, none, none, none] q).out := VI.call_at c_fence_times _ rfl rfl
theorem u_law_draws {n : Nat} {q : Q} {x0 : A} : callV pg.prg gs (n + 1) 20 [x0] q = (vevB (KV n) d0_law_draws [some x0, none, none, none, none] q).out := VI.call_at c_law_draws _ rfl rfl
theorem u_law_take {n : Nat} {q : Q} {x0 : A} {x1 : A} : callV pg.prg gs (n + 1) 21 [x0, x1] q = (vevB (KV n) d0_law_take [some x0, some x1] q).out := VI.call_at c_law_take _ rfl rfl
theorem u_law_gcd {n : Nat} {q : Q} {x0 : A} {x1 : A} : callV pg.prg gs (n + 1) 22 [x0, x1] q = (vevB (KV n) d0_law_gcd [some x0, some x1, none] q).out := VI.call_at c_law_gcd _ rfl rfl
theorem es_t_law_is_1 : esc gs t_law_is_1 = [] := id rfl
theorem es_e_law_is_1 : esc gs e_law_is_1 = [2] := id rfl
theorem u_law_is {n : Nat} {q : Q} {x0 : A} {x1 : A} : callV pg.prg gs (n + 1) 23 [x0, x1] q = (vevB (KV n) d0_law_is [some x0, some x1, none] q).out := VI.call_at c_law_is _ rfl rfl
theorem u_law_is_number {n : Nat} {q : Q} {x0 : A} {x1 : A} : callV pg.prg gs (n + 1) 24 [x0, x1] q = (vevB (KV n) d0_law_is_number [some x0, some x1] q).out := VI.call_at c_law_is_number _ rfl rfl
theorem u_law_yes {n : Nat} {q : Q} {x0 : A} {x1 : A} : callV pg.prg gs (n + 1) 25 [x0, x1] q = (vevB (KV n) d0_law_yes [some x0, some x1] q).out := VI.call_at c_law_yes _ rfl rfl
theorem u_law_fence {n : Nat} {q : Q} {x0 : A} : callV pg.prg gs (n + 1) 26 [x0] q = (vevB (KV n) d0_law_fence [some x0, none, none, none] q).out := VI.call_at c_law_fence _ rfl rfl
theorem u_law_numbers {n : Nat} {q : Q} {x0 : A} : callV pg.prg gs (n + 1) 27 [x0] q = (vevB (KV n) d0_law_numbers [some x0] q).out := VI.call_at c_law_numbers _ rfl rfl
theorem u_law_least {n : Nat} {q : Q} {x0 : A} : callV pg.prg gs (n + 1) 28 [x0] q = (vevB (KV n) d0_law_least [some x0, none, none] q).out := VI.call_at c_law_least _ rfl rfl
theorem es_t_law_sums_1 : esc gs t_law_sums_1 = [] := id rfl
theorem es_e_law_sums_1 : esc gs e_law_sums_1 = [] := id rfl
theorem u_law_sums {n : Nat} {q : Q} {x0 : A} {x1 : A} : callV pg.prg gs (n + 1) 29 [x0, x1] q = (vevB (KV n) d0_law_sums [some x0, some x1, none, none, none] q).out := VI.call_at c_law_sums _ rfl rfl
theorem u_law_far {n : Nat} {q : Q} {x0 : A} {x1 : A} {x2 : A} : callV pg.prg gs (n + 1) 30 [x0, x1, x2] q = (vevB (KV n) d0_law_far [some x0, some x1, some x2] q).out := VI.call_at c_law_far _ rfl rfl
theorem es_t_law_pair_right_1 : esc gs t_law_pair_right_1 = [] := id rfl
theorem es_e_law_pair_right_1 : esc gs e_law_pair_right_1 = [7] := id rfl
theorem u_law_pair_right {n : Nat} {q : Q} {x0 : A} {x1 : A} {x2 : A} {x3 : A} : callV pg.prg gs (n + 1) 31 [x0, x1, x2, x3] q = (vevB (KV n) d0_law_pair_right [some x0, some x1, some x2, some x3, none, none, none, none, none, none, none] q).out := VI.call_at c_law_pair_right _ rfl rfl
theorem es_e_law_one_right_1 : esc gs e_law_one_right_1 = [3] := id rfl
theorem es_e_law_one_right_2 : esc gs e_law_one_right_2 = [] := id rfl
theorem u_law_one_right {n : Nat} {q : Q} {x0 : A} {x1 : A} {x2 : A} {x3 : A} : callV pg.prg gs (n + 1) 32 [x0, x1, x2, x3] q = (vevB (KV n) d0_law_one_right [some x0, some x1, some x2, some x3, none, none, none, none, none, none, none, none] q).out := VI.call_at c_law_one_right _ rfl rfl
theorem es_e_law_long_right_1 : esc gs e_law_long_right_1 = [0, 1, 0] := id rfl
theorem u_law_long_right {n : Nat} {q : Q} {x0 : A} {x1 : A} : callV pg.prg gs (n + 1) 33 [x0, x1] q = (vevB (KV n) d0_law_long_right [some x0, some x1, none, none, none, none, none, none, none, none, none, none, none, none, none, none, none] q).out := VI.call_at c_law_long_right _ rfl rfl
theorem u_law_asked {n : Nat} {q : Q} {x0 : A} {x1 : A} {x2 : A} : callV pg.prg gs (n + 1) 34 [x0, x1, x2] q = (vevB (KV n) d0_law_asked [some x0, some x1, some x2] q).out := VI.call_at c_law_asked _ rfl rfl
theorem u_law_refused {n : Nat} {q : Q} {x0 : A} {x1 : A} {x2 : A} : callV pg.prg gs (n + 1) 35 [x0, x1, x2] q = (vevB (KV n) d0_law_refused [some x0, some x1, some x2, none, none] q).out := VI.call_at c_law_refused _ rfl rfl
theorem u_law_refusals {n : Nat} {q : Q} : callV pg.prg gs (n + 1) 36 [] q = (vevB (KV n) d0_law_refusals [none, none, none, none, none, none, none] q).out := VI.call_at c_law_refusals _ rfl rfl
theorem u_law {n : Nat} {q : Q} {x0 : A} : callV pg.prg gs (n + 1) 37 [x0] q = (vevB (KV n) d0_law [some x0, none, none, none, none, none, none, none, none, none] q).out := VI.call_at c_law _ rfl rfl
end K72

/-! Fences of integers. -/
namespace Fc
def ig (a b : Int) : Int := ((Nat.gcd a.natAbs b.natAbs : Nat) : Int)
theorem ig_nn (a b : Int) : 0 ≤ ig a b := Int.natCast_nonneg _
theorem dvd_ig {d a b : Int} : d ∣ ig a b ↔ d ∣ a ∧ d ∣ b := by
  unfold ig
  rw [← Int.natAbs_dvd_natAbs, Int.natAbs_natCast, Nat.dvd_gcd_iff, Int.natAbs_dvd_natAbs, Int.natAbs_dvd_natAbs]
theorem ig_l (a b : Int) : ig a b ∣ a := (dvd_ig.mp (Int.dvd_refl _)).1
theorem ig_r (a b : Int) : ig a b ∣ b := (dvd_ig.mp (Int.dvd_refl _)).2
theorem nn_ext {a b : Int} (ha : 0 ≤ a) (hb : 0 ≤ b) (h : ∀ d : Int, d ∣ a ↔ d ∣ b) : a = b :=
  Int.dvd_antisymm ha hb ((h a).mp (Int.dvd_refl a)) ((h b).mpr (Int.dvd_refl b))
theorem ig_comm (a b : Int) : ig a b = ig b a := nn_ext (ig_nn _ _) (ig_nn _ _) fun d => by rw [dvd_ig, dvd_ig, and_comm]
theorem ig_zero (a : Int) (h : 0 ≤ a) : ig a 0 = a := nn_ext (ig_nn _ _) h fun d => by rw [dvd_ig]; simp
theorem zero_ig (a : Int) (h : 0 ≤ a) : ig 0 a = a := by rw [ig_comm, ig_zero a h]
theorem ig_pos {a : Int} (b : Int) (h : a ≠ 0) : 0 < ig a b := by
  have : ig a b ≠ 0 := fun e => h (by have := ig_l a b; rw [e] at this; exact Int.zero_dvd.mp this)
  have := ig_nn a b
  omega
theorem ig_mul (a b c : Int) (h : 0 ≤ c) : ig (a * c) (b * c) = ig a b * c := by
  unfold ig
  rw [Int.natAbs_mul, Int.natAbs_mul, Nat.gcd_mul_right]
  obtain ⟨n, rfl⟩ := Int.eq_ofNat_of_zero_le h
  simp
/-- the greatest common divisor of the differences to c -/
def gg (c : Int) (l : List Int) (s : Int) : Int := l.foldl (fun s v => ig s (v - c)) s
theorem dvd_gg {d c : Int} : ∀ {l : List Int} {s : Int}, d ∣ gg c l s ↔ d ∣ s ∧ ∀ v ∈ l, d ∣ v - c
  | [], s => by simp [gg]
  | v :: l, s => by
    show d ∣ gg c l (ig s (v - c)) ↔ _
    rw [dvd_gg, dvd_ig]
    simp [and_assoc]
theorem gg_nn {c : Int} : ∀ {l : List Int} {s : Int}, 0 ≤ s → 0 ≤ gg c l s
  | [], s, h => h
  | v :: l, s, h => gg_nn (l := l) (ig_nn s (v - c))
theorem gg_scale {c by_ more : Int} (hb : 0 ≤ by_) : ∀ (l : List Int) (s : Int), gg (c * by_ + more) (l.map fun v => v * by_ + more) (s * by_) = gg c l s * by_
  | [], s => rfl
  | v :: l, s => by
    show gg (c * by_ + more) (l.map fun v => v * by_ + more) (ig (s * by_) (v * by_ + more - (c * by_ + more))) = gg c l (ig s (v - c)) * by_
    rw [show v * by_ + more - (c * by_ + more) = (v - c) * by_ by rw [Int.sub_mul]; omega, ig_mul _ _ _ hb, gg_scale hb l]
theorem gg_base {c e : Int} {l : List Int} (hc : c ∈ l) (he : e ∈ l) : gg c l 0 = gg e l 0 := by
  refine nn_ext (gg_nn (Int.le_refl 0)) (gg_nn (Int.le_refl 0)) fun d => ?_
  rw [dvd_gg, dvd_gg]
  refine ⟨fun h => ⟨h.1, fun v hv => ?_⟩, fun h => ⟨h.1, fun v hv => ?_⟩⟩
  · have := Int.dvd_sub (h.2 v hv) (h.2 e he)
    rwa [show v - c - (e - c) = v - e by omega] at this
  · have := Int.dvd_sub (h.2 v hv) (h.2 c hc)
    rwa [show v - e - (c - e) = v - c by omega] at this
/-! ### fences -/
structure Fe where
  lo : Int
  hi : Int
  st : Int
  deriving DecidableEq
def Fe.Ok (f : Fe) : Prop := (f.st = 0 ∧ f.lo = f.hi) ∨ (0 < f.st ∧ f.lo < f.hi ∧ (f.hi - f.lo) % f.st = 0)
def Fe.has (f : Fe) (v : Int) : Prop := f.lo ≤ v ∧ v ≤ f.hi ∧ f.st ∣ v - f.lo
def Fe.sc (f : Fe) (b m : Int) : Fe := ⟨f.lo * b + m, f.hi * b + m, f.st * b⟩
theorem Fe.Ok.le {f : Fe} (h : f.Ok) : f.lo ≤ f.hi := by rcases h with h | h <;> omega
theorem Fe.Ok.nn {f : Fe} (h : f.Ok) : 0 ≤ f.st := by rcases h with h | h <;> omega
theorem Fe.Ok.dv {f : Fe} (h : f.Ok) : f.st ∣ f.hi - f.lo := by
  rcases h with h | h
  · rw [h.2]; simp
  · exact Int.dvd_of_emod_eq_zero h.2.2
theorem Fe.Ok.has_lo {f : Fe} (h : f.Ok) : f.has f.lo := ⟨Int.le_refl _, h.le, by simp⟩
theorem Fe.Ok.has_hi {f : Fe} (h : f.Ok) : f.has f.hi := ⟨h.le, Int.le_refl _, h.dv⟩
theorem Fe.Ok.sc {f : Fe} {b m : Int} (h : f.Ok) (hb : 0 < b) : (f.sc b m).Ok := by
  rcases h with h | h
  · exact .inl ⟨by simp [Fe.sc, h.1], by simp [Fe.sc, h.2]⟩
  · refine .inr ⟨Int.mul_pos h.1 hb, ?_, ?_⟩
    · have := Int.mul_lt_mul_of_pos_right h.2.1 hb
      simp only [Fe.sc]; omega
    · simp only [Fe.sc]
      rw [show f.hi * b + m - (f.lo * b + m) = (f.hi - f.lo) * b by rw [Int.sub_mul]; omega]
      exact Int.emod_eq_zero_of_dvd (Int.mul_dvd_mul_right _ (Int.dvd_of_emod_eq_zero h.2.2))
theorem Fe.has_sc {f : Fe} {b m w : Int} (ok : f.Ok) (hb : 0 < b) : (f.sc b m).has w ↔ ∃ v, w = v * b + m ∧ f.has v := by
  constructor
  · rintro ⟨h1, h2, h3⟩
    simp only [Fe.sc] at h1 h2 h3
    obtain ⟨k, hk⟩ := h3
    refine ⟨f.lo + f.st * k, ?_, ?_, ?_, ?_⟩
    · rw [Int.add_mul, show f.st * k * b = f.st * b * k by rw [Int.mul_right_comm]]; omega
    · have e : (f.st * k) * b = w - (f.lo * b + m) := by rw [hk, Int.mul_right_comm]
      have : 0 ≤ (f.st * k) * b := by omega
      have := Int.nonneg_of_mul_nonneg_left this hb
      omega
    · have e : (f.st * k) * b = w - (f.lo * b + m) := by rw [hk, Int.mul_right_comm]
      have : (f.st * k) * b ≤ (f.hi - f.lo) * b := by rw [e, Int.sub_mul]; omega
      have := Int.le_of_mul_le_mul_right this hb
      omega
    · exact ⟨k, by omega⟩
  · rintro ⟨v, rfl, h1, h2, h3⟩
    have a1 := Int.mul_le_mul_of_nonneg_right h1 (Int.le_of_lt hb)
    have a2 := Int.mul_le_mul_of_nonneg_right h2 (Int.le_of_lt hb)
    refine ⟨by simp only [Fe.sc]; omega, by simp only [Fe.sc]; omega, ?_⟩
    simp only [Fe.sc]
    rw [show v * b + m - (f.lo * b + m) = (v - f.lo) * b by rw [Int.sub_mul]; omega]
    exact Int.mul_dvd_mul_right _ h3
/-- the least fence of a list -/
structure Sp (l : List Int) (f : Fe) : Prop where
  lo : f.lo ∈ l
  hi : f.hi ∈ l
  bd : ∀ v ∈ l, f.lo ≤ v ∧ v ≤ f.hi
  st : f.st = gg f.lo l 0
theorem Sp.uniq {l : List Int} {f g : Fe} (a : Sp l f) (b : Sp l g) : f = g := by
  have e1 : f.lo = g.lo := by have := (a.bd _ b.lo).1; have := (b.bd _ a.lo).1; omega
  have e2 : f.hi = g.hi := by have := (a.bd _ b.hi).2; have := (b.bd _ a.hi).2; omega
  have e3 : f.st = g.st := by rw [a.st, b.st, e1]
  cases f; cases g; simp at *; exact ⟨e1, e2, e3⟩
theorem Sp.of_mem {l m : List Int} {f : Fe} (a : Sp l f) (h : ∀ v, v ∈ l ↔ v ∈ m) : Sp m f where
  lo := (h _).mp a.lo
  hi := (h _).mp a.hi
  bd v hv := a.bd v ((h v).mpr hv)
  st := by
    rw [a.st]
    refine nn_ext (gg_nn (Int.le_refl 0)) (gg_nn (Int.le_refl 0)) fun d => ?_
    rw [dvd_gg, dvd_gg]
    exact ⟨fun x => ⟨x.1, fun v hv => x.2 v ((h v).mpr hv)⟩, fun x => ⟨x.1, fun v hv => x.2 v ((h v).mp hv)⟩⟩
theorem Sp.sc {l : List Int} {f : Fe} {b m : Int} (a : Sp l f) (hb : 0 < b) : Sp (l.map fun v => v * b + m) (f.sc b m) where
  lo := List.mem_map.mpr ⟨_, a.lo, rfl⟩
  hi := List.mem_map.mpr ⟨_, a.hi, rfl⟩
  bd v hv := by
    obtain ⟨w, hw, rfl⟩ := List.mem_map.mp hv
    have := a.bd w hw
    have a1 := Int.mul_le_mul_of_nonneg_right this.1 (Int.le_of_lt hb)
    have a2 := Int.mul_le_mul_of_nonneg_right this.2 (Int.le_of_lt hb)
    simp only [Fe.sc]; omega
  st := by
    have := gg_scale (c := f.lo) (by_ := b) (more := m) (Int.le_of_lt hb) l 0
    simp only [Fe.sc]
    rw [a.st, ← this]; simp
/-- a list of just a right fence's numbers -/
theorem Fe.Ok.sp {f : Fe} {l : List Int} (ok : f.Ok) (h : ∀ v, v ∈ l ↔ f.has v) : Sp l f where
  lo := (h _).mpr ok.has_lo
  hi := (h _).mpr ok.has_hi
  bd v hv := ⟨((h v).mp hv).1, ((h v).mp hv).2.1⟩
  st := by
    refine nn_ext ok.nn (gg_nn (Int.le_refl 0)) fun d => ?_
    rw [dvd_gg]
    refine ⟨fun x => ⟨Int.dvd_zero d, fun v hv => Int.dvd_trans x ((h v).mp hv).2.2⟩, fun x => ?_⟩
    rcases ok with o | o
    · rw [o.1]; exact Int.dvd_zero d
    · have hle : f.st ≤ f.hi - f.lo := Int.le_of_dvd (by omega) (Int.dvd_of_emod_eq_zero o.2.2)
      have := x.2 (f.lo + f.st) ((h _).mpr ⟨by omega, by omega, ⟨1, by omega⟩⟩)
      rwa [show f.lo + f.st - f.lo = f.st by omega] at this
theorem Fe.Ok.ext {f g : Fe} (a : f.Ok) (b : g.Ok) (h : ∀ v, f.has v ↔ g.has v) : f = g := by
  have e1 : f.lo = g.lo := by have := ((h _).mp a.has_lo).1; have := ((h _).mpr b.has_lo).1; omega
  have e2 : f.hi = g.hi := by have := ((h _).mp a.has_hi).2.1; have := ((h _).mpr b.has_hi).2.1; omega
  have e3 : f.st = g.st := by
    have key : ∀ (f g : Fe), f.Ok → g.Ok → (∀ v, f.has v ↔ g.has v) → f.lo = g.lo → f.hi = g.hi → f.st ∣ g.st := by
      intro f g a b h e1 e2
      rcases b with o | o
      · rw [o.1]; exact Int.dvd_zero _
      · have hle : g.st ≤ g.hi - g.lo := Int.le_of_dvd (by omega) (Int.dvd_of_emod_eq_zero o.2.2)
        have := ((h (g.lo + g.st)).mpr ⟨by omega, by omega, ⟨1, by omega⟩⟩).2.2
        rwa [show g.lo + g.st - f.lo = g.st by omega] at this
    exact Int.dvd_antisymm a.nn b.nn (key f g a b h e1 e2) (key g f b a (fun v => (h v).symm) e1.symm e2.symm)
  cases f; cases g; simp at *; exact ⟨e1, e2, e3⟩
/-- sums -/
def Fe.pl (f g : Fe) : Fe := ⟨f.lo + g.lo, f.hi + g.hi, ig f.st g.st⟩
theorem Sp.pl {l m s : List Int} {f g : Fe} (a : Sp l f) (b : Sp m g) (h : ∀ w, w ∈ s ↔ ∃ x ∈ l, ∃ y ∈ m, w = x + y) : Sp s (f.pl g) where
  lo := (h _).mpr ⟨_, a.lo, _, b.lo, rfl⟩
  hi := (h _).mpr ⟨_, a.hi, _, b.hi, rfl⟩
  bd v hv := by
    obtain ⟨x, hx, y, hy, rfl⟩ := (h v).mp hv
    have := a.bd x hx; have := b.bd y hy
    simp only [Fe.pl]; omega
  st := by
    refine nn_ext (ig_nn _ _) (gg_nn (Int.le_refl 0)) fun d => ?_
    simp only [Fe.pl]
    rw [dvd_ig, dvd_gg, a.st, b.st, dvd_gg, dvd_gg]
    constructor
    · rintro ⟨⟨_, h1⟩, _, h2⟩
      refine ⟨Int.dvd_zero d, fun v hv => ?_⟩
      obtain ⟨x, hx, y, hy, rfl⟩ := (h v).mp hv
      rw [show x + y - (f.lo + g.lo) = (x - f.lo) + (y - g.lo) by omega]
      exact Int.dvd_add (h1 x hx) (h2 y hy)
    · rintro ⟨_, h1⟩
      refine ⟨⟨Int.dvd_zero d, fun x hx => ?_⟩, Int.dvd_zero d, fun y hy => ?_⟩
      · have := h1 (x + g.lo) ((h _).mpr ⟨x, hx, _, b.lo, rfl⟩)
        rwa [show x + g.lo - (f.lo + g.lo) = x - f.lo by omega] at this
      · have := h1 (f.lo + y) ((h _).mpr ⟨_, a.lo, y, hy, rfl⟩)
        rwa [show f.lo + y - (f.lo + g.lo) = y - g.lo by omega] at this
/-- both -/
def Fe.ei (f g : Fe) : Fe := ⟨min f.lo g.lo, max f.hi g.hi, ig (ig f.st g.st) (g.lo - f.lo)⟩
theorem Sp.ei {l m : List Int} {f g : Fe} (a : Sp l f) (b : Sp m g) : Sp (l ++ m) (f.ei g) where
  lo := by
    simp only [Fe.ei]
    rw [List.mem_append]
    rcases Int.le_total f.lo g.lo with h | h
    · rw [Int.min_eq_left h]; exact .inl a.lo
    · rw [Int.min_eq_right h]; exact .inr b.lo
  hi := by
    simp only [Fe.ei]
    rw [List.mem_append]
    rcases Int.le_total f.hi g.hi with h | h
    · rw [Int.max_eq_right h]; exact .inr b.hi
    · rw [Int.max_eq_left h]; exact .inl a.hi
  bd v hv := by
    simp only [Fe.ei]
    rcases List.mem_append.mp hv with h | h
    · have := a.bd v h; omega
    · have := b.bd v h; omega
  st := by
    refine nn_ext (ig_nn _ _) (gg_nn (Int.le_refl 0)) fun d => ?_
    have hb : ∀ c, (c = f.lo ∨ c = g.lo) → (d ∣ gg c (l ++ m) 0 ↔ d ∣ ig (ig f.st g.st) (g.lo - f.lo)) := by
      intro c hc
      rw [dvd_ig, dvd_ig, dvd_gg, a.st, b.st, dvd_gg, dvd_gg]
      constructor
      · rintro ⟨_, h1⟩
        have h2 : ∀ x ∈ l ++ m, ∀ y ∈ l ++ m, d ∣ x - y := fun x hx y hy => by
          have := Int.dvd_sub (h1 x hx) (h1 y hy)
          rwa [show x - c - (y - c) = x - y by omega] at this
        have fl : f.lo ∈ l ++ m := List.mem_append.mpr (.inl a.lo)
        have gl : g.lo ∈ l ++ m := List.mem_append.mpr (.inr b.lo)
        exact ⟨⟨⟨Int.dvd_zero d, fun v hv => h2 v (List.mem_append.mpr (.inl hv)) _ fl⟩, Int.dvd_zero d, fun v hv => h2 v (List.mem_append.mpr (.inr hv)) _ gl⟩, h2 _ gl _ fl⟩
      · rintro ⟨⟨⟨_, h1⟩, _, h2⟩, h3⟩
        refine ⟨Int.dvd_zero d, fun v hv => ?_⟩
        rcases hc with rfl | rfl <;> rcases List.mem_append.mp hv with h | h
        · exact h1 v h
        · rw [show v - f.lo = (v - g.lo) + (g.lo - f.lo) by omega]
          exact Int.dvd_add (h2 v h) h3
        · rw [show v - g.lo = (v - f.lo) - (g.lo - f.lo) by omega]
          exact Int.dvd_sub (h1 v h) h3
        · exact h2 v h
    simp only [Fe.ei]
    rcases Int.le_total f.lo g.lo with h | h
    · rw [Int.min_eq_left h]; exact (hb _ (.inl rfl)).symm
    · rw [Int.min_eq_right h]; exact (hb _ (.inr rfl)).symm
/-! ### common numbers -/
def il (a b : Int) : Int := ((Nat.lcm a.natAbs b.natAbs : Nat) : Int)
theorem il_dvd {a b v : Int} : il a b ∣ v ↔ a ∣ v ∧ b ∣ v := by
  unfold il
  rw [← Int.natAbs_dvd_natAbs, Int.natAbs_natCast, Nat.lcm_dvd_iff, Int.natAbs_dvd_natAbs, Int.natAbs_dvd_natAbs]
theorem il_pos {a b : Int} (ha : 0 < a) (hb : 0 < b) : 0 < il a b := by
  unfold il
  have := Nat.lcm_pos (m := a.natAbs) (n := b.natAbs) (by omega) (by omega)
  omega
/-- where a progression begins behind a bound -/
def up (x w low : Int) : Int := x + (low - x + w - 1) / w * w
def dn (x w high : Int) : Int := x + (high - x) / w * w
theorem up_spec {x w low : Int} (hw : 0 < w) : w ∣ up x w low - x ∧ low ≤ up x w low ∧ up x w low < low + w := by
  unfold up
  have h1 := Int.emod_nonneg (low - x + w - 1) (show w ≠ 0 by omega)
  have h2 := Int.emod_lt_of_pos (low - x + w - 1) hw
  have h3 := Int.emod_add_mul_ediv (low - x + w - 1) w
  have h4 : w * ((low - x + w - 1) / w) = (low - x + w - 1) / w * w := Int.mul_comm _ _
  refine ⟨⟨(low - x + w - 1) / w, by rw [Int.mul_comm]; omega⟩, by omega, by omega⟩
theorem dn_spec {x w high : Int} (hw : 0 < w) : w ∣ dn x w high - x ∧ dn x w high ≤ high ∧ high - w < dn x w high := by
  unfold dn
  have h1 := Int.emod_nonneg (high - x) (show w ≠ 0 by omega)
  have h2 := Int.emod_lt_of_pos (high - x) hw
  have h3 := Int.emod_add_mul_ediv (high - x) w
  have h4 : w * ((high - x) / w) = (high - x) / w * w := Int.mul_comm _ _
  refine ⟨⟨(high - x) / w, by rw [Int.mul_comm]; omega⟩, by omega, by omega⟩
def x0 (f g : Fe) (t : Int) : Int := f.lo + f.st * ((g.lo - f.lo) / ig f.st g.st * t % (g.st / ig f.st g.st))
def cm (f g : Fe) (t : Int) : Option Fe :=
  if (g.lo - f.lo) % ig f.st g.st ≠ 0 then none else
  let w := il f.st g.st
  let a := up (x0 f g t) w (max f.lo g.lo)
  if a > min f.hi g.hi then none else
  let z := dn a w (min f.hi g.hi)
  some ⟨a, z, if a = z then 0 else w⟩
theorem mul_close {w d : Int} (h : w ∣ d) (h1 : -w < d) : 0 ≤ d := by
  rcases Int.lt_or_le d 0 with h2 | h2
  · have := Int.le_of_dvd (show 0 < -d by omega) ((Int.dvd_neg).mpr h)
    omega
  · exact h2
theorem x0_spec {f g : Fe} {t : Int} (hf : 0 < f.st) (hg : 0 < g.st) (hd : (g.lo - f.lo) % ig f.st g.st = 0) (ht : g.st / ig f.st g.st ∣ 1 - t * (f.st / ig f.st g.st)) :
    f.st ∣ x0 f g t - f.lo ∧ g.st ∣ x0 f g t - g.lo := by
  have hb := ig_pos g.st (show f.st ≠ 0 by omega)
  obtain ⟨p, hp⟩ := ig_l f.st g.st
  obtain ⟨m, hm⟩ := ig_r f.st g.st
  obtain ⟨e, he⟩ := Int.dvd_of_emod_eq_zero hd
  unfold x0
  generalize hB : ig f.st g.st = b at *
  have dp : f.st / b = p := by rw [hp, Int.mul_ediv_cancel_left _ (by omega)]
  have dm : g.st / b = m := by rw [hm, Int.mul_ediv_cancel_left _ (by omega)]
  have de : (g.lo - f.lo) / b = e := by rw [he, Int.mul_ediv_cancel_left _ (by omega)]
  rw [dp, dm] at ht
  rw [dm, de]
  refine ⟨⟨e * t % m, by omega⟩, ?_⟩
  obtain ⟨k, hk⟩ := ht
  have h3 := Int.emod_add_mul_ediv (e * t) m
  generalize e * t % m = r at *
  generalize e * t / m = j at *
  refine ⟨-(e * k) - p * j, ?_⟩
  have e1 : f.lo + f.st * r - g.lo = f.st * r - b * e := by omega
  rw [e1, hp, hm]
  have e2 : r = e * t - m * j := by omega
  rw [e2]
  have e3 : e * (t * p) = e * (1 - m * k) := by rw [show t * p = 1 - m * k by omega]
  have e4 : b * p * (e * t - m * j) - b * e = b * (e * (t * p) - e - p * (m * j)) := by
    simp only [Int.mul_sub, Int.mul_assoc, Int.mul_comm, Int.mul_left_comm]
    omega
  rw [e4, e3]
  simp only [Int.mul_sub, Int.mul_neg, Int.mul_one, Int.mul_assoc, Int.mul_comm, Int.mul_left_comm]
  omega
theorem cm_spec {f g : Fe} {t : Int} (hf : 0 < f.st) (hg : 0 < g.st) (ht : g.st / ig f.st g.st ∣ 1 - t * (f.st / ig f.st g.st)) :
    match cm f g t with
    | none => ∀ v, ¬ (f.has v ∧ g.has v)
    | some h => h.Ok ∧ ∀ v, h.has v ↔ f.has v ∧ g.has v := by
  unfold cm
  by_cases hd : (g.lo - f.lo) % ig f.st g.st = 0
  · rw [if_neg (by simpa using hd)]
    obtain ⟨a1, a2⟩ := x0_spec hf hg hd ht
    have hw := il_pos hf hg
    have key : ∀ v, (f.st ∣ v - f.lo ∧ g.st ∣ v - g.lo) ↔ il f.st g.st ∣ v - x0 f g t := by
      intro v
      rw [il_dvd]
      constructor
      · rintro ⟨h1, h2⟩
        have := Int.dvd_sub h1 a1
        have := Int.dvd_sub h2 a2
        refine ⟨?_, ?_⟩
        · rwa [show v - f.lo - (x0 f g t - f.lo) = v - x0 f g t by omega] at *
        · rwa [show v - g.lo - (x0 f g t - g.lo) = v - x0 f g t by omega] at *
      · rintro ⟨h1, h2⟩
        have := Int.dvd_add h1 a1
        have := Int.dvd_add h2 a2
        refine ⟨?_, ?_⟩
        · rwa [show v - x0 f g t + (x0 f g t - f.lo) = v - f.lo by omega] at *
        · rwa [show v - x0 f g t + (x0 f g t - g.lo) = v - g.lo by omega] at *
    have com : ∀ v, (f.has v ∧ g.has v) ↔ il f.st g.st ∣ v - x0 f g t ∧ max f.lo g.lo ≤ v ∧ v ≤ min f.hi g.hi := by
      intro v
      rw [← key]
      unfold Fe.has
      constructor
      · rintro ⟨⟨h1, h2, h3⟩, h4, h5, h6⟩; exact ⟨⟨h3, h6⟩, by omega, by omega⟩
      · rintro ⟨⟨h3, h6⟩, h1, h2⟩; exact ⟨⟨by omega, by omega, h3⟩, by omega, by omega, h6⟩
    generalize il f.st g.st = w at *
    generalize x0 f g t = x at *
    generalize max f.lo g.lo = low at *
    generalize min f.hi g.hi = high at *
    obtain ⟨u1, u2, u3⟩ := up_spec (x := x) (low := low) hw
    have first : ∀ v, w ∣ v - x → low ≤ v → up x w low ≤ v := by
      intro v h1 h2
      have := Int.dvd_sub h1 u1
      rw [show v - x - (up x w low - x) = v - up x w low by omega] at this
      have := mul_close this (by omega)
      omega
    dsimp only
    by_cases hh : up x w low > high
    · rw [if_pos hh]
      intro v hv
      obtain ⟨h1, h2, h3⟩ := (com v).mp hv
      have := first v h1 h2
      omega
    · rw [if_neg hh]
      generalize up x w low = a at *
      obtain ⟨z1, z2, z3⟩ := dn_spec (x := a) (high := high) hw
      have za : a ≤ dn a w high := by
        have := mul_close z1 (by omega)
        omega
      have last : ∀ v, w ∣ v - x → v ≤ high → v ≤ dn a w high := by
        intro v h1 h2
        have h3 := Int.dvd_sub (Int.dvd_add z1 u1) h1
        rw [show dn a w high - a + (a - x) - (v - x) = dn a w high - v by omega] at h3
        have := mul_close h3 (by omega)
        omega
      show Fe.Ok ⟨a, dn a w high, if a = dn a w high then 0 else w⟩ ∧ ∀ v, Fe.has ⟨a, dn a w high, if a = dn a w high then 0 else w⟩ v ↔ _
      generalize dn a w high = z at *
      by_cases e : a = z
      · rw [if_pos e]
        refine ⟨.inl ⟨rfl, e⟩, fun v => ?_⟩
        rw [com]
        unfold Fe.has
        constructor
        · rintro ⟨h1, h2, _⟩
          simp only at h1 h2
          have : v = a := by omega
          subst this
          exact ⟨u1, u2, by omega⟩
        · rintro ⟨h1, h2, h3⟩
          have := first v h1 h2
          have := last v h1 h3
          have : v = a := by omega
          exact ⟨by simp only; omega, by simp only; omega, by simp only; rw [this]; simp⟩
      · rw [if_neg e]
        refine ⟨.inr ⟨hw, by simp only; omega, Int.emod_eq_zero_of_dvd z1⟩, fun v => ?_⟩
        rw [com]
        unfold Fe.has
        constructor
        · rintro ⟨h1, h2, h3⟩
          simp only at h1 h2 h3
          refine ⟨?_, by omega, by omega⟩
          have := Int.dvd_add h3 u1
          rwa [show v - a + (a - x) = v - x by omega] at this
        · rintro ⟨h1, h2, h3⟩
          refine ⟨first v h1 h2, last v h1 h3, ?_⟩
          have := Int.dvd_sub h1 u1
          simp only
          rwa [show v - x - (a - x) = v - a by omega] at this
  · rw [if_pos hd]
    rintro v ⟨h1, h2⟩
    refine hd (Int.emod_eq_zero_of_dvd ?_)
    have d1 := Int.dvd_trans (ig_l f.st g.st) h1.2.2
    have d2 := Int.dvd_trans (ig_r f.st g.st) h2.2.2
    have := Int.dvd_sub d1 d2
    rwa [show v - f.lo - (v - g.lo) = g.lo - f.lo by omega] at this
end Fc

set_option Elab.async false
set_option linter.all false
set_option maxRecDepth 100000
set_option maxHeartbeats 8000000
local macro_rules | `(tactic| simp? [$xs,*]) => `(tactic| simp -implicitDefEqProofs [VI.x_var, VI.x_int, VI.x_str, VI.x_bl, VI.x_non, VI.k_bin, VI.x_bin, VI.x_neg, VI.k_not, VI.x_not_f, VI.x_not_t, VI.k_cmp2, VI.k_cmp, VI.x_cmp, VI.k_ch3t, VI.k_ch3f, VI.k_ch2, VI.k_ch1, VI.x_chain, VI.x_boo, VI.k_ifet, VI.k_ifef, VI.x_ife, VI.x_tup, VI.x_lst, VI.k_call, VI.x_call, VI.x_bi, VI.x_isin, VI.k_ix, VI.x_ix, VI.k_sl3, VI.k_sl2, VI.k_sl1, VI.x_sl, VI.x_meth, VI.k_co, VI.x_comp, VI.x_cst, VI.x_lrg1, VI.k_lr, VI.x_lrg3, VI.x_lrg2, VI.x_xfld, VI.x_xis, VI.x_ts0, VI.k_ts2, VI.k_ts1, VI.x_ts, VI.x_ps0, VI.k_ps1, VI.x_ps1, VI.k_ps, VI.x_ps, VI.x_as0, VI.k_as2, VI.k_as1, VI.x_as, VI.x_bs1, VI.k_bstt, VI.k_bsff, VI.k_bstf, VI.k_bsft, VI.x_bs, VI.x_o0, VI.x_o, VI.x_c0, VI.x_c, VI.x_seq, VI.x_rng1, VI.k_rng, VI.x_rng2, VI.x_enum, VI.x_asg, VI.x_unl, VI.x_put, VI.x_expr, VI.x_retv, VI.x_retN, VI.k_ifft, VI.k_ifff, VI.x_iff, VI.x_for, VI.k_kill, VI.x_whl, VI.x_brk, VI.x_cnt, VI.x_pass, VI.x_rais, VI.x_try, VI.x_b0, VI.x_b, VI.x_h0, VI.x_h, VI.y_unl, VI.y_unb, VI.unl_t, VI.unl_l, VI.unl_c, VI.y_asg, VI.k_put, VI.y_put, VI.y_pute, VI.y_expr, VI.y_ret, VI.k_rais, VI.y_rais, VI.k_for, VI.y_for, VI.k_m, VI.xr_int, VI.ym_int, VI.xr_str, VI.ym_str, VI.xr_bl, VI.ym_bl, VI.xr_non, VI.ym_non, VI.xr_bin, VI.ym_bin, VI.xr_neg, VI.ym_neg, VI.xr_not, VI.ym_not, VI.xr_cmp, VI.ym_cmp, VI.xr_chain, VI.ym_chain, VI.xr_boo, VI.ym_boo, VI.xr_ife, VI.ym_ife, VI.xr_tup, VI.ym_tup, VI.xr_lst, VI.ym_lst, VI.xr_call, VI.ym_call, VI.xr_bi, VI.ym_bi, VI.xr_isin, VI.ym_isin, VI.xr_ix, VI.ym_ix, VI.xr_sl, VI.ym_sl, VI.xr_comp, VI.ym_comp, VI.xr_cst, VI.ym_cst, VI.xr_lrg1, VI.ym_lrg1, VI.xr_lrg2, VI.ym_lrg2, VI.xr_lrg3, VI.ym_lrg3, VI.xr_xfld, VI.ym_xfld, VI.xr_xis, VI.ym_xis, VI.ym_var, VI.xr_meth, VI.y_mv, VI.y_bind, VI.y_nx, VI.k_cs2, VI.k_cst, VI.k_csf, VI.y_cs, VI.y_cnd, VI.k_med, VI.y_methD, VI.b_ok, VI.b_exc, VI.f_ok, VI.f_exc, VI.t_nx, VI.t_rt, VI.t_bk, VI.t_ct, VI.t_ex, VI.o_nx, VI.o_rt, VI.o_ex, VI.u_nx, VI.u_rt, VI.u_ex, VI.s_nx, VI.s_rt, VI.fin_F, VI.fin_T, VI.tst_bl, VI.tst_int, VI.tst_tup, VI.tst_lst, VI.tst_own, VI.tst_bor, VI.tst_non, VI.tst_exc, VI.asB_bl, VI.asB_exc, VI.pk_v, VI.pk_own, VI.pk_bor, VI.pk_exc, VI.pkQ_v, VI.pkQ_own, VI.pkQ_bor, VI.pkQ_exc, VI.tk_v, VI.tk_own, VI.tk_exc, VI.pkQ_dr, VI.pt_T, VI.pt_F, VI.ag_v, VI.ag_own, VI.ag_bor, VI.ag_dr, VI.ag_exc, VI.gr_F, VI.gr_v, VI.gr_exc, VI.own_v, VI.own_own, VI.own_dr, VI.own_no, VI.vo_n, VI.vo_s, VI.own_vo, VI.frz_vo, VI.rt_v, VI.rt_own, VI.ofO_s, VI.ofB_s, VI.bind_v, VI.bind_own, VI.bind_dr, VI.bind_tp, VI.frz_v, VI.frz_own, VI.frz_dr, VI.frz_no, VI.add_int, VI.sub_int, VI.cmp_eq, VI.cmp_ne, VI.cmp_in, VI.cmp_nin, VI.cmp_isN, VI.cmp_isnN, VI.cmp_isB, VI.cmp_isnB, VI.cmp_lt, VI.cmp_le, VI.cmp_gt, VI.cmp_ge, VI.eq_str, VI.bi_1, VI.bi_2, VI.len_tup, VI.len_lst, VI.len_con, VI.bi_int, VI.bi_abs, VI.bi_tup, VI.bi_tupL, VI.bi_lst, VI.bi_lstL, VI.bi_max, VI.bi_min, VI.gcd_i, VI.sl_tup, VI.sl_lst, VI.int_o, VI.neg_i, VI.sq_tup, VI.sq_lst, VI.sq_con, VI.en_tup, VI.en_lst, VI.sqv_tup, VI.sqv_lst, VI.sqv_con, VI.isin_, VI.own_R, VI.kill0, VI.kill1, VI.frz_none, VI.frz_some, VI.frzI_none, VI.frzI_some, VI.frzL0, VI.frzL1, VI.tup_ok, VI.lst_ok, VI.lkV, VI.retLk, VI.ownAt, VI.esc, VI.escp, VI.escs, VI.escps, VI.escI, VI.escF, VI.le_0, VI.le_1, VI.le_2, VI.le_3, VI.le_4, VI.le_5, VI.le_6, VI.le_7, VI.le_8, VI.le_9, VI.le_10, VI.le_11, VI.le_12, VI.le_13, VI.le_14, VI.le_15, VI.le_16, K72.gs_0, K72.gs_1, K72.gs_2, K72.gs_3, K72.gs_4, K72.gs_5, K72.gs_6, K72.gs_7, K72.gs_8, K72.gs_9, K72.gs_10, K72.gs_11, K72.gs_12, K72.gs_13, K72.gs_14, K72.gs_15, K72.gs_16, K72.gs_17, K72.gs_18, K72.gs_19, K72.gs_20, K72.gs_21, K72.gs_22, K72.gs_23, K72.gs_24, K72.gs_25, K72.gs_26, K72.gs_27, K72.gs_28, K72.gs_29, K72.gs_30, K72.gs_31, K72.gs_32, K72.gs_33, K72.gs_34, K72.gs_35, K72.gs_36, K72.gs_37, K72.es_w_plain_form_1, K72.es_w_turned_by_1, K72.es_t_law_is_1, K72.es_e_law_is_1, K72.es_t_law_sums_1, K72.es_e_law_sums_1, K72.es_t_law_pair_right_1, K72.es_e_law_pair_right_1, K72.es_e_law_one_right_1, K72.es_e_law_one_right_2, K72.es_e_law_long_right_1, $xs,*])
/-! What the defs compute. -/

namespace K72
open PI PySem VI
/-! ### draws -/
abbrev QD (ds : List Int) : Q := some (ds.map V.int)
def tkv (ds : List Int) (m : Int) : Int := match ds.getLast? with
  | none => 0
  | some x => x % m
theorem tkv_lo {ds : List Int} {m : Int} (h : 0 < m) : 0 ≤ tkv ds m := by
  unfold tkv
  split
  · omega
  · exact Int.emod_nonneg _ (by omega)
theorem tkv_hi {ds : List Int} {m : Int} (h : 0 < m) : tkv ds m < m := by
  unfold tkv
  split
  · exact h
  · exact Int.emod_lt_of_pos _ h
theorem law_take {n : Nat} {ds : List Int} {m : Int} (h : 0 < m) : callV pg.prg gs (n+1) 21 [.dr, .v (.int m)] (QD ds) = .ok (.v (.int (tkv ds m))) (QD ds.dropLast) := by
  rw [u_law_take]
  unfold tkv
  cases w : ds.getLast? with
  | none =>
    have : ds = [] := List.getLast?_eq_none_iff.mp w
    subst this
    simp? [gs, d0_law_take, eq_int]
  | some x =>
    have ne : ds ≠ [] := fun z => by rw [z] at w; cases w
    have nl : noLs (List.map V.int ds).dropLast = true := by
      rw [← List.map_dropLast]
      exact noLs_ints ds.dropLast
    simp? [gs, d0_law_take, eq_int, ne, mtV, w, nl, VI.mod_int h]
/-! the draws are made -/
def Drw (ds : List Int) (m : Nat) : Prop := ds.length ≤ m
theorem noB {a : Bool} : (!decide (a = true)) = !a := by cases a <;> rfl
theorem cell_loop {n m : Nat} {s0 s2 s4 : Option A} {q : Q} {c : Int} {ds : List Int} (hm : ds.length ≤ m) (hz : m + 24 < SL) :
    ∃ (ds' : List Int) (c' : Int) (o : Option A), loopV (.v 4) (vevB (KV n) b_law_draws_1) (rngV 0 24) [s0, some (.own (ds.map V.int)), s2, some (.v (.int c)), s4] q = .nx [s0, some (.own (ds'.map V.int)), s2, some (.v (.int c')), o] q ∧ ds'.length ≤ m + 24 := by
  have R := loop_inv (t := .v 4) (step := vevB (KV n) b_law_draws_1) (fun r => ∃ (ds' : List Int) (c' : Int) (o : Option A), r = FlV.nx [s0, some (.own (List.map V.int ds')), s2, some (.v (.int c')), o] q ∧ ds'.length ≤ m + 24)
    (fun l e q2 => q2 = q ∧ ∃ (ds' : List Int) (c' : Int) (o : Option A), e = [s0, some (.own (List.map V.int ds')), s2, some (.v (.int c')), o] ∧ ds'.length + l.length ≤ m + 24) (rngV 0 24) [s0, some (.own (ds.map V.int)), s2, some (.v (.int c)), s4] q
    ⟨rfl, ds, c, s4, rfl, by rw [rngV_length]; omega⟩ ?_
  · rcases R with ⟨e2, q2, e1, rfl, ds', c', o, rfl, h⟩ | R
    · exact ⟨ds', c', o, e1, by simpa using h⟩
    · exact R
  · rintro x r e q2 ⟨rfl, ds', c', o, rfl, h⟩
    refine ⟨[s0, some (.own (ds'.map V.int)), s2, some (.v (.int c')), some (.v x)], rfl, ?_⟩
    simp only [List.length_cons] at h
    have lt : (ds'.map V.int).length < SL := by rw [List.length_map]; omega
    have ap : mtV .append (ds'.map V.int) [.int (c' % 30)] = some (.non, (ds' ++ [c' % 30]).map V.int) := by
      rw [List.map_append]
      exact if_pos lt
    have i30 : (0 : Int) < 30 := by decide
    by_cases z : c' / 30 = 0
    · have st : vevB (KV n) b_law_draws_1 [s0, some (.own (ds'.map V.int)), s2, some (.v (.int c')), some (.v x)] q2 = .bk [s0, some (.own ((ds' ++ [c' % 30]).map V.int)), s2, some (.v (.int (c' / 30))), some (.v x)] q2 := by
        simp? [gs, b_law_draws_1, VI.mod_int i30, VI.div_small i30 (by decide : (30 : Int) ≤ 1000000), eq_int, z, esc, mtE, ap]
      rw [st]
      exact ⟨_, _, _, rfl, by simp; omega⟩
    · have st : vevB (KV n) b_law_draws_1 [s0, some (.own (ds'.map V.int)), s2, some (.v (.int c')), some (.v x)] q2 = .nx [s0, some (.own ((ds' ++ [c' % 30]).map V.int)), s2, some (.v (.int (c' / 30))), some (.v x)] q2 := by
        simp? [gs, b_law_draws_1, VI.mod_int i30, VI.div_small i30 (by decide : (30 : Int) ≤ 1000000), eq_int, z, esc, mtE, ap]
      rw [st]
      exact ⟨rfl, _, _, _, rfl, by simp; omega⟩
theorem mulOk2 (c : Int) : mulOk 2 c = true := by
  unfold mulOk
  rw [show small 2 = true from by decide]; rfl
theorem law_draws {n : Nat} {is : List Int} {q : Q} (hl : is.length ≤ 63) : ∃ ds : List Int, callV pg.prg gs (n+1) 20 [.v (.con (is.map V.int))] q = .ok (.own (ds.map V.int)) q ∧ ds.length ≤ 1512 := by
  rw [u_law_draws]
  have R := loop_inv (t := .v 2) (step := vevB (KV n) b_law_draws_2) (fun r => False)
    (fun l e q2 => q2 = q ∧ ∃ (ds : List Int) (o2 o3 o4 : Option A) (m : Nat), e = [some (.v (.con (is.map V.int))), some (.own (ds.map V.int)), o2, o3, o4] ∧ ds.length ≤ m * 24 ∧ m + l.length = is.length ∧ l = (rngV 0 (is.length : Int)).drop m)
    (rngV 0 (is.length : Int)) [some (.v (.con (is.map V.int))), some (.own []), none, none, none] q ⟨rfl, [], none, none, none, 0, rfl, by simp, by rw [rngV_length]; omega, rfl⟩ ?_
  · rcases R with ⟨e2, q2, e1, rfl, ds, o2, o3, o4, m, rfl, h, h2, _⟩ | R
    · refine ⟨ds.reverse, ?_, by simp at h2 ⊢; omega⟩
      have mn : (if (63 : Int) < (is.length : Int) then (63 : Int) else (is.length : Int)) = (is.length : Int) := if_neg (by omega)
      simp? [gs, d0_law_draws, mn, VI.rng1_ok (n := (is.length : Int)) (by omega) (by omega), e1, mtE, mtV]
    · exact R.elim
  · rintro x r e q2 ⟨rfl, ds, o2, o3, o4, m, rfl, h, h2, h3⟩
    simp only [List.length_cons] at h2
    have hx : x = .int (m : Int) := by
      have := congrArg (fun l => l[0]?) h3
      rw [rngV_nat] at this
      simpa [List.getElem?_range (show m < is.length by omega)] using this
    subst hx
    have hr : r = (rngV 0 (is.length : Int)).drop (m + 1) := by
      have := congrArg List.tail h3
      simpa using this
    obtain ⟨i, hi⟩ : ∃ i, is[m]? = some i := ⟨_, List.getElem?_eq_getElem (by omega)⟩
    have ix := VI.ix_natC (vs := is.map V.int) (k := m) (x := .int i) (by rw [List.getElem?_map, hi]; rfl)
    refine ⟨[some (.v (.con (is.map V.int))), some (.own (ds.map V.int)), some (.v (.int (m : Int))), o3, o4], rfl, ?_⟩
    obtain ⟨ds', c', o, e1, hd⟩ := cell_loop (n := n) (s0 := some (.v (.con (is.map V.int)))) (s2 := some (.v (.int (m : Int)))) (s4 := o4) (q := q2) (c := (if i < 0 then 11 - 2 * i else i) % 282429536481000000000000000000000000) (ds := ds) (m := m * 24) h (by unfold SL; omega)
    have pw : binV .pow (.int 30) (.int 24) q2 = .ok (.v (.int 282429536481000000000000000000000000)) q2 := by rfl
    have md : (0 : Int) < 282429536481000000000000000000000000 := by decide
    have st : vevB (KV n) b_law_draws_2 [some (.v (.con (is.map V.int))), some (.own (ds.map V.int)), some (.v (.int (m : Int))), o3, o4] q2 = .nx [some (.v (.con (is.map V.int))), some (.own (ds'.map V.int)), some (.v (.int (m : Int))), none, none] q2 := by
      by_cases z : i < 0
      · rw [if_pos z] at e1
        simp? [gs, b_law_draws_2, ix, VI.ixR_ok, z, VI.mul_int (mulOk2 i), pw, VI.mod_int md, VI.rng1_ok (n := 24) (by decide) (by decide), e1]
      · rw [if_neg z] at e1
        simp? [gs, b_law_draws_2, ix, VI.ixR_ok, z, pw, VI.mod_int md, VI.rng1_ok (n := 24) (by decide) (by decide), e1]
    rw [st]
    exact ⟨rfl, ds', _, _, _, m + 1, rfl, by omega, by omega, hr⟩
/-- an entry of a written list, by a drawn number -/
theorem ix_in {l : List V} {k : Int} (h0 : 0 ≤ k) (h : k < (l.length : Int)) : ∃ x ∈ l, ixV (.lst l) (.int k) = some x := by
  obtain ⟨j, rfl⟩ := Int.eq_ofNat_of_zero_le h0
  have hj : j < l.length := by omega
  exact ⟨l[j], List.getElem_mem hj, VI.ix_natL (List.getElem?_eq_getElem hj)⟩
theorem ix_take {l : List V} {ds : List Int} {m : Int} (hm : m = (l.length : Int)) (h : 0 < m) : ∃ x ∈ l, ixV (.lst l) (.int (tkv ds m)) = some x := ix_in (tkv_lo h) (by rw [← hm]; exact tkv_hi h)
end K72

namespace K72
open PI PySem VI
/-! ### forms: is_int, is_name -/
def isI : V → Bool
  | .int _ => true
  | _ => false
theorem r_is_int {n : Nat} {x : V} {q : Q} : callV pg.prg gs (n+1) 0 [.v x] q = .ok (.v (.bl (isI x))) q := by
  rw [u_is_int]
  cases x <;> simp? [gs, d0_is_int, tyV, isI]
end K72

namespace K72
open PI PySem VI Fc
/-! ### gcd -/
theorem ig_step {a b : Int} (hb : 0 < b) : ig b (a % b) = ig a b := by
  refine nn_ext (ig_nn _ _) (ig_nn _ _) fun d => ?_
  rw [dvd_ig, dvd_ig]
  have e := Int.emod_add_mul_ediv a b
  constructor
  · rintro ⟨h1, h2⟩
    refine ⟨?_, h1⟩
    rw [← e]
    exact Int.dvd_add h2 (Int.dvd_trans h1 (Int.dvd_mul_right _ _))
  · rintro ⟨h1, h2⟩
    refine ⟨h2, ?_⟩
    rw [show a % b = a - b * (a / b) by omega]
    exact Int.dvd_sub h1 (Int.dvd_trans h2 (Int.dvd_mul_right _ _))
theorem ig_abs (a b : Int) : ig (if a < 0 then -a else a) (if b < 0 then -b else b) = ig a b := by
  unfold ig
  have h : ∀ c : Int, (if c < 0 then -c else c).natAbs = c.natAbs := fun c => by split <;> omega
  rw [h, h]
def B148 : Int := 2 ^ 148
theorem halve {a b : Int} (hb : 0 < b) (h : b ≤ a) : a % b < b ∧ 2 * (b * (a % b)) < a * b := by
  have e := Int.emod_add_mul_ediv a b
  have l := Int.emod_lt_of_pos a hb
  have n := Int.emod_nonneg a (show b ≠ 0 by omega)
  refine ⟨l, ?_⟩
  have q : 1 ≤ a / b := by
    rcases Int.lt_or_le (a / b) 1 with h2 | h2
    · have : b * (a / b) ≤ 0 := Int.mul_nonpos_of_nonneg_of_nonpos (by omega) (by omega)
      omega
    · exact h2
  have : b * 1 ≤ b * (a / b) := Int.mul_le_mul_of_nonneg_left q (by omega)
  have h3 : 2 * (a % b) < a := by omega
  have := Int.mul_lt_mul_of_pos_right h3 hb
  rw [Int.mul_comm b, ← Int.mul_assoc]
  exact this
theorem r_gcd {n : Nat} {a b : Int} {q : Q} (ha : a.natAbs < 2 ^ 148) (hb : b.natAbs < 2 ^ 148) : callV pg.prg gs (n+1) 22 [.v (.int a), .v (.int b)] q = .ok (.v (.int (ig a b))) q := by
  rw [u_law_gcd]
  simp? [gs, d0_law_gcd, VI.rng1_ok (n := 300) (by decide) (by decide)]
  rw [← ig_abs a b]
  have ha : (if a < 0 then -a else a) < B148 ∧ 0 ≤ (if a < 0 then -a else a) := by unfold B148; split <;> omega
  have hb : (if b < 0 then -b else b) < B148 ∧ 0 ≤ (if b < 0 then -b else b) := by unfold B148; split <;> omega
  generalize (if a < 0 then -a else a) = a at *
  generalize (if b < 0 then -b else b) = b at *
  generalize hl : loopV _ _ _ _ _ = r
  have R := loop_resX (fun r => ∃ o, r = .nx [some (.v (.int (ig a b))), some (.v (.int 0)), o] q)
    (fun l e q2 => q2 = q ∧ ∃ (c d : Int) (o : Option A), e = [some (.v (.int c)), some (.v (.int d)), o] ∧ 0 ≤ c ∧ 0 ≤ d ∧ ig c d = ig a b ∧ ((d < c ∧ c * d < 2 ^ l.length) ∨ (l.length = 300 ∧ c < B148 ∧ d < B148))) hl
    ⟨rfl, a, b, none, rfl, ha.2, hb.2, rfl, .inr ⟨by rw [rngV_length]; rfl, ha.1, hb.1⟩⟩ ?_
  · rcases R with ⟨e2, q2, rfl, rfl, c, d, o, rfl, h1, h2, h3, h4⟩ | ⟨o, rfl⟩
    · have hd : d = 0 := by
        rcases h4 with ⟨h4, h5⟩ | ⟨h4, _⟩
        · rcases Int.lt_or_le 0 d with h6 | h6
          · have := Int.mul_le_mul_of_nonneg_right (show 1 ≤ c by omega) (show 0 ≤ d by omega)
            simp at h5
            omega
          · omega
        · simp at h4
      subst hd
      rw [ig_zero c h1] at h3
      simp? [gs, h3]
    · simp? [gs, ]
  · rintro x l e q2 ⟨rfl, c, d, o, rfl, h1, h2, h3, h4⟩
    by_cases z : d = 0
    · subst z
      rw [ig_zero c h1] at h3
      subst h3
      apply Exists.intro; apply And.intro
      · simp? [gs, lstep, b_law_gcd_1, eq_int]; rfl
      · exact ⟨_, rfl⟩
    · have hd : 0 < d := by omega
      apply Exists.intro; apply And.intro
      · simp? [gs, lstep, b_law_gcd_1, eq_int, z, VI.mod_int hd]; rfl
      ·
        refine ⟨rfl, d, c % d, _, rfl, h2, Int.emod_nonneg _ (by omega), by rw [ig_step hd]; exact h3, .inl ⟨Int.emod_lt_of_pos _ hd, ?_⟩⟩
        rcases h4 with ⟨h4, h5⟩ | ⟨h4, h5, h6⟩
        · have := (halve hd (show d ≤ c by omega)).2
          simp only [List.length_cons, Int.pow_succ] at h5
          omega
        · have hl : l.length = 299 := by simpa using h4
          rw [hl]
          have h7 := Int.emod_lt_of_pos c hd
          have h8 : d * (c % d) ≤ d * d := Int.mul_le_mul_of_nonneg_left (by omega) (by omega)
          have h9 : d * d ≤ B148 * B148 := Int.mul_le_mul (by omega) (by omega) (by omega) (by unfold B148; omega)
          have : B148 * B148 < 2 ^ 299 := by unfold B148; decide +kernel
          omega
end K72

namespace K72
open PI PySem VI Fc
/-! ### fences -/
def fv (f : Fe) : V := .tup [.int f.lo, .int f.hi, .int f.st]
def fl (f : Fe) : V := .lst [.int f.lo, .int f.hi, .int f.st]
inductive FV : V → Fe → Prop where
  | t (f : Fe) : FV (fv f) f
  | l (f : Fe) : FV (fl f) f
theorem FV.tup {x : V} {f : Fe} {q : Q} (h : FV x f) : bi1V .tuple x q = .ok (.v (fv f)) q := by cases h <;> rfl
/-- numbers that are not too great -/
def Bd (f : Fe) : Prop := f.lo.natAbs < 10 ^ 60 ∧ f.hi.natAbs < 10 ^ 60 ∧ f.st.natAbs < 10 ^ 60
theorem r_wrong {n : Nat} {x : V} {f : Fe} {q : Q} (h : FV x f) (ok : f.Ok) : callV pg.prg gs (n+2) 3 [.v x] q = .ok (.v .non) q := by
  rw [u_wrong_fence_part]
  have e1 : ∀ i : Int, callV pg.prg gs (n+1) 0 [.v (.int i)] q = .ok (.v (.bl true)) q := fun i => r_is_int
  rcases ok with ⟨o1, o2⟩ | ⟨o1, o2, o3⟩
  · have a1 : ¬ f.hi < f.lo := by omega
    cases h <;> simp? [gs, d0_wrong_fence_part, fv, fl, tyV, e1, a1, o1, eq_int, o2]
  · have a1 : ¬ f.hi < f.lo := by omega
    have a2 : ¬ f.st < 0 := by omega
    have a3 : ¬ f.st = 0 := by omega
    cases h <;> simp? [gs, d0_wrong_fence_part, fv, fl, tyV, e1, a1, a2, a3, eq_int, o2, VI.mod_int o1, o3]
theorem r_chk {n : Nat} {x : V} {f : Fe} {q : Q} (h : FV x f) (ok : f.Ok) : callV pg.prg gs (n+3) 4 [.v x] q = .ok (.v (fv f)) q := by
  rw [u_check_fence]
  simp? [gs, d0_check_fence, r_wrong h ok, isNonV, h.tup]
theorem r_chk2 {n : Nat} {x : V} {f : Fe} {q : Q} (h : FV x f) (ok : f.Ok) : callV pg.prg gs (n+3) 5 [.v x] q = .ok (.v (fv f)) q := by
  rw [u_check_other_fence]
  simp? [gs, d0_check_other_fence, r_wrong h ok, isNonV, h.tup]
/-- does it hold a number -/
def hb (f : Fe) (v : Int) : Bool := if f.st = 0 then decide (v = f.lo) else decide (f.lo ≤ v) && decide (v ≤ f.hi) && decide ((v - f.lo) % f.st = 0)
theorem hb_iff {f : Fe} {v : Int} (ok : f.Ok) : hb f v = true ↔ f.has v := by
  unfold hb Fe.has
  rcases ok with ⟨o1, o2⟩ | ⟨o1, o2, o3⟩
  · rw [if_pos o1, o1, decide_eq_true_iff, Int.zero_dvd]
    omega
  · rw [if_neg (by omega)]
    simp only [Bool.and_eq_true, decide_eq_true_eq]
    rw [Int.dvd_iff_emod_eq_zero]
    constructor
    · rintro ⟨⟨a, b⟩, c⟩; exact ⟨a, b, c⟩
    · rintro ⟨a, b, c⟩; exact ⟨⟨a, b⟩, c⟩
theorem r_holds {n : Nat} {f : Fe} {v : Int} {q : Q} (ok : f.Ok) : callV pg.prg gs (n+1) 9 [.v (fv f), .v (.int v)] q = .ok (.v (.bl (hb f v))) q := by
  rw [u_holds_number]
  unfold hb
  rcases ok with ⟨o1, o2⟩ | ⟨o1, o2, o3⟩
  · simp? [gs, d0_holds_number, fv, o1, eq_int]
  · have a3 : ¬ f.st = 0 := by omega
    by_cases b1 : f.lo ≤ v <;> by_cases b2 : v ≤ f.hi <;> simp? [gs, d0_holds_number, fv, a3, eq_int, b1, b2, VI.mod_int o1]
theorem r_has {n : Nat} {f : Fe} {v : Int} {q : Q} (ok : f.Ok) : callV pg.prg gs (n+4) 10 [.v (fv f), .v (.int v)] q = .ok (.v (.bl (hb f v))) q := by
  rw [u_has_number]
  have e1 : callV pg.prg gs (n+3) 0 [.v (.int v)] q = .ok (.v (.bl true)) q := r_is_int
  simp? [gs, d0_has_number, r_chk (.t f) ok, e1, r_holds ok]
def sizeF (f : Fe) : Int := if f.st = 0 then 1 else (f.hi - f.lo) / f.st + 1
theorem r_size {n : Nat} {x : V} {f : Fe} {q : Q} (h : FV x f) (ok : f.Ok) (bd : Bd f) : callV pg.prg gs (n+4) 11 [.v x] q = .ok (.v (.int (sizeF f))) q := by
  rw [u_fence_size]
  unfold sizeF
  have c := r_chk (n := n) (q := q) h ok
  rcases ok with ⟨o1, o2⟩ | ⟨o1, o2, o3⟩
  · rw [if_pos o1]; simp? [gs, d0_fence_size, c]; simp? [gs, fv, o1, eq_int]
  · have a3 : ¬ f.st = 0 := by omega
    rw [if_neg a3]
    have l : f.st ≤ 10 ^ 2000 := by
      have := bd.2.2
      have h2 : (10 : Int) ^ 60 ≤ 10 ^ 2000 := by decide +kernel
      omega
    simp? [gs, d0_fence_size, c]; simp? [gs, fv, a3, eq_int, VI.div_int o1 l]
theorem r_behind {n : Nat} {x y : V} {f g : Fe} {q : Q} (h : FV x f) (ok : f.Ok) (h2 : FV y g) (ok2 : g.Ok) : callV pg.prg gs (n+4) 16 [.v x, .v y] q = .ok (.v (fv (f.pl g))) q := by
  rw [u_fence_behind]
  simp? [gs, d0_fence_behind, r_chk h ok, r_chk2 h2 ok2]
  simp? [gs, fv, VI.ix_nat, VI.ixR_ok, Fe.pl, ig, ixRV, ixV, L2.atI, L2.ixN]
theorem r_either {n : Nat} {x y : V} {f g : Fe} {q : Q} (h : FV x f) (ok : f.Ok) (h2 : FV y g) (ok2 : g.Ok) : callV pg.prg gs (n+4) 18 [.v x, .v y] q = .ok (.v (fv (f.ei g))) q := by
  rw [u_fence_either]
  have e : callV pg.prg gs (n+3) 17 [.v (fv f), .v (fv g)] q = .ok (.v (fv (f.ei g))) q := by
    rw [u_either_fence]
    have m1 : (if g.lo < f.lo then g.lo else f.lo) = min f.lo g.lo := by split <;> omega
    have m2 : (if f.hi < g.hi then g.hi else f.hi) = max f.hi g.hi := by split <;> omega
    simp? [gs, d0_either_fence, fv, Fe.ei, ig, ixRV, ixV, L2.atI, L2.ixN, m1, m2]
  simp? [gs, d0_fence_either, r_chk h ok, r_chk2 h2 ok2, e]
theorem mulOk_bd {a b : Int} (ha : a.natAbs < 10 ^ 200) (hb : b.natAbs < 10 ^ 200) : mulOk a b = true := by
  unfold mulOk
  have : 10 ^ 200 < big := by unfold big; decide +kernel
  rw [decide_eq_true (show a.natAbs < big by omega), decide_eq_true (show b.natAbs < big by omega)]
  simp
theorem r_times {n : Nat} {x : V} {f : Fe} {k : Int} {q : Q} (h : FV x f) (ok : f.Ok) (bd : Bd f) (hk : 1 ≤ k) (hk2 : k < 10 ^ 100) : callV pg.prg gs (n+4) 19 [.v x, .v (.int k)] q = .ok (.v (fv ⟨k * f.lo, k * f.hi, f.st⟩)) q := by
  rw [u_fence_times]
  have e1 : callV pg.prg gs (n+3) 2 [.v (.int k), .v (.int 1)] q = .ok (.v (.int k)) q := by
    rw [u_check_number]
    have e1 : callV pg.prg gs (n+2) 0 [.v (.int k)] q = .ok (.v (.bl true)) q := r_is_int
    have a1 : ¬ k < 1 := by omega
    simp? [gs, d0_check_number, e1, a1]
  have p : (10 : Int) ^ 60 < 10 ^ 200 := by decide +kernel
  have p2 : (10 : Int) ^ 100 < 10 ^ 200 := by decide +kernel
  obtain ⟨b1, b2, b3⟩ := bd
  have m1 : mulOk k f.lo = true := mulOk_bd (by omega) (by omega)
  have m2 : mulOk k f.hi = true := mulOk_bd (by omega) (by omega)
  simp? [gs, d0_fence_times, r_chk h ok]
  simp? [gs, fv, e1, VI.mul_int m1, VI.mul_int m2]
end K72

set_option Elab.async false
set_option linter.all false
set_option maxRecDepth 100000
set_option maxHeartbeats 8000000
local macro_rules | `(tactic| simp? [$xs,*]) => `(tactic| simp -implicitDefEqProofs [VI.x_var, VI.x_int, VI.x_str, VI.x_bl, VI.x_non, VI.k_bin, VI.x_bin, VI.x_neg, VI.k_not, VI.x_not_f, VI.x_not_t, VI.k_cmp2, VI.k_cmp, VI.x_cmp, VI.k_ch3t, VI.k_ch3f, VI.k_ch2, VI.k_ch1, VI.x_chain, VI.x_boo, VI.k_ifet, VI.k_ifef, VI.x_ife, VI.x_tup, VI.x_lst, VI.k_call, VI.x_call, VI.x_bi, VI.x_isin, VI.k_ix, VI.x_ix, VI.k_sl3, VI.k_sl2, VI.k_sl1, VI.x_sl, VI.x_meth, VI.k_co, VI.x_comp, VI.x_cst, VI.x_lrg1, VI.k_lr, VI.x_lrg3, VI.x_lrg2, VI.x_xfld, VI.x_xis, VI.x_ts0, VI.k_ts2, VI.k_ts1, VI.x_ts, VI.x_ps0, VI.k_ps1, VI.x_ps1, VI.k_ps, VI.x_ps, VI.x_as0, VI.k_as2, VI.k_as1, VI.x_as, VI.x_bs1, VI.k_bstt, VI.k_bsff, VI.k_bstf, VI.k_bsft, VI.x_bs, VI.x_o0, VI.x_o, VI.x_c0, VI.x_c, VI.x_seq, VI.x_rng1, VI.k_rng, VI.x_rng2, VI.x_enum, VI.x_asg, VI.x_unl, VI.x_put, VI.x_expr, VI.x_retv, VI.x_retN, VI.k_ifft, VI.k_ifff, VI.x_iff, VI.x_for, VI.k_kill, VI.x_whl, VI.x_brk, VI.x_cnt, VI.x_pass, VI.x_rais, VI.x_try, VI.x_b0, VI.x_b, VI.x_h0, VI.x_h, VI.y_unl, VI.y_unb, VI.unl_t, VI.unl_l, VI.unl_c, VI.y_asg, VI.k_put, VI.y_put, VI.y_pute, VI.y_expr, VI.y_ret, VI.k_rais, VI.y_rais, VI.k_for, VI.y_for, VI.k_m, VI.xr_int, VI.ym_int, VI.xr_str, VI.ym_str, VI.xr_bl, VI.ym_bl, VI.xr_non, VI.ym_non, VI.xr_bin, VI.ym_bin, VI.xr_neg, VI.ym_neg, VI.xr_not, VI.ym_not, VI.xr_cmp, VI.ym_cmp, VI.xr_chain, VI.ym_chain, VI.xr_boo, VI.ym_boo, VI.xr_ife, VI.ym_ife, VI.xr_tup, VI.ym_tup, VI.xr_lst, VI.ym_lst, VI.xr_call, VI.ym_call, VI.xr_bi, VI.ym_bi, VI.xr_isin, VI.ym_isin, VI.xr_ix, VI.ym_ix, VI.xr_sl, VI.ym_sl, VI.xr_comp, VI.ym_comp, VI.xr_cst, VI.ym_cst, VI.xr_lrg1, VI.ym_lrg1, VI.xr_lrg2, VI.ym_lrg2, VI.xr_lrg3, VI.ym_lrg3, VI.xr_xfld, VI.ym_xfld, VI.xr_xis, VI.ym_xis, VI.ym_var, VI.xr_meth, VI.y_mv, VI.y_bind, VI.y_nx, VI.k_cs2, VI.k_cst, VI.k_csf, VI.y_cs, VI.y_cnd, VI.k_med, VI.y_methD, VI.b_ok, VI.b_exc, VI.f_ok, VI.f_exc, VI.t_nx, VI.t_rt, VI.t_bk, VI.t_ct, VI.t_ex, VI.o_nx, VI.o_rt, VI.o_ex, VI.u_nx, VI.u_rt, VI.u_ex, VI.s_nx, VI.s_rt, VI.fin_F, VI.fin_T, VI.tst_bl, VI.tst_int, VI.tst_tup, VI.tst_lst, VI.tst_own, VI.tst_bor, VI.tst_non, VI.tst_exc, VI.asB_bl, VI.asB_exc, VI.pk_v, VI.pk_own, VI.pk_bor, VI.pk_exc, VI.pkQ_v, VI.pkQ_own, VI.pkQ_bor, VI.pkQ_exc, VI.tk_v, VI.tk_own, VI.tk_exc, VI.pkQ_dr, VI.pt_T, VI.pt_F, VI.ag_v, VI.ag_own, VI.ag_bor, VI.ag_dr, VI.ag_exc, VI.gr_F, VI.gr_v, VI.gr_exc, VI.own_v, VI.own_own, VI.own_dr, VI.own_no, VI.vo_n, VI.vo_s, VI.own_vo, VI.frz_vo, VI.rt_v, VI.rt_own, VI.ofO_s, VI.ofB_s, VI.bind_v, VI.bind_own, VI.bind_dr, VI.bind_tp, VI.frz_v, VI.frz_own, VI.frz_dr, VI.frz_no, VI.add_int, VI.sub_int, VI.cmp_eq, VI.cmp_ne, VI.cmp_in, VI.cmp_nin, VI.cmp_isN, VI.cmp_isnN, VI.cmp_isB, VI.cmp_isnB, VI.cmp_lt, VI.cmp_le, VI.cmp_gt, VI.cmp_ge, VI.eq_str, VI.bi_1, VI.bi_2, VI.len_tup, VI.len_lst, VI.len_con, VI.bi_int, VI.bi_abs, VI.bi_tup, VI.bi_tupL, VI.bi_lst, VI.bi_lstL, VI.bi_max, VI.bi_min, VI.gcd_i, VI.sl_tup, VI.sl_lst, VI.int_o, VI.neg_i, VI.sq_tup, VI.sq_lst, VI.sq_con, VI.en_tup, VI.en_lst, VI.sqv_tup, VI.sqv_lst, VI.sqv_con, VI.isin_, VI.own_R, VI.kill0, VI.kill1, VI.frz_none, VI.frz_some, VI.frzI_none, VI.frzI_some, VI.frzL0, VI.frzL1, VI.tup_ok, VI.lst_ok, VI.lkV, VI.retLk, VI.ownAt, VI.esc, VI.escp, VI.escs, VI.escps, VI.escI, VI.escF, VI.le_0, VI.le_1, VI.le_2, VI.le_3, VI.le_4, VI.le_5, VI.le_6, VI.le_7, VI.le_8, VI.le_9, VI.le_10, VI.le_11, VI.le_12, VI.le_13, VI.le_14, VI.le_15, VI.le_16, K72.gs_0, K72.gs_1, K72.gs_2, K72.gs_3, K72.gs_4, K72.gs_5, K72.gs_6, K72.gs_7, K72.gs_8, K72.gs_9, K72.gs_10, K72.gs_11, K72.gs_12, K72.gs_13, K72.gs_14, K72.gs_15, K72.gs_16, K72.gs_17, K72.gs_18, K72.gs_19, K72.gs_20, K72.gs_21, K72.gs_22, K72.gs_23, K72.gs_24, K72.gs_25, K72.gs_26, K72.gs_27, K72.gs_28, K72.gs_29, K72.gs_30, K72.gs_31, K72.gs_32, K72.gs_33, K72.gs_34, K72.gs_35, K72.gs_36, K72.gs_37, K72.es_w_plain_form_1, K72.es_w_turned_by_1, K72.es_t_law_is_1, K72.es_e_law_is_1, K72.es_t_law_sums_1, K72.es_e_law_sums_1, K72.es_t_law_pair_right_1, K72.es_e_law_pair_right_1, K72.es_e_law_one_right_1, K72.es_e_law_one_right_2, K72.es_e_law_long_right_1, $xs,*])
/-! What the defs compute. -/

namespace K72
open PI PySem VI Fc
theorem small_of {a : Int} (h : -1000000000000 ≤ a) (h2 : a ≤ 1000000000000) : small a = true := by
  unfold small
  rw [decide_eq_true (show -(2 ^ 64) < a by omega), decide_eq_true (show a < 2 ^ 64 by omega)]; rfl
theorem mulOk_s {a b : Int} (h : -1000000000000 ≤ a) (h2 : a ≤ 1000000000000) : mulOk a b = true := by
  unfold mulOk
  rw [small_of h h2]; rfl
/-- the inverse modulo a base -/
theorem r_turned {n : Nat} {p m : Int} {q : Q} (hm : 0 < m) (hm2 : m ≤ 1000000) (co : ∀ d : Int, d ∣ m → d ∣ p → d ∣ 1) : ∃ t, callV pg.prg gs (n+1) 12 [.v (.int p), .v (.int m)] q = .ok (.v (.int t)) q ∧ 0 ≤ t ∧ t < m ∧ m ∣ 1 - t * p := by
  rw [u_turned_by]
  simp? [gs, d0_turned_by, VI.mod_int hm]
  generalize hl : whileV _ _ _ _ _ = r
  have R := while_res (fun r => ∃ (c : Int) (o1 o2 : Option A), r = .nx [some (.v (.int p)), some (.v (.int m)), some (.v (.int 1)), some (.v (.int 0)), some (.v (.int c)), o1, o2] q ∧ m ∣ 1 - c * p)
    (fun k e q2 => q2 = q ∧ ∃ (a b c d : Int) (o : Option V), e = [some (.v (.int p)), some (.v (.int m)), some (.v (.int a)), some (.v (.int b)), some (.v (.int c)), some (.v (.int d)), vo o] ∧ 0 < a ∧ a ≤ 1000000 ∧ 0 ≤ b ∧ b < a ∧ k = b.toNat ∧ m ∣ a - c * p ∧ m ∣ b - d * p ∧ ∀ x : Int, x ∣ a → x ∣ b → x ∣ 1) hl (n := (p % m).toNat)
    (by have := Int.emod_lt_of_pos p hm; omega)
    ⟨rfl, m, p % m, 0, 1, none, rfl, hm, by omega, Int.emod_nonneg _ (by omega), Int.emod_lt_of_pos p hm, rfl, by simp, ?_, ?_⟩ ?_
  · obtain ⟨c, o1, o2, rfl, hd⟩ := R
    refine ⟨c % m, ?_, Int.emod_nonneg _ (by omega), Int.emod_lt_of_pos _ hm, ?_⟩
    · simp? [gs, VI.mod_int hm]
    · obtain ⟨k, hk⟩ := hd
      have e := Int.emod_add_mul_ediv c m
      refine ⟨k + c / m * p, ?_⟩
      rw [show c % m = c - m * (c / m) by omega, Int.sub_mul, Int.mul_add, ← hk, Int.mul_assoc]
      omega
  · refine ⟨-(p / m), ?_⟩
    have e := Int.emod_add_mul_ediv p m
    rw [Int.mul_neg]; omega
  · intro x h1 h2
    refine co x h1 ?_
    rw [← Int.emod_add_mul_ediv p m]
    exact Int.dvd_add h2 (Int.dvd_trans h1 (Int.dvd_mul_right _ _))
  · rintro k e q2 ⟨rfl, a, b, c, d, o, rfl, h1, h2, h3, h4, rfl, h5, h6, h7⟩
    by_cases z : b = 0
    · subst z
      refine ⟨false, q2, ?_, ?_⟩
      · simp? [gs, cndV, w_turned_by_1, eq_int]
      · rw [if_neg (by decide)]
        have := h7 a (Int.dvd_refl a) (Int.dvd_zero a)
        have a1 : a = 1 := by have := Int.le_of_dvd (by decide) this; omega
        subst a1
        exact ⟨c, _, _, rfl, h5⟩
    · have hb : 0 < b := by omega
      refine ⟨true, q2, ?_, ?_⟩
      · simp? [gs, cndV, w_turned_by_1, eq_int, z]
      · rw [if_pos rfl]
        have t0 : 0 ≤ a / b := Int.ediv_nonneg (by omega) (by omega)
        have t1 : a / b ≤ a := Int.ediv_le_self _ (by omega)
        have m1 : mulOk (a / b) b = true := mulOk_s (by omega) (by omega)
        have m2 : mulOk (a / b) d = true := mulOk_s (by omega) (by omega)
        apply Exists.intro; apply And.intro
        · simp? [gs, b_turned_by_1, VI.div_small hb (by omega : b ≤ 1000000), VI.mul_int m1, VI.mul_int m2]; rfl
        · have e := Int.emod_add_mul_ediv a b
          have e1 : a - a / b * b = a % b := by rw [Int.mul_comm]; omega
          have l1 := Int.emod_lt_of_pos a hb
          have l0 := Int.emod_nonneg a (show b ≠ 0 by omega)
          simp only [e1]
          refine ⟨(a % b).toNat, by omega, rfl, b, a % b, d, c - a / b * d, some (.int (a / b)), rfl, hb, by omega, l0, l1, rfl, h6, ?_, ?_⟩
          · rw [← e1]
            have := Int.dvd_sub h5 (Int.dvd_trans h6 (Int.dvd_mul_left (a / b) _))
            rw [show a - a / b * b - (c - a / b * d) * p = a - c * p - a / b * (b - d * p) by
              rw [Int.sub_mul, Int.mul_sub, Int.mul_assoc]; omega]
            exact this
          · intro x x1 x2
            refine h7 x ?_ x1
            rw [← e]
            exact Int.dvd_add x2 (Int.dvd_trans x1 (Int.dvd_mul_right _ _))
/-- the value of a fence, or of none -/
def ov : Option Fe → V
  | none => .non
  | some h => fv h
theorem cop {a b : Int} (ha : 0 < a) : ∀ d : Int, d ∣ b / ig a b → d ∣ a / ig a b → d ∣ 1 := by
  intro d h1 h2
  have hg := ig_pos b (show a ≠ 0 by omega)
  obtain ⟨p, hp⟩ := ig_l a b
  obtain ⟨m, hm⟩ := ig_r a b
  generalize hG : ig a b = g at *
  rw [hm, Int.mul_ediv_cancel_left _ (by omega)] at h1
  rw [hp, Int.mul_ediv_cancel_left _ (by omega)] at h2
  have : g * d ∣ ig a b := dvd_ig.mpr ⟨by rw [hp]; exact Int.mul_dvd_mul_left g h2, by rw [hm]; exact Int.mul_dvd_mul_left g h1⟩
  rw [hG] at this
  obtain ⟨k, hk⟩ := this
  refine ⟨k, ?_⟩
  rw [Int.mul_assoc] at hk
  have h3 : g * 1 = g * (d * k) := by omega
  exact Int.eq_of_mul_eq_mul_left (by omega) h3
theorem ig_le {a b : Int} (ha : 0 < a) : ig a b ≤ a := Int.le_of_dvd ha (ig_l a b)
theorem il_le {a b : Int} (ha : 0 < a) (hb : 0 < b) : il a b ≤ a * b := Int.le_of_dvd (Int.mul_pos ha hb) (il_dvd.mpr ⟨Int.dvd_mul_right _ _, Int.dvd_mul_left _ _⟩)
theorem r_lcm {a b : Int} {q : Q} (ha : a.natAbs < 10 ^ 60) (hb : b.natAbs < 10 ^ 60) : bi2V .lcm a b q = .ok (.v (.int (il a b))) q := by
  have h : 10 ^ 60 < big9 := Nat.lt_trans (by decide +kernel) VI.big9_lt
  exact if_pos ⟨by omega, by omega⟩
theorem r_common {n : Nat} {f g : Fe} {q : Q} (ok : f.Ok) (ok2 : g.Ok) (bd : Bd f) (bd2 : Bd g) (hf : 0 < f.st) (hg : 0 < g.st) (sm : g.st / ig f.st g.st ≤ 1000000) :
    ∃ t, callV pg.prg gs (n+2) 13 [.v (fv f), .v (fv g)] q = .ok (.v (ov (cm f g t))) q ∧ g.st / ig f.st g.st ∣ 1 - t * (f.st / ig f.st g.st) := by
  have hG := ig_pos g.st (show f.st ≠ 0 by omega)
  have gl := ig_le (b := g.st) hf
  have hmm : 0 < g.st / ig f.st g.st := by
    have e := Int.ediv_mul_cancel (ig_r f.st g.st)
    rcases Int.lt_or_le 0 (g.st / ig f.st g.st) with h | h
    · exact h
    · have := Int.mul_nonpos_of_nonpos_of_nonneg h (show 0 ≤ ig f.st g.st by omega)
      omega
  obtain ⟨t, e1, t0, t1, t2⟩ := r_turned (n := n) (q := q) hmm sm (cop hf)
  refine ⟨t, ?_, t2⟩
  rw [u_common_numbers]
  obtain ⟨b1, b2, b3⟩ := bd
  obtain ⟨c1, c2, c3⟩ := bd2
  have p2000 : (10 : Int) ^ 60 * 10 ^ 60 ≤ 10 ^ 2000 := by decide +kernel
  have p60 : (10 : Int) ^ 60 ≤ 10 ^ 2000 := by decide +kernel
  have gcdE : (((Nat.gcd f.st.natAbs g.st.natAbs : Nat)) : Int) = ig f.st g.st := rfl
  have d1 : ∀ a : Int, binV .div (.int a) (.int (ig f.st g.st)) q = .ok (.v (.int (a / ig f.st g.st))) q := fun a => VI.div_int hG (by omega)
  have hw := il_pos hf hg
  have hwl : il f.st g.st ≤ 10 ^ 60 * 10 ^ 60 := Int.le_trans (il_le hf hg) (Int.mul_le_mul (by omega) (by omega) (by omega) (by decide +kernel))
  have d2 : ∀ a : Int, binV .div (.int a) (.int (il f.st g.st)) q = .ok (.v (.int (a / il f.st g.st))) q := fun a => VI.div_int hw (by omega)
  have m1 : ∀ a : Int, binV .mul (.int a) (.int t) q = .ok (.v (.int (a * t))) q := fun a => VI.mul_int (by unfold mulOk; rw [small_of (by omega : -1000000000000 ≤ t) (by omega)]; simp)
  have r0 : ∀ a : Int, 0 ≤ a % (g.st / ig f.st g.st) := fun a => Int.emod_nonneg _ (by omega)
  have r1 : ∀ a : Int, a % (g.st / ig f.st g.st) < g.st / ig f.st g.st := fun a => Int.emod_lt_of_pos _ hmm
  have m2 : ∀ a : Int, binV .mul (.int f.st) (.int (a % (g.st / ig f.st g.st))) q = .ok (.v (.int (f.st * (a % (g.st / ig f.st g.st))))) q := fun a => VI.mul_int (by unfold mulOk; have := r0 a; have := r1 a; rw [small_of (by omega : -1000000000000 ≤ a % (g.st / ig f.st g.st)) (by omega)]; simp)
  have mx : (if g.lo > f.lo then g.lo else f.lo) = max f.lo g.lo := by split <;> omega
  have mn : (if g.hi < f.hi then g.hi else f.hi) = min f.hi g.hi := by split <;> omega
  have lc : bi2V .lcm f.st g.st q = .ok (.v (.int (il f.st g.st))) q := r_lcm b3 c3
  have x1 : x0 f g t = f.lo + f.st * ((g.lo - f.lo) / ig f.st g.st * t % (g.st / ig f.st g.st)) := rfl
  have xb : (x0 f g t).natAbs < 10 ^ 150 := by
    rw [x1]
    have h0 := r0 ((g.lo - f.lo) / ig f.st g.st * t)
    have h1 := r1 ((g.lo - f.lo) / ig f.st g.st * t)
    generalize (g.lo - f.lo) / ig f.st g.st * t % (g.st / ig f.st g.st) = r at *
    have h2 : 0 ≤ f.st * r := Int.mul_nonneg (by omega) h0
    have h3 : f.st * r ≤ 10 ^ 60 * 1000000 := Int.mul_le_mul (by omega) (by omega) h0 (by decide +kernel)
    have : (10 : Int) ^ 60 * 1000000 + 10 ^ 60 < 10 ^ 150 := by decide +kernel
    omega
  have P : (10 : Int) ^ 60 * 10 ^ 60 + 10 ^ 60 + 10 ^ 150 + 1 < 10 ^ 200 := by decide +kernel
  have ud : ∀ a : Int, (a / il f.st g.st).natAbs ≤ a.natAbs := fun a => Int.natAbs_ediv_le_natAbs _ _
  have m3 : ∀ a : Int, a.natAbs < 10 ^ 200 → binV .mul (.int (a / il f.st g.st)) (.int (il f.st g.st)) q = .ok (.v (.int (a / il f.st g.st * il f.st g.st))) q := fun a ha => VI.mul_int (mulOk_bd (by have := ud a; omega) (by omega))
  have lowb : (max f.lo g.lo).natAbs < 10 ^ 60 := by omega
  have highb : (min f.hi g.hi).natAbs < 10 ^ 60 := by omega
  have m4 := m3 (max f.lo g.lo - x0 f g t + il f.st g.st - 1) (by omega)
  have u1 := up_spec (x := x0 f g t) (low := max f.lo g.lo) hw
  have ub : (up (x0 f g t) (il f.st g.st) (max f.lo g.lo)).natAbs < 10 ^ 150 := by
    have : (10 : Int) ^ 60 * 10 ^ 60 + 10 ^ 60 < 10 ^ 150 := by decide +kernel
    omega
  have m5 := m3 (min f.hi g.hi - up (x0 f g t) (il f.st g.st) (max f.lo g.lo)) (by omega)
  by_cases z : (g.lo - f.lo) % ig f.st g.st = 0
  · have cmE : cm f g t = if up (x0 f g t) (il f.st g.st) (max f.lo g.lo) > min f.hi g.hi then none else some ⟨up (x0 f g t) (il f.st g.st) (max f.lo g.lo), dn (up (x0 f g t) (il f.st g.st) (max f.lo g.lo)) (il f.st g.st) (min f.hi g.hi), if up (x0 f g t) (il f.st g.st) (max f.lo g.lo) = dn (up (x0 f g t) (il f.st g.st) (max f.lo g.lo)) (il f.st g.st) (min f.hi g.hi) then 0 else il f.st g.st⟩ := by
      unfold cm
      rw [if_neg (by simpa using z)]
    have upE : x0 f g t + (max f.lo g.lo - x0 f g t + il f.st g.st - 1) / il f.st g.st * il f.st g.st = up (x0 f g t) (il f.st g.st) (max f.lo g.lo) := rfl
    have dnE : up (x0 f g t) (il f.st g.st) (max f.lo g.lo) + (min f.hi g.hi - up (x0 f g t) (il f.st g.st) (max f.lo g.lo)) / il f.st g.st * il f.st g.st = dn (up (x0 f g t) (il f.st g.st) (max f.lo g.lo)) (il f.st g.st) (min f.hi g.hi) := rfl
    rw [cmE]
    generalize hU : up (x0 f g t) (il f.st g.st) (max f.lo g.lo) = U at *
    generalize hD : dn U (il f.st g.st) (min f.hi g.hi) = D at *
    by_cases gt : U > min f.hi g.hi
    · rw [if_pos gt]
      simp? [gs, d0_common_numbers, fv, ixRV, ixV, L2.atI, L2.ixN, gcdE, VI.mod_int hG, eq_int, z, d1, e1, m1, lc, mx, mn, VI.mod_int hmm, m2, ← x1, d2, m4, upE, gt, ov]
    · rw [if_neg gt]
      have gt2 : ¬ min f.hi g.hi < U := gt
      by_cases eqD : U = D
      · rw [if_pos eqD]
        subst eqD
        simp? [gs, d0_common_numbers, fv, ixRV, ixV, L2.atI, L2.ixN, gcdE, VI.mod_int hG, eq_int, z, d1, e1, m1, lc, mx, mn, VI.mod_int hmm, m2, ← x1, d2, m4, upE, gt2, ov, m5, dnE]
      · rw [if_neg eqD]
        simp? [gs, d0_common_numbers, fv, ixRV, ixV, L2.atI, L2.ixN, gcdE, VI.mod_int hG, eq_int, z, d1, e1, m1, lc, mx, mn, VI.mod_int hmm, m2, ← x1, d2, m4, upE, gt2, ov, m5, dnE, eqD]
  · have cmE : cm f g t = none := by
      unfold cm
      rw [if_pos z]
    rw [cmE]
    simp? [gs, d0_common_numbers, fv, ixRV, ixV, L2.atI, L2.ixN, gcdE, VI.mod_int hG, eq_int, z, ov]
end K72

set_option Elab.async false
set_option linter.all false
set_option maxRecDepth 100000
set_option maxHeartbeats 8000000
local macro_rules | `(tactic| simp? [$xs,*]) => `(tactic| simp -implicitDefEqProofs [VI.x_var, VI.x_int, VI.x_str, VI.x_bl, VI.x_non, VI.k_bin, VI.x_bin, VI.x_neg, VI.k_not, VI.x_not_f, VI.x_not_t, VI.k_cmp2, VI.k_cmp, VI.x_cmp, VI.k_ch3t, VI.k_ch3f, VI.k_ch2, VI.k_ch1, VI.x_chain, VI.x_boo, VI.k_ifet, VI.k_ifef, VI.x_ife, VI.x_tup, VI.x_lst, VI.k_call, VI.x_call, VI.x_bi, VI.x_isin, VI.k_ix, VI.x_ix, VI.k_sl3, VI.k_sl2, VI.k_sl1, VI.x_sl, VI.x_meth, VI.k_co, VI.x_comp, VI.x_cst, VI.x_lrg1, VI.k_lr, VI.x_lrg3, VI.x_lrg2, VI.x_xfld, VI.x_xis, VI.x_ts0, VI.k_ts2, VI.k_ts1, VI.x_ts, VI.x_ps0, VI.k_ps1, VI.x_ps1, VI.k_ps, VI.x_ps, VI.x_as0, VI.k_as2, VI.k_as1, VI.x_as, VI.x_bs1, VI.k_bstt, VI.k_bsff, VI.k_bstf, VI.k_bsft, VI.x_bs, VI.x_o0, VI.x_o, VI.x_c0, VI.x_c, VI.x_seq, VI.x_rng1, VI.k_rng, VI.x_rng2, VI.x_enum, VI.x_asg, VI.x_unl, VI.x_put, VI.x_expr, VI.x_retv, VI.x_retN, VI.k_ifft, VI.k_ifff, VI.x_iff, VI.x_for, VI.k_kill, VI.x_whl, VI.x_brk, VI.x_cnt, VI.x_pass, VI.x_rais, VI.x_try, VI.x_b0, VI.x_b, VI.x_h0, VI.x_h, VI.y_unl, VI.y_unb, VI.unl_t, VI.unl_l, VI.unl_c, VI.y_asg, VI.k_put, VI.y_put, VI.y_pute, VI.y_expr, VI.y_ret, VI.k_rais, VI.y_rais, VI.k_for, VI.y_for, VI.k_m, VI.xr_int, VI.ym_int, VI.xr_str, VI.ym_str, VI.xr_bl, VI.ym_bl, VI.xr_non, VI.ym_non, VI.xr_bin, VI.ym_bin, VI.xr_neg, VI.ym_neg, VI.xr_not, VI.ym_not, VI.xr_cmp, VI.ym_cmp, VI.xr_chain, VI.ym_chain, VI.xr_boo, VI.ym_boo, VI.xr_ife, VI.ym_ife, VI.xr_tup, VI.ym_tup, VI.xr_lst, VI.ym_lst, VI.xr_call, VI.ym_call, VI.xr_bi, VI.ym_bi, VI.xr_isin, VI.ym_isin, VI.xr_ix, VI.ym_ix, VI.xr_sl, VI.ym_sl, VI.xr_comp, VI.ym_comp, VI.xr_cst, VI.ym_cst, VI.xr_lrg1, VI.ym_lrg1, VI.xr_lrg2, VI.ym_lrg2, VI.xr_lrg3, VI.ym_lrg3, VI.xr_xfld, VI.ym_xfld, VI.xr_xis, VI.ym_xis, VI.ym_var, VI.xr_meth, VI.y_mv, VI.y_bind, VI.y_nx, VI.k_cs2, VI.k_cst, VI.k_csf, VI.y_cs, VI.y_cnd, VI.k_med, VI.y_methD, VI.b_ok, VI.b_exc, VI.f_ok, VI.f_exc, VI.t_nx, VI.t_rt, VI.t_bk, VI.t_ct, VI.t_ex, VI.o_nx, VI.o_rt, VI.o_ex, VI.u_nx, VI.u_rt, VI.u_ex, VI.s_nx, VI.s_rt, VI.fin_F, VI.fin_T, VI.tst_bl, VI.tst_int, VI.tst_tup, VI.tst_lst, VI.tst_own, VI.tst_bor, VI.tst_non, VI.tst_exc, VI.asB_bl, VI.asB_exc, VI.pk_v, VI.pk_own, VI.pk_bor, VI.pk_exc, VI.pkQ_v, VI.pkQ_own, VI.pkQ_bor, VI.pkQ_exc, VI.tk_v, VI.tk_own, VI.tk_exc, VI.pkQ_dr, VI.pt_T, VI.pt_F, VI.ag_v, VI.ag_own, VI.ag_bor, VI.ag_dr, VI.ag_exc, VI.gr_F, VI.gr_v, VI.gr_exc, VI.own_v, VI.own_own, VI.own_dr, VI.own_no, VI.vo_n, VI.vo_s, VI.own_vo, VI.frz_vo, VI.rt_v, VI.rt_own, VI.ofO_s, VI.ofB_s, VI.bind_v, VI.bind_own, VI.bind_dr, VI.bind_tp, VI.frz_v, VI.frz_own, VI.frz_dr, VI.frz_no, VI.add_int, VI.sub_int, VI.cmp_eq, VI.cmp_ne, VI.cmp_in, VI.cmp_nin, VI.cmp_isN, VI.cmp_isnN, VI.cmp_isB, VI.cmp_isnB, VI.cmp_lt, VI.cmp_le, VI.cmp_gt, VI.cmp_ge, VI.eq_str, VI.bi_1, VI.bi_2, VI.len_tup, VI.len_lst, VI.len_con, VI.bi_int, VI.bi_abs, VI.bi_tup, VI.bi_tupL, VI.bi_lst, VI.bi_lstL, VI.bi_max, VI.bi_min, VI.gcd_i, VI.sl_tup, VI.sl_lst, VI.int_o, VI.neg_i, VI.sq_tup, VI.sq_lst, VI.sq_con, VI.en_tup, VI.en_lst, VI.sqv_tup, VI.sqv_lst, VI.sqv_con, VI.isin_, VI.own_R, VI.kill0, VI.kill1, VI.frz_none, VI.frz_some, VI.frzI_none, VI.frzI_some, VI.frzL0, VI.frzL1, VI.tup_ok, VI.lst_ok, VI.lkV, VI.retLk, VI.ownAt, VI.esc, VI.escp, VI.escs, VI.escps, VI.escI, VI.escF, VI.le_0, VI.le_1, VI.le_2, VI.le_3, VI.le_4, VI.le_5, VI.le_6, VI.le_7, VI.le_8, VI.le_9, VI.le_10, VI.le_11, VI.le_12, VI.le_13, VI.le_14, VI.le_15, VI.le_16, K72.gs_0, K72.gs_1, K72.gs_2, K72.gs_3, K72.gs_4, K72.gs_5, K72.gs_6, K72.gs_7, K72.gs_8, K72.gs_9, K72.gs_10, K72.gs_11, K72.gs_12, K72.gs_13, K72.gs_14, K72.gs_15, K72.gs_16, K72.gs_17, K72.gs_18, K72.gs_19, K72.gs_20, K72.gs_21, K72.gs_22, K72.gs_23, K72.gs_24, K72.gs_25, K72.gs_26, K72.gs_27, K72.gs_28, K72.gs_29, K72.gs_30, K72.gs_31, K72.gs_32, K72.gs_33, K72.gs_34, K72.gs_35, K72.gs_36, K72.gs_37, K72.es_w_plain_form_1, K72.es_w_turned_by_1, K72.es_t_law_is_1, K72.es_e_law_is_1, K72.es_t_law_sums_1, K72.es_e_law_sums_1, K72.es_t_law_pair_right_1, K72.es_e_law_pair_right_1, K72.es_e_law_one_right_1, K72.es_e_law_one_right_2, K72.es_e_law_long_right_1, $xs,*])
/-! What the defs compute. -/

namespace K72
open PI PySem VI Fc
/-- what two fences have in common -/
def Cm (f g : Fe) : Option Fe → Prop
  | none => ∀ v, ¬ (f.has v ∧ g.has v)
  | some h => h.Ok ∧ ∀ v, h.has v ↔ f.has v ∧ g.has v
theorem has0 {f : Fe} {v : Int} (ok : f.Ok) (z : f.st = 0) : f.has v ↔ v = f.lo := by
  have hl : f.lo = f.hi := by rcases ok with h | h <;> omega
  unfold Fe.has
  rw [z, Int.zero_dvd]
  omega
theorem r_met {n : Nat} {x y : V} {f g : Fe} {q : Q} (h : FV x f) (h2 : FV y g) (ok : f.Ok) (ok2 : g.Ok) (bd : Bd f) (bd2 : Bd g) (sm : g.st / ig f.st g.st ≤ 1000000) :
    ∃ o, callV pg.prg gs (n+4) 14 [.v x, .v y] q = .ok (.v (ov o)) q ∧ Cm f g o := by
  by_cases z : f.st = 0
  · cases w : hb g f.lo with
    | true =>
      refine ⟨some f, ?_, ok, fun v => ⟨fun hv => ⟨hv, ?_⟩, fun hv => hv.1⟩⟩
      · have e := r_holds (n := n+2) (v := f.lo) (q := q) ok2
        rw [w] at e
        rw [u_fences_met]
        have fE : fv f = .tup [.int f.lo, .int f.hi, .int f.st] := rfl
        simp? [gs, d0_fences_met, r_chk h ok, r_chk2 h2 ok2]
        simp? [gs, fE, ixRV, ixV, L2.atI, L2.ixN, z, eq_int, e, ov]
      · rw [(has0 ok z).mp hv]; exact (hb_iff ok2).mp w
    | false =>
      refine ⟨none, ?_, fun v hv => ?_⟩
      · have e := r_holds (n := n+2) (v := f.lo) (q := q) ok2
        rw [w] at e
        rw [u_fences_met]
        have fE : fv f = .tup [.int f.lo, .int f.hi, .int f.st] := rfl
        simp? [gs, d0_fences_met, r_chk h ok, r_chk2 h2 ok2]
        simp? [gs, fE, ixRV, ixV, L2.atI, L2.ixN, z, eq_int, e, ov]
      · have := hv.2
        rw [(has0 ok z).mp hv.1, ← hb_iff ok2, w] at this
        cases this
  · by_cases z2 : g.st = 0
    · cases w : hb f g.lo with
      | true =>
        refine ⟨some g, ?_, ok2, fun v => ⟨fun hv => ⟨?_, hv⟩, fun hv => hv.2⟩⟩
        · have e := r_holds (n := n+2) (v := g.lo) (q := q) ok
          rw [w] at e
          rw [u_fences_met]
          have gE : fv g = .tup [.int g.lo, .int g.hi, .int g.st] := rfl
          have i2 : ∀ f : Fe, ixV (fv f) (.int 2) = some (.int f.st) := fun f => rfl
          have i0 : ∀ f : Fe, ixV (fv f) (.int 0) = some (.int f.lo) := fun f => rfl
          simp? [gs, d0_fences_met, r_chk h ok, r_chk2 h2 ok2, ixRV, i2, i0, z, z2, eq_int, e, ov]
        · rw [(has0 ok2 z2).mp hv]; exact (hb_iff ok).mp w
      | false =>
        refine ⟨none, ?_, fun v hv => ?_⟩
        · have e := r_holds (n := n+2) (v := g.lo) (q := q) ok
          rw [w] at e
          rw [u_fences_met]
          have i2 : ∀ f : Fe, ixV (fv f) (.int 2) = some (.int f.st) := fun f => rfl
          have i0 : ∀ f : Fe, ixV (fv f) (.int 0) = some (.int f.lo) := fun f => rfl
          simp? [gs, d0_fences_met, r_chk h ok, r_chk2 h2 ok2, ixRV, i2, i0, z, z2, eq_int, e, ov]
        · have := hv.1
          rw [(has0 ok2 z2).mp hv.2, ← hb_iff ok, w] at this
          cases this
    · have hf : 0 < f.st := by have := ok.nn; omega
      have hg : 0 < g.st := by have := ok2.nn; omega
      obtain ⟨t, e, ht⟩ := r_common (n := n+1) (q := q) ok ok2 bd bd2 hf hg sm
      have := cm_spec hf hg ht
      refine ⟨cm f g t, ?_, ?_⟩
      · rw [u_fences_met]
        have i2 : ∀ f : Fe, ixV (fv f) (.int 2) = some (.int f.st) := fun f => rfl
        simp? [gs, d0_fences_met, r_chk h ok, r_chk2 h2 ok2, ixRV, i2, z, z2, eq_int, e]
      · revert this
        cases cm f g t <;> exact fun h => h
/-- one within the other -/
def Wi (f g : Fe) : Prop := ∀ v, f.has v → g.has v
theorem r_within {n : Nat} {x y : V} {f g : Fe} {q : Q} (h : FV x f) (h2 : FV y g) (ok : f.Ok) (ok2 : g.Ok) :
    ∃ b, callV pg.prg gs (n+4) 15 [.v x, .v y] q = .ok (.v (.bl b)) q ∧ (b = true ↔ Wi f g) := by
  have i2 : ∀ f : Fe, ixV (fv f) (.int 2) = some (.int f.st) := fun f => rfl
  have i0 : ∀ f : Fe, ixV (fv f) (.int 0) = some (.int f.lo) := fun f => rfl
  have i1 : ∀ f : Fe, ixV (fv f) (.int 1) = some (.int f.hi) := fun f => rfl
  have e0 := r_holds (n := n+2) (v := f.lo) (q := q) ok2
  have e1 := r_holds (n := n+2) (v := f.hi) (q := q) ok2
  cases w0 : hb g f.lo with
  | false =>
    rw [w0] at e0
    refine ⟨false, ?_, (fun z => by cases z), fun z => ?_⟩
    · rw [u_is_fence_within]
      simp? [gs, d0_is_fence_within, r_chk h ok, r_chk2 h2 ok2, ixRV, i0, e0]
    · rw [← w0]; exact (hb_iff ok2).mpr (z _ ok.has_lo)
  | true =>
    rw [w0] at e0
    cases w1 : hb g f.hi with
    | false =>
      rw [w1] at e1
      refine ⟨false, ?_, (fun z => by cases z), fun z => ?_⟩
      · rw [u_is_fence_within]
        simp? [gs, d0_is_fence_within, r_chk h ok, r_chk2 h2 ok2, ixRV, i0, i1, e0, e1]
      · rw [← w1]; exact (hb_iff ok2).mpr (z _ ok.has_hi)
    | true =>
      rw [w1] at e1
      have h0 := (hb_iff ok2).mp w0
      have h1 := (hb_iff ok2).mp w1
      by_cases z : f.st = 0
      · refine ⟨true, ?_, fun _ v hv => by rw [(has0 ok z).mp hv]; exact h0, fun _ => rfl⟩
        rw [u_is_fence_within]
        simp? [gs, d0_is_fence_within, r_chk h ok, r_chk2 h2 ok2, ixRV, i0, i1, i2, e0, e1, z, eq_int]
      · have hf : 0 < f.st := by have := ok.nn; omega
        have hlt : f.lo < f.hi := by rcases ok with o | o <;> omega
        have hg : 0 < g.st := by
          rcases Int.lt_or_le 0 g.st with p | p
          · exact p
          · have z2 : g.st = 0 := by have := ok2.nn; omega
            have := (has0 ok2 z2).mp h0
            have := (has0 ok2 z2).mp h1
            omega
        refine ⟨decide (f.st % g.st = 0), ?_, ?_⟩
        · rw [u_is_fence_within]
          simp? [gs, d0_is_fence_within, r_chk h ok, r_chk2 h2 ok2, ixRV, i0, i1, i2, e0, e1, z, eq_int, VI.mod_int hg]
        · rw [decide_eq_true_iff]
          constructor
          · intro d v hv
            refine ⟨by have := hv.1; have := h0.1; omega, by have := hv.2.1; have := h1.2.1; omega, ?_⟩
            have a := Int.dvd_add (Int.dvd_trans (Int.dvd_of_emod_eq_zero d) hv.2.2) h0.2.2
            rwa [show v - f.lo + (f.lo - g.lo) = v - g.lo by omega] at a
          · intro wi
            have hle : f.st ≤ f.hi - f.lo := Int.le_of_dvd (by omega) ok.dv
            have a := wi (f.lo + f.st) ⟨by omega, by omega, ⟨1, by omega⟩⟩
            have b := Int.dvd_sub a.2.2 h0.2.2
            rw [show f.lo + f.st - g.lo - (f.lo - g.lo) = f.st by omega] at b
            exact Int.emod_eq_zero_of_dvd b
/-! ### the least fence -/
theorem gg_fold {c : Int} {l : List Int} : ∀ s, l.foldl (fun s v => ig s (v - c)) s = gg c l s := fun _ => rfl
theorem seqT (l : List Int) : seqV (.tup (l.map V.int)) = some (l.map V.int) := rfl
theorem seqL (l : List Int) : seqV (.lst (l.map V.int)) = some (l.map V.int) := rfl
theorem r_plain {n : Nat} {l : List Int} {q : Q} (ne : l ≠ []) (hl : l.length ≤ 1000000) : callV pg.prg gs (n+1) 7 [.v (.tup (l.map V.int))] q = .ok (.v (fv ⟨VI.minI l, VI.maxI l, gg (VI.minI l) l 0⟩)) q := by
  rw [u_fence_of_plain]
  have wk := VI.wlk_ok (vs := l.map V.int) (q := q) (by rw [List.length_map]; omega)
  simp? [gs, d0_fence_of_plain, VI.min_ok (seqT l) ne, wk]
  generalize hl : loopV _ _ _ _ _ = r
  have R := loop_res (fun l1 e q2 => q2 = q ∧ ∃ (s : Int) (o : Option V), e = [some (.v (.tup (l.map V.int))), some (.v (.int (VI.minI l))), some (.v (.int s)), vo o] ∧ ∃ l2 : List Int, l1 = l2.map V.int ∧ gg (VI.minI l) l 0 = gg (VI.minI l) l2 s) hl
    ⟨rfl, 0, none, rfl, l, rfl, rfl⟩ ?_
  · obtain ⟨e2, q2, rfl, rfl, s, o, rfl, l2, h1, h2⟩ := R
    have : l2 = [] := by cases l2 with | nil => rfl | cons _ _ => cases h1
    subst this
    simp? [gs, VI.max_ok (seqT l) ne, fv, h2]
    rfl
  · rintro x l1 e q2 ⟨rfl, s, o, rfl, l2, h1, h2⟩
    cases l2 with
    | nil => cases h1
    | cons v l2 =>
      cases h1
      apply Exists.intro; apply And.intro
      · simp? [gs, lstep, b_fence_of_plain_1]; rfl
      · exact ⟨rfl, _, some (.int v), rfl, l2, rfl, h2⟩
theorem sp_plain {l : List Int} (ne : l ≠ []) : Sp l ⟨VI.minI l, VI.maxI l, gg (VI.minI l) l 0⟩ := ⟨VI.minI_mem ne, VI.maxI_mem ne, fun v hv => ⟨VI.minI_le hv, VI.maxI_le hv⟩, rfl⟩
inductive LV : V → List Int → Prop where
  | t (l : List Int) : LV (.tup (l.map V.int)) l
  | l (l : List Int) : LV (.lst (l.map V.int)) l
theorem r_ints {n : Nat} {x : V} {l : List Int} {q : Q} (h : LV x l) (ne : l ≠ []) (hl : l.length ≤ 1000000) : callV pg.prg gs (n+2) 6 [.v x] q = .ok (.v (.tup (l.map V.int))) q := by
  rw [u_check_integers]
  have wk := VI.wlk_ok (vs := enV (l.map V.int)) (q := q) (by rw [enV_length, List.length_map]; omega)
  have zl : ¬ (l.length : Int) = 0 := by cases l with | nil => exact absurd rfl ne | cons _ _ => simp; omega
  have lp : ∀ (x0 : V), ∃ o1 o2, loopV (.tp [1, 2]) (vevB (KV (n+1)) b_check_integers_1) (enV (l.map V.int)) [some (.v x0), none, none] q = .nx [some (.v x0), o1, o2] q := by
    intro x0
    generalize hl : loopV _ _ _ _ _ = r
    have R := loop_res (fun l1 e q2 => q2 = q ∧ ∃ (o1 o2 : Option V), e = [some (.v x0), vo o1, vo o2] ∧ ∀ y ∈ l1, ∃ (i v : Int), y = .tup [.int i, .int v]) hl
      ⟨rfl, none, none, rfl, fun y hy => by
        obtain ⟨p, hp, rfl⟩ := List.mem_map.mp hy
        have := List.mem_of_getElem? (List.mem_zipIdx_iff_getElem?.mp hp)
        obtain ⟨v, _, e⟩ := List.mem_map.mp this
        exact ⟨p.2, v, by rw [← e]⟩⟩ ?_
    · obtain ⟨e2, q2, rfl, rfl, o1, o2, rfl, _⟩ := R
      exact ⟨_, _, rfl⟩
    · rintro y l1 e q2 ⟨rfl, o1, o2, rfl, h1⟩
      obtain ⟨i, v, rfl⟩ := h1 y List.mem_cons_self
      have e1 : callV pg.prg gs (n+1) 0 [.v (.int v)] q2 = .ok (.v (.bl true)) q2 := r_is_int
      apply Exists.intro; apply And.intro
      · simp? [gs, lstep, b_check_integers_1, e1]; rfl
      · exact ⟨rfl, some (.int i), some (.int v), rfl, fun y hy => h1 y (List.mem_cons_of_mem _ hy)⟩
  cases h with
  | t =>
    obtain ⟨o1, o2, e⟩ := lp (.tup (l.map V.int))
    simp? [gs, d0_check_integers, tyV, eq_int, zl, ne, wk, e]
  | l =>
    obtain ⟨o1, o2, e⟩ := lp (.lst (l.map V.int))
    simp? [gs, d0_check_integers, tyV, eq_int, zl, ne, wk, e]
/-- the program's least fence -/
theorem r_fence {n : Nat} {x : V} {l : List Int} {f : Fe} {q : Q} (h : LV x l) (sp : Sp l f) (hl : l.length ≤ 1000000) : callV pg.prg gs (n+3) 8 [.v x] q = .ok (.v (fv f)) q := by
  have ne : l ≠ [] := fun z => by have := sp.lo; rw [z] at this; cases this
  rw [u_fence_of, sp.uniq (sp_plain ne)]
  simp? [gs, d0_fence_of, r_ints h ne hl, r_plain ne hl]
end K72

set_option Elab.async false
set_option linter.all false
set_option maxRecDepth 100000
set_option maxHeartbeats 8000000
local macro_rules | `(tactic| simp? [$xs,*]) => `(tactic| simp -implicitDefEqProofs [VI.x_var, VI.x_int, VI.x_str, VI.x_bl, VI.x_non, VI.k_bin, VI.x_bin, VI.x_neg, VI.k_not, VI.x_not_f, VI.x_not_t, VI.k_cmp2, VI.k_cmp, VI.x_cmp, VI.k_ch3t, VI.k_ch3f, VI.k_ch2, VI.k_ch1, VI.x_chain, VI.x_boo, VI.k_ifet, VI.k_ifef, VI.x_ife, VI.x_tup, VI.x_lst, VI.k_call, VI.x_call, VI.x_bi, VI.x_isin, VI.k_ix, VI.x_ix, VI.k_sl3, VI.k_sl2, VI.k_sl1, VI.x_sl, VI.x_meth, VI.k_co, VI.x_comp, VI.x_cst, VI.x_lrg1, VI.k_lr, VI.x_lrg3, VI.x_lrg2, VI.x_xfld, VI.x_xis, VI.x_ts0, VI.k_ts2, VI.k_ts1, VI.x_ts, VI.x_ps0, VI.k_ps1, VI.x_ps1, VI.k_ps, VI.x_ps, VI.x_as0, VI.k_as2, VI.k_as1, VI.x_as, VI.x_bs1, VI.k_bstt, VI.k_bsff, VI.k_bstf, VI.k_bsft, VI.x_bs, VI.x_o0, VI.x_o, VI.x_c0, VI.x_c, VI.x_seq, VI.x_rng1, VI.k_rng, VI.x_rng2, VI.x_enum, VI.x_asg, VI.x_unl, VI.x_put, VI.x_expr, VI.x_retv, VI.x_retN, VI.k_ifft, VI.k_ifff, VI.x_iff, VI.x_for, VI.k_kill, VI.x_whl, VI.x_brk, VI.x_cnt, VI.x_pass, VI.x_rais, VI.x_try, VI.x_b0, VI.x_b, VI.x_h0, VI.x_h, VI.y_unl, VI.y_unb, VI.unl_t, VI.unl_l, VI.unl_c, VI.y_asg, VI.k_put, VI.y_put, VI.y_pute, VI.y_expr, VI.y_ret, VI.k_rais, VI.y_rais, VI.k_for, VI.y_for, VI.k_m, VI.xr_int, VI.ym_int, VI.xr_str, VI.ym_str, VI.xr_bl, VI.ym_bl, VI.xr_non, VI.ym_non, VI.xr_bin, VI.ym_bin, VI.xr_neg, VI.ym_neg, VI.xr_not, VI.ym_not, VI.xr_cmp, VI.ym_cmp, VI.xr_chain, VI.ym_chain, VI.xr_boo, VI.ym_boo, VI.xr_ife, VI.ym_ife, VI.xr_tup, VI.ym_tup, VI.xr_lst, VI.ym_lst, VI.xr_call, VI.ym_call, VI.xr_bi, VI.ym_bi, VI.xr_isin, VI.ym_isin, VI.xr_ix, VI.ym_ix, VI.xr_sl, VI.ym_sl, VI.xr_comp, VI.ym_comp, VI.xr_cst, VI.ym_cst, VI.xr_lrg1, VI.ym_lrg1, VI.xr_lrg2, VI.ym_lrg2, VI.xr_lrg3, VI.ym_lrg3, VI.xr_xfld, VI.ym_xfld, VI.xr_xis, VI.ym_xis, VI.ym_var, VI.xr_meth, VI.y_mv, VI.y_bind, VI.y_nx, VI.k_cs2, VI.k_cst, VI.k_csf, VI.y_cs, VI.y_cnd, VI.k_med, VI.y_methD, VI.b_ok, VI.b_exc, VI.f_ok, VI.f_exc, VI.t_nx, VI.t_rt, VI.t_bk, VI.t_ct, VI.t_ex, VI.o_nx, VI.o_rt, VI.o_ex, VI.u_nx, VI.u_rt, VI.u_ex, VI.s_nx, VI.s_rt, VI.fin_F, VI.fin_T, VI.tst_bl, VI.tst_int, VI.tst_tup, VI.tst_lst, VI.tst_own, VI.tst_bor, VI.tst_non, VI.tst_exc, VI.asB_bl, VI.asB_exc, VI.pk_v, VI.pk_own, VI.pk_bor, VI.pk_exc, VI.pkQ_v, VI.pkQ_own, VI.pkQ_bor, VI.pkQ_exc, VI.tk_v, VI.tk_own, VI.tk_exc, VI.pkQ_dr, VI.pt_T, VI.pt_F, VI.ag_v, VI.ag_own, VI.ag_bor, VI.ag_dr, VI.ag_exc, VI.gr_F, VI.gr_v, VI.gr_exc, VI.own_v, VI.own_own, VI.own_dr, VI.own_no, VI.vo_n, VI.vo_s, VI.own_vo, VI.frz_vo, VI.rt_v, VI.rt_own, VI.ofO_s, VI.ofB_s, VI.bind_v, VI.bind_own, VI.bind_dr, VI.bind_tp, VI.frz_v, VI.frz_own, VI.frz_dr, VI.frz_no, VI.add_int, VI.sub_int, VI.cmp_eq, VI.cmp_ne, VI.cmp_in, VI.cmp_nin, VI.cmp_isN, VI.cmp_isnN, VI.cmp_isB, VI.cmp_isnB, VI.cmp_lt, VI.cmp_le, VI.cmp_gt, VI.cmp_ge, VI.eq_str, VI.bi_1, VI.bi_2, VI.len_tup, VI.len_lst, VI.len_con, VI.bi_int, VI.bi_abs, VI.bi_tup, VI.bi_tupL, VI.bi_lst, VI.bi_lstL, VI.bi_max, VI.bi_min, VI.gcd_i, VI.sl_tup, VI.sl_lst, VI.int_o, VI.neg_i, VI.sq_tup, VI.sq_lst, VI.sq_con, VI.en_tup, VI.en_lst, VI.sqv_tup, VI.sqv_lst, VI.sqv_con, VI.isin_, VI.own_R, VI.kill0, VI.kill1, VI.frz_none, VI.frz_some, VI.frzI_none, VI.frzI_some, VI.frzL0, VI.frzL1, VI.tup_ok, VI.lst_ok, VI.lkV, VI.retLk, VI.ownAt, VI.esc, VI.escp, VI.escs, VI.escps, VI.escI, VI.escF, VI.le_0, VI.le_1, VI.le_2, VI.le_3, VI.le_4, VI.le_5, VI.le_6, VI.le_7, VI.le_8, VI.le_9, VI.le_10, VI.le_11, VI.le_12, VI.le_13, VI.le_14, VI.le_15, VI.le_16, K72.gs_0, K72.gs_1, K72.gs_2, K72.gs_3, K72.gs_4, K72.gs_5, K72.gs_6, K72.gs_7, K72.gs_8, K72.gs_9, K72.gs_10, K72.gs_11, K72.gs_12, K72.gs_13, K72.gs_14, K72.gs_15, K72.gs_16, K72.gs_17, K72.gs_18, K72.gs_19, K72.gs_20, K72.gs_21, K72.gs_22, K72.gs_23, K72.gs_24, K72.gs_25, K72.gs_26, K72.gs_27, K72.gs_28, K72.gs_29, K72.gs_30, K72.gs_31, K72.gs_32, K72.gs_33, K72.gs_34, K72.gs_35, K72.gs_36, K72.gs_37, K72.es_w_plain_form_1, K72.es_w_turned_by_1, K72.es_t_law_is_1, K72.es_e_law_is_1, K72.es_t_law_sums_1, K72.es_e_law_sums_1, K72.es_t_law_pair_right_1, K72.es_e_law_pair_right_1, K72.es_e_law_one_right_1, K72.es_e_law_one_right_2, K72.es_e_law_long_right_1, $xs,*])
/-! What the defs compute. -/

namespace K72
open PI PySem VI Fc
/-! ### what the law makes itself -/
/-- a small right fence -/
structure Sm (f : Fe) : Prop where
  ok : f.Ok
  lo : -100 ≤ f.lo
  hi : f.hi ≤ 200
  st : f.st ≤ 100
def nn (f : Fe) : Nat := rgN f.lo (f.hi + 1) f.st
def nums (f : Fe) : List Int := if f.st = 0 then [f.lo] else (List.range (nn f)).map fun (k : Nat) => f.lo + (k : Int) * f.st
theorem nn_eq {f : Fe} (sm : Sm f) (h : 0 < f.st) : (nn f : Int) = (f.hi - f.lo) / f.st + 1 ∧ Builtin.Range.rangeSize f.lo (f.hi + 1) f.st = (f.hi - f.lo) / f.st + 1 := by
  have hle := sm.ok.le
  have e : Builtin.Range.rangeSize f.lo (f.hi + 1) f.st = (f.hi - f.lo) / f.st + 1 := by
    unfold Builtin.Range.rangeSize
    rw [if_pos h, if_pos (by omega), show f.hi + 1 - f.lo - 1 = f.hi - f.lo by omega]
  refine ⟨?_, e⟩
  unfold nn rgN
  rw [e]
  have : 0 ≤ (f.hi - f.lo) / f.st := Int.ediv_nonneg (by omega) (by omega)
  omega
theorem nums_len {f : Fe} (sm : Sm f) : ((nums f).length : Int) = sizeF f := by
  unfold nums sizeF
  split
  · rfl
  · rename_i z
    have h : 0 < f.st := by have := sm.ok.nn; omega
    rw [List.length_map, List.length_range]
    exact (nn_eq sm h).1
theorem size_le {f : Fe} (sm : Sm f) : sizeF f ≤ 301 := by
  unfold sizeF
  split
  · decide
  · rename_i z
    have h : 0 < f.st := by have := sm.ok.nn; omega
    have h1 : (f.hi - f.lo) / f.st ≤ f.hi - f.lo := Int.ediv_le_self _ (by have := sm.ok.le; omega)
    have := sm.lo; have := sm.hi
    omega
theorem nums_mem {f : Fe} (sm : Sm f) (v : Int) : v ∈ nums f ↔ f.has v := by
  unfold nums
  split
  · rename_i z
    rw [has0 sm.ok z]; simp
  · rename_i z
    have h : 0 < f.st := by have := sm.ok.nn; omega
    have e := (nn_eq sm h).1
    have hd := Int.ediv_mul_cancel sm.ok.dv
    rw [List.mem_map]
    constructor
    · rintro ⟨k, hk, rfl⟩
      rw [List.mem_range] at hk
      have k1 : (k : Int) * f.st ≤ (f.hi - f.lo) / f.st * f.st := Int.mul_le_mul_of_nonneg_right (by omega) (by omega)
      have k0 : 0 ≤ (k : Int) * f.st := Int.mul_nonneg (by omega) (by omega)
      exact ⟨by omega, by omega, ⟨k, by rw [Int.mul_comm]; omega⟩⟩
    · rintro ⟨h1, h2, k, hk⟩
      have k0 : 0 ≤ k := by
        have : 0 ≤ k * f.st := by rw [Int.mul_comm]; omega
        exact Int.nonneg_of_mul_nonneg_left this h
      have k1 : k ≤ (f.hi - f.lo) / f.st := by
        refine Int.le_of_mul_le_mul_right ?_ h
        rw [hd, Int.mul_comm]; omega
      refine ⟨k.toNat, by rw [List.mem_range]; omega, ?_⟩
      rw [show ((k.toNat : Nat) : Int) = k by omega, Int.mul_comm]; omega
theorem nums_sp {f : Fe} (sm : Sm f) : Sp (nums f) f := sm.ok.sp (nums_mem sm)
theorem fits {a : Int} (h : -1000000 ≤ a) (h2 : a ≤ 1000000) : Builtin.Range.rangeFitsLong a = true := by
  unfold Builtin.Range.rangeFitsLong
  simp
  omega
theorem rg_ok {f : Fe} (sm : Sm f) (h : 0 < f.st) : rg3Ok f.lo (f.hi + 1) f.st = true := by
  have e := nn_eq sm h
  have s1 := size_le sm
  unfold sizeF at s1
  rw [if_neg (by omega)] at s1
  have s0 : 0 ≤ (f.hi - f.lo) / f.st := Int.ediv_nonneg (by have := sm.ok.le; omega) (by omega)
  obtain ⟨ok, h1, h2, h3⟩ := sm
  have := ok.le
  unfold rg3Ok
  have n1 : rgN f.lo (f.hi + 1) f.st ≤ 2 ^ 24 := by have := e.1; unfold nn at this; omega
  rw [decide_eq_true (show f.st ≠ 0 by omega), decide_eq_true (show f.st.natAbs < 1073741824 by omega), decide_eq_true n1]
  unfold Builtin.Range.small
  rw [e.2, fits (a := f.lo) (by omega) (by omega), fits (a := f.hi + 1) (by omega) (by omega), fits (a := f.st) (by omega) (by omega), fits (a := (f.hi - f.lo) / f.st + 1) (by omega) (by omega), if_pos h, fits (a := f.hi + 1 + (f.st - 1)) (by omega) (by omega)]
  simp
theorem i2 (f : Fe) : ixV (fv f) (.int 2) = some (.int f.st) := rfl
theorem i1 (f : Fe) : ixV (fv f) (.int 1) = some (.int f.hi) := rfl
theorem i0 (f : Fe) : ixV (fv f) (.int 0) = some (.int f.lo) := rfl
theorem l_numbers {n : Nat} {f : Fe} {q : Q} (sm : Sm f) : callV pg.prg gs (n+1) 27 [.v (fv f)] q = .ok (.own ((nums f).map V.int)) q := by
  rw [u_law_numbers]
  by_cases z : f.st = 0
  · have e : nums f = [f.lo] := if_pos z
    rw [e]
    simp? [gs, d0_law_numbers, ixRV, i2, i0, z, eq_int]
  · have h : 0 < f.st := by have := sm.ok.nn; omega
    have e : (nums f).map V.int = rng3V f.lo (f.hi + 1) f.st := by
      unfold nums
      rw [if_neg z, List.map_map]; rfl
    have l3 : lrgV3 false [.int f.lo, .int (f.hi + 1), .int f.st] q = .ok (.own (rng3V f.lo (f.hi + 1) f.st)) q := by
      simp only [lrgV3, rg_ok sm h]; rfl
    rw [e]
    simp? [gs, d0_law_numbers, ixRV, i2, i0, i1, z, eq_int, l3]
/-- numbers that are not too great, all of them -/
def Bs (l : List Int) : Prop := ∀ v ∈ l, v.natAbs < 2 ^ 140
theorem l_least0 {n : Nat} {q : Q} : callV pg.prg gs (n+2) 28 [.v (.lst [])] q = .ok (.v .non) q := by
  rw [u_law_least]
  simp? [gs, d0_law_least, eq_int]
theorem ig_bd {a b : Int} (ha : a.natAbs < 2 ^ 148) (hb : b.natAbs < 2 ^ 148) : (ig a b).natAbs < 2 ^ 148 := by
  unfold ig
  rw [Int.natAbs_natCast]
  rcases Nat.eq_zero_or_pos a.natAbs with z | z
  · rw [z, Nat.gcd_zero_left]; exact hb
  · exact Nat.lt_of_le_of_lt (Nat.gcd_le_left _ z) ha
theorem l_least {n : Nat} {l : List Int} {f : Fe} {q : Q} (sp : Sp l f) (bs : Bs l) (hl : l.length ≤ 1000000) : callV pg.prg gs (n+2) 28 [.v (.lst (l.map V.int))] q = .ok (.v (fv f)) q := by
  have ne : l ≠ [] := fun z => by have := sp.lo; rw [z] at this; cases this
  rw [u_law_least]
  have wk := VI.wlk_ok (vs := l.map V.int) (q := q) (by rw [List.length_map]; omega)
  have zl : ¬ (l.length : Int) = 0 := by cases l with | nil => exact absurd rfl ne | cons _ _ => simp; omega
  obtain ⟨c, l0, rfl⟩ : ∃ c l0, l = c :: l0 := by cases l with | nil => exact absurd rfl ne | cons c l0 => exact ⟨c, l0, rfl⟩
  have ix : ixV (.lst ((c :: l0).map V.int)) (.int 0) = some (.int c) := VI.ix_natL (k := 0) rfl
  generalize hL : c :: l0 = l at *
  have hc : c ∈ l := by rw [← hL]; exact List.mem_cons_self
  simp? [gs, d0_law_least, eq_int, zl, ne, wk]
  generalize hl : loopV _ _ _ _ _ = r
  have R := loop_res (fun l1 e q2 => q2 = q ∧ ∃ (s : Int) (o : Option V), e = [some (.v (.lst (l.map V.int))), some (.v (.int s)), vo o] ∧ ∃ l2 : List Int, l1 = l2.map V.int ∧ (∀ v ∈ l2, v ∈ l) ∧ s.natAbs < 2 ^ 148 ∧ gg c l 0 = gg c l2 s) hl
    ⟨rfl, 0, none, rfl, l, rfl, fun v h => h, by decide, rfl⟩ ?_
  · obtain ⟨e2, q2, rfl, rfl, s, o, rfl, l2, h1, _, _, h2⟩ := R
    have : l2 = [] := by cases l2 with | nil => rfl | cons _ _ => cases h1
    subst this
    have fe : f = ⟨VI.minI l, VI.maxI l, s⟩ := by
      have e := sp.uniq (sp_plain ne)
      rw [e, gg_base (VI.minI_mem ne) hc, h2]
      rfl
    rw [fe]
    simp? [gs, VI.max_ok (seqL l) ne, VI.min_ok (seqL l) ne, fv]
  · rintro x l1 e q2 ⟨rfl, s, o, rfl, l2, h1, hm, hs, h2⟩
    cases l2 with
    | nil => cases h1
    | cons v l2 =>
      cases h1
      have b1 := bs v (hm v List.mem_cons_self)
      have b2 := bs c hc
      have hv : (v - c).natAbs < 2 ^ 148 := by
        have : (2 : Nat) ^ 140 + 2 ^ 140 < 2 ^ 148 := by decide
        omega
      have g1 := r_gcd (n := n) (q := q2) hs hv
      apply Exists.intro; apply And.intro
      · simp? [gs, lstep, b_law_least_1, ix, ixRV, g1]; rfl
      · exact ⟨rfl, _, some (.int v), rfl, l2, rfl, fun w hw => hm w (List.mem_cons_of_mem _ hw), ig_bd hs hv, h2⟩
/-- sums without doubles -/
theorem l_sums {n : Nat} {l m : List Int} {q : Q} (hl : l.length ≤ 1000) (hm : m.length ≤ 10000) : ∃ s : List Int, callV pg.prg gs (n+2) 29 [.v (.lst (l.map V.int)), .v (.lst (m.map V.int))] q = .ok (.own (s.map V.int)) q ∧ (∀ w, w ∈ s ↔ ∃ x ∈ l, ∃ y ∈ m, w = x + y) ∧ s.length ≤ l.length * m.length := by
  rw [u_law_sums]
  have wk := VI.wlk_ok (vs := l.map V.int) (q := q) (by rw [List.length_map]; omega)
  simp? [gs, d0_law_sums, wk]
  generalize hL : loopV _ _ _ _ _ = r
  have R := loop_res (fun l1 e q2 => q2 = q ∧ ∃ (s : List Int) (o2 : Option V), e = [some (.v (.lst (l.map V.int))), some (.v (.lst (m.map V.int))), some (.own (s.map V.int)), vo o2, none] ∧ ∃ l2 l3 : List Int, l1 = l2.map V.int ∧ l = l3 ++ l2 ∧ (∀ w, w ∈ s ↔ ∃ x ∈ l3, ∃ y ∈ m, w = x + y) ∧ s.length ≤ l3.length * m.length) hL
    ⟨rfl, [], none, rfl, l, [], rfl, rfl, by simp, by simp⟩ ?_
  · obtain ⟨e2, q2, rfl, rfl, s, o, rfl, l2, l3, h1, h2, h3, h4⟩ := R
    have : l2 = [] := by cases l2 with | nil => rfl | cons _ _ => cases h1
    subst this
    have : l = l3 := by simpa using h2
    subst this
    exact ⟨s, by simp? [gs, ], h3, h4⟩
  · rintro x l1 e q2 ⟨rfl, s, o, rfl, l2, l3, h1, h2, h3, h4⟩
    cases l2 with
    | nil => cases h1
    | cons v l2 =>
      cases h1
      have l3l : l3.length + 1 ≤ 1000 := by have := congrArg List.length h2; simp at this; omega
      have sl : l3.length * m.length ≤ 1000 * 10000 := Nat.mul_le_mul (by omega) hm
      have wk2 := VI.wlk_ok (vs := m.map V.int) (q := q2) (by rw [List.length_map]; omega)
      have cp : compV (.v 4) [some (.v (.lst (l.map V.int))), some (.v (.lst (m.map V.int))), some (.own (s.map V.int)), some (.v (.int v)), none] (cStepV (KV (n+1)) (.some t_law_sums_1) e_law_sums_1) (m.map V.int) [] q2 = .ok ((m.filter fun y => !decide (v + y ∈ s)).map fun y => V.int (v + y)) q2 := by
        refine comp_atF _ _ (by unfold SL; omega) fun y hy => ?_
        by_cases c : v + y ∈ s <;> simp? [gs, cturn, t_law_sums_1, e_law_sums_1, in_ints.1, c]
      have fl := List.length_filter_le (fun y => !decide (v + y ∈ s)) m
      have al : (s.map V.int).length + ((m.filter fun y => !decide (v + y ∈ s)).map fun y => V.int (v + y)).length ≤ SL := by
        rw [List.length_map, List.length_map]
        unfold SL
        omega
      have me : ((m.filter fun y => !decide (v + y ∈ s)).map fun y => V.int (v + y)) = ((m.filter fun y => !decide (v + y ∈ s)).map fun y => v + y).map V.int := by simp
      apply Exists.intro; apply And.intro
      · simp? [gs, lstep, b_law_sums_1, wk2, cp, VI.add_lst al]; rfl
      · refine ⟨rfl, s ++ (m.filter fun y => !decide (v + y ∈ s)).map (fun y => v + y), some (.int v), by simp [VI.vo_s], l2, l3 ++ [v], rfl, by simp [h2], fun w => ?_, ?_⟩
        · rw [List.mem_append, h3]
          constructor
          · rintro (⟨x, hx, y, hy, rfl⟩ | h)
            · exact ⟨x, by simp [hx], y, hy, rfl⟩
            · obtain ⟨y, hy, rfl⟩ := List.mem_map.mp h
              exact ⟨v, by simp, y, (List.mem_filter.mp hy).1, rfl⟩
          · rintro ⟨x, hx, y, hy, rfl⟩
            rcases List.mem_append.mp hx with hx | hx
            · exact .inl ⟨x, hx, y, hy, rfl⟩
            · have : x = v := by simpa using hx
              subst this
              by_cases c : x + y ∈ s
              · exact .inl ((h3 _).mp c)
              · exact .inr (List.mem_map.mpr ⟨y, List.mem_filter.mpr ⟨hy, by simpa using c⟩, rfl⟩)
        · rw [List.length_append, List.length_map, List.length_append, Nat.add_mul]
          simp
          omega
/-- moved and stretched -/
theorem l_far {n : Nat} {f : Fe} {b m : Int} {q : Q} (hf : f.lo.natAbs < 10 ^ 100 ∧ f.hi.natAbs < 10 ^ 100 ∧ f.st.natAbs < 10 ^ 100) (hb : b.natAbs < 10 ^ 100) : callV pg.prg gs (n+1) 30 [.v (fv f), .v (.int b), .v (.int m)] q = .ok (.v (fv (f.sc b m))) q := by
  rw [u_law_far]
  have p : (10 : Nat) ^ 100 < 10 ^ 200 := by decide +kernel
  have m1 : mulOk f.lo b = true := mulOk_bd (by omega) (by omega)
  have m2 : mulOk f.hi b = true := mulOk_bd (by omega) (by omega)
  have m3 : mulOk f.st b = true := mulOk_bd (by omega) (by omega)
  simp? [gs, d0_law_far, ixRV, i0, i1, i2, VI.mul_int m1, VI.mul_int m2, VI.mul_int m3]
  rfl
theorem l_isnum {n : Nat} {a : Int} {q : Q} : callV pg.prg gs (n+1) 24 [.v (.int a), .v (.int a)] q = .ok (.v (.bl true)) q := by
  rw [u_law_is_number]
  simp? [gs, d0_law_is_number, tyV, eq_int]
theorem l_is_int {n : Nat} {a : Int} {q : Q} : callV pg.prg gs (n+2) 23 [.v (.int a), .v (.int a)] q = .ok (.v (.bl true)) q := by
  rw [u_law_is]
  simp? [gs, d0_law_is, tyV, isNonV, l_isnum]
theorem l_is_non {n : Nat} {q : Q} : callV pg.prg gs (n+2) 23 [.v .non, .v .non] q = .ok (.v (.bl true)) q := by
  rw [u_law_is]
  simp? [gs, d0_law_is, tyV, isNonV]
theorem l_is_fv {n : Nat} {f : Fe} {q : Q} : callV pg.prg gs (n+2) 23 [.v (fv f), .v (fv f)] q = .ok (.v (.bl true)) q := by
  rw [u_law_is]
  have tu : tyV (fv f) = [.tuple] := rfl
  have nn : isNonV (fv f) = false := rfl
  have ln : bi1V .len (fv f) q = .ok (.v (.int 3)) q := rfl
  have i2 := i2 f
  have i1 := i1 f
  have i0 := i0 f
  have cp : compV (.v 2) [some (.v (fv f)), some (.v (fv f)), none] (cStepV (KV (n+1)) (.some t_law_is_1) e_law_is_1) (rngV 0 3) [] q = .ok [] q := by
    have : rngV 0 3 = [(0 : Int), 1, 2].map V.int := rfl
    rw [this]
    refine comp_at (fun _ => none) (by decide) fun x hx => ?_
    have hx : x = 0 ∨ x = 1 ∨ x = 2 := by simpa using hx
    rcases hx with rfl | rfl | rfl <;> simp? [gs, cturn, t_law_is_1, ixRV, i0, i1, i2, l_isnum]
  simp? [gs, d0_law_is, tu, nn, ln, eq_int, VI.rng1_ok (n := 3) (by decide) (by decide), cp]
theorem l_is_ov {n : Nat} {o : Option Fe} {q : Q} : callV pg.prg gs (n+2) 23 [.v (ov o), .v (ov o)] q = .ok (.v (.bl true)) q := by
  cases o with
  | none => exact l_is_non
  | some f => exact l_is_fv
theorem l_yes {n : Nat} {b : Bool} {q : Q} : callV pg.prg gs (n+1) 25 [.v (.bl b), .v (.bl b)] q = .ok (.v (.bl true)) q := by
  rw [u_law_yes]
  cases b <;> simp? [gs, d0_law_yes, isBlV]
end K72

set_option Elab.async false
set_option linter.all false
set_option maxRecDepth 100000
set_option maxHeartbeats 8000000
local macro_rules | `(tactic| simp? [$xs,*]) => `(tactic| simp -implicitDefEqProofs [VI.x_var, VI.x_int, VI.x_str, VI.x_bl, VI.x_non, VI.k_bin, VI.x_bin, VI.x_neg, VI.k_not, VI.x_not_f, VI.x_not_t, VI.k_cmp2, VI.k_cmp, VI.x_cmp, VI.k_ch3t, VI.k_ch3f, VI.k_ch2, VI.k_ch1, VI.x_chain, VI.x_boo, VI.k_ifet, VI.k_ifef, VI.x_ife, VI.x_tup, VI.x_lst, VI.k_call, VI.x_call, VI.x_bi, VI.x_isin, VI.k_ix, VI.x_ix, VI.k_sl3, VI.k_sl2, VI.k_sl1, VI.x_sl, VI.x_meth, VI.k_co, VI.x_comp, VI.x_cst, VI.x_lrg1, VI.k_lr, VI.x_lrg3, VI.x_lrg2, VI.x_xfld, VI.x_xis, VI.x_ts0, VI.k_ts2, VI.k_ts1, VI.x_ts, VI.x_ps0, VI.k_ps1, VI.x_ps1, VI.k_ps, VI.x_ps, VI.x_as0, VI.k_as2, VI.k_as1, VI.x_as, VI.x_bs1, VI.k_bstt, VI.k_bsff, VI.k_bstf, VI.k_bsft, VI.x_bs, VI.x_o0, VI.x_o, VI.x_c0, VI.x_c, VI.x_seq, VI.x_rng1, VI.k_rng, VI.x_rng2, VI.x_enum, VI.x_asg, VI.x_unl, VI.x_put, VI.x_expr, VI.x_retv, VI.x_retN, VI.k_ifft, VI.k_ifff, VI.x_iff, VI.x_for, VI.k_kill, VI.x_whl, VI.x_brk, VI.x_cnt, VI.x_pass, VI.x_rais, VI.x_try, VI.x_b0, VI.x_b, VI.x_h0, VI.x_h, VI.y_unl, VI.y_unb, VI.unl_t, VI.unl_l, VI.unl_c, VI.y_asg, VI.k_put, VI.y_put, VI.y_pute, VI.y_expr, VI.y_ret, VI.k_rais, VI.y_rais, VI.k_for, VI.y_for, VI.k_m, VI.xr_int, VI.ym_int, VI.xr_str, VI.ym_str, VI.xr_bl, VI.ym_bl, VI.xr_non, VI.ym_non, VI.xr_bin, VI.ym_bin, VI.xr_neg, VI.ym_neg, VI.xr_not, VI.ym_not, VI.xr_cmp, VI.ym_cmp, VI.xr_chain, VI.ym_chain, VI.xr_boo, VI.ym_boo, VI.xr_ife, VI.ym_ife, VI.xr_tup, VI.ym_tup, VI.xr_lst, VI.ym_lst, VI.xr_call, VI.ym_call, VI.xr_bi, VI.ym_bi, VI.xr_isin, VI.ym_isin, VI.xr_ix, VI.ym_ix, VI.xr_sl, VI.ym_sl, VI.xr_comp, VI.ym_comp, VI.xr_cst, VI.ym_cst, VI.xr_lrg1, VI.ym_lrg1, VI.xr_lrg2, VI.ym_lrg2, VI.xr_lrg3, VI.ym_lrg3, VI.xr_xfld, VI.ym_xfld, VI.xr_xis, VI.ym_xis, VI.ym_var, VI.xr_meth, VI.y_mv, VI.y_bind, VI.y_nx, VI.k_cs2, VI.k_cst, VI.k_csf, VI.y_cs, VI.y_cnd, VI.k_med, VI.y_methD, VI.b_ok, VI.b_exc, VI.f_ok, VI.f_exc, VI.t_nx, VI.t_rt, VI.t_bk, VI.t_ct, VI.t_ex, VI.o_nx, VI.o_rt, VI.o_ex, VI.u_nx, VI.u_rt, VI.u_ex, VI.s_nx, VI.s_rt, VI.fin_F, VI.fin_T, VI.tst_bl, VI.tst_int, VI.tst_tup, VI.tst_lst, VI.tst_own, VI.tst_bor, VI.tst_non, VI.tst_exc, VI.asB_bl, VI.asB_exc, VI.pk_v, VI.pk_own, VI.pk_bor, VI.pk_exc, VI.pkQ_v, VI.pkQ_own, VI.pkQ_bor, VI.pkQ_exc, VI.tk_v, VI.tk_own, VI.tk_exc, VI.pkQ_dr, VI.pt_T, VI.pt_F, VI.ag_v, VI.ag_own, VI.ag_bor, VI.ag_dr, VI.ag_exc, VI.gr_F, VI.gr_v, VI.gr_exc, VI.own_v, VI.own_own, VI.own_dr, VI.own_no, VI.vo_n, VI.vo_s, VI.own_vo, VI.frz_vo, VI.rt_v, VI.rt_own, VI.ofO_s, VI.ofB_s, VI.bind_v, VI.bind_own, VI.bind_dr, VI.bind_tp, VI.frz_v, VI.frz_own, VI.frz_dr, VI.frz_no, VI.add_int, VI.sub_int, VI.cmp_eq, VI.cmp_ne, VI.cmp_in, VI.cmp_nin, VI.cmp_isN, VI.cmp_isnN, VI.cmp_isB, VI.cmp_isnB, VI.cmp_lt, VI.cmp_le, VI.cmp_gt, VI.cmp_ge, VI.eq_str, VI.bi_1, VI.bi_2, VI.len_tup, VI.len_lst, VI.len_con, VI.bi_int, VI.bi_abs, VI.bi_tup, VI.bi_tupL, VI.bi_lst, VI.bi_lstL, VI.bi_max, VI.bi_min, VI.gcd_i, VI.sl_tup, VI.sl_lst, VI.int_o, VI.neg_i, VI.sq_tup, VI.sq_lst, VI.sq_con, VI.en_tup, VI.en_lst, VI.sqv_tup, VI.sqv_lst, VI.sqv_con, VI.isin_, VI.own_R, VI.kill0, VI.kill1, VI.frz_none, VI.frz_some, VI.frzI_none, VI.frzI_some, VI.frzL0, VI.frzL1, VI.tup_ok, VI.lst_ok, VI.lkV, VI.retLk, VI.ownAt, VI.esc, VI.escp, VI.escs, VI.escps, VI.escI, VI.escF, VI.le_0, VI.le_1, VI.le_2, VI.le_3, VI.le_4, VI.le_5, VI.le_6, VI.le_7, VI.le_8, VI.le_9, VI.le_10, VI.le_11, VI.le_12, VI.le_13, VI.le_14, VI.le_15, VI.le_16, K72.gs_0, K72.gs_1, K72.gs_2, K72.gs_3, K72.gs_4, K72.gs_5, K72.gs_6, K72.gs_7, K72.gs_8, K72.gs_9, K72.gs_10, K72.gs_11, K72.gs_12, K72.gs_13, K72.gs_14, K72.gs_15, K72.gs_16, K72.gs_17, K72.gs_18, K72.gs_19, K72.gs_20, K72.gs_21, K72.gs_22, K72.gs_23, K72.gs_24, K72.gs_25, K72.gs_26, K72.gs_27, K72.gs_28, K72.gs_29, K72.gs_30, K72.gs_31, K72.gs_32, K72.gs_33, K72.gs_34, K72.gs_35, K72.gs_36, K72.gs_37, K72.es_w_plain_form_1, K72.es_w_turned_by_1, K72.es_t_law_is_1, K72.es_e_law_is_1, K72.es_t_law_sums_1, K72.es_e_law_sums_1, K72.es_t_law_pair_right_1, K72.es_e_law_pair_right_1, K72.es_e_law_one_right_1, K72.es_e_law_one_right_2, K72.es_e_law_long_right_1, $xs,*])
/-! What the defs compute. -/

namespace K72
open PI PySem VI Fc
/-! ### two fences -/
structure Mv (b m : Int) : Prop where
  p : 0 < b
  b : b < 10 ^ 31
  m : m.natAbs < 10 ^ 36
theorem mul_bd {a b : Int} {A B : Int} (h : -A ≤ a) (h2 : a ≤ A) (h3 : 0 < b) (h4 : b ≤ B) (ha : 0 ≤ A) : -(A * B) ≤ a * b ∧ a * b ≤ A * B := by
  have e1 : a * b ≤ A * b := Int.mul_le_mul_of_nonneg_right h2 (by omega)
  have e2 : -A * b ≤ a * b := Int.mul_le_mul_of_nonneg_right h (by omega)
  have e3 : A * b ≤ A * B := Int.mul_le_mul_of_nonneg_left h4 ha
  rw [Int.neg_mul] at e2
  omega
theorem Sm.bd {f : Fe} {b m : Int} (s : Sm f) (v : Mv b m) : Bd (f.sc b m) := by
  have := s.ok.le; have := s.ok.nn; have := s.lo; have := s.hi; have := s.st
  obtain ⟨v1, v2, v3⟩ := v
  have x1 := mul_bd (a := f.lo) (b := b) (A := 200) (B := 10 ^ 31) (by omega) (by omega) v1 (by omega) (by decide)
  have x2 := mul_bd (a := f.hi) (b := b) (A := 200) (B := 10 ^ 31) (by omega) (by omega) v1 (by omega) (by decide)
  have x3 := mul_bd (a := f.st) (b := b) (A := 200) (B := 10 ^ 31) (by omega) (by omega) v1 (by omega) (by decide)
  refine ⟨?_, ?_, ?_⟩ <;> simp only [Fe.sc] <;> omega
theorem Bd.h {f : Fe} (h : Bd f) : f.lo.natAbs < 10 ^ 100 ∧ f.hi.natAbs < 10 ^ 100 ∧ f.st.natAbs < 10 ^ 100 := by
  have : (10 : Nat) ^ 60 < 10 ^ 100 := by decide +kernel
  exact ⟨by have := h.1; omega, by have := h.2.1; omega, by have := h.2.2; omega⟩
theorem Sm.h {f : Fe} (s : Sm f) : f.lo.natAbs < 10 ^ 100 ∧ f.hi.natAbs < 10 ^ 100 ∧ f.st.natAbs < 10 ^ 100 := by
  have := s.ok.le; have := s.ok.nn; have := s.lo; have := s.hi; have := s.st
  refine ⟨?_, ?_, ?_⟩ <;> omega
theorem Mv.b' {b m : Int} (v : Mv b m) : b.natAbs < 10 ^ 100 := by
  have := v.p; have := v.b
  have : (10 : Nat) ^ 31 < 10 ^ 100 := by decide +kernel
  omega
theorem sc_sm {f g : Fe} {b m : Int} (s : Sm g) (v : Mv b m) : (g.sc b m).st / ig (f.sc b m).st (g.sc b m).st ≤ 1000000 := by
  simp only [Fe.sc]
  rw [ig_mul _ _ _ (by have := v.p; omega), Int.mul_ediv_mul_of_pos_left _ _ v.p]
  have := Int.ediv_le_self (b := ig f.st g.st) s.ok.nn
  have := s.st
  omega
def com (f g : Fe) : List Int := (nums f).filter fun v => decide (v ∈ nums g)
theorem com_mem {f g : Fe} (s : Sm f) (t : Sm g) (v : Int) : v ∈ com f g ↔ f.has v ∧ g.has v := by
  unfold com
  rw [List.mem_filter, nums_mem s, decide_eq_true_iff, nums_mem t]
theorem com_sc {f g : Fe} {b m w : Int} (s : Sm f) (t : Sm g) (v : Mv b m) : ((f.sc b m).has w ∧ (g.sc b m).has w) ↔ w ∈ (com f g).map fun v => v * b + m := by
  rw [Fe.has_sc s.ok v.p, Fe.has_sc t.ok v.p, List.mem_map]
  constructor
  · rintro ⟨⟨x, rfl, hx⟩, y, e, hy⟩
    have : x = y := by
      have : x * b = y * b := by omega
      exact Int.eq_of_mul_eq_mul_right (by have := v.p; omega) this
    subst this
    exact ⟨x, (com_mem s t x).mpr ⟨hx, hy⟩, rfl⟩
  · rintro ⟨x, hx, rfl⟩
    obtain ⟨h1, h2⟩ := (com_mem s t x).mp hx
    exact ⟨⟨x, rfl, h1⟩, x, rfl, h2⟩
theorem cm_due {f g : Fe} {b m : Int} {o : Option Fe} (s : Sm f) (t : Sm g) (v : Mv b m) (c : Cm (f.sc b m) (g.sc b m) o) : (com f g = [] ∧ o = none) ∨ ∃ H, Sp (com f g) H ∧ o = some (H.sc b m) ∧ com f g ≠ [] ∧ (H.sc b m).Ok ∧ Wi (H.sc b m) (f.sc b m) ∧ Wi (H.sc b m) (g.sc b m) := by
  by_cases z : com f g = []
  · refine .inl ⟨z, ?_⟩
    cases o with
    | none => rfl
    | some h =>
      have := (com_sc s t v).mp ((c.2 _).mp c.1.has_lo)
      rw [z] at this
      cases this
  · refine .inr ⟨_, sp_plain z, ?_⟩
    have sp := (sp_plain z).sc (m := m) v.p
    cases o with
    | none =>
      obtain ⟨x, hx⟩ := List.exists_mem_of_ne_nil _ z
      exact absurd ((com_sc s t v).mpr (List.mem_map.mpr ⟨x, hx, rfl⟩)) (c _)
    | some h =>
      have sp2 : Sp _ h := c.1.sp (l := (com f g).map fun v => v * b + m) fun w => by rw [c.2, com_sc s t v]
      have e := sp2.uniq sp
      subst e
      exact ⟨rfl, z, c.1, fun w hw => ((c.2 w).mp hw).1, fun w hw => ((c.2 w).mp hw).2⟩
theorem Cm.symm {f g : Fe} {o : Option Fe} (c : Cm f g o) : Cm g f o := by
  cases o with
  | none => exact fun v h => c v ⟨h.2, h.1⟩
  | some h => exact ⟨c.1, fun v => by rw [c.2, and_comm]⟩
theorem pl_sc {f g : Fe} {b m : Int} (hb : 0 ≤ b) : (f.pl g).sc b (2 * m) = (f.sc b m).pl (g.sc b m) := by
  simp only [Fe.pl, Fe.sc, ig_mul _ _ _ hb, Int.add_mul]
  congr 1 <;> omega
theorem min_sc {a c b m : Int} (hb : 0 < b) : min (a * b + m) (c * b + m) = min a c * b + m := by
  rcases Int.le_total a c with h | h
  · have := Int.mul_le_mul_of_nonneg_right h (show 0 ≤ b by omega)
    rw [Int.min_eq_left h, Int.min_eq_left (by omega)]
  · have := Int.mul_le_mul_of_nonneg_right h (show 0 ≤ b by omega)
    rw [Int.min_eq_right h, Int.min_eq_right (by omega)]
theorem max_sc {a c b m : Int} (hb : 0 < b) : max (a * b + m) (c * b + m) = max a c * b + m := by
  rcases Int.le_total a c with h | h
  · have := Int.mul_le_mul_of_nonneg_right h (show 0 ≤ b by omega)
    rw [Int.max_eq_right h, Int.max_eq_right (by omega)]
  · have := Int.mul_le_mul_of_nonneg_right h (show 0 ≤ b by omega)
    rw [Int.max_eq_left h, Int.max_eq_left (by omega)]
theorem ei_sc {f g : Fe} {b m : Int} (hb : 0 < b) : (f.ei g).sc b m = (f.sc b m).ei (g.sc b m) := by
  simp only [Fe.ei, Fe.sc, ig_mul _ _ _ (Int.le_of_lt hb), min_sc hb, max_sc hb]
  rw [show g.lo * b + m - (f.lo * b + m) = (g.lo - f.lo) * b by rw [Int.sub_mul]; omega, ig_mul _ _ _ (Int.le_of_lt hb)]
theorem Sm.bs {f : Fe} (s : Sm f) : Bs (nums f) := fun v hv => by
  have hv := (nums_mem s v).mp hv
  have := hv.1; have := hv.2.1; have := s.lo; have := s.hi
  have : (1000 : Nat) < 2 ^ 140 := by decide
  omega
theorem pl_h {f g : Fe} (s : Sm f) (t : Sm g) : (f.pl g).lo.natAbs < 10 ^ 100 ∧ (f.pl g).hi.natAbs < 10 ^ 100 ∧ (f.pl g).st.natAbs < 10 ^ 100 := by
  have := s.ok.le; have := s.lo; have := s.hi; have := s.ok.nn; have := s.st
  have := t.ok.le; have := t.lo; have := t.hi; have := t.ok.nn; have := t.st
  have h0 := ig_nn f.st g.st
  have h1 : (ig f.st g.st).natAbs < 10 ^ 100 := by
    unfold ig
    rw [Int.natAbs_natCast]
    rcases Nat.eq_zero_or_pos f.st.natAbs with z | z
    · rw [z, Nat.gcd_zero_left]; omega
    · exact Nat.lt_of_le_of_lt (Nat.gcd_le_left _ z) (by omega)
  refine ⟨?_, ?_, h1⟩ <;> simp only [Fe.pl] <;> omega
theorem sp_h {l : List Int} {f : Fe} (sp : Sp l f) (h : ∀ v ∈ l, v.natAbs ≤ 1000) : f.lo.natAbs < 10 ^ 100 ∧ f.hi.natAbs < 10 ^ 100 ∧ f.st.natAbs < 10 ^ 100 := by
  have h1 := h _ sp.lo
  have h2 := h _ sp.hi
  have h3 : f.st ∣ f.hi - f.lo := by
    have : f.st ∣ gg f.lo l 0 := by rw [← sp.st]; exact Int.dvd_refl _
    exact (dvd_gg.mp this).2 _ sp.hi
  have h4 : 0 ≤ f.st := by rw [sp.st]; exact gg_nn (Int.le_refl 0)
  refine ⟨by omega, by omega, ?_⟩
  rcases Int.lt_or_le f.lo f.hi with h5 | h5
  · have := Int.le_of_dvd (by omega) h3
    omega
  · have e : f.st = 0 := by
      rw [sp.st]
      refine nn_ext (gg_nn (Int.le_refl 0)) (Int.le_refl 0) fun d => ⟨fun _ => Int.dvd_zero d, fun _ => dvd_gg.mpr ⟨Int.dvd_zero d, fun v hv => ?_⟩⟩
      have := sp.bd v hv
      rw [show v - f.lo = 0 by omega]
      exact Int.dvd_zero d
    rw [e]; decide
theorem Sm.small {f : Fe} (s : Sm f) : ∀ v ∈ nums f, v.natAbs ≤ 200 := fun v hv => by
  have hv := (nums_mem s v).mp hv
  have := hv.1; have := hv.2.1; have := s.lo; have := s.hi
  omega
theorem small_bs {l : List Int} (h : ∀ v ∈ l, v.natAbs ≤ 1000) : Bs l := fun v hv => by
  have := h v hv
  have : (1000 : Nat) < 2 ^ 140 := by decide
  omega
theorem Sm.len {f : Fe} (s : Sm f) : (nums f).length ≤ 301 := by
  have := nums_len s
  have := size_le s
  omega
theorem noL_fv {f : Fe} : noL (fv f) = true := rfl
theorem noL_non : noL .non = true := rfl
theorem isNon_fv {f : Fe} : isNonV (fv f) = false := rfl
theorem l_pair {n : Nat} {f g : Fe} {b m : Int} {q : Q} (s : Sm f) (t : Sm g) (v : Mv b m) : callV pg.prg gs (n+6) 31 [.v (fv f), .v (fv g), .v (.int b), .v (.int m)] q = .ok (.v (.bl true)) q := by
  rw [u_law_pair_right]
  have F := s.ok.sc (m := m) v.p
  have G := t.ok.sc (m := m) v.p
  have bF := s.bd v
  have bG := t.bd v
  have lf := l_far (n := n+4) (b := b) (m := m) (q := q) s.h v.b'
  have lg := l_far (n := n+4) (b := b) (m := m) (q := q) t.h v.b'
  have n1 := l_numbers (n := n+4) (q := q) s
  have n2 := l_numbers (n := n+4) (q := q) t
  obtain ⟨o1, m1, c1⟩ := r_met (n := n+1) (q := q) (.t _) (.l _) F G bF bG (sc_sm t v)
  obtain ⟨o2, m2, c2⟩ := r_met (n := n+1) (q := q) (.t _) (.t _) G F bG bF (sc_sm s v)
  obtain ⟨w, w1, w2⟩ := r_within (n := n+1) (q := q) (.l _) (.t _) F G
  have lenc : (com f g).length ≤ 301 := Nat.le_trans (List.length_filter_le _ _) s.len
  have sl := s.len
  have tl := t.len
  have wkN := VI.wlk_ok (vs := (nums f).map V.int) (q := q) (by rw [List.length_map]; omega)
  have cp : compV (.v 7) [some (.v (fv f)), some (.v (fv g)), some (.v (.int b)), some (.v (.int m)), some (.v (.lst ((nums f).map V.int))), some (.v (.lst ((nums g).map V.int))), none, none, none, none, none] (cStepV (KV (n+5)) (.some t_law_pair_right_1) e_law_pair_right_1) ((nums f).map V.int) [] q = .ok ((com f g).map V.int) q := by
    refine comp_atF _ _ (by unfold SL; omega) fun y hy => ?_
    by_cases c : y ∈ nums g <;> simp? [gs, cturn, t_law_pair_right_1, e_law_pair_right_1, in_ints.1, c]
  have wd : w = decide (((com f g).length : Int) = ((nums f).length : Int)) := by
    rw [Bool.eq_iff_iff, w2, decide_eq_true_iff]
    have : (((com f g).length : Int) = ((nums f).length : Int)) ↔ (com f g).length = (nums f).length := by omega
    rw [this]
    unfold com
    rw [List.length_filter_eq_length_iff]
    constructor
    · intro h x hx
      rw [decide_eq_true_iff, nums_mem t]
      have := h (x * b + m) ((Fe.has_sc s.ok v.p).mpr ⟨x, rfl, (nums_mem s x).mp hx⟩)
      obtain ⟨y, e, hy⟩ := (Fe.has_sc t.ok v.p).mp this
      have : x = y := by
        have : x * b = y * b := by omega
        exact Int.eq_of_mul_eq_mul_right (by have := v.p; omega) this
      rw [this]; exact hy
    · intro h z hz
      obtain ⟨x, rfl, hx⟩ := (Fe.has_sc s.ok v.p).mp hz
      have := h x ((nums_mem s x).mpr hx)
      rw [decide_eq_true_iff, nums_mem t] at this
      exact (Fe.has_sc t.ok v.p).mpr ⟨x, rfl, this⟩
  obtain ⟨ss, s1, s2, s3⟩ := l_sums (n := n+3) (l := nums f) (m := nums g) (q := q) (by omega) (by omega)
  have s3' : ss.length ≤ 301 * 301 := Nat.le_trans s3 (Nat.mul_le_mul sl tl)
  have spS := (nums_sp s).pl (nums_sp t) s2
  have sbS : ∀ v ∈ ss, v.natAbs ≤ 1000 := fun x hx => by
    obtain ⟨a, ha, c, hc, rfl⟩ := (s2 x).mp hx
    have := s.small a ha
    have := t.small c hc
    omega
  have leS := l_least (n := n+3) (q := q) spS (small_bs sbS) (by omega)
  have m2m : binV .mul (.int 2) (.int m) q = .ok (.v (.int (2 * m))) q := VI.mul_int (mulOk2 m)
  have lfS := l_far (n := n+4) (b := b) (m := 2 * m) (q := q) (sp_h spS sbS) v.b'
  rw [pl_sc (by have := v.p; omega)] at lfS
  have bh := r_behind (n := n+1) (q := q) (.t _) F (.t _) G
  have ab : ((nums f).map V.int).length + ((nums g).map V.int).length ≤ SL := by rw [List.length_map, List.length_map]; unfold SL; omega
  have spE := (nums_sp s).ei (nums_sp t)
  have sbE : ∀ v ∈ nums f ++ nums g, v.natAbs ≤ 1000 := fun x hx => by
    rcases List.mem_append.mp hx with h | h
    · have := s.small x h; omega
    · have := t.small x h; omega
  have leE := l_least (n := n+3) (q := q) spE (small_bs sbE) (by rw [List.length_append]; omega)
  rw [List.map_append] at leE
  have lfE := l_far (n := n+4) (b := b) (m := m) (q := q) (sp_h spE sbE) v.b'
  rw [ei_sc v.p] at lfE
  have ei := r_either (n := n+1) (q := q) (.l _) F (.t _) G
  have isf := l_is_fv (n := n+3) (f := (f.sc b m).pl (g.sc b m)) (q := q)
  have ise := l_is_fv (n := n+3) (f := (f.sc b m).ei (g.sc b m)) (q := q)
  have bl : ∀ h : Fe, bi1V .list (fv h) q = .ok (.own [.int h.lo, .int h.hi, .int h.st]) q := fun h => rfl
  have flE : ∀ h : Fe, fl h = .lst [.int h.lo, .int h.hi, .int h.st] := fun h => rfl
  rw [flE] at m1 w1 ei
  have yes := l_yes (n := n+4) (b := w) (q := q)
  have io1 := l_is_ov (n := n+3) (o := o1) (q := q)
  have io2 := l_is_ov (n := n+3) (o := o2) (q := q)
  have cl : bi1V .len (.lst ((com f g).map V.int)) q = .ok (.v (.int ((com f g).length : Int))) q := by rw [VI.len_lst, List.length_map]
  have nl : bi1V .len (.lst ((nums f).map V.int)) q = .ok (.v (.int ((nums f).length : Int))) q := by rw [VI.len_lst, List.length_map]
  rcases cm_due s t v c1 with ⟨z, rfl⟩ | ⟨H, sp, rfl, ne, hO, hF, hG⟩
  · have e2 : o2 = none := by
      rcases cm_due s t v c2.symm with ⟨_, e⟩ | ⟨H, _, _, ne, _⟩
      · exact e
      · exact absurd z ne
    subst e2
    have le := l_least0 (n := n+3) (q := q)
    have ovn : ov none = .non := rfl
    rw [ovn] at m1 m2 io1 io2
    have eqw : eqV (.int 0) (.int ((nums f).length : Int)) = some w := by rw [eq_int, wd, z]; rfl
    rw [z] at cp
    have c0 : List.map V.int ([] : List Int) = [] := rfl
    rw [c0] at cp
    simp? [gs, noL_fv, noL_non, d0_law_pair_right, n1, n2, wkN, cp, lf, lg, le, bl, m1, m2, io1, io2, isNonV, w1, nl, eqw, yes, s1, leS, m2m, lfS, bh, isf, VI.add_lst ab, leE, lfE, ei, ise]
  · have e2 : o2 = some (H.sc b m) := by
      rcases cm_due s t v c2.symm with ⟨z, _⟩ | ⟨H2, sp2, e, _⟩
      · exact absurd z ne
      · rw [e, sp.uniq sp2]
    subst e2
    have sbC : ∀ v ∈ com f g, v.natAbs ≤ 1000 := fun x hx => by
      have := s.small x (List.mem_filter.mp hx).1
      omega
    have le := l_least (n := n+3) (q := q) sp (small_bs sbC) (by omega)
    have lfH := l_far (n := n+4) (b := b) (m := m) (q := q) (sp_h sp sbC) v.b'
    have ovs : ∀ h : Fe, ov (some h) = fv h := fun _ => rfl
    rw [ovs] at m1 m2 io1 io2
    obtain ⟨x1, x2, x3⟩ := r_within (n := n+1) (q := q) (.t _) (.t _) hO F
    obtain ⟨y1, y2, y3⟩ := r_within (n := n+1) (q := q) (.t _) (.t _) hO G
    rw [x3.mpr hF] at x2
    rw [y3.mpr hG] at y2
    have eqw : eqV (.int ((com f g).length : Int)) (.int ((nums f).length : Int)) = some w := by rw [eq_int, wd]
    simp? [gs, noL_fv, noL_non, d0_law_pair_right, n1, n2, wkN, cp, lf, lg, le, bl, m1, m2, io1, io2, isNon_fv, lfH, w1, cl, nl, eqw, yes, x2, y2, isBlV, s1, leS, m2m, lfS, bh, isf, VI.add_lst ab, leE, lfE, ei, ise]
end K72

set_option Elab.async false
set_option linter.all false
set_option maxRecDepth 100000
set_option maxHeartbeats 8000000
local macro_rules | `(tactic| simp? [$xs,*]) => `(tactic| simp -implicitDefEqProofs [VI.x_var, VI.x_int, VI.x_str, VI.x_bl, VI.x_non, VI.k_bin, VI.x_bin, VI.x_neg, VI.k_not, VI.x_not_f, VI.x_not_t, VI.k_cmp2, VI.k_cmp, VI.x_cmp, VI.k_ch3t, VI.k_ch3f, VI.k_ch2, VI.k_ch1, VI.x_chain, VI.x_boo, VI.k_ifet, VI.k_ifef, VI.x_ife, VI.x_tup, VI.x_lst, VI.k_call, VI.x_call, VI.x_bi, VI.x_isin, VI.k_ix, VI.x_ix, VI.k_sl3, VI.k_sl2, VI.k_sl1, VI.x_sl, VI.x_meth, VI.k_co, VI.x_comp, VI.x_cst, VI.x_lrg1, VI.k_lr, VI.x_lrg3, VI.x_lrg2, VI.x_xfld, VI.x_xis, VI.x_ts0, VI.k_ts2, VI.k_ts1, VI.x_ts, VI.x_ps0, VI.k_ps1, VI.x_ps1, VI.k_ps, VI.x_ps, VI.x_as0, VI.k_as2, VI.k_as1, VI.x_as, VI.x_bs1, VI.k_bstt, VI.k_bsff, VI.k_bstf, VI.k_bsft, VI.x_bs, VI.x_o0, VI.x_o, VI.x_c0, VI.x_c, VI.x_seq, VI.x_rng1, VI.k_rng, VI.x_rng2, VI.x_enum, VI.x_asg, VI.x_unl, VI.x_put, VI.x_expr, VI.x_retv, VI.x_retN, VI.k_ifft, VI.k_ifff, VI.x_iff, VI.x_for, VI.k_kill, VI.x_whl, VI.x_brk, VI.x_cnt, VI.x_pass, VI.x_rais, VI.x_try, VI.x_b0, VI.x_b, VI.x_h0, VI.x_h, VI.y_unl, VI.y_unb, VI.unl_t, VI.unl_l, VI.unl_c, VI.y_asg, VI.k_put, VI.y_put, VI.y_pute, VI.y_expr, VI.y_ret, VI.k_rais, VI.y_rais, VI.k_for, VI.y_for, VI.k_m, VI.xr_int, VI.ym_int, VI.xr_str, VI.ym_str, VI.xr_bl, VI.ym_bl, VI.xr_non, VI.ym_non, VI.xr_bin, VI.ym_bin, VI.xr_neg, VI.ym_neg, VI.xr_not, VI.ym_not, VI.xr_cmp, VI.ym_cmp, VI.xr_chain, VI.ym_chain, VI.xr_boo, VI.ym_boo, VI.xr_ife, VI.ym_ife, VI.xr_tup, VI.ym_tup, VI.xr_lst, VI.ym_lst, VI.xr_call, VI.ym_call, VI.xr_bi, VI.ym_bi, VI.xr_isin, VI.ym_isin, VI.xr_ix, VI.ym_ix, VI.xr_sl, VI.ym_sl, VI.xr_comp, VI.ym_comp, VI.xr_cst, VI.ym_cst, VI.xr_lrg1, VI.ym_lrg1, VI.xr_lrg2, VI.ym_lrg2, VI.xr_lrg3, VI.ym_lrg3, VI.xr_xfld, VI.ym_xfld, VI.xr_xis, VI.ym_xis, VI.ym_var, VI.xr_meth, VI.y_mv, VI.y_bind, VI.y_nx, VI.k_cs2, VI.k_cst, VI.k_csf, VI.y_cs, VI.y_cnd, VI.k_med, VI.y_methD, VI.b_ok, VI.b_exc, VI.f_ok, VI.f_exc, VI.t_nx, VI.t_rt, VI.t_bk, VI.t_ct, VI.t_ex, VI.o_nx, VI.o_rt, VI.o_ex, VI.u_nx, VI.u_rt, VI.u_ex, VI.s_nx, VI.s_rt, VI.fin_F, VI.fin_T, VI.tst_bl, VI.tst_int, VI.tst_tup, VI.tst_lst, VI.tst_own, VI.tst_bor, VI.tst_non, VI.tst_exc, VI.asB_bl, VI.asB_exc, VI.pk_v, VI.pk_own, VI.pk_bor, VI.pk_exc, VI.pkQ_v, VI.pkQ_own, VI.pkQ_bor, VI.pkQ_exc, VI.tk_v, VI.tk_own, VI.tk_exc, VI.pkQ_dr, VI.pt_T, VI.pt_F, VI.ag_v, VI.ag_own, VI.ag_bor, VI.ag_dr, VI.ag_exc, VI.gr_F, VI.gr_v, VI.gr_exc, VI.own_v, VI.own_own, VI.own_dr, VI.own_no, VI.vo_n, VI.vo_s, VI.own_vo, VI.frz_vo, VI.rt_v, VI.rt_own, VI.ofO_s, VI.ofB_s, VI.bind_v, VI.bind_own, VI.bind_dr, VI.bind_tp, VI.frz_v, VI.frz_own, VI.frz_dr, VI.frz_no, VI.add_int, VI.sub_int, VI.cmp_eq, VI.cmp_ne, VI.cmp_in, VI.cmp_nin, VI.cmp_isN, VI.cmp_isnN, VI.cmp_isB, VI.cmp_isnB, VI.cmp_lt, VI.cmp_le, VI.cmp_gt, VI.cmp_ge, VI.eq_str, VI.bi_1, VI.bi_2, VI.len_tup, VI.len_lst, VI.len_con, VI.bi_int, VI.bi_abs, VI.bi_tup, VI.bi_tupL, VI.bi_lst, VI.bi_lstL, VI.bi_max, VI.bi_min, VI.gcd_i, VI.sl_tup, VI.sl_lst, VI.int_o, VI.neg_i, VI.sq_tup, VI.sq_lst, VI.sq_con, VI.en_tup, VI.en_lst, VI.sqv_tup, VI.sqv_lst, VI.sqv_con, VI.isin_, VI.own_R, VI.kill0, VI.kill1, VI.frz_none, VI.frz_some, VI.frzI_none, VI.frzI_some, VI.frzL0, VI.frzL1, VI.tup_ok, VI.lst_ok, VI.lkV, VI.retLk, VI.ownAt, VI.esc, VI.escp, VI.escs, VI.escps, VI.escI, VI.escF, VI.le_0, VI.le_1, VI.le_2, VI.le_3, VI.le_4, VI.le_5, VI.le_6, VI.le_7, VI.le_8, VI.le_9, VI.le_10, VI.le_11, VI.le_12, VI.le_13, VI.le_14, VI.le_15, VI.le_16, K72.gs_0, K72.gs_1, K72.gs_2, K72.gs_3, K72.gs_4, K72.gs_5, K72.gs_6, K72.gs_7, K72.gs_8, K72.gs_9, K72.gs_10, K72.gs_11, K72.gs_12, K72.gs_13, K72.gs_14, K72.gs_15, K72.gs_16, K72.gs_17, K72.gs_18, K72.gs_19, K72.gs_20, K72.gs_21, K72.gs_22, K72.gs_23, K72.gs_24, K72.gs_25, K72.gs_26, K72.gs_27, K72.gs_28, K72.gs_29, K72.gs_30, K72.gs_31, K72.gs_32, K72.gs_33, K72.gs_34, K72.gs_35, K72.gs_36, K72.gs_37, K72.es_w_plain_form_1, K72.es_w_turned_by_1, K72.es_t_law_is_1, K72.es_e_law_is_1, K72.es_t_law_sums_1, K72.es_e_law_sums_1, K72.es_t_law_pair_right_1, K72.es_e_law_pair_right_1, K72.es_e_law_one_right_1, K72.es_e_law_one_right_2, K72.es_e_law_long_right_1, $xs,*])
/-! What the defs compute. -/

namespace K72
open PI PySem VI Fc
theorem pw20 {q : Q} : binV .pow (.int 10) (.int 20) q = .ok (.v (.int 100000000000000000000)) q := by rfl
/-- all that a fence's numbers, moved and stretched, give -/
def scl (f : Fe) (b m : Int) : List Int := (nums f).map fun v => v * b + m
theorem scl_sp {f : Fe} {b m : Int} (s : Sm f) (v : Mv b m) : Sp (scl f b m) (f.sc b m) := (nums_sp s).sc v.p
theorem scl_bd {f : Fe} {b m : Int} (s : Sm f) (v : Mv b m) : ∀ x ∈ scl f b m, x.natAbs < 10 ^ 37 := fun x hx => by
  obtain ⟨y, hy, rfl⟩ := List.mem_map.mp hx
  have := s.small y hy
  obtain ⟨v1, v2, v3⟩ := v
  have x1 := mul_bd (a := y) (b := b) (A := 200) (B := 10 ^ 31) (by omega) (by omega) v1 (by omega) (by decide)
  omega
theorem bd_bs {l : List Int} (h : ∀ x ∈ l, x.natAbs < 10 ^ 37) : Bs l := fun v hv => by
  have := h v hv
  have : (10 : Nat) ^ 37 < 2 ^ 140 := by decide
  omega
theorem hb_sc {f : Fe} {b m j : Int} (s : Sm f) (v : Mv b m) : hb (f.sc b m) (j * b + m) = decide (j ∈ nums f) := by
  rw [Bool.eq_iff_iff, hb_iff (s.ok.sc v.p), decide_eq_true_iff, nums_mem s, Fe.has_sc s.ok v.p]
  constructor
  · rintro ⟨x, e, h⟩
    have : j * b = x * b := by omega
    rw [Int.eq_of_mul_eq_mul_right (by have := v.p; omega) this]
    exact h
  · exact fun h => ⟨j, rfl, h⟩
theorem hb_sc1 {f : Fe} {b m j : Int} (s : Sm f) (v : Mv b m) (h1 : 1 < b) : hb (f.sc b m) (j * b + m + 1) = false := by
  cases w : hb (f.sc b m) (j * b + m + 1) with
  | false => rfl
  | true =>
    obtain ⟨x, e, _⟩ := (Fe.has_sc s.ok v.p).mp ((hb_iff (s.ok.sc v.p)).mp w)
    have e1 : (x - j) * b = 1 := by rw [Int.sub_mul]; omega
    have : b ∣ 1 := ⟨x - j, by rw [Int.mul_comm]; exact e1.symm⟩
    have := Int.le_of_dvd (by decide) this
    omega
def tms (f : Fe) (k : Int) : Fe := ⟨k * f.lo, k * f.hi, f.st⟩
theorem tms_sc {f : Fe} {b m k : Int} : (tms f k).sc b (k * m) = tms (f.sc b m) k := by
  simp only [tms, Fe.sc, Int.mul_add, Int.mul_assoc]
theorem size_sc {f : Fe} {b m : Int} (v : Mv b m) : sizeF (f.sc b m) = sizeF f := by
  unfold sizeF
  have e : (f.sc b m).st = 0 ↔ f.st = 0 := by
    simp only [Fe.sc]
    rw [Int.mul_eq_zero]
    have := v.p
    omega
  by_cases z : f.st = 0
  · rw [if_pos z, if_pos (e.mpr z)]
  · rw [if_neg z, if_neg (fun h => z (e.mp h))]
    simp only [Fe.sc]
    rw [show f.hi * b + m - (f.lo * b + m) = (f.hi - f.lo) * b by rw [Int.sub_mul]; omega, Int.mul_ediv_mul_of_pos_left _ _ v.p]
/-- the sums of k numbers -/
def tm (f : Fe) (k : Nat) : Fe := ⟨k * f.lo, k * f.hi, if k = 0 then 0 else f.st⟩
theorem tm_0 {f : Fe} : Sp [0] (tm f 0) := by
  have : tm f 0 = ⟨0, 0, 0⟩ := by simp [tm]
  rw [this]
  exact ⟨by decide, by decide, by decide, by decide⟩
theorem tm_pl {f : Fe} {k : Nat} (ok : f.Ok) : f.pl (tm f k) = tm f (k + 1) := by
  have e : ig f.st (if k = 0 then 0 else f.st) = f.st := by
    split
    · exact ig_zero _ ok.nn
    · exact nn_ext (ig_nn _ _) ok.nn fun d => by rw [dvd_ig]; simp
  simp only [Fe.pl, tm, e]
  congr 1
  · rw [Int.natCast_add, Int.add_mul]; omega
  · rw [Int.natCast_add, Int.add_mul]; omega
theorem r_times' {n : Nat} {F : Fe} {k : Int} {q : Q} (ok : F.Ok) (bd : Bd F) (hk : 1 ≤ k) (hk2 : k < 10 ^ 100) : callV pg.prg gs (n+4) 19 [.v (fv F), .v (.int k)] q = .ok (.v (fv (tms F k))) q := r_times (.t F) ok bd hk hk2
theorem l_one {n : Nat} {f : Fe} {b m : Int} {ds : List Int} (s : Sm f) (ct : sizeF f ≤ 8) (v : Mv b m) : ∃ ds', callV pg.prg gs (n+6) 32 [.v (fv f), .v (.int b), .v (.int m), .dr] (QD ds) = .ok (.v (.bl true)) (QD ds') := by
  rw [u_law_one_right]
  have F := s.ok.sc (m := m) v.p
  have bF := s.bd v
  have sl := s.len
  have spH := scl_sp s v
  have bdH := scl_bd s v
  have lH : (scl f b m).length ≤ 301 := by unfold scl; rw [List.length_map]; exact sl
  have lH0 : 0 < (scl f b m).length := by
    have := spH.lo
    cases w : scl f b m with
    | nil => rw [w] at this; cases this
    | cons _ _ => simp
  have wkN : ∀ q, wlk ((nums f).map V.int) q = .ok ((nums f).map V.int) q := fun q => VI.wlk_ok (by rw [List.length_map]; omega)
  have lf := l_far (n := n+4) (b := b) (m := m) (q := QD ds) s.h v.b'
  have n1 := l_numbers (n := n+4) (q := QD ds) s
  have mb : ∀ (j : Int) (q : Q), -1000 ≤ j → j ≤ 1000 → binV .mul (.int j) (.int b) q = .ok (.v (.int (j * b))) q := fun j q h1 h2 => VI.mul_int (mulOk_s (by omega) (by omega))
  have cp1 : compV (.v 7) [some (.v (fv f)), some (.v (.int b)), some (.v (.int m)), some .dr, some (.own ((nums f).map V.int)), some (.v (fv (f.sc b m))), none, none, none, none, none, none] (cStepV (KV (n+5)) .none e_law_one_right_2) ((nums f).map V.int) [] (QD ds) = .ok ((scl f b m).map V.int) (QD ds) := by
    have e : (scl f b m).map V.int = (nums f).map fun y => V.int (y * b + m) := by unfold scl; simp
    rw [e]
    refine comp_atM _ (by unfold SL; omega) fun y hy => ?_
    have := s.small y hy
    simp? [gs, cturn, e_law_one_right_2, mb y _ (by omega) (by omega)]
  obtain ⟨r2, q2, cp2, hs, hin, rfl, hl3, ds2, hq⟩ : ∃ r2 q2, compV (.v 9) [some (.v (fv f)), some (.v (.int b)), some (.v (.int m)), some .dr, some (.own ((nums f).map V.int)), some (.v (fv (f.sc b m))), some (.own ((scl f b m).map V.int)), none, none, none, none, none] (cStepV (KV (n+5)) .none e_law_one_right_1) (rngV 0 3) [] (QD ds) = .ok r2 q2 ∧ ∃ hs : List Int, (∀ x ∈ hs, x ∈ scl f b m) ∧ r2 = hs.map V.int ∧ hs.length ≤ 3 ∧ ∃ ds2, q2 = QD ds2 := by
    obtain ⟨vs, q2, e, h⟩ := comp_res (fun l acc q => ∃ hs : List Int, (∀ x ∈ hs, x ∈ scl f b m) ∧ acc = hs.map V.int ∧ hs.length + l.length ≤ 3 ∧ ∃ ds2, q = QD ds2) (t := .v 9) (e := [some (.v (fv f)), some (.v (.int b)), some (.v (.int m)), some .dr, some (.own ((nums f).map V.int)), some (.v (fv (f.sc b m))), some (.own ((scl f b m).map V.int)), none, none, none, none, none]) (step := cStepV (KV (n+5)) .none e_law_one_right_1) (l := rngV 0 3) (q := QD ds) rfl (by decide) ⟨[], by simp, rfl, by decide, ds, rfl⟩ (by
      rintro x l acc q ⟨hs, h1, rfl, h3, ds2, rfl⟩
      have tk := law_take (n := n+4) (ds := ds2) (m := 30) (by decide)
      have l1 : (0 : Int) < ((scl f b m).length : Int) := by omega
      have ln : bi1V .len (.lst ((scl f b m).map V.int)) (QD ds2.dropLast) = .ok (.v (.int ((scl f b m).length : Int))) (QD ds2.dropLast) := by rw [VI.len_lst, List.length_map]
      obtain ⟨w, hw, ix⟩ := ix_in (l := (scl f b m).map V.int) (k := tkv ds2 30 % ((scl f b m).length : Int)) (Int.emod_nonneg _ (by omega)) (by rw [List.length_map]; exact Int.emod_lt_of_pos _ l1)
      obtain ⟨y, hy, rfl⟩ := List.mem_map.mp hw
      refine ⟨some (.int y), QD ds2.dropLast, ?_, hs ++ [y], ?_, by simp, by simp at h3 ⊢; omega, _, rfl⟩
      · simp? [gs, cturn, e_law_one_right_1, tk, ln, VI.mod_int l1, ix, ixRV]
      · intro z hz
        rcases List.mem_append.mp hz with h | h
        · exact h1 z h
        · rw [List.mem_singleton.mp h]; exact hy)
    obtain ⟨hs, a1, a2, a3, a4⟩ := h
    exact ⟨vs, q2, e, hs, a1, a2, by simpa using a3, a4⟩
  subst hq
  obtain ⟨SM, hSM⟩ : ∃ SM, SM = (scl f b m).take 1 ++ hs := ⟨_, rfl⟩
  have ct1 : cut ((scl f b m).map V.int) none (some 1) = ((scl f b m).map V.int).take 1 := VI.cut_to _ 1
  have SMin : ∀ x ∈ SM, x ∈ scl f b m := fun x hx => by
    rw [hSM] at hx
    rcases List.mem_append.mp hx with h | h
    · exact List.mem_of_mem_take h
    · exact hin x h
  have SMl : SM.length ≤ 4 := by rw [hSM, List.length_append, List.length_take]; omega
  have SMne : SM ≠ [] := by
    rw [hSM]
    cases w : scl f b m with
    | nil => rw [w] at lH0; cases lH0
    | cons _ _ => simp
  have ad1 : ∀ q, binV .add (.lst (((scl f b m).map V.int).take 1)) (.lst (hs.map V.int)) q = .ok (.own (SM.map V.int)) q := fun q => by
    rw [← List.map_take, VI.add_lst (by rw [List.length_map, List.length_map, List.length_take]; unfold SL; omega), hSM, List.map_append]
  have ad2 : ∀ q, binV .add (.lst ((scl f b m).map V.int)) (.lst (SM.map V.int)) q = .ok (.own ((scl f b m).map V.int ++ SM.map V.int)) q := fun q => by
    rw [VI.add_lst (by rw [List.length_map, List.length_map]; unfold SL; omega)]
  have sp1 : Sp (scl f b m ++ SM) (f.sc b m) := spH.of_mem fun x => by
    rw [List.mem_append]
    exact ⟨.inl, fun h => h.elim id (SMin x)⟩
  have f1 := fun q => r_fence (n := n+2) (q := q) (.l (scl f b m ++ SM)) sp1 (by rw [List.length_append]; omega)
  simp only [List.map_append] at f1
  have f2 := fun q => r_fence (n := n+2) (q := q) (.t SM) (sp_plain SMne) (by omega)
  have e2 := fun q => l_least (n := n+3) (q := q) (sp_plain SMne) (bd_bs fun x hx => bdH x (SMin x hx)) (by omega)
  have sp3 : Sp (scl f b m).reverse (f.sc b m) := spH.of_mem fun x => by rw [List.mem_reverse]
  have f3 := fun q => r_fence (n := n+2) (q := q) (.l (scl f b m).reverse) sp3 (by rw [List.length_reverse]; omega)
  simp only [List.map_reverse] at f3
  have sz : callV pg.prg gs (n+5) 11 [.v (.lst [.int (f.sc b m).lo, .int (f.sc b m).hi, .int (f.sc b m).st])] (QD ds2) = .ok (.v (.int (sizeF f))) (QD ds2) := by
    rw [← size_sc (m := m) v]
    exact r_size (n := n+1) (.l _) F bF
  have bl : ∀ (h : Fe) q, bi1V .list (fv h) q = .ok (.own [.int h.lo, .int h.hi, .int h.st]) q := fun h q => rfl
  have nl : ∀ q, bi1V .len (.lst ((nums f).map V.int)) q = .ok (.v (.int (sizeF f))) q := fun q => by rw [VI.len_lst, List.length_map, nums_len s]
  have isF : ∀ (h : Fe) q, callV pg.prg gs (n+5) 23 [.v (fv h), .v (fv h)] q = .ok (.v (.bl true)) q := fun h q => l_is_fv (n := n+3)
  have isI2 : ∀ (a : Int) q, callV pg.prg gs (n+5) 23 [.v (.int a), .v (.int a)] q = .ok (.v (.bl true)) q := fun a q => l_is_int (n := n+3)
  have rv : mtV .reverse ((scl f b m).map V.int) [] = some (.non, ((scl f b m).map V.int).reverse) := rfl
  have lo1 := s.lo; have hi1 := s.hi; have lohi := s.ok.le
  have rg := VI.rng2_ok (m := f.lo - 3) (n := f.hi + 4) (q := QD ds2) (by omega) (by omega) (by omega) (by omega)
  simp? [gs, d0_law_one_right, n1, lf, wkN, cp1, VI.rng1_ok (n := 3) (by decide) (by decide), cp2, ct1, ad1, ad2, f1, f2, e2, noL_fv, isF, mtE, rv, f3, bl, sz, nl, isI2, ixRV, i0, i1, rg]
  generalize hl : loopV _ _ _ _ _ = r
  have R := loop_res (fun l e q => q = QD ds2 ∧ (∀ y ∈ l, ∃ j : Int, y = .int j ∧ -1000 ≤ j ∧ j ≤ 1000) ∧ ∃ o, e = [some (.v (fv f)), some (.v (.int b)), some (.v (.int m)), some .dr, some (.own ((nums f).map V.int)), some (.v (fv (f.sc b m))), some (.own ((scl f b m).map V.int).reverse), vo o, some (.own (SM.map V.int)), none, none, none]) hl
    ⟨rfl, fun y hy => by
      obtain ⟨k, hk, rfl⟩ := List.mem_map.mp hy
      have := List.mem_range.mp hk
      exact ⟨_, rfl, by omega, by omega⟩, none, rfl⟩ ?_
  · obtain ⟨e2, q2, rfl, rfl, _, o, rfl⟩ := R
    have rg2 := VI.rng2_ok (m := 1) (n := 5) (q := QD ds2) (by omega) (by omega) (by omega) (by omega)
    simp? [gs, rg2]
    generalize hl2 : loopV _ _ _ _ _ = r
    have R := loop_res (fun l e q => q = QD ds2 ∧ ∃ (k : Nat) (sl : List Int) (a4 : A) (o : Option V), l = (([1, 2, 3, 4] : List Int).map V.int).drop k ∧ (a4 = .own ((nums f).map V.int) ∨ a4 = .v (.lst ((nums f).map V.int))) ∧ Sp sl (tm f k) ∧ (∀ w ∈ sl, w.natAbs ≤ k * 200) ∧ sl.length ≤ 8 ^ k ∧
        e = [some (.v (fv f)), some (.v (.int b)), some (.v (.int m)), some .dr, some a4, some (.v (fv (f.sc b m))), some (.own ((scl f b m).map V.int).reverse), none, some (.own (SM.map V.int)), none, some (.own (sl.map V.int)), vo o]) hl2
      ⟨rfl, 0, [0], _, none, rfl, .inl rfl, tm_0, by simp, by decide, rfl⟩ ?_
    · obtain ⟨e2, q2, rfl, rfl, k, sl, a4, o, hk, h4, _, _, _, rfl⟩ := R
      have tk := law_take (n := n+4) (ds := ds2) (m := 30) (by decide)
      have t0 := tkv_lo (ds := ds2) (m := 30) (by decide)
      have t1 := tkv_hi (ds := ds2) (m := 30) (by decide)
      have k100 : (100000000000000000000 : Int) + 30 < 10 ^ 100 := by decide +kernel
      have k200 : (10 : Nat) ^ 100 < 10 ^ 200 := by decide +kernel
      have k60 : (10 : Nat) ^ 60 < 10 ^ 200 := by decide +kernel
      obtain ⟨b1, b2, b3⟩ := bF
      have tt := r_times' (n := n+1) (F := f.sc b m) (k := 100000000000000000000 + tkv ds2 30) (q := QD ds2.dropLast) F ⟨b1, b2, b3⟩ (by omega) (by omega)
      have m1 : mulOk (100000000000000000000 + tkv ds2 30) (f.sc b m).lo = true := mulOk_bd (by omega) (by omega)
      have m2 : mulOk (100000000000000000000 + tkv ds2 30) (f.sc b m).hi = true := mulOk_bd (by omega) (by omega)
      have isT : callV pg.prg gs (n+5) 23 [.v (fv (tms (f.sc b m) (100000000000000000000 + tkv ds2 30))), .v (.tup [.int ((100000000000000000000 + tkv ds2 30) * (f.sc b m).lo), .int ((100000000000000000000 + tkv ds2 30) * (f.sc b m).hi), .int (f.sc b m).st])] (QD ds2.dropLast) = .ok (.v (.bl true)) (QD ds2.dropLast) := isF _ _
      refine ⟨ds2.dropLast, ?_⟩
      rcases h4 with rfl | rfl <;> simp? [gs, pw20, tk, tt, ixRV, i0, i1, i2, VI.mul_int m1, VI.mul_int m2, isT]
    · rintro x l e q ⟨rfl, k, sl, a4, o, hk, h4, spk, hb1, hln, rfl⟩
      have hk4 : k < 4 := by
        rcases Nat.lt_or_ge k 4 with h | h
        · exact h
        · rw [List.drop_of_length_le (by simpa using h)] at hk
          cases hk
      have hx : x = .int ((k + 1 : Nat) : Int) ∧ l = (([1, 2, 3, 4] : List Int).map V.int).drop (k + 1) := by
        have h4 : k = 0 ∨ k = 1 ∨ k = 2 ∨ k = 3 := by omega
        rcases h4 with rfl | rfl | rfl | rfl <;> (cases hk; exact ⟨rfl, rfl⟩)
      obtain ⟨rfl, hl2⟩ := hx
      have h8 : sl.length ≤ 512 := Nat.le_trans hln (Nat.le_trans (Nat.pow_le_pow_right (by decide) (show k ≤ 3 by omega)) (by decide))
      have nl8 : (nums f).length ≤ 8 := by have := nums_len s; omega
      obtain ⟨s2, sE, sM, sL⟩ := l_sums (n := n+3) (l := nums f) (m := sl) (q := QD ds2) (by omega) (by omega)
      have sp2 : Sp s2 (tm f (k + 1)) := by
        rw [← tm_pl s.ok]
        exact (nums_sp s).pl spk sM
      have bd2 : ∀ w ∈ s2, w.natAbs ≤ (k + 1) * 200 := fun w hw => by
        obtain ⟨y, hy, z, hz, rfl⟩ := (sM w).mp hw
        have := s.small y hy
        have := hb1 z hz
        omega
      have bd3 : ∀ w ∈ s2, w.natAbs ≤ 1000 := fun w hw => by have := bd2 w hw; omega
      have ln2 : s2.length ≤ 8 ^ (k + 1) := Nat.le_trans sL (by rw [Nat.pow_succ, Nat.mul_comm]; exact Nat.mul_le_mul hln nl8)
      have ln3 : s2.length ≤ 4096 := Nat.le_trans ln2 (Nat.le_trans (Nat.pow_le_pow_right (by decide) (show k + 1 ≤ 4 by omega)) (by decide))
      have le := l_least (n := n+3) (q := QD ds2) sp2 (small_bs bd3) (by omega)
      have tmE : tm f (k + 1) = tms f ((k + 1 : Nat) : Int) := rfl
      have lfr := l_far (n := n+4) (b := b) (m := ((k + 1 : Nat) : Int) * m) (q := QD ds2) (sp_h sp2 bd3) v.b'
      rw [tmE] at le
      rw [tmE, tms_sc] at lfr
      have k5 : (5 : Int) < 10 ^ 100 := by decide +kernel
      have tt := r_times' (n := n+1) (F := f.sc b m) (k := ((k + 1 : Nat) : Int)) (q := QD ds2) F bF (by omega) (by omega)
      have mm : mulOk ((k + 1 : Nat) : Int) m = true := mulOk_s (by omega) (by omega)
      have isT := isF (tms (f.sc b m) ((k + 1 : Nat) : Int)) (QD ds2)
      generalize hK : ((k + 1 : Nat) : Int) = K at *
      have mK := VI.mul_int (q := QD ds2) mm
      rcases h4 with rfl | rfl
      · apply Exists.intro; apply And.intro
        · simp? [gs, lstep, b_law_one_right_1, sE, tt, le, noL_fv, mK, lfr, isT]; rfl
        · exact ⟨rfl, k + 1, s2, _, some (.int K), hl2, .inr rfl, sp2, bd2, ln2, rfl⟩
      · apply Exists.intro; apply And.intro
        · simp? [gs, lstep, b_law_one_right_1, sE, tt, le, noL_fv, mK, lfr, isT]; rfl
        · exact ⟨rfl, k + 1, s2, _, some (.int K), hl2, .inr rfl, sp2, bd2, ln2, rfl⟩
  · rintro x l e q ⟨rfl, hm, o, rfl⟩
    obtain ⟨j, rfl, j1, j2⟩ := hm x List.mem_cons_self
    have h1 := r_has (n := n+1) (v := j * b + m) (q := QD ds2) F
    rw [hb_sc s v] at h1
    have yes := l_yes (n := n+4) (b := decide (j ∈ nums f)) (q := QD ds2)
    by_cases b1 : 1 < b
    · have h2 := r_has (n := n+1) (v := j * b + m + 1) (q := QD ds2) F
      rw [hb_sc1 s v b1] at h2
      generalize hB : decide (j ∈ nums f) = B at *
      have inn : inV (.int j) (.lst ((nums f).map V.int)) = some B := by rw [in_ints.1, hB]
      apply Exists.intro; apply And.intro
      · simp? [gs, lstep, b_law_one_right_2, mb j _ j1 j2, h1, inn, yes, b1, h2, isBlV]; rfl
      · exact ⟨rfl, fun y hy => hm y (List.mem_cons_of_mem _ hy), some (.int j), rfl⟩
    · generalize hB : decide (j ∈ nums f) = B at *
      have inn : inV (.int j) (.lst ((nums f).map V.int)) = some B := by rw [in_ints.1, hB]
      apply Exists.intro; apply And.intro
      · simp? [gs, lstep, b_law_one_right_2, mb j _ j1 j2, h1, inn, yes, b1]; rfl
      · exact ⟨rfl, fun y hy => hm y (List.mem_cons_of_mem _ hy), some (.int j), rfl⟩
end K72

set_option Elab.async false
set_option linter.all false
set_option maxRecDepth 100000
set_option maxHeartbeats 8000000
local macro_rules | `(tactic| simp? [$xs,*]) => `(tactic| simp -implicitDefEqProofs [VI.x_var, VI.x_int, VI.x_str, VI.x_bl, VI.x_non, VI.k_bin, VI.x_bin, VI.x_neg, VI.k_not, VI.x_not_f, VI.x_not_t, VI.k_cmp2, VI.k_cmp, VI.x_cmp, VI.k_ch3t, VI.k_ch3f, VI.k_ch2, VI.k_ch1, VI.x_chain, VI.x_boo, VI.k_ifet, VI.k_ifef, VI.x_ife, VI.x_tup, VI.x_lst, VI.k_call, VI.x_call, VI.x_bi, VI.x_isin, VI.k_ix, VI.x_ix, VI.k_sl3, VI.k_sl2, VI.k_sl1, VI.x_sl, VI.x_meth, VI.k_co, VI.x_comp, VI.x_cst, VI.x_lrg1, VI.k_lr, VI.x_lrg3, VI.x_lrg2, VI.x_xfld, VI.x_xis, VI.x_ts0, VI.k_ts2, VI.k_ts1, VI.x_ts, VI.x_ps0, VI.k_ps1, VI.x_ps1, VI.k_ps, VI.x_ps, VI.x_as0, VI.k_as2, VI.k_as1, VI.x_as, VI.x_bs1, VI.k_bstt, VI.k_bsff, VI.k_bstf, VI.k_bsft, VI.x_bs, VI.x_o0, VI.x_o, VI.x_c0, VI.x_c, VI.x_seq, VI.x_rng1, VI.k_rng, VI.x_rng2, VI.x_enum, VI.x_asg, VI.x_unl, VI.x_put, VI.x_expr, VI.x_retv, VI.x_retN, VI.k_ifft, VI.k_ifff, VI.x_iff, VI.x_for, VI.k_kill, VI.x_whl, VI.x_brk, VI.x_cnt, VI.x_pass, VI.x_rais, VI.x_try, VI.x_b0, VI.x_b, VI.x_h0, VI.x_h, VI.y_unl, VI.y_unb, VI.unl_t, VI.unl_l, VI.unl_c, VI.y_asg, VI.k_put, VI.y_put, VI.y_pute, VI.y_expr, VI.y_ret, VI.k_rais, VI.y_rais, VI.k_for, VI.y_for, VI.k_m, VI.xr_int, VI.ym_int, VI.xr_str, VI.ym_str, VI.xr_bl, VI.ym_bl, VI.xr_non, VI.ym_non, VI.xr_bin, VI.ym_bin, VI.xr_neg, VI.ym_neg, VI.xr_not, VI.ym_not, VI.xr_cmp, VI.ym_cmp, VI.xr_chain, VI.ym_chain, VI.xr_boo, VI.ym_boo, VI.xr_ife, VI.ym_ife, VI.xr_tup, VI.ym_tup, VI.xr_lst, VI.ym_lst, VI.xr_call, VI.ym_call, VI.xr_bi, VI.ym_bi, VI.xr_isin, VI.ym_isin, VI.xr_ix, VI.ym_ix, VI.xr_sl, VI.ym_sl, VI.xr_comp, VI.ym_comp, VI.xr_cst, VI.ym_cst, VI.xr_lrg1, VI.ym_lrg1, VI.xr_lrg2, VI.ym_lrg2, VI.xr_lrg3, VI.ym_lrg3, VI.xr_xfld, VI.ym_xfld, VI.xr_xis, VI.ym_xis, VI.ym_var, VI.xr_meth, VI.y_mv, VI.y_bind, VI.y_nx, VI.k_cs2, VI.k_cst, VI.k_csf, VI.y_cs, VI.y_cnd, VI.k_med, VI.y_methD, VI.b_ok, VI.b_exc, VI.f_ok, VI.f_exc, VI.t_nx, VI.t_rt, VI.t_bk, VI.t_ct, VI.t_ex, VI.o_nx, VI.o_rt, VI.o_ex, VI.u_nx, VI.u_rt, VI.u_ex, VI.s_nx, VI.s_rt, VI.fin_F, VI.fin_T, VI.tst_bl, VI.tst_int, VI.tst_tup, VI.tst_lst, VI.tst_own, VI.tst_bor, VI.tst_non, VI.tst_exc, VI.asB_bl, VI.asB_exc, VI.pk_v, VI.pk_own, VI.pk_bor, VI.pk_exc, VI.pkQ_v, VI.pkQ_own, VI.pkQ_bor, VI.pkQ_exc, VI.tk_v, VI.tk_own, VI.tk_exc, VI.pkQ_dr, VI.pt_T, VI.pt_F, VI.ag_v, VI.ag_own, VI.ag_bor, VI.ag_dr, VI.ag_exc, VI.gr_F, VI.gr_v, VI.gr_exc, VI.own_v, VI.own_own, VI.own_dr, VI.own_no, VI.vo_n, VI.vo_s, VI.own_vo, VI.frz_vo, VI.rt_v, VI.rt_own, VI.ofO_s, VI.ofB_s, VI.bind_v, VI.bind_own, VI.bind_dr, VI.bind_tp, VI.frz_v, VI.frz_own, VI.frz_dr, VI.frz_no, VI.add_int, VI.sub_int, VI.cmp_eq, VI.cmp_ne, VI.cmp_in, VI.cmp_nin, VI.cmp_isN, VI.cmp_isnN, VI.cmp_isB, VI.cmp_isnB, VI.cmp_lt, VI.cmp_le, VI.cmp_gt, VI.cmp_ge, VI.eq_str, VI.bi_1, VI.bi_2, VI.len_tup, VI.len_lst, VI.len_con, VI.bi_int, VI.bi_abs, VI.bi_tup, VI.bi_tupL, VI.bi_lst, VI.bi_lstL, VI.bi_max, VI.bi_min, VI.gcd_i, VI.sl_tup, VI.sl_lst, VI.int_o, VI.neg_i, VI.sq_tup, VI.sq_lst, VI.sq_con, VI.en_tup, VI.en_lst, VI.sqv_tup, VI.sqv_lst, VI.sqv_con, VI.isin_, VI.own_R, VI.kill0, VI.kill1, VI.frz_none, VI.frz_some, VI.frzI_none, VI.frzI_some, VI.frzL0, VI.frzL1, VI.tup_ok, VI.lst_ok, VI.lkV, VI.retLk, VI.ownAt, VI.esc, VI.escp, VI.escs, VI.escps, VI.escI, VI.escF, VI.le_0, VI.le_1, VI.le_2, VI.le_3, VI.le_4, VI.le_5, VI.le_6, VI.le_7, VI.le_8, VI.le_9, VI.le_10, VI.le_11, VI.le_12, VI.le_13, VI.le_14, VI.le_15, VI.le_16, K72.gs_0, K72.gs_1, K72.gs_2, K72.gs_3, K72.gs_4, K72.gs_5, K72.gs_6, K72.gs_7, K72.gs_8, K72.gs_9, K72.gs_10, K72.gs_11, K72.gs_12, K72.gs_13, K72.gs_14, K72.gs_15, K72.gs_16, K72.gs_17, K72.gs_18, K72.gs_19, K72.gs_20, K72.gs_21, K72.gs_22, K72.gs_23, K72.gs_24, K72.gs_25, K72.gs_26, K72.gs_27, K72.gs_28, K72.gs_29, K72.gs_30, K72.gs_31, K72.gs_32, K72.gs_33, K72.gs_34, K72.gs_35, K72.gs_36, K72.gs_37, K72.es_w_plain_form_1, K72.es_w_turned_by_1, K72.es_t_law_is_1, K72.es_e_law_is_1, K72.es_t_law_sums_1, K72.es_e_law_sums_1, K72.es_t_law_pair_right_1, K72.es_e_law_pair_right_1, K72.es_e_law_one_right_1, K72.es_e_law_one_right_2, K72.es_e_law_long_right_1, $xs,*])
/-! What the defs compute. -/

namespace K72
open PI PySem VI Fc
/-! ### long fences -/
def L1 (M s c d : Int) : Fe := ⟨M - c * s, M + d * s, s⟩
theorem L1_ok {M s c d : Int} (hs : 0 < s) (hc : 0 < c) (hd : 0 < d) : (L1 M s c d).Ok := by
  have h1 := Int.mul_pos hc hs
  have h2 := Int.mul_pos hd hs
  refine .inr ⟨hs, by simp only [L1]; omega, ?_⟩
  simp only [L1]
  rw [show M + d * s - (M - c * s) = (d + c) * s by rw [Int.add_mul]; omega]
  exact Int.mul_emod_left _ _
theorem L1_has {M s c d w : Int} : (L1 M s c d).has w ↔ s ∣ w - M ∧ M - c * s ≤ w ∧ w ≤ M + d * s := by
  have e : s ∣ w - (M - c * s) ↔ s ∣ w - M := by
    rw [show w - (M - c * s) = (w - M) + c * s by omega]
    exact ⟨fun h => by have := Int.dvd_sub h (Int.dvd_mul_left c s); rwa [Int.add_sub_cancel] at this, fun h => Int.dvd_add h (Int.dvd_mul_left c s)⟩
  unfold Fe.has L1
  simp only
  rw [e]
  constructor
  · rintro ⟨a, b, c⟩; exact ⟨c, a, b⟩
  · rintro ⟨a, b, c⟩; exact ⟨b, c, a⟩
theorem lcmE {a b : Int} (ha : 0 < a) (hb : 0 < b) : a / ig a b * b = il a b := by
  have hg := ig_pos b (show a ≠ 0 by omega)
  have e : ig a b * il a b = a * b := by
    unfold ig il
    rw [← Int.natCast_mul, Nat.gcd_mul_lcm, Int.natCast_mul, Int.natAbs_of_nonneg (by omega), Int.natAbs_of_nonneg (by omega)]
  have e2 := Int.ediv_mul_cancel (ig_l a b)
  refine Int.eq_of_mul_eq_mul_left (show ig a b ≠ 0 by omega) ?_
  rw [e, ← Int.mul_assoc, Int.mul_comm (ig a b), e2]
def due (M s0 s1 c0 c1 c2 c3 : Int) : Fe :=
  if min (c0 * s0) (c2 * s1) / (s0 / ig s0 s1 * s1) + min (c1 * s0) (c3 * s1) / (s0 / ig s0 s1 * s1) = 0 then ⟨M, M, 0⟩ else
  ⟨M - min (c0 * s0) (c2 * s1) / (s0 / ig s0 s1 * s1) * (s0 / ig s0 s1 * s1), M + min (c1 * s0) (c3 * s1) / (s0 / ig s0 s1 * s1) * (s0 / ig s0 s1 * s1), s0 / ig s0 s1 * s1⟩
theorem due_cm {M s0 s1 c0 c1 c2 c3 : Int} (h0 : 0 < s0) (h1 : 0 < s1) (k0 : 0 < c0) (k1 : 0 < c1) (k2 : 0 < c2) (k3 : 0 < c3) : Cm (L1 M s0 c0 c1) (L1 M s1 c2 c3) (some (due M s0 s1 c0 c1 c2 c3)) := by
  have com : ∀ w, ((L1 M s0 c0 c1).has w ∧ (L1 M s1 c2 c3).has w) ↔ il s0 s1 ∣ w - M ∧ M - w ≤ min (c0 * s0) (c2 * s1) ∧ w - M ≤ min (c1 * s0) (c3 * s1) := fun w => by
    rw [L1_has, L1_has, il_dvd]
    constructor
    · rintro ⟨⟨a, b, c⟩, d, e, f⟩; exact ⟨⟨a, d⟩, by omega, by omega⟩
    · rintro ⟨⟨a, d⟩, b, c⟩; exact ⟨⟨a, by omega, by omega⟩, d, by omega, by omega⟩
  have p0 : 0 ≤ min (c0 * s0) (c2 * s1) := by have := Int.mul_pos k0 h0; have := Int.mul_pos k2 h1; omega
  have p1 : 0 ≤ min (c1 * s0) (c3 * s1) := by have := Int.mul_pos k1 h0; have := Int.mul_pos k3 h1; omega
  unfold due
  rw [lcmE h0 h1]
  have hB := il_pos h0 h1
  generalize il s0 s1 = B at *
  generalize min (c0 * s0) (c2 * s1) = X at *
  generalize min (c1 * s0) (c3 * s1) = Y at *
  have a0 : 0 ≤ X / B := Int.ediv_nonneg p0 (by omega)
  have a1 : 0 ≤ Y / B := Int.ediv_nonneg p1 (by omega)
  have key : ∀ k : Int, (-(k * B) ≤ X ↔ -(X / B) ≤ k) ∧ (k * B ≤ Y ↔ k ≤ Y / B) := fun k => by
    refine ⟨?_, (Int.le_ediv_iff_mul_le hB).symm⟩
    rw [← Int.neg_mul, ← Int.le_ediv_iff_mul_le hB]
    omega
  have has : ∀ w, (B ∣ w - M ∧ M - w ≤ X ∧ w - M ≤ Y) ↔ ∃ k, w = M + k * B ∧ -(X / B) ≤ k ∧ k ≤ Y / B := fun w => by
    constructor
    · rintro ⟨⟨k, hk⟩, h2, h3⟩
      rw [Int.mul_comm B k] at hk
      exact ⟨k, by omega, (key k).1.mp (by omega), (key k).2.mp (by omega)⟩
    · rintro ⟨k, rfl, h2, h3⟩
      have e2 := (key k).1.mpr h2
      have e3 := (key k).2.mpr h3
      exact ⟨⟨k, by rw [Int.mul_comm B]; omega⟩, by omega, by omega⟩
  split
  · rename_i z
    refine ⟨.inl ⟨rfl, rfl⟩, fun w => ?_⟩
    rw [com, has, has0 (f := ⟨M, M, 0⟩) (.inl ⟨rfl, rfl⟩) rfl]
    constructor
    · intro h
      exact ⟨0, by simp only at h; omega, by omega, by omega⟩
    · rintro ⟨k, rfl, h2, h3⟩
      have : k = 0 := by omega
      subst this
      simp
  · rename_i z
    have e : M - X / B * B = M + -(X / B) * B := by rw [Int.neg_mul]; omega
    have lt : M - X / B * B < M + Y / B * B := by
      rw [e]
      have : -(X / B) * B < Y / B * B := Int.mul_lt_mul_of_pos_right (by omega) hB
      omega
    have d : M + Y / B * B - (M - X / B * B) = (Y / B + X / B) * B := by rw [Int.add_mul]; omega
    refine ⟨.inr ⟨hB, lt, by simp only; rw [d]; exact Int.mul_emod_left _ _⟩, fun w => ?_⟩
    rw [com, has]
    unfold Fe.has
    simp only
    constructor
    · rintro ⟨h1, h2, k, hk⟩
      rw [Int.mul_comm B k] at hk
      refine ⟨k - X / B, by rw [Int.sub_mul]; omega, ?_, ?_⟩
      · have : 0 ≤ k * B := by omega
        have := Int.nonneg_of_mul_nonneg_left this hB
        omega
      · have : (k - X / B) * B ≤ Y / B * B := by rw [Int.sub_mul]; omega
        exact Int.le_of_mul_le_mul_right this hB
    · rintro ⟨k, rfl, h2, h3⟩
      have x1 := Int.mul_le_mul_of_nonneg_right h2 (show 0 ≤ B by omega)
      have x2 := Int.mul_le_mul_of_nonneg_right h3 (show 0 ≤ B by omega)
      rw [Int.neg_mul] at x1
      exact ⟨by omega, by omega, ⟨k + X / B, by rw [Int.mul_comm B, Int.add_mul]; omega⟩⟩
theorem Cm.uniq {f g : Fe} {o p : Option Fe} (a : Cm f g o) (b : Cm f g p) : o = p := by
  cases o with
  | none =>
    cases p with
    | none => rfl
    | some h => exact absurd ((b.2 _).mp b.1.has_lo) (a _)
  | some h =>
    cases p with
    | none => exact absurd ((a.2 _).mp a.1.has_lo) (b _)
    | some k => rw [a.1.ext b.1 fun v => by rw [a.2, b.2]]
def mvd (f : Fe) : Fe := ⟨f.lo + 1, f.hi + 1, f.st⟩
theorem mvd_ok {f : Fe} (ok : f.Ok) : (mvd f).Ok := by
  rcases ok with h | h
  · exact .inl ⟨h.1, by simp only [mvd]; omega⟩
  · exact .inr ⟨h.1, by simp only [mvd]; omega, by simp only [mvd]; rw [show f.hi + 1 - (f.lo + 1) = f.hi - f.lo by omega]; exact h.2.2⟩
theorem mvd_cm {M s0 s1 c0 c1 c2 c3 b : Int} (d0 : b ∣ s0) (d1 : b ∣ s1) (hb : 2 ≤ b) : Cm (L1 M s0 c0 c1) (mvd (L1 M s1 c2 c3)) none := by
  rintro w ⟨h1, h2⟩
  have e1 := Int.dvd_trans d0 (L1_has.mp h1).1
  have h3 : (L1 M s1 c2 c3).has (w - 1) := by
    obtain ⟨a, c, d⟩ := h2
    simp only [mvd] at a c d
    refine ⟨by omega, by omega, ?_⟩
    rwa [show w - 1 - (L1 M s1 c2 c3).lo = w - ((L1 M s1 c2 c3).lo + 1) by omega]
  have e2 := Int.dvd_trans d1 (L1_has.mp h3).1
  have := Int.dvd_sub e1 e2
  rw [show w - M - (w - 1 - M) = 1 by omega] at this
  have := Int.le_of_dvd (by decide) this
  omega
/-- what is drawn for the long ones -/
structure Lg (b M s0 s1 c0 c1 c2 c3 : Int) : Prop where
  b2 : 2 ≤ b
  d0 : b ∣ s0
  d1 : b ∣ s1
  h0 : 0 < s0
  h1 : 0 < s1
  u0 : s0 ≤ 20000000000
  u1 : s1 ≤ b * 14
  u1' : s1 ≤ 20000000000
  k : (0 < c0 ∧ c0 ≤ 10 ^ 15) ∧ (0 < c1 ∧ c1 ≤ 10 ^ 15) ∧ (0 < c2 ∧ c2 ≤ 10 ^ 15) ∧ (0 < c3 ∧ c3 ≤ 10 ^ 15)
  m : M.natAbs < 10 ^ 31
theorem cs_bd {c s : Int} (h0 : 0 < s) (h1 : s ≤ 20000000000) (k0 : 0 < c) (k1 : c ≤ 10 ^ 15) : 0 < c * s ∧ c * s ≤ 10 ^ 15 * 20000000000 := ⟨Int.mul_pos k0 h0, Int.mul_le_mul k1 h1 (by omega) (by decide)⟩
theorem L1_bd {M s c d : Int} (hm : M.natAbs < 10 ^ 31) (h0 : 0 < s) (h1 : s ≤ 20000000000) (k0 : 0 < c ∧ c ≤ 10 ^ 15) (k1 : 0 < d ∧ d ≤ 10 ^ 15) : Bd (L1 M s c d) ∧ Bd (mvd (L1 M s c d)) := by
  have a := cs_bd h0 h1 k0.1 k0.2
  have b := cs_bd h0 h1 k1.1 k1.2
  refine ⟨⟨?_, ?_, ?_⟩, ?_, ?_, ?_⟩ <;> simp only [L1, mvd] <;> omega
theorem L1_size {M s c d : Int} (h : 0 < s) : sizeF (L1 M s c d) = c + d + 1 := by
  unfold sizeF L1
  simp only
  rw [if_neg (by omega), show M + d * s - (M - c * s) = (c + d) * s by rw [Int.add_mul]; omega, Int.mul_ediv_cancel _ (by omega)]
theorem sm_L {b s0 s1 : Int} (d0 : b ∣ s0) (d1 : b ∣ s1) (hb : 2 ≤ b) (h0 : 0 < s0) (u : s1 ≤ b * 14) : s1 / ig s0 s1 ≤ 1000000 := by
  have hg := ig_pos s1 (show s0 ≠ 0 by omega)
  have hd := Int.le_of_dvd hg (dvd_ig.mpr ⟨d0, d1⟩)
  have e := Int.ediv_mul_cancel (ig_r s0 s1)
  rcases Int.lt_or_le 14 (s1 / ig s0 s1) with h | h
  · have x1 : 15 * ig s0 s1 ≤ s1 / ig s0 s1 * ig s0 s1 := Int.mul_le_mul_of_nonneg_right (by omega) (by omega)
    omega
  · omega
end K72

set_option Elab.async false
set_option linter.all false
set_option maxRecDepth 100000
set_option maxHeartbeats 8000000
local macro_rules | `(tactic| simp? [$xs,*]) => `(tactic| simp -implicitDefEqProofs [VI.x_var, VI.x_int, VI.x_str, VI.x_bl, VI.x_non, VI.k_bin, VI.x_bin, VI.x_neg, VI.k_not, VI.x_not_f, VI.x_not_t, VI.k_cmp2, VI.k_cmp, VI.x_cmp, VI.k_ch3t, VI.k_ch3f, VI.k_ch2, VI.k_ch1, VI.x_chain, VI.x_boo, VI.k_ifet, VI.k_ifef, VI.x_ife, VI.x_tup, VI.x_lst, VI.k_call, VI.x_call, VI.x_bi, VI.x_isin, VI.k_ix, VI.x_ix, VI.k_sl3, VI.k_sl2, VI.k_sl1, VI.x_sl, VI.x_meth, VI.k_co, VI.x_comp, VI.x_cst, VI.x_lrg1, VI.k_lr, VI.x_lrg3, VI.x_lrg2, VI.x_xfld, VI.x_xis, VI.x_ts0, VI.k_ts2, VI.k_ts1, VI.x_ts, VI.x_ps0, VI.k_ps1, VI.x_ps1, VI.k_ps, VI.x_ps, VI.x_as0, VI.k_as2, VI.k_as1, VI.x_as, VI.x_bs1, VI.k_bstt, VI.k_bsff, VI.k_bstf, VI.k_bsft, VI.x_bs, VI.x_o0, VI.x_o, VI.x_c0, VI.x_c, VI.x_seq, VI.x_rng1, VI.k_rng, VI.x_rng2, VI.x_enum, VI.x_asg, VI.x_unl, VI.x_put, VI.x_expr, VI.x_retv, VI.x_retN, VI.k_ifft, VI.k_ifff, VI.x_iff, VI.x_for, VI.k_kill, VI.x_whl, VI.x_brk, VI.x_cnt, VI.x_pass, VI.x_rais, VI.x_try, VI.x_b0, VI.x_b, VI.x_h0, VI.x_h, VI.y_unl, VI.y_unb, VI.unl_t, VI.unl_l, VI.unl_c, VI.y_asg, VI.k_put, VI.y_put, VI.y_pute, VI.y_expr, VI.y_ret, VI.k_rais, VI.y_rais, VI.k_for, VI.y_for, VI.k_m, VI.xr_int, VI.ym_int, VI.xr_str, VI.ym_str, VI.xr_bl, VI.ym_bl, VI.xr_non, VI.ym_non, VI.xr_bin, VI.ym_bin, VI.xr_neg, VI.ym_neg, VI.xr_not, VI.ym_not, VI.xr_cmp, VI.ym_cmp, VI.xr_chain, VI.ym_chain, VI.xr_boo, VI.ym_boo, VI.xr_ife, VI.ym_ife, VI.xr_tup, VI.ym_tup, VI.xr_lst, VI.ym_lst, VI.xr_call, VI.ym_call, VI.xr_bi, VI.ym_bi, VI.xr_isin, VI.ym_isin, VI.xr_ix, VI.ym_ix, VI.xr_sl, VI.ym_sl, VI.xr_comp, VI.ym_comp, VI.xr_cst, VI.ym_cst, VI.xr_lrg1, VI.ym_lrg1, VI.xr_lrg2, VI.ym_lrg2, VI.xr_lrg3, VI.ym_lrg3, VI.xr_xfld, VI.ym_xfld, VI.xr_xis, VI.ym_xis, VI.ym_var, VI.xr_meth, VI.y_mv, VI.y_bind, VI.y_nx, VI.k_cs2, VI.k_cst, VI.k_csf, VI.y_cs, VI.y_cnd, VI.k_med, VI.y_methD, VI.b_ok, VI.b_exc, VI.f_ok, VI.f_exc, VI.t_nx, VI.t_rt, VI.t_bk, VI.t_ct, VI.t_ex, VI.o_nx, VI.o_rt, VI.o_ex, VI.u_nx, VI.u_rt, VI.u_ex, VI.s_nx, VI.s_rt, VI.fin_F, VI.fin_T, VI.tst_bl, VI.tst_int, VI.tst_tup, VI.tst_lst, VI.tst_own, VI.tst_bor, VI.tst_non, VI.tst_exc, VI.asB_bl, VI.asB_exc, VI.pk_v, VI.pk_own, VI.pk_bor, VI.pk_exc, VI.pkQ_v, VI.pkQ_own, VI.pkQ_bor, VI.pkQ_exc, VI.tk_v, VI.tk_own, VI.tk_exc, VI.pkQ_dr, VI.pt_T, VI.pt_F, VI.ag_v, VI.ag_own, VI.ag_bor, VI.ag_dr, VI.ag_exc, VI.gr_F, VI.gr_v, VI.gr_exc, VI.own_v, VI.own_own, VI.own_dr, VI.own_no, VI.vo_n, VI.vo_s, VI.own_vo, VI.frz_vo, VI.rt_v, VI.rt_own, VI.ofO_s, VI.ofB_s, VI.bind_v, VI.bind_own, VI.bind_dr, VI.bind_tp, VI.frz_v, VI.frz_own, VI.frz_dr, VI.frz_no, VI.add_int, VI.sub_int, VI.cmp_eq, VI.cmp_ne, VI.cmp_in, VI.cmp_nin, VI.cmp_isN, VI.cmp_isnN, VI.cmp_isB, VI.cmp_isnB, VI.cmp_lt, VI.cmp_le, VI.cmp_gt, VI.cmp_ge, VI.eq_str, VI.bi_1, VI.bi_2, VI.len_tup, VI.len_lst, VI.len_con, VI.bi_int, VI.bi_abs, VI.bi_tup, VI.bi_tupL, VI.bi_lst, VI.bi_lstL, VI.bi_max, VI.bi_min, VI.gcd_i, VI.sl_tup, VI.sl_lst, VI.int_o, VI.neg_i, VI.sq_tup, VI.sq_lst, VI.sq_con, VI.en_tup, VI.en_lst, VI.sqv_tup, VI.sqv_lst, VI.sqv_con, VI.isin_, VI.own_R, VI.kill0, VI.kill1, VI.frz_none, VI.frz_some, VI.frzI_none, VI.frzI_some, VI.frzL0, VI.frzL1, VI.tup_ok, VI.lst_ok, VI.lkV, VI.retLk, VI.ownAt, VI.esc, VI.escp, VI.escs, VI.escps, VI.escI, VI.escF, VI.le_0, VI.le_1, VI.le_2, VI.le_3, VI.le_4, VI.le_5, VI.le_6, VI.le_7, VI.le_8, VI.le_9, VI.le_10, VI.le_11, VI.le_12, VI.le_13, VI.le_14, VI.le_15, VI.le_16, K72.gs_0, K72.gs_1, K72.gs_2, K72.gs_3, K72.gs_4, K72.gs_5, K72.gs_6, K72.gs_7, K72.gs_8, K72.gs_9, K72.gs_10, K72.gs_11, K72.gs_12, K72.gs_13, K72.gs_14, K72.gs_15, K72.gs_16, K72.gs_17, K72.gs_18, K72.gs_19, K72.gs_20, K72.gs_21, K72.gs_22, K72.gs_23, K72.gs_24, K72.gs_25, K72.gs_26, K72.gs_27, K72.gs_28, K72.gs_29, K72.gs_30, K72.gs_31, K72.gs_32, K72.gs_33, K72.gs_34, K72.gs_35, K72.gs_36, K72.gs_37, K72.es_w_plain_form_1, K72.es_w_turned_by_1, K72.es_t_law_is_1, K72.es_e_law_is_1, K72.es_t_law_sums_1, K72.es_e_law_sums_1, K72.es_t_law_pair_right_1, K72.es_e_law_pair_right_1, K72.es_e_law_one_right_1, K72.es_e_law_one_right_2, K72.es_e_law_long_right_1, $xs,*])
/-! What the defs compute. -/

namespace K72
open PI PySem VI Fc
theorem l_counts {n : Nat} {far b : Int} {ds : List Int} {st : A} (hfar : 1 ≤ far ∧ far ≤ 10 ^ 13) :
    ∃ (c0 c1 c2 c3 : Int) (ds' : List Int), compV (.v 5) [some .dr, some (.v (.int far)), some (.v (.int b)), some st, none, none, none, none, none, none, none, none, none, none, none, none, none] (cStepV (KV (n+5)) .none e_law_long_right_1) (rngV 0 4) [] (QD ds) = .ok [.int c0, .int c1, .int c2, .int c3] (QD ds') ∧
      (0 < c0 ∧ c0 ≤ 10 ^ 15) ∧ (0 < c1 ∧ c1 ≤ 10 ^ 15) ∧ (0 < c2 ∧ c2 ≤ 10 ^ 15) ∧ (0 < c3 ∧ c3 ≤ 10 ^ 15) := by
  obtain ⟨vs, q2, e, cs, rfl, ds', rfl, hl, hc⟩ := comp_res (fun l acc q => ∃ cs : List Int, acc = cs.map V.int ∧ ∃ ds', q = QD ds' ∧ cs.length + l.length = 4 ∧ ∀ c ∈ cs, 0 < c ∧ c ≤ 10 ^ 15) (t := .v 5) (e := [some .dr, some (.v (.int far)), some (.v (.int b)), some st, none, none, none, none, none, none, none, none, none, none, none, none, none]) (step := cStepV (KV (n+5)) .none e_law_long_right_1) (l := rngV 0 4) (q := QD ds) rfl (by decide) ⟨[], rfl, ds, rfl, by decide, by simp⟩ (by
    rintro x l acc q ⟨cs, rfl, ds', rfl, hl, hc⟩
    have t0 := tkv_lo (ds := ds') (m := 30) (by decide)
    have t1 := tkv_hi (ds := ds') (m := 30) (by decide)
    obtain ⟨w, hw, ix⟩ := ix_take (l := [.int 1, .int far, .int 1, .int 10]) (ds := ds'.dropLast) (m := 4) rfl (by decide)
    obtain ⟨y, rfl, y0, y1⟩ : ∃ y, w = .int y ∧ 1 ≤ y ∧ y ≤ 10 ^ 13 := by
      simp only [List.mem_cons, List.not_mem_nil, or_false] at hw
      rcases hw with rfl | rfl | rfl | rfl
      · exact ⟨_, rfl, by decide, by decide⟩
      · exact ⟨_, rfl, hfar⟩
      · exact ⟨_, rfl, by decide, by decide⟩
      · exact ⟨_, rfl, by decide, by decide⟩
    have tk1 := law_take (n := n+4) (ds := ds') (m := 30) (by decide)
    have tk2 := law_take (n := n+4) (ds := ds'.dropLast) (m := 4) (by decide)
    have mm := VI.mul_int (q := QD ds'.dropLast.dropLast) (mulOk_s (a := 1 + tkv ds' 30) (b := y) (by omega) (by omega))
    refine ⟨some (.int ((1 + tkv ds' 30) * y)), QD ds'.dropLast.dropLast, ?_, cs ++ [(1 + tkv ds' 30) * y], by simp, _, rfl, by simp at hl ⊢; omega, ?_⟩
    · simp? [gs, cturn, e_law_long_right_1, tk1, tk2, ix, ixRV, mm]
    · intro c h
      rcases List.mem_append.mp h with h | h
      · exact hc c h
      · rw [List.mem_singleton.mp h]
        have x1 := Int.mul_pos (show 0 < 1 + tkv ds' 30 by omega) (show 0 < y by omega)
        have x2 : (1 + tkv ds' 30) * y ≤ 31 * 10 ^ 13 := Int.mul_le_mul (by omega) y1 (by omega) (by decide)
        exact ⟨x1, by omega⟩)
  have h4 : cs.length = 4 := by simpa using hl
  match cs, h4, e, hc with
  | [c0, c1, c2, c3], _, e, hc => exact ⟨c0, c1, c2, c3, ds', e, hc c0 (by simp), hc c1 (by simp), hc c2 (by simp), hc c3 (by simp)⟩
theorem ix20 {a b : V} : ixV (.lst [a, b]) (.int 0) = some a := rfl
theorem ix21 {a b : V} : ixV (.lst [a, b]) (.int 1) = some b := rfl
theorem ix40 {a b c d : V} : ixV (.lst [a, b, c, d]) (.int 0) = some a := rfl
theorem ix41 {a b c d : V} : ixV (.lst [a, b, c, d]) (.int 1) = some b := rfl
theorem ix42 {a b c d : V} : ixV (.lst [a, b, c, d]) (.int 2) = some c := rfl
theorem ix43 {a b c d : V} : ixV (.lst [a, b, c, d]) (.int 3) = some d := rfl
theorem pw9 {q : Q} : binV .pow (.int 10) (.int 9) q = .ok (.v (.int 1000000000)) q := by rfl
theorem pw8 {q : Q} : binV .pow (.int 10) (.int 8) q = .ok (.v (.int 100000000)) q := by rfl
theorem pw30 {q : Q} : binV .pow (.int 10) (.int 30) q = .ok (.v (.int 1000000000000000000000000000000)) q := by rfl
theorem pw25 {q : Q} : binV .pow (.int 10) (.int 25) q = .ok (.v (.int 10000000000000000000000000)) q := by rfl
theorem ml78 {q : Q} : binV .mul (.int 7) (.int 100000000) q = .ok (.v (.int 700000000)) q := by rfl
theorem l_long {n : Nat} {far : Int} {ds : List Int} (hfar : 1 ≤ far ∧ far ≤ 10 ^ 13) : ∃ ds', callV pg.prg gs (n+6) 33 [.dr, .v (.int far)] (QD ds) = .ok (.v (.bl true)) (QD ds') := by
  rw [u_law_long_right]
  obtain ⟨xb, hxb, ixb⟩ := ix_take (l := [.int 2, .int 3, .int 6, .int 1000000007, .int 700000000, .int 4]) (ds := ds) (m := 6) rfl (by decide)
  obtain ⟨b, rfl, b2, bL⟩ : ∃ b, xb = .int b ∧ 2 ≤ b ∧ b ≤ 1000000007 := by
    simp only [List.mem_cons, List.not_mem_nil, or_false] at hxb
    rcases hxb with rfl | rfl | rfl | rfl | rfl | rfl <;> exact ⟨_, rfl, by decide, by decide⟩
  have tk := @law_take (n+4)
  obtain ⟨d1, hd1⟩ : ∃ d, d = ds.dropLast := ⟨_, rfl⟩
  obtain ⟨d2, hd2⟩ : ∃ d, d = d1.dropLast := ⟨_, rfl⟩
  obtain ⟨d3, hd3⟩ : ∃ d, d = d2.dropLast := ⟨_, rfl⟩
  have tk0 := law_take (n := n+4) (ds := ds) (m := 6) (by decide)
  have tk1 := law_take (n := n+4) (ds := d1) (m := 12) (by decide)
  have tk2 := law_take (n := n+4) (ds := d2) (m := 12) (by decide)
  rw [← hd1] at tk0
  rw [← hd2] at tk1
  rw [← hd3] at tk2
  have a0 := tkv_lo (ds := d1) (m := 12) (by decide)
  have a1 := tkv_hi (ds := d1) (m := 12) (by decide)
  have a2 := tkv_lo (ds := d2) (m := 12) (by decide)
  have a3 := tkv_hi (ds := d2) (m := 12) (by decide)
  obtain ⟨p, hp⟩ : ∃ p, p = 2 + tkv d1 12 := ⟨_, rfl⟩
  obtain ⟨r, hr⟩ : ∃ r, r = 3 + tkv d2 12 := ⟨_, rfl⟩
  obtain ⟨s0, hs0⟩ : ∃ s, s = b * p := ⟨_, rfl⟩
  obtain ⟨s1, hs1⟩ : ∃ s, s = b * r := ⟨_, rfl⟩
  have mp : ∀ q, binV .mul (.int b) (.int p) q = .ok (.v (.int s0)) q := fun q => by rw [hs0]; exact VI.mul_int (mulOk_s (by omega) (by omega))
  have mr : ∀ q, binV .mul (.int b) (.int r) q = .ok (.v (.int s1)) q := fun q => by rw [hs1]; exact VI.mul_int (mulOk_s (by omega) (by omega))
  obtain ⟨c0, c1, c2, c3, d4, cp, k0, k1, k2, k3⟩ := l_counts (n := n) (far := far) (b := b) (ds := d3) (st := .own [.int s0, .int s1]) hfar
  obtain ⟨xm, hxm, ixm⟩ := ix_take (l := [.int 0, .int 1000000000000000000000000000000, .int (-10000000000000000000000001)]) (ds := d4) (m := 3) rfl (by decide)
  obtain ⟨d5, hd5⟩ : ∃ d, d = d4.dropLast := ⟨_, rfl⟩
  obtain ⟨d6, hd6⟩ : ∃ d, d = d5.dropLast := ⟨_, rfl⟩
  have tk4 := law_take (n := n+4) (ds := d4) (m := 3) (by decide)
  have tk5 := law_take (n := n+4) (ds := d5) (m := 30) (by decide)
  rw [← hd5] at tk4
  rw [← hd6] at tk5
  have a4 := tkv_lo (ds := d5) (m := 30) (by decide)
  have a5 := tkv_hi (ds := d5) (m := 30) (by decide)
  obtain ⟨m, rfl, mB⟩ : ∃ m, xm = .int m ∧ m.natAbs ≤ 10 ^ 30 := by
    simp only [List.mem_cons, List.not_mem_nil, or_false] at hxm
    rcases hxm with rfl | rfl | rfl <;> exact ⟨_, rfl, by decide⟩
  obtain ⟨M, hM⟩ : ∃ M, M = m + tkv d5 30 := ⟨_, rfl⟩
  have MB : M.natAbs < 10 ^ 31 := by omega
  have h0 : 0 < s0 := by rw [hs0]; exact Int.mul_pos (by omega) (by omega)
  have h1 : 0 < s1 := by rw [hs1]; exact Int.mul_pos (by omega) (by omega)
  have dv0 : b ∣ s0 := by rw [hs0]; exact Int.dvd_mul_right _ _
  have dv1 : b ∣ s1 := by rw [hs1]; exact Int.dvd_mul_right _ _
  have u0 : s0 ≤ b * 14 := by rw [hs0]; exact Int.mul_le_mul_of_nonneg_left (by omega) (by omega)
  have u1 : s1 ≤ b * 14 := by rw [hs1]; exact Int.mul_le_mul_of_nonneg_left (by omega) (by omega)
  have pA : (10 : Nat) ^ 15 < 10 ^ 200 := by decide +kernel
  have pB : (20000000000 : Nat) < 10 ^ 200 := by decide +kernel
  have pC : (20000000000 : Int) ≤ 10 ^ 2000 := by decide +kernel
  have pD : (20000000000 * 20000000000 : Int) ≤ 10 ^ 2000 := by decide +kernel
  have mul4 : ∀ (c s : Int) q, 0 < c → c ≤ 10 ^ 15 → 0 < s → s ≤ 20000000000 → binV .mul (.int c) (.int s) q = .ok (.v (.int (c * s))) q := fun c s q x1 x2 x3 x4 => VI.mul_int (mulOk_bd (by omega) (by omega))
  have q00 := fun q => mul4 c0 s0 q k0.1 k0.2 h0 (by omega)
  have q10 := fun q => mul4 c1 s0 q k1.1 k1.2 h0 (by omega)
  have q21 := fun q => mul4 c2 s1 q k2.1 k2.2 h1 (by omega)
  have q31 := fun q => mul4 c3 s1 q k3.1 k3.2 h1 (by omega)
  have oE : V.tup [.int (M - c0 * s0), .int (M + c1 * s0), .int s0] = fv (L1 M s0 c0 c1) := rfl
  have tE : V.tup [.int (M - c2 * s1), .int (M + c3 * s1), .int s1] = fv (L1 M s1 c2 c3) := rfl
  have dc := due_cm (M := M) h0 h1 k0.1 k1.1 k2.1 k3.1
  have gp := ig_pos s1 (show s0 ≠ 0 by omega)
  have gl := ig_le (b := s1) h0
  have g1 := r_gcd (n := n+4) (a := s0) (b := s1) (q := QD d6) (by omega) (by omega)
  have dg : binV .div (.int s0) (.int (ig s0 s1)) (QD d6) = .ok (.v (.int (s0 / ig s0 s1))) (QD d6) := VI.div_int gp (by omega)
  have Bp : 0 < s0 / ig s0 s1 * s1 := by rw [lcmE h0 h1]; exact il_pos h0 h1
  have Bl : s0 / ig s0 s1 * s1 ≤ 20000000000 * 20000000000 := by
    rw [lcmE h0 h1]
    exact Int.le_trans (il_le h0 h1) (Int.mul_le_mul (by omega) (by omega) (by omega) (by decide))
  have sg : 0 ≤ s0 / ig s0 s1 ∧ s0 / ig s0 s1 ≤ s0 := ⟨Int.ediv_nonneg (by omega) (by omega), Int.ediv_le_self _ (by omega)⟩
  have p200 : (10 : Nat) ^ 100 < 10 ^ 200 := by decide +kernel
  have mB1 : binV .mul (.int (s0 / ig s0 s1)) (.int s1) (QD d6) = .ok (.v (.int (s0 / ig s0 s1 * s1))) (QD d6) := VI.mul_int (mulOk_bd (by omega) (by omega))
  have mn1 : (if c2 * s1 < c0 * s0 then c2 * s1 else c0 * s0) = min (c0 * s0) (c2 * s1) := by split <;> omega
  have mn2 : (if c3 * s1 < c1 * s0 then c3 * s1 else c1 * s0) = min (c1 * s0) (c3 * s1) := by split <;> omega
  have x0 := cs_bd h0 (by omega) k0.1 k0.2
  have x1 := cs_bd h0 (by omega) k1.1 k1.2
  have dB : ∀ a : Int, binV .div (.int a) (.int (s0 / ig s0 s1 * s1)) (QD d6) = .ok (.v (.int (a / (s0 / ig s0 s1 * s1)))) (QD d6) := fun a => VI.div_int Bp (by omega)
  have mX : ∀ a : Int, 0 ≤ a → a ≤ 10 ^ 15 * 20000000000 → binV .mul (.int (a / (s0 / ig s0 s1 * s1))) (.int (s0 / ig s0 s1 * s1)) (QD d6) = .ok (.v (.int (a / (s0 / ig s0 s1 * s1) * (s0 / ig s0 s1 * s1)))) (QD d6) := fun a h h2 => by
    have z1 : 0 ≤ a / (s0 / ig s0 s1 * s1) := Int.ediv_nonneg h (by omega)
    have z2 : a / (s0 / ig s0 s1 * s1) ≤ a := Int.ediv_le_self _ h
    exact VI.mul_int (mulOk_bd (by omega) (by omega))
  have y2 := cs_bd h1 (by omega) k2.1 k2.2
  have y3 := cs_bd h1 (by omega) k3.1 k3.2
  have mX1 := mX (min (c0 * s0) (c2 * s1)) (by omega) (by omega)
  have mX2 := mX (min (c1 * s0) (c3 * s1)) (by omega) (by omega)
  have ok1 := L1_ok (M := M) h0 k0.1 k1.1
  have ok2 := L1_ok (M := M) h1 k2.1 k3.1
  have bd1 := L1_bd (c := c0) (d := c1) MB h0 (by omega) k0 k1
  have bd2 := L1_bd (c := c2) (d := c3) MB h1 (by omega) k2 k3
  have okm := mvd_ok ok2
  have mc := mvd_cm (M := M) (c0 := c0) (c1 := c1) (c2 := c2) (c3 := c3) dv0 dv1 b2
  obtain ⟨o1, m1, e1⟩ := r_met (n := n+1) (q := QD d6) (.t _) (.t _) ok1 ok2 bd1.1 bd2.1 (sm_L dv0 dv1 b2 h0 u1)
  obtain ⟨o2, m2, e2⟩ := r_met (n := n+1) (q := QD d6) (.t _) (.t _) ok2 ok1 bd2.1 bd1.1 (sm_L dv1 dv0 b2 h1 u0)
  obtain ⟨o3, m3, e3⟩ := r_met (n := n+1) (q := QD d6) (.t _) (.t _) ok1 okm bd1.1 bd2.2 (sm_L dv0 dv1 b2 h0 u1)
  cases e1.uniq dc
  cases e2.symm.uniq dc
  cases e3.uniq mc
  obtain ⟨w1, wE1, wi1⟩ := r_within (n := n+1) (q := QD d6) (.t _) (.t _) okm ok1
  obtain ⟨w2, wE2, wi2⟩ := r_within (n := n+1) (q := QD d6) (.t _) (.t _) dc.1 ok1
  obtain ⟨w3, wE3, wi3⟩ := r_within (n := n+1) (q := QD d6) (.t _) (.t _) dc.1 ok2
  have f1 : w1 = false := by
    cases w1 with
    | false => rfl
    | true => exact absurd ⟨wi1.mp rfl _ okm.has_lo, okm.has_lo⟩ (mc _)
  rw [f1] at wE1
  rw [wi2.mpr fun v hv => ((dc.2 v).mp hv).1] at wE2
  rw [wi3.mpr fun v hv => ((dc.2 v).mp hv).2] at wE3
  have sz := r_size (n := n+1) (q := QD d6) (.t _) ok1 bd1.1
  rw [L1_size h0] at sz
  have bh := r_behind (n := n+1) (q := QD d6) (.t _) ok1 (.t _) ok2
  have eih := r_either (n := n+1) (q := QD d6) (.t _) ok1 (.t _) okm
  have isF : ∀ (h : Fe) q, callV pg.prg gs (n+5) 23 [.v (fv h), .v (fv h)] q = .ok (.v (.bl true)) q := fun h q => l_is_fv (n := n+3)
  have isI2 : ∀ (a : Int) q, callV pg.prg gs (n+5) 23 [.v (.int a), .v (.int a)] q = .ok (.v (.bl true)) q := fun a q => l_is_int (n := n+3)
  have mvE : V.tup [.int ((L1 M s1 c2 c3).lo + 1), .int ((L1 M s1 c2 c3).hi + 1), .int (L1 M s1 c2 c3).st] = fv (mvd (L1 M s1 c2 c3)) := rfl
  have plE : V.tup [.int ((L1 M s0 c0 c1).lo + (L1 M s1 c2 c3).lo), .int ((L1 M s0 c0 c1).hi + (L1 M s1 c2 c3).hi), .int (ig s0 s1)] = fv ((L1 M s0 c0 c1).pl (L1 M s1 c2 c3)) := rfl
  have g2 := r_gcd (n := n+4) (a := ig s0 s1) (b := (mvd (L1 M s1 c2 c3)).lo - (L1 M s0 c0 c1).lo) (q := QD d6) (by omega) (by simp only [mvd, L1]; omega)
  have mn3 : (if (mvd (L1 M s1 c2 c3)).lo < (L1 M s0 c0 c1).lo then (mvd (L1 M s1 c2 c3)).lo else (L1 M s0 c0 c1).lo) = min (L1 M s0 c0 c1).lo (mvd (L1 M s1 c2 c3)).lo := by split <;> omega
  have mx3 : (if (L1 M s0 c0 c1).hi < (mvd (L1 M s1 c2 c3)).hi then (mvd (L1 M s1 c2 c3)).hi else (L1 M s0 c0 c1).hi) = max (L1 M s0 c0 c1).hi (mvd (L1 M s1 c2 c3)).hi := by split <;> omega
  have eiE : V.tup [.int (min (L1 M s0 c0 c1).lo (mvd (L1 M s1 c2 c3)).lo), .int (max (L1 M s0 c0 c1).hi (mvd (L1 M s1 c2 c3)).hi), .int (ig (ig s0 s1) ((mvd (L1 M s1 c2 c3)).lo - (L1 M s0 c0 c1).lo))] = fv ((L1 M s0 c0 c1).ei (mvd (L1 M s1 c2 c3))) := rfl
  have ovs : ∀ h : Fe, ov (some h) = fv h := fun _ => rfl
  have ovn : ov none = .non := rfl
  rw [ovs] at m1 m2
  rw [ovn] at m3
  refine ⟨d6, ?_⟩
  by_cases z : min (c0 * s0) (c2 * s1) / (s0 / ig s0 s1 * s1) + min (c1 * s0) (c3 * s1) / (s0 / ig s0 s1 * s1) = 0
  · have dE : V.tup [.int M, .int M, .int 0] = fv (due M s0 s1 c0 c1 c2 c3) := by
      unfold due
      rw [if_pos z]; rfl
    simp? [gs, d0_law_long_right, pw9, pw8, ml78, tk0, ixb, ixRV, tk1, tk2, ← hp, ← hr, mp, mr, VI.rng1_ok (n := 4) (by decide) (by decide), cp, pw30, pw25, tk4, ixm, tk5, ← hM, ix20, ix21, ix40, ix41, ix42, ix43, q00, q10, q21, q31, oE, tE, g1, dg, mB1, mn1, mn2, dB, mX1, mX2, eq_int, z, dE, m1, m2, m3, isF, isI2, isNonV, i0, i1, i2, mvE, wE1, wE2, wE3, isBlV, sz, mn3, mx3, bh, eih, plE, g2, eiE]
  · have dE : V.tup [.int (M - min (c0 * s0) (c2 * s1) / (s0 / ig s0 s1 * s1) * (s0 / ig s0 s1 * s1)), .int (M + min (c1 * s0) (c3 * s1) / (s0 / ig s0 s1 * s1) * (s0 / ig s0 s1 * s1)), .int (s0 / ig s0 s1 * s1)] = fv (due M s0 s1 c0 c1 c2 c3) := by
      unfold due
      rw [if_neg z]; rfl
    simp? [gs, d0_law_long_right, pw9, pw8, ml78, tk0, ixb, ixRV, tk1, tk2, ← hp, ← hr, mp, mr, VI.rng1_ok (n := 4) (by decide) (by decide), cp, pw30, pw25, tk4, ixm, tk5, ← hM, ix20, ix21, ix40, ix41, ix42, ix43, q00, q10, q21, q31, oE, tE, g1, dg, mB1, mn1, mn2, dB, mX1, mX2, eq_int, z, dE, m1, m2, m3, isF, isI2, isNonV, i0, i1, i2, mvE, wE1, wE2, wE3, isBlV, sz, mn3, mx3, bh, eih, plE, g2, eiE]
end K72

set_option Elab.async false
set_option linter.all false
set_option maxRecDepth 100000
set_option maxHeartbeats 8000000
local macro_rules | `(tactic| simp? [$xs,*]) => `(tactic| simp -implicitDefEqProofs [VI.x_var, VI.x_int, VI.x_str, VI.x_bl, VI.x_non, VI.k_bin, VI.x_bin, VI.x_neg, VI.k_not, VI.x_not_f, VI.x_not_t, VI.k_cmp2, VI.k_cmp, VI.x_cmp, VI.k_ch3t, VI.k_ch3f, VI.k_ch2, VI.k_ch1, VI.x_chain, VI.x_boo, VI.k_ifet, VI.k_ifef, VI.x_ife, VI.x_tup, VI.x_lst, VI.k_call, VI.x_call, VI.x_bi, VI.x_isin, VI.k_ix, VI.x_ix, VI.k_sl3, VI.k_sl2, VI.k_sl1, VI.x_sl, VI.x_meth, VI.k_co, VI.x_comp, VI.x_cst, VI.x_lrg1, VI.k_lr, VI.x_lrg3, VI.x_lrg2, VI.x_xfld, VI.x_xis, VI.x_ts0, VI.k_ts2, VI.k_ts1, VI.x_ts, VI.x_ps0, VI.k_ps1, VI.x_ps1, VI.k_ps, VI.x_ps, VI.x_as0, VI.k_as2, VI.k_as1, VI.x_as, VI.x_bs1, VI.k_bstt, VI.k_bsff, VI.k_bstf, VI.k_bsft, VI.x_bs, VI.x_o0, VI.x_o, VI.x_c0, VI.x_c, VI.x_seq, VI.x_rng1, VI.k_rng, VI.x_rng2, VI.x_enum, VI.x_asg, VI.x_unl, VI.x_put, VI.x_expr, VI.x_retv, VI.x_retN, VI.k_ifft, VI.k_ifff, VI.x_iff, VI.x_for, VI.k_kill, VI.x_whl, VI.x_brk, VI.x_cnt, VI.x_pass, VI.x_rais, VI.x_try, VI.x_b0, VI.x_b, VI.x_h0, VI.x_h, VI.y_unl, VI.y_unb, VI.unl_t, VI.unl_l, VI.unl_c, VI.y_asg, VI.k_put, VI.y_put, VI.y_pute, VI.y_expr, VI.y_ret, VI.k_rais, VI.y_rais, VI.k_for, VI.y_for, VI.k_m, VI.xr_int, VI.ym_int, VI.xr_str, VI.ym_str, VI.xr_bl, VI.ym_bl, VI.xr_non, VI.ym_non, VI.xr_bin, VI.ym_bin, VI.xr_neg, VI.ym_neg, VI.xr_not, VI.ym_not, VI.xr_cmp, VI.ym_cmp, VI.xr_chain, VI.ym_chain, VI.xr_boo, VI.ym_boo, VI.xr_ife, VI.ym_ife, VI.xr_tup, VI.ym_tup, VI.xr_lst, VI.ym_lst, VI.xr_call, VI.ym_call, VI.xr_bi, VI.ym_bi, VI.xr_isin, VI.ym_isin, VI.xr_ix, VI.ym_ix, VI.xr_sl, VI.ym_sl, VI.xr_comp, VI.ym_comp, VI.xr_cst, VI.ym_cst, VI.xr_lrg1, VI.ym_lrg1, VI.xr_lrg2, VI.ym_lrg2, VI.xr_lrg3, VI.ym_lrg3, VI.xr_xfld, VI.ym_xfld, VI.xr_xis, VI.ym_xis, VI.ym_var, VI.xr_meth, VI.y_mv, VI.y_bind, VI.y_nx, VI.k_cs2, VI.k_cst, VI.k_csf, VI.y_cs, VI.y_cnd, VI.k_med, VI.y_methD, VI.b_ok, VI.b_exc, VI.f_ok, VI.f_exc, VI.t_nx, VI.t_rt, VI.t_bk, VI.t_ct, VI.t_ex, VI.o_nx, VI.o_rt, VI.o_ex, VI.u_nx, VI.u_rt, VI.u_ex, VI.s_nx, VI.s_rt, VI.fin_F, VI.fin_T, VI.tst_bl, VI.tst_int, VI.tst_tup, VI.tst_lst, VI.tst_own, VI.tst_bor, VI.tst_non, VI.tst_exc, VI.asB_bl, VI.asB_exc, VI.pk_v, VI.pk_own, VI.pk_bor, VI.pk_exc, VI.pkQ_v, VI.pkQ_own, VI.pkQ_bor, VI.pkQ_exc, VI.tk_v, VI.tk_own, VI.tk_exc, VI.pkQ_dr, VI.pt_T, VI.pt_F, VI.ag_v, VI.ag_own, VI.ag_bor, VI.ag_dr, VI.ag_exc, VI.gr_F, VI.gr_v, VI.gr_exc, VI.own_v, VI.own_own, VI.own_dr, VI.own_no, VI.vo_n, VI.vo_s, VI.own_vo, VI.frz_vo, VI.rt_v, VI.rt_own, VI.ofO_s, VI.ofB_s, VI.bind_v, VI.bind_own, VI.bind_dr, VI.bind_tp, VI.frz_v, VI.frz_own, VI.frz_dr, VI.frz_no, VI.add_int, VI.sub_int, VI.cmp_eq, VI.cmp_ne, VI.cmp_in, VI.cmp_nin, VI.cmp_isN, VI.cmp_isnN, VI.cmp_isB, VI.cmp_isnB, VI.cmp_lt, VI.cmp_le, VI.cmp_gt, VI.cmp_ge, VI.eq_str, VI.bi_1, VI.bi_2, VI.len_tup, VI.len_lst, VI.len_con, VI.bi_int, VI.bi_abs, VI.bi_tup, VI.bi_tupL, VI.bi_lst, VI.bi_lstL, VI.bi_max, VI.bi_min, VI.gcd_i, VI.sl_tup, VI.sl_lst, VI.int_o, VI.neg_i, VI.sq_tup, VI.sq_lst, VI.sq_con, VI.en_tup, VI.en_lst, VI.sqv_tup, VI.sqv_lst, VI.sqv_con, VI.isin_, VI.own_R, VI.kill0, VI.kill1, VI.frz_none, VI.frz_some, VI.frzI_none, VI.frzI_some, VI.frzL0, VI.frzL1, VI.tup_ok, VI.lst_ok, VI.lkV, VI.retLk, VI.ownAt, VI.esc, VI.escp, VI.escs, VI.escps, VI.escI, VI.escF, VI.le_0, VI.le_1, VI.le_2, VI.le_3, VI.le_4, VI.le_5, VI.le_6, VI.le_7, VI.le_8, VI.le_9, VI.le_10, VI.le_11, VI.le_12, VI.le_13, VI.le_14, VI.le_15, VI.le_16, K72.gs_0, K72.gs_1, K72.gs_2, K72.gs_3, K72.gs_4, K72.gs_5, K72.gs_6, K72.gs_7, K72.gs_8, K72.gs_9, K72.gs_10, K72.gs_11, K72.gs_12, K72.gs_13, K72.gs_14, K72.gs_15, K72.gs_16, K72.gs_17, K72.gs_18, K72.gs_19, K72.gs_20, K72.gs_21, K72.gs_22, K72.gs_23, K72.gs_24, K72.gs_25, K72.gs_26, K72.gs_27, K72.gs_28, K72.gs_29, K72.gs_30, K72.gs_31, K72.gs_32, K72.gs_33, K72.gs_34, K72.gs_35, K72.gs_36, K72.gs_37, K72.es_w_plain_form_1, K72.es_w_turned_by_1, K72.es_t_law_is_1, K72.es_e_law_is_1, K72.es_t_law_sums_1, K72.es_e_law_sums_1, K72.es_t_law_pair_right_1, K72.es_e_law_pair_right_1, K72.es_e_law_one_right_1, K72.es_e_law_one_right_2, K72.es_e_law_long_right_1, $xs,*])
/-! What the defs compute. -/

namespace K72
open PI PySem VI Fc
theorem refs (q : Q) : callV pg.prg gs 19 36 [] q = .ok (.v (.bl true)) q := by kernel_rfl
/-- a drawn fence -/
theorem l_fence {n : Nat} {ds : List Int} : ∃ (f : Fe) (ds' : List Int), callV pg.prg gs (n+2) 26 [.dr] (QD ds) = .ok (.v (fv f)) (QD ds') ∧ Sm f ∧ sizeF f ≤ 8 := by
  rw [u_law_fence]
  obtain ⟨d1, hd1⟩ : ∃ d, d = ds.dropLast := ⟨_, rfl⟩
  obtain ⟨d2, hd2⟩ : ∃ d, d = d1.dropLast := ⟨_, rfl⟩
  obtain ⟨d3, hd3⟩ : ∃ d, d = d2.dropLast := ⟨_, rfl⟩
  obtain ⟨d4, hd4⟩ : ∃ d, d = d3.dropLast := ⟨_, rfl⟩
  have tk0 := law_take (n := n) (ds := ds) (m := 6) (by decide)
  have tk1 := law_take (n := n) (ds := d1) (m := 4) (by decide)
  have tk2 := law_take (n := n) (ds := d2) (m := 7) (by decide)
  have tk3 := law_take (n := n) (ds := d3) (m := 7) (by decide)
  rw [← hd1] at tk0
  rw [← hd2] at tk1
  rw [← hd3] at tk2
  rw [← hd4] at tk3
  have a0 := tkv_lo (ds := d1) (m := 4) (by decide)
  have a1 := tkv_hi (ds := d1) (m := 4) (by decide)
  obtain ⟨x, hx, ix0⟩ := ix_take (l := [.int 0, .int 3, .int (-5), .int 12, .int (-1), .int 7]) (ds := ds) (m := 6) rfl (by decide)
  obtain ⟨x, rfl, x0, x1⟩ : ∃ y, x = .int y ∧ -5 ≤ y ∧ y ≤ 12 := by
    simp only [List.mem_cons, List.not_mem_nil, or_false] at hx
    rcases hx with rfl | rfl | rfl | rfl | rfl | rfl <;> exact ⟨_, rfl, by decide, by decide⟩
  obtain ⟨y, hy, iy⟩ := ix_take (l := [.int 4, .int 1, .int 6, .int 3, .int 8, .int 2, .int 5]) (ds := d2) (m := 7) rfl (by decide)
  obtain ⟨y, rfl, y0, y1⟩ : ∃ z, y = .int z ∧ 1 ≤ z ∧ z ≤ 8 := by
    simp only [List.mem_cons, List.not_mem_nil, or_false] at hy
    rcases hy with rfl | rfl | rfl | rfl | rfl | rfl | rfl <;> exact ⟨_, rfl, by decide, by decide⟩
  obtain ⟨z, hz, iz⟩ := ix_take (l := [.int 2, .int 3, .int 1, .int 6, .int 4, .int 5, .int 10]) (ds := d3) (m := 7) rfl (by decide)
  obtain ⟨z, rfl, z0, z1⟩ : ∃ y, z = .int y ∧ 1 ≤ y ∧ y ≤ 10 := by
    simp only [List.mem_cons, List.not_mem_nil, or_false] at hz
    rcases hz with rfl | rfl | rfl | rfl | rfl | rfl | rfl <;> exact ⟨_, rfl, by decide, by decide⟩
  have i5 : ∀ q, negV (.int 5) q = .ok (.v (.int (-5))) q := fun q => rfl
  by_cases w : y = 1
  · refine ⟨⟨x + tkv d1 4, x + tkv d1 4, 0⟩, d4, ?_, ⟨.inl ⟨rfl, rfl⟩, by simp only; omega, by simp only; omega, by simp⟩, by unfold sizeF; simp⟩
    simp? [gs, d0_law_fence, tk0, tk1, tk2, tk3, ix0, iy, iz, ixRV, eq_int, w]
    rfl
  · have p : 0 < z * (y - 1) := Int.mul_pos (by omega) (by omega)
    have p2 : z * (y - 1) ≤ 10 * 7 := Int.mul_le_mul z1 (by omega) (by omega) (by decide)
    have e : x + tkv d1 4 + z * (y - 1) - (x + tkv d1 4) = z * (y - 1) := by omega
    refine ⟨⟨x + tkv d1 4, x + tkv d1 4 + z * (y - 1), z⟩, d4, ?_, ⟨.inr ⟨by simp only; omega, by simp only; omega, by simp only; rw [e]; exact Int.mul_emod_right _ _⟩, by simp only; omega, by simp only; omega, by simp only; omega⟩, ?_⟩
    · have mm := VI.mul_int (q := QD d4) (mulOk_s (a := z) (b := y - 1) (by omega) (by omega))
      simp? [gs, d0_law_fence, tk0, tk1, tk2, tk3, ix0, iy, iz, ixRV, eq_int, w, mm]
      rfl
    · unfold sizeF
      simp only
      rw [if_neg (by omega), e, Int.mul_ediv_cancel_left _ (by omega)]
      omega
def rest72 : B := match d0_law with
  | .cons _ r => r
  | .nil => .nil
theorem pw18 {q : Q} : binV .pow (.int 10) (.int 18) q = .ok (.v (.int 1000000000000000000)) q := by rfl
theorem pw35 {q : Q} : binV .pow (.int 10) (.int 35) q = .ok (.v (.int 100000000000000000000000000000000000)) q := by rfl
theorem pw12 {q : Q} : binV .pow (.int 10) (.int 12) q = .ok (.v (.int 1000000000000)) q := by rfl
theorem law_run {S : V} {ds : List Int} : ∃ q2, vevB (KV 19) rest72 [some (.v S), some .dr, none, none, none, none, none, none, none, none] (QD ds) = .rt (.v (.bl true)) q2 := by
  obtain ⟨f, d1, e1, sf, cf⟩ := l_fence (n := 17) (ds := ds)
  obtain ⟨g, d2, e2, sg, cg⟩ := l_fence (n := 17) (ds := d1)
  obtain ⟨d3, hd3⟩ : ∃ d, d = d2.dropLast := ⟨_, rfl⟩
  obtain ⟨d4, hd4⟩ : ∃ d, d = d3.dropLast := ⟨_, rfl⟩
  obtain ⟨d5, hd5⟩ : ∃ d, d = d4.dropLast := ⟨_, rfl⟩
  have tk2 := law_take (n := 18) (ds := d2) (m := 4) (by decide)
  have tk3 := law_take (n := 18) (ds := d3) (m := 3) (by decide)
  have tk4 := law_take (n := 18) (ds := d4) (m := 30) (by decide)
  rw [← hd3] at tk2
  rw [← hd4] at tk3
  rw [← hd5] at tk4
  have a0 := tkv_lo (ds := d4) (m := 30) (by decide)
  have a1 := tkv_hi (ds := d4) (m := 30) (by decide)
  obtain ⟨x, hx, ix0⟩ := ix_take (l := [.int 1, .int 1000000000000000000000000000000, .int 1, .int 1000000000000000009]) (ds := d2) (m := 4) rfl (by decide)
  obtain ⟨b, rfl, b0, b1⟩ : ∃ y, x = .int y ∧ 0 < y ∧ y < 10 ^ 31 := by
    simp only [List.mem_cons, List.not_mem_nil, or_false] at hx
    rcases hx with rfl | rfl | rfl | rfl <;> exact ⟨_, rfl, by decide, by decide⟩
  obtain ⟨y, hy, iy⟩ := ix_take (l := [.int 0, .int 100000000000000000000000000000000007, .int (-100000000000000000000)]) (ds := d3) (m := 3) rfl (by decide)
  obtain ⟨m, rfl, m0⟩ : ∃ z, y = .int z ∧ z.natAbs < 10 ^ 36 := by
    simp only [List.mem_cons, List.not_mem_nil, or_false] at hy
    rcases hy with rfl | rfl | rfl <;> exact ⟨_, rfl, by decide⟩
  have v : Mv b m := ⟨b0, b1, m0⟩
  have v1 : Mv 1 0 := ⟨by decide, by decide, by decide⟩
  obtain ⟨d6, e6⟩ := l_one (n := 13) (ds := d5) sf cf v
  obtain ⟨d7, e7⟩ := l_one (n := 13) (ds := d6) sg cg v1
  obtain ⟨d8, e8⟩ := l_long (n := 13) (far := 1000000000000 + tkv d4 30) (ds := d7) ⟨by omega, by omega⟩
  have r0 : rest72 = (match d0_law with | .cons _ r => r | .nil => .nil) := rfl
  obtain ⟨N, sN, eN⟩ : ∃ N : Fe, Sm N ∧ N = (if f.hi - f.lo ≤ f.st then ⟨f.hi, f.hi, 0⟩ else ⟨f.lo + f.st, f.hi, f.st⟩) := by
    refine ⟨_, ?_, rfl⟩
    obtain ⟨ok, h1, h2, h3⟩ := sf
    have := ok.le
    split
    · exact ⟨.inl ⟨rfl, rfl⟩, by simp only; omega, by simp only; omega, by simp⟩
    · rename_i c
      rcases ok with o | o
      · omega
      · refine ⟨.inr ⟨o.1, by simp only; omega, ?_⟩, by simp only; omega, by simp only; omega, by simp only; omega⟩
        simp only
        rw [show f.hi - (f.lo + f.st) = f.hi - f.lo - f.st by omega]
        exact Int.emod_eq_zero_of_dvd (Int.dvd_sub (Int.dvd_of_emod_eq_zero o.2.2) (Int.dvd_refl _))
  refine ⟨QD d8, ?_⟩
  have wk : ∀ (l : List V) q, l.length ≤ 1000 → wlk l q = .ok l q := fun l q h => VI.wlk_ok (by omega)
  have lp : loopV (.tp [8, 9]) (vevB (KV 19) b_law_1) [.tup [fv f, fv g], .tup [fv g, fv f], .tup [fv f, fv f], .tup [fv N, fv f], .tup [fv f, fv N]] [some (.v S), some .dr, some (.v (fv f)), some (.v (fv g)), some (.v (.int b)), some (.v (.int m)), some (.v (.int (1000000000000 + tkv d4 30))), some (.v (fv N)), none, none] (QD d5) = .nx [some (.v S), some .dr, some (.v (fv f)), some (.v (fv g)), some (.v (.int b)), some (.v (.int m)), some (.v (.int (1000000000000 + tkv d4 30))), some (.v (fv N)), some (.v (fv f)), some (.v (fv N))] (QD d5) := by
    have p := fun {a c : Fe} (s : Sm a) (t : Sm c) => l_pair (n := 13) (q := QD d5) s t v
    have p1 := p sf sg
    have p2 := p sg sf
    have p3 := p sf sf
    have p4 := p sN sf
    have p5 := p sf sN
    simp? [gs, VI.loop_cons2, VI.loopK, lstep, b_law_1, p1, p2, p3, p4, p5, VI.loop_nil]
  have rf := refs (QD d8)
  by_cases c : f.hi - f.lo ≤ f.st
  · rw [if_pos c] at eN
    have nE : V.tup [.int f.hi, .int f.hi, .int 0] = fv N := by rw [eN]; rfl
    simp? [gs, r0, d0_law, e1, e2, tk2, ix0, ixRV, pw30, pw18, pw35, pw20, pw12, tk3, iy, tk4, i0, i1, i2, c, nE, wk, lp, e6, e7, e8, rf]
  · rw [if_neg c] at eN
    have nE : V.tup [.int (f.lo + f.st), .int f.hi, .int f.st] = fv N := by rw [eN]; rfl
    simp? [gs, r0, d0_law, e1, e2, tk2, ix0, ixRV, pw30, pw18, pw35, pw20, pw12, tk3, iy, tk4, i0, i1, i2, c, nE, wk, lp, e6, e7, e8, rf]
theorem law_ok (is : List Int) (hl : is.length ≤ 63) : ∃ h', callI pg.prg 20 lawIx [.ref 0] [.con (is.map D.int)] = .ok (.bl true) h' := by
  obtain ⟨ds, e, l⟩ := law_draws (n := 18) (is := is) (q := none) hl
  obtain ⟨q2, r⟩ := law_run (S := .con (is.map V.int)) (ds := ds)
  exact VI.law_V (n := 19) (ix := lawIx) (dx := 20) (fd := c_law) (rest := rest72) rfl rfl (by decide) rfl e rfl (noLs_ints ds) r
end K72

set_option Elab.async false
set_option linter.all false
set_option maxRecDepth 100000
set_option maxHeartbeats 8000000
namespace K72
open PySem PySem.Spec PyProof.Rows L2 PI
abbrev R : PySem.W.OpenRow := PySem.W.OpenLaw.row PySem.Challenge.rw_onlywhatvaries_k72_fences_reckoned
abbrev q : Program := PySem.W.view R.prog (imps ++ [lawAt])
abbrev hk : PySem.W.Hook := hookP 4 pg
def ob (s : PySem.W.SharedT) : He.AlD := obsPG 4 pg (HeadRun.getT s)
theorem ob_eq (s : PySem.W.SharedT) : ob s = hk.obs s.abs := obsPG_eq (HeadRun.getT_eq s)
theorem run (w : World) : HeadRun.RunEqI R q hk ob 3000 loose w := by
  unfold HeadRun.RunEqI
  kernel_rfl
end K72

set_option Elab.async false
set_option linter.all false
set_option maxRecDepth 100000
set_option maxHeartbeats 8000000
open PySem PySem.W PySem.Calls PyProof.Rows
theorem PySem.Challenge.cw_onlywhatvaries_k72_fences_reckoned_holds : PySem.Challenge.rw_onlywhatvaries_k72_fences_reckoned.Holds := by
  w_on; o_law
  refine HeadRun.head_imp (r := K72.R) (q := K72.q) (H := K72.hk) (ob := K72.ob) (M := 3000) (loose := K72.loose) (d := HandSHeadRun.topDef K72.R.prog K72.lawAt) (kwd := []) K72.ob_eq K72.run (by kernel_rfl) (by kernel_rfl) (by kernel_rfl) (by rfl) (by first | assumption | decide +kernel) (by decide +kernel) ⟨rfl, rfl, rfl, rfl, rfl, by decide +kernel⟩ ?hw ?hc
  case hw => w_witness2
  case hc =>
    refine PI.walk_ofG (l := PySem.Challenge.rw_onlywhatvaries_k72_fences_reckoned) (n := 63) (k := 20 + 3) rfl (by decide) (by kernel_rfl) ⟨rfl, by decide, by decide⟩ ?F
    intro w mg fa h Y G hm0
    obtain ⟨K, KX, c⟩ := Y
    have hm : mg ("law" : PySem.Str) = some (.ref fa) := by
      have e : (HandSHeadRun.topDef K72.R.prog K72.lawAt).name = ("law" : PySem.Str) := by kernel_rfl
      rw [← e]
      exact hm0
    refine ⟨K, PI.spI (PI.parOf K (K72.pg.cls K) K72.pg.att K72.pg.prg 20) K72.lawIx, KX, fun H a ns hl hO hS => PI.sp_law (K72.law_ok ns hl) hO hS, fun base hb hn => ?_⟩
    obtain ⟨a, fd, ps, m1, m2, m3, m4⟩ := PI.fn_sound (PI.mdl_of (prog := K72.R.prog) (w := w) (by decide) K72.oks K72.ers c hb hn) 20 K72.lawIx "law" (by rfl)
    have e2 : a = fa := by
      rw [hm] at m1
      cases m1
      rfl
    subst e2
    exact ⟨fd, ps, m3, m4⟩

