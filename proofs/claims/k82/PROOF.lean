import PyProof.Rows.All
import Wide.All
import OpenK.AllK
import Wide.FinOn
import PyProof.Draws
import PyProof.EnumMake
import PyProof.ListMulRoad
import PyProof.FactsAll.tuple_2
import KE.GoesEnum
import HandS.Base
import HandS.Call
import HandS.List
import HandS.Iter
import HandS.TupMul
import HandS.TupAny
import HandS.NoneIn
import HandS.SortRule
import HandS.ForMost
import HandS.ForExc
import HandS.Wide
import HandS.Flow
import HandS.Style
import HandS.IsInst
import HandS.Conv
import HandS.Zip
import HandS.Rev
import HandS.SortInts
import HandS.Lambda
import PyProof.ReprReads
import PyProof.ReprRoads
import HandS.Slots
import HandS.SlotsOwn
import PyProof.AssignAttr
import HandS.ExcInit
import HandS.ExcSuper
import HandS.ExcValue
import KE.KExcSuper
import KE.KExcInit
import HandS.TryMany
import HandS.ExcField
import HandS.Words
import HandS.WordsExc
import HandS.Defaults
import KE.KStateDown
import Lean
import HandS.Head0
import HandS.Head1
import HandS.Head2
import HandS.HeadEnd
import HandS.HeadHook1
import HandS.HeadHook2
import HandS.HeadHook4
import HandS.EndTab
import HandS.HeadWalk
import PySem.Challenge.RW_turnseries_k82_errors_of_brackets
set_option Elab.async false
set_option linter.all false
set_option maxRecDepth 100000
set_option maxHeartbeats 0
set_option autoImplicit false
/-! MiA: enumerate of tuples, tuple * int, unpacking by value. -/
namespace Mi
open PySem PySem.Spec PyProof.Rows L2
open AutoSeq1 (wpAny_loadPart')
theorem meets_enumerate_new1 {v : Value} {o : Obj} {H : Heap → Prop} (B : Begins v o H) :
    Meets (Builtin.«enumerate.__new__» ⟨[.type "enumerate", v], []⟩) (fun _ R s => H s.heap ∧
      R (.ok (.ret (.ref (s.heap.push o).objs.size))) { s with heap := (s.heap.push o).push { cls := .type "enumerate", data := .fields #[.none, .bool false, .ref s.heap.objs.size, rawInt 0, .none, .none] } }) :=
  .of_wp fun prog w A R s h => by
    obtain ⟨hp, g, d, tk, os⟩ := s; obtain ⟨h1, h⟩ := h
    have hsub := sub_enumerate
    have q1 : ∀ {A' : Around} {E : Value → Shared → Prop} {Q : Value → Shared → Prop}, Q (.ref hp.objs.size) ⟨hp.push o, g, d, tk, os⟩ → wpAny (model prog w) A' (pyIter v) Q E ⟨hp, g, d, tk, os⟩ :=
      fun q => B.iter prog w _ _ ⟨hp, g, d, tk, os⟩ _ h1 q
    wp_walk using q1
    refine wpAny_stack_any fun st => wpAny_pure ?_
    split
    · rename_i c _ _ _ _ _
      cases (c == Value.type "enumerate")
      · wp_walk using q1
        exact ⟨_, rfl, h⟩
      · wp_walk using q1
        exact ⟨_, rfl, h⟩
    · wp_walk using q1
      exact ⟨_, rfl, h⟩
section
variable {prog : Program} {w : World} {A : Around} {E : Value → Shared → Prop} {s : Shared}
theorem call_enumerate_tuple {l : Addr} {items : Array Value} {Q : Value → Shared → Prop} (hL : s.heap.IsTuple l items)
    (h : ∀ h', IsEnum h' (s.heap.objs.size + 1) s.heap.objs.size 0 .none → h'.IsTupleIter s.heap.objs.size l 0 → h'.objs.size = s.heap.objs.size + 2 →
      (∀ b o, s.heap.get? b = some o → h'.get? b = some o) → Q (.ref (s.heap.objs.size + 1)) { s with heap := h' }) :
    wpAny (model prog w) A (call (.type "enumerate") [.ref l]) Q E s := by
  refine callType_new F.called_enumerate (by decide) (F.typeCall_enumerate_1 _) (F.newCall_enumerate_1 _) (fun obj => F.args_object_init_2 obj _) F.entry_enumerate_new
    (meets_enumerate_new1 (begins_tuple l items)) ⟨hL, ?_⟩
  have hz : (s.heap.push { cls := .type "tuple_iterator", data := .fields #[.ref l, .int 0 0] }).objs.size = s.heap.objs.size + 1 := Heap.size_push ..
  show _ ∧ _
  rw [hz]
  have he : IsEnum ((s.heap.push { cls := .type "tuple_iterator", data := .fields #[.ref l, .int 0 0] }).push
      { cls := .type "enumerate", data := .fields #[.none, .bool false, .ref s.heap.objs.size, rawInt 0, .none, .none] }) (s.heap.objs.size + 1) s.heap.objs.size 0 .none := by
    have := Heap.get?_push_size (s.heap.push { cls := .type "tuple_iterator", data := .fields #[.ref l, .int 0 0] })
      (o := { cls := .type "enumerate", data := .fields #[.none, .bool false, .ref s.heap.objs.size, rawInt 0, .none, .none] }) rfl
    rw [hz] at this; exact this
  refine ⟨⟨_, he, rfl⟩, h _ he ⟨_, Heap.get?_push_of_some _ (Heap.get?_push_size _ rfl), rfl, rfl⟩ (by rw [Heap.size_push, hz]) fun b o x => Heap.get?_push_of_some _ (Heap.get?_push_of_some _ x)⟩
end
theorem pyNext_enumT_end {prog : Program} {w : World} {A : Around} {E : Value → Shared → Prop} {s : Shared} {e it l : Addr} {i : Nat} {items : Array Value} {old : Value} {Q : Option Value → Shared → Prop} (hh : A.handled = none)
    (he : IsEnum s.heap e it i old) (hit : s.heap.IsTupleIter it l i) (hl : s.heap.IsTuple l items) (hx : items[i]? = none)
    (hQ : ∀ h', Heap.ExtBut it s.heap h' → Q none { s with heap := h' }) : wpAny (model prog w) A (pyNext (.ref e)) Q E s := by
  have hT : s.TypeIs (.ref e) "enumerate" := ⟨_, he, rfl⟩
  unfold pyNext
  refine wpAny_bind (wpAny_attempt (wpAny_callSpecial?_slot (name := Str.ofString "__next__") hT F.slot_enumerate_next
    (wpAny_call_entry F.slot_enumerate_next hT F.entry_enumerate_next ?_ (F.args_enumerate_next_1 _))))
  show wpAny _ _ (field (.ref e) 2 >>= _) _ _ _
  refine wpAny_bind (wpAny_field he rfl (x := .ref it) rfl ?_)
  refine wpAny_bind (wpAny_nextOf_tuple_end hh hit hl hx fun h' x he' hx' => ?_)
  obtain ⟨o, ho, hc⟩ := hx'
  refine wpAny_bind (wpAny_isInstance (T := "StopIteration") (b := true) ⟨o, ho, hc⟩ isSubtype_stop ?_)
  exact wpAny_pure (hQ _ he')
/-- the tuple at a, each item in a new pair -/
def IteT (K : PySem.W.Frag) (a : Addr) : It :=
  ⟨fun i H => ∃ (xs : List V) (x : V), SqT K H a xs ∧ xs[i]? = some x, fun i H v H' => ∃ T x, v = .ref T ∧ H T = none ∧ H' = upd H T (.tup [.int (i : Nat), x]) ∧ ∀ xs, SqT K H a xs → xs[i]? = some x, fun i H => ∃ xs : List V, SqT K H a xs ∧ xs.length ≤ i⟩
theorem turn_enumT {P : Program} {w : World} {K : PySem.W.Frag} {elts : List Expr} {kk : Nat} {tpos : Pos} (a e it : Addr) (hai : a ≠ it) (hea : e ≠ a) :
    Turn P w K (.Tuple elts kk tpos) (IteT K a) [e, it] e (fun i h => (∃ old, IsEnum h e it ((i : Nat) : Int) old) ∧ h.IsTupleIter it a i ∧ e ≠ it) where
  mem := by simp
  obj := fun i h st b hb => by
    obtain ⟨⟨old, he⟩, ⟨o, ho, hc, hd⟩, _⟩ := st
    have e' : b = e ∨ b = it := by simpa using hb
    rcases e' with z | z
    · rw [z]; exact ⟨_, he, fun v q => nomatch q⟩
    · rw [z]; exact ⟨o, ho, fun v q => by rw [hd] at q; cases q⟩
  keep := fun i h h' st k => let ⟨⟨old, he⟩, hi, hne⟩ := st; ⟨⟨old, k e (by simp) _ he⟩, hi.at fun o q => k it (by simp) o q, hne⟩
  item := by
    intro X hP hw hK hc i pins s σ H E I hf st hg
    subst hP hw hK
    obtain ⟨⟨old, he⟩, hit, hne⟩ := st
    obtain ⟨xs, x, hq, hx⟩ := hg
    obtain ⟨its, rv, p, hz⟩ := I.tuple hq
    obtain ⟨u, hu, ru⟩ := rv.get hx
    have hel : e < s.heap.objs.size := Heap.lt_size he
    have hil : it < s.heap.objs.size := by obtain ⟨_, q, _⟩ := hit; exact Heap.lt_size q
    have pt : s.heap.IsTuple a its.toArray := p
    have hlt : i < its.toArray.size := by
      have := (List.getElem?_eq_some_iff.mp hu).1
      simpa using this
    refine wpAny_pyNext_enum_itemD (Draws.tuple (prog := X.prog) (w := X.w) (A := X.A.in1) (I.ok.hd hc) it a hai its.toArray) he ⟨hit, pt⟩ hlt hne (by simp [hne, hea]) fun y h' tk hy ho hst' hT hsz hk => ?_
    have ey : y = u := by
      have h1 : its.toArray[i]? = some u := by simpa using hu
      rw [h1] at hy
      exact (Option.some.inj hy).symm
    subst ey
    refine ⟨_, rfl, wpAny_letOwnedTupleGo_enum (s := { s with heap := h', toks := tk + 1 }) ho fun h'' he' sb => ?_⟩
    have hT2 : h''.get? s.heap.objs.size = some { cls := .type "tuple", data := .seq #[.int i tk, y] } := (sb.2 _ (Nat.ne_of_gt hel)).trans hT
    have new : ObjOk X.prog X.w (upd H s.heap.objs.size (.tup [.int (i : Nat), x])) h'' s.heap.objs.size (.tup [.int (i : Nat), x]) :=
      ⟨by show 2 ≤ sizeLine; decide, [.int i tk, y], .cons ⟨_, rfl⟩ (.cons ru .nil), ⟨_, hT2, rfl, _, rfl⟩⟩
    have I1 : Inv X pins σ (upd H s.heap.objs.size (.tup [.int (i : Nat), x])) { s with heap := h'', toks := tk + 1 } :=
      I.turnedNew (ch := [e, it]) (fun b ob hb q => (sb.2 b (fun z => hb (by simp [z]))).trans (hk b ob (fun z => hb (by simp [z])) (fun z => hb (by simp [z])) q)) hf (Nat.le_refl _) new
    refine ⟨.ref s.heap.objs.size, _, I1, rfl, ⟨_, x, rfl, I.hok.fresh (Nat.le_refl _), rfl, fun ys hy => by rw [I.tuple_inj hy hq]; exact hx⟩, ⟨⟨y, ?_⟩, hst'.1.at fun o q => (sb.2 it (Ne.symm hne)).trans q, hne⟩, fun b hb => ?_⟩
    · have e1 : ((i + 1 : Nat) : Int) = (i : Int) + 1 := by omega
      rw [e1]; exact he'
    · have hb' : b < s.heap.objs.size := by
        have e' : b = e ∨ b = it := by simpa using hb
        rcases e' with z | z
        · rw [z]; exact hel
        · rw [z]; exact hil
      rw [upd_ne (Nat.ne_of_lt hb')]
      exact (hf b hb).1
  done := by
    intro X hP hw hK hc i pins s σ H E I hf st hg
    subst hP hw hK
    obtain ⟨⟨old, he⟩, hit, hne⟩ := st
    obtain ⟨xs, hq, hx⟩ := hg
    obtain ⟨its, rv, p, hz⟩ := I.tuple hq
    obtain ⟨f0, f1, f2, f3, f4, f5⟩ := hf it (by simp)
    have hl := rv.length
    have pt : s.heap.IsTuple a its.toArray := p
    exact pyNext_enumT_end (I.ok.hd hc) he hit pt (by simp; omega) fun h' eb => ⟨rfl, I.turned (t' := s.toks) (fun b o hb q => eb b o hb q) f0 f1 f3 f4 f5⟩
  self := fun A i s Q E st h => let ⟨⟨_, he⟩, _⟩ := st; wpAny_pyIter_enum he h
/-- enumerate of a list, of a tuple -/
def iEnumA (K : PySem.W.Frag) (ta : TA) : TI := fun σ H R => ta σ H fun vs H1 => ∃ a xs, vs = [.ref a] ∧ ((SqL K H1 a xs ∧ R (Ite K a) H1) ∨ (SqT K H1 a xs ∧ R (IteT K a) H1))
theorem pi_enumA {X : Cx} {e : Expr} {ta : TA} {p pos tpos : Pos} {elts : List Expr} {kk : Nat} (hg : Gl X "enumerate") (hm : X.mg "enumerate" = none) (ha : PA X [e] ta) (hs : starEach [e] X.env = [(false, eval e X.env)]) :
    PI X (.Tuple elts kk tpos) (.Call (.Name "enumerate" p) [e] [] pos) (iEnumA X.K ta) := by
  refine ⟨fun pins s σ H R I h => ?_⟩
  refine Call_ (ld_blt I hg hm boot_enumerate (PyProof.Rows.callWith_type1 (thn (ha.run pos pins s σ H _ I h) fun us s1 ⟨vs, H1, I1, r1, q1⟩ => ?_) hs rfl))
  obtain ⟨a, xs, ex, q⟩ := q1
  subst ex
  cases r1 with
  | cons r rr =>
    cases rr
    cases r
    have fp : ∀ b ∈ [s1.heap.objs.size + 1, s1.heap.objs.size], FpOk X pins H1 b := fun b hb => by
      have e' : b = s1.heap.objs.size + 1 ∨ b = s1.heap.objs.size := by simpa using hb
      have hle : s1.heap.objs.size ≤ b := by
        rcases e' with z | z
        · rw [z]; exact Nat.le_add_right _ _
        · rw [z]; exact Nat.le_refl _
      exact I1.fpOk hle (I1.hok.fresh hle)
    rcases q with ⟨hq, q⟩ | ⟨hq, q⟩
    · obtain ⟨its, rv, p', hz⟩ := I1.list hq
      refine call_enumerate_list p'.isList fun h' he hit hsz hk => wpAny_pyIter_enum he ?_
      have I2 : Inv X pins σ H1 { s1 with heap := h' } := I1.kept (t' := s1.toks) hk
      exact ⟨s1.heap.objs.size + 1, [s1.heap.objs.size + 1, s1.heap.objs.size], _, _, H1, rfl, I2, turn_enum a (s1.heap.objs.size + 1) s1.heap.objs.size, ⟨⟨.none, he⟩, hit, Nat.succ_ne_self _⟩, fp, q⟩
    · obtain ⟨its, rv, p', hz⟩ := I1.tuple hq
      have pt : s1.heap.IsTuple a its.toArray := p'
      obtain ⟨o, ho, _⟩ := id p'
      have hl : a < s1.heap.objs.size := Heap.lt_size ho
      refine call_enumerate_tuple pt fun h' he hit hsz hk => wpAny_pyIter_enum he ?_
      have I2 : Inv X pins σ H1 { s1 with heap := h' } := I1.kept (t' := s1.toks) hk
      exact ⟨s1.heap.objs.size + 1, [s1.heap.objs.size + 1, s1.heap.objs.size], _, _, H1, rfl, I2, turn_enumT a (s1.heap.objs.size + 1) s1.heap.objs.size (Nat.ne_of_lt hl) (Nat.ne_of_gt (Nat.lt_succ_of_lt hl)), ⟨⟨.none, he⟩, hit, Nat.succ_ne_self _⟩, fp, q⟩

/-! ### tuple * int -/
theorem tuple_mul_same (l : Addr) (items : Array Value) (n : Nat) (dd : Option Addr) (sl : Array (Option Value)) (x : Int) (u : Tok) (c0 : (decide (x < -(2 ^ 63)) || decide (x ≥ 2 ^ 63)) = false) (c1 : (items.isEmpty || x == 1) = true) :
    Meets (Builtin.«tuple.__mul__» ⟨[.ref l, .int x u], []⟩) (fun _ R s => s.heap.get? l = some { cls := .type "tuple", dict := dd, data := .seq items n, slots := sl } ∧ R (.ok (.ret (Value.ref l))) s) :=
  .of_wp fun prog w A R s h => by
    obtain ⟨hp, g, d, tk, os⟩ := s
    obtain ⟨hl, h⟩ := h
    have f1 := AutoSeq1.idx_int
    wp_walk using wpAny_loadPart' hl
    repeat (first
      | (refine wpAny_ite_false (decide_eq_false (by rw [c0]; exact Bool.false_ne_true)) ?_; wp_walk using wpAny_loadPart' hl)
      | (refine wpAny_ite_true (decide_eq_true c1) ?_; wp_walk using wpAny_loadPart' hl))
    exact ⟨_, rfl, h⟩
theorem tuple_mul_none (l : Addr) (items : Array Value) (n : Nat) (dd : Option Addr) (sl : Array (Option Value)) (x : Int) (u : Tok) (c0 : (decide (x < -(2 ^ 63)) || decide (x ≥ 2 ^ 63)) = false) (c1 : (items.isEmpty || x == 1) = false) (c2 : (decide (x ≤ 0) || items.isEmpty) = true) :
    Meets (Builtin.«tuple.__mul__» ⟨[.ref l, .int x u], []⟩) (fun _ R s => s.heap.get? l = some { cls := .type "tuple", dict := dd, data := .seq items n, slots := sl } ∧
      R (.ok (.ret (Value.ref s.heap.objs.size))) { s with heap := s.heap.push { cls := Value.type "tuple", data := Data.seq #[] }, toks := s.toks }) :=
  .of_wp fun prog w A R s h => by
    obtain ⟨hp, g, d, tk, os⟩ := s
    obtain ⟨hl, h⟩ := h
    have f1 := AutoSeq1.idx_int
    wp_walk using wpAny_loadPart' hl
    repeat (first
      | (refine wpAny_ite_false (decide_eq_false (by rw [c0]; exact Bool.false_ne_true)) ?_; wp_walk using wpAny_loadPart' hl)
      | (refine wpAny_ite_false (decide_eq_false (by rw [c1]; exact Bool.false_ne_true)) ?_; wp_walk using wpAny_loadPart' hl)
      | (refine wpAny_ite_true (decide_eq_true c2) ?_; wp_walk using wpAny_loadPart' hl))
    exact ⟨_, rfl, h⟩
def rRepA (K : PySem.W.Frag) : R2 := fun x y H Q => ∃ l k xs, x = .ref l ∧ y = .int k ∧ SqT K H l xs ∧ -9223372036854775808 ≤ k ∧ k < 9223372036854775808 ∧ xs.length * k.toNat ≤ sizeLine ∧
  ((xs = [] ∨ k = 1) → Q (.ref l) H) ∧ (¬ (xs = [] ∨ k = 1) → ∀ p, H p = none → Q (.ref p) (upd H p (.tup (List.replicate k.toNat xs).flatten)))
section
variable {X : Cx}
theorem op_repA : OpR X (binaryOp .Mult) (rRepA X.K) := by
  intro pins s σ H x y v u Q I rx ry h
  obtain ⟨l, k, xs, rfl, rfl, hT, h1, h2, hz, q1, q2⟩ := h
  cases rx
  obtain ⟨t, rfl⟩ := ry
  obtain ⟨its, r, ⟨⟨cls, dd, data, sl⟩, ho, hc, n, hd⟩, hs⟩ := I.tuple hT
  simp only at hc hd
  subst hc hd
  have hle : its.length = xs.length := r.length.symm
  have hsz0 : its.toArray.size = xs.length := by rw [List.size_toArray, hle]
  have c0 : (decide (k < -(2 ^ 63)) || decide (k ≥ 2 ^ 63)) = false := by
    rw [decide_eq_false (by omega), decide_eq_false (by omega)] <;> rfl
  have hemp : its.toArray.isEmpty = decide (xs = []) := by
    cases its with
    | nil =>
      have : xs = [] := List.eq_nil_of_length_eq_zero hle.symm
      rw [this] <;> rfl
    | cons a b =>
      have : xs ≠ [] := fun e => by rw [e] at hle; cases hle
      rw [decide_eq_false this] <;> rfl
  have road : ∀ {Q' : Value → Shared → Prop}, wpAny (model X.prog X.w) X.A (call (.builtin "tuple.__mul__") [.ref l, .int k t]) Q' X.xe s → wpAny (model X.prog X.w) X.A (binaryOp .Mult (.ref l) (.int k t)) Q' X.xe s := fun hcall =>
    wpAny_binaryOp_repeat_ref (T := "tuple") (U := "int") (by decide) ⟨_, ho, rfl⟩ (fun s' => typeIs_int s' k t) noFill_tuple_mul F.fills_int_mul F.slot_int_rmul repeat_tuple F.slot_int_index.lookup
      (call_meets F.slot_int_rmul (typeIs_int s k t) F.entry_int_rmul (F.args_int_rmul_2 _ _) (int_rmul_tuple k t l its.toArray n dd sl) ⟨ho, rfl, ⟨_, ho, rfl⟩, hcall⟩)
  by_cases hsame : xs = [] ∨ k = 1
  · have c1 : (its.toArray.isEmpty || k == 1) = true := by
      rw [hemp]
      rcases hsame with e | e
      · rw [decide_eq_true e] <;> rfl
      · rw [e]; simp
    refine road (call_meets F.slot_tuple_mul ⟨_, ho, rfl⟩ F.entry_tuple_mul (F.args_tuple_mul_2 _ _) (tuple_mul_same l its.toArray n dd sl k t c0 c1) ⟨ho, ?_⟩)
    exact ⟨.ref l, H, I, rfl, q1 hsame⟩
  · have hn := not_or.mp hsame
    have c1 : (its.toArray.isEmpty || k == 1) = false := by
      rw [hemp, decide_eq_false hn.1, Bool.false_or]
      exact beq_eq_false_iff_ne.mpr hn.2
    have q3 := q2 hsame
    by_cases hk : k ≤ 0
    · have c2 : (decide (k ≤ 0) || its.toArray.isEmpty) = true := by rw [decide_eq_true hk] <;> rfl
      refine road (call_meets F.slot_tuple_mul ⟨_, ho, rfl⟩ F.entry_tuple_mul (F.args_tuple_mul_2 _ _) (tuple_mul_none l its.toArray n dd sl k t c0 c1 c2) ⟨ho, ?_⟩)
      have e0 : (List.replicate k.toNat xs).flatten = [] := by
        have : k.toNat = 0 := by omega
        rw [this] <;> rfl
      rw [e0] at q3
      refine ⟨.ref s.heap.objs.size, _, I.laid (t' := s.toks) (o := .tup []) (fun b ob q => Heap.get?_push_of_some _ q) (Nat.le_refl _) ?_, rfl, q3 _ (I.hok.fresh (Nat.le_refl _))⟩
      exact ⟨Nat.zero_le _, [], .nil, IsTup.new _ _⟩
    · have c2 : (decide (k ≤ 0) || its.toArray.isEmpty) = false := by
        rw [hemp, decide_eq_false hn.1, decide_eq_false hk] <;> rfl
      have hm : ((its.toArray.size : Nat) : Int) * k ≤ 16777216 := by
        rw [hsz0]
        have e : k = (k.toNat : Int) := by omega
        rw [e, ← Int.natCast_mul]
        rw [sizeLine_eq] at hz
        omega
      have flen : (List.replicate k.toNat its).flatten.length ≤ sizeLine := by
        rw [PyProof.Rows.lm_len_rep_flat, hle, Nat.mul_comm]
        exact hz
      have c4 : Builtin.Tuple.tupleTooMany (((its.toArray.size : Nat) : Int) * k) = false := by
        unfold Builtin.Tuple.tupleTooMany
        rw [sizeLine_eq]
        exact decide_eq_false (by omega)
      refine road (call_meets F.slot_tuple_mul ⟨_, ho, rfl⟩ F.entry_tuple_mul (F.args_tuple_mul_2 _ _) (tuple_mulW l its.toArray n dd sl k t c0 c1 c2 (by omega) c4 (by rw [size_rep, List.size_toArray]; exact flen)) ⟨ho, ?_⟩)
      rw [size_rep]
      refine ⟨.ref s.heap.objs.size, _, I.laid (t' := s.toks) (o := .tup (List.replicate k.toNat xs).flatten) (fun b ob q => Heap.get?_push_of_some _ q) (Nat.le_refl _) ?_, rfl, q3 _ (I.hok.fresh (Nat.le_refl _))⟩
      exact ⟨by rw [PyProof.Rows.lm_len_rep_flat, Nat.mul_comm]; exact hz, _, r.rep k.toNat, IsTup.new _ _⟩
/-- (a, b, ..) = a tuple or a list of that length -/
def gSeq (K : PySem.W.Frag) (n : Nat) (t : TGs) : TG := fun v σ H Q => ∃ a xs, v = .ref a ∧ (SqL K H a xs ∨ SqT K H a xs) ∧ xs.length = n ∧ t xs σ H Q
theorem pg_seq {es : List Expr} {k : Nat} {t : TGs} {n : Nat} {pos : Pos} (hc : X.calm = true) (h : PGs X es t)
    (hn : (assignEach es X.env).length = n) (hst : (assignEach es X.env).findIdx? (·.1) = none) : PG X (.Tuple es k pos) (gSeq X.K n t) := by
  refine ⟨fun pins s σ H v u Q I r hw => ?_⟩
  obtain ⟨a, xs, e1, hq, hl, hw⟩ := hw
  rcases hq with hq | hq
  · exact (pg_unl hc h hn hst).run pins s σ H v u Q I r ⟨a, xs, e1, hq, hl, hw⟩
  · exact (pg_tup hc h hn hst).run pins s σ H v u Q I r ⟨a, xs, e1, hq, hl, hw⟩
end
end Mi

/-! MiK: sorted of tuples of whole numbers, all of one length. -/
namespace SrtT
open PySem PyProof.Rows SrtO
/-- by the first that differs -/
def lexL : List Int → List Int → Bool
  | [], [] => false
  | [], _ :: _ => true
  | _ :: _, [] => false
  | a :: r, b :: q => if a = b then lexL r q else decide (a < b)
theorem lexL_refl : ∀ x : List Int, lexL x x = false
  | [] => rfl
  | a :: r => by rw [lexL, if_pos rfl, lexL_refl r]
theorem lexL_asym : ∀ x y : List Int, lexL x y = true → lexL y x = false
  | [], [], h => by simp [lexL] at h
  | [], _ :: _, _ => rfl
  | _ :: _, [], h => by simp [lexL] at h
  | a :: r, b :: q, h => by
    rw [lexL] at h ⊢
    by_cases e : a = b
    · rw [if_pos e] at h
      rw [if_pos e.symm]
      exact lexL_asym r q h
    · rw [if_neg e, decide_eq_true_eq] at h
      rw [if_neg (fun c => e c.symm)]
      exact decide_eq_false (by omega)
theorem lexL_tr : ∀ x y z : List Int, lexL y x = false → lexL z y = false → lexL z x = false
  | [], y, [], _, _ => rfl
  | [], y, _ :: _, _, _ => rfl
  | a :: r, [], z, h, _ => by simp [lexL] at h
  | a :: r, b :: q, [], _, h => by simp [lexL] at h
  | a :: r, b :: q, c :: s, h1, h2 => by
    rw [lexL] at h1 h2 ⊢
    by_cases e1 : b = a
    · rw [if_pos e1] at h1
      by_cases e2 : c = b
      · rw [if_pos e2] at h2
        rw [if_pos (e2.trans e1)]
        exact lexL_tr r q s h1 h2
      · rw [if_neg e2, decide_eq_false_iff_not] at h2
        rw [if_neg (by omega)]
        exact decide_eq_false (by omega)
    · rw [if_neg e1, decide_eq_false_iff_not] at h1
      by_cases e2 : c = b
      · rw [if_neg (by omega)]
        exact decide_eq_false (by omega)
      · rw [if_neg e2, decide_eq_false_iff_not] at h2
        rw [if_neg (by omega)]
        exact decide_eq_false (by omega)
theorem lexL_eq : ∀ x y : List Int, lexL x y = false → lexL y x = false → x = y
  | [], [], _, _ => rfl
  | [], _ :: _, h, _ => by simp [lexL] at h
  | _ :: _, [], _, h => by simp [lexL] at h
  | a :: r, b :: q, h1, h2 => by
    rw [lexL] at h1 h2
    by_cases e : a = b
    · rw [if_pos e] at h1
      rw [if_pos e.symm] at h2
      rw [e, lexL_eq r q h1 h2]
    · rw [if_neg e, decide_eq_false_iff_not] at h1
      rw [if_neg (fun c => e c.symm), decide_eq_false_iff_not] at h2
      omega
theorem swo_lexL {α : Type} (k : α → List Int) : Swo fun v u => lexL (k v) (k u) := ⟨fun x y h => lexL_asym _ _ h, fun x y z h1 h2 => lexL_tr _ _ _ h1 h2⟩
section
variable {prog : Program} {w : World} {A : Around} {E : Value → Shared → Prop} {s : Shared} {Q : Bool → Shared → Prop}
theorem lexL_ints {b : Bool} {xs ys : List Value} {ns ms : List Int} (i : Nat) (hx : IntsAre xs ns) (hy : IntsAre ys ms) (hl : ns.length = ms.length)
    (h : Q (lexL ns ms) s) : PySem.W.KatLex prog w A b false Q (xs.zip ys) i s := by
  induction hx generalizing ys ms i with
  | nil =>
    cases hy with
    | nil => exact PySem.W.kat_nil h
    | cons q u hy => simp at hl
  | @cons p t xs ns hx ih =>
    cases hy with
    | nil => simp at hl
    | @cons q u ys ms hy =>
      have hl' : ns.length = ms.length := by simpa using hl
      show PySem.W.KatLex prog w A b false Q ((Value.int p t, Value.int q u) :: xs.zip ys) i s
      refine PySem.W.kat_cons (wpAny_eqBool_int ?_)
      rw [lexL] at h
      by_cases e : p = q
      · subst e
        rw [if_pos rfl] at h
        rw [beq_self_eq_true]
        refine PySem.W.kat_yes ?_
        first
          | exact ih (i + 1) hy hl' h
          | exact ih _ _ (i + 1) hy hl' h
      · rw [if_neg e] at h
        rw [show (p == q) = false from beq_eq_false_iff_ne.mpr e]
        exact PySem.W.kat_no (TS.oneLt_ints _ h)
theorem firsts_of {h : Heap} {d : Nat} (hd : 1 ≤ d) : ∀ vs : List Value, (∀ v ∈ vs, ∃ ns, TS.TupInts h v ns ∧ ns.length = d) → ∃ fs, PySem.W.KatTups h vs fs ∧ fs.length = vs.length ∧ ∀ f, f ∈ fs → ∃ n t, f = Value.int n t
  | [], _ => ⟨[], PySem.W.KatTups.nil, rfl, fun f hf => by simp at hf⟩
  | v :: vs, x => by
    obtain ⟨fs, k, hl, hi⟩ := firsts_of hd vs fun u hu => x u (List.mem_cons_of_mem _ hu)
    obtain ⟨ns, ⟨a, xs, rfl, ⟨o, ho, hc, n, hdt⟩, i⟩, hn⟩ := x v (List.mem_cons_self ..)
    obtain ⟨y, ys, e⟩ : ∃ y ys, xs.toList = y :: ys := by
      cases q : xs.toList with
      | nil =>
        rw [q] at i
        have l := i.length
        rw [List.length_nil, hn] at l
        omega
      | cons y ys => exact ⟨y, ys, rfl⟩
    obtain ⟨m, t, hy⟩ := i.all y (by rw [e]; exact List.mem_cons_self ..)
    refine ⟨y :: fs, PySem.W.KatTups.cons ho hc hdt ?_ k, by simp [hl], ?_⟩
    · have z := congrArg (fun l : List Value => l[0]?) e
      simpa using z
    · intro f hf
      rcases List.mem_cons.mp hf with rfl | hf
      · exact ⟨m, t, hy⟩
      · exact hi f hf
end
section
variable {prog : Program} {w : World} {A : Around} {E : Value → Shared → Prop} {s : Shared}
theorem tup_cmp {d : Nat} {vs : List Value} {k : Value → List Int} (hp : ∀ v ∈ vs, TS.TupInts s.heap v (k v) ∧ (k v).length = d) : Cmp prog w A s (tuples' true) (fun p => p.1 ∈ vs) (lt2 fun v u => lexL (k v) (k u)) := by
  intro p q hm hm'
  obtain ⟨⟨a, xs, e1, ⟨o, ho, hc, n, hdt⟩, i⟩, lp⟩ := hp _ hm
  obtain ⟨⟨a', ys, e2, ⟨o', ho', hc', n', hdt'⟩, i'⟩, lq⟩ := hp _ hm'
  show wpAny (model prog w) A (keyLt' (tuples' true) p.1 q.1) (fun r s' => s' = s ∧ r = lexL (k p.1) (k q.1)) (fun _ _ => False) s
  generalize k p.1 = ns at i lp ⊢
  generalize k q.1 = ms at i' lq ⊢
  rw [e1, e2]
  refine PySem.W.kat_lt ho hdt ho' hdt' ?_
  have sz : decide (xs.size < ys.size) = false := by
    have l1 := i.length
    have l2 := i'.length
    rw [Array.length_toList] at l1 l2
    exact decide_eq_false (by omega)
  rw [sz]
  exact lexL_ints 0 i i' (by omega) ⟨rfl, rfl⟩
theorem tups_sortableO {a : Addr} {d : Nat} (hd : 1 ≤ d) {vs : List Value} {k : Value → List Int} (h0 : 0 < vs.length) (hp : ∀ v ∈ vs, TS.TupInts s.heap v (k v) ∧ (k v).length = d) (ha : ∀ o, s.heap.get? a = some o → o.cls ≠ .type "tuple") : SortableO prog w A s a vs fun v u => lexL (k v) (k u) := by
  intro h' keep
  have hp' : ∀ v ∈ vs, TS.TupInts h' v (k v) ∧ (k v).length = d := fun v hm => ⟨(hp v hm).1.keeps fun b o e c => keep b o (fun z => by subst z; exact ha o e c) e, (hp v hm).2⟩
  obtain ⟨fs, h1, h2, h3⟩ := firsts_of hd vs fun v hm => ⟨_, hp' v hm⟩
  refine ⟨tuples' true, fun Q E hq => ?_, tup_cmp hp'⟩
  refine PySem.W.kat_kind (T := .type "int") h1 (by omega) (fun f hm => ?_) (by rfl) ?_
  · obtain ⟨x, t, rfl⟩ := h3 f hm
    exact PySem.W.Looks.now
  · have e : (Value.type "int" != Value.type "tuple") = true := by first | decide +kernel | rfl | decide
    rw [e]
    exact hq
theorem sorted_tupsO {l : Addr} {d : Nat} (hd : 1 ≤ d) {vs : List Value} {k : Value → List Int} {Q : Value → Shared → Prop} (hl : s.heap.IsList l vs.toArray) (hz : vs.length ≤ sizeLine) (hp : ∀ v ∈ vs, TS.TupInts s.heap v (k v) ∧ (k v).length = d)
    (h : ∀ (h' : Heap) (d : Addr) (out : List Value), Srtd (fun v u => lexL (k v) (k u)) out → Stb (fun v u => lexL (k v) (k u)) out vs → (∀ b o, s.heap.get? b = some o → h'.get? b = some o) → s.heap.objs.size ≤ d → (∃ n, h'.get? d = some (seqObj "list" out.toArray n)) → Q (.ref d) { s with heap := h' }) :
    wpAny (model prog w) A (call (.builtin "sorted") [.ref l]) Q E s := by
  refine sorted_ord (swo_lexL k) hl hz (fun h2 h₁ a ha kk => ?_) fun out hs hb => ?_
  · refine tups_sortableO hd (s := { s with heap := h₁ }) (by omega) (fun v hm => ⟨(hp v hm).1.keeps fun b o e _ => (kk b o e).2, (hp v hm).2⟩) fun o e => ?_
    have e' : some o = some (seqObj "list" vs.toArray 0) := e.symm.trans ha
    cases e'
    intro c
    exact absurd (Value.type.inj c) (by decide)
  · exact h _ _ out hs hb (fun b o e => sortedAll_old e) (Nat.le_succ _) (sortedAll_at s.heap vs out.toArray)
end
end SrtT
namespace L2
open PySem PySem.Spec PyProof.Rows
abbrev ltT (k : V → List Int) (x y : V) : Bool := SrtT.lexL (k x) (k y)
/-- sorted(xs), xs a list of tuples of d ints each -/
def rSortedT (K : PySem.W.Frag) : List V → Hp → VK → Prop := fun vs H Q => ∃ (a : Addr) (xs : List V) (ts : List (List Int)) (d : Nat), vs = [V.ref a] ∧ SqL K H a xs ∧ 1 ≤ d ∧ xs.length = ts.length ∧ (∀ (i : Nat) (x : V) (t : List Int), xs[i]? = some x → ts[i]? = some t → t.length = d ∧ ∃ q, x = V.ref q ∧ SqT K H q (t.map .int)) ∧
  ∀ (k : V → List Int) ys p, xs.map k = ts → SrtO.Srtd (ltT k) ys → SrtO.Stb (ltT k) ys xs → H p = none → Q (.ref p) (upd H p (.lst ys))
theorem intsAre_ofK : ∀ {ns : List Int} {us : List Value}, Vals (ns.map V.int) us → IntsAre us ns
  | [], us, h => by cases h; exact .nil
  | n :: ns, us, h => by
    rw [List.map_cons] at h
    cases h with
    | cons r t =>
      obtain ⟨t1, rfl⟩ := r
      exact .cons n t1 (intsAre_ofK t)
section
variable {X : Cx}
theorem cr_sortedT : CallR X (.builtin "sorted") (rSortedT X.K) := by
  intro pins s σ H vs us Q I r h
  obtain ⟨a, xs, ts, d, rfl, hs, hd1, hlen, hx, q⟩ := h
  obtain ⟨its, rv, hl, hz⟩ := I.list hs
  obtain ⟨u, rfl, ru⟩ := vals1 r
  obtain rfl : u = Value.ref a := ru
  have key : ∀ x ∈ xs, ∃ q ns, x = V.ref q ∧ TS.TupInts s.heap (.ref q) ns ∧ ns.length = d := fun x m => by
    obtain ⟨i, hi, rfl⟩ := List.getElem_of_mem m
    obtain ⟨hl', q, e, ht⟩ := hx i _ _ (List.getElem?_eq_getElem hi) (List.getElem?_eq_getElem (hlen ▸ hi))
    obtain ⟨its2, r2, ho, _⟩ := I.tuple ht
    exact ⟨q, _, e, ⟨q, its2.toArray, rfl, ho, by simpa using intsAre_ofK r2⟩, hl'⟩
  obtain ⟨e1, e2⟩ := refs_back rv fun x m => by
    obtain ⟨q, _, e, _⟩ := key x m
    exact ⟨q, e⟩
  obtain ⟨k, hk⟩ : ∃ k : V → List Int, k = fun x => match x with
    | .ref q => TS.intsOf s.heap (.ref q)
    | _ => [] := ⟨_, rfl⟩
  have hkr : ∀ q, k (.ref q) = TS.intsOf s.heap (.ref q) := fun q => by rw [hk]
  have hts : xs.map k = ts := by
    apply List.ext_getElem
    · simpa using hlen
    · intro i h1 h2
      have hi : i < xs.length := by simpa using h1
      obtain ⟨_, q, e, ht⟩ := hx i _ _ (List.getElem?_eq_getElem hi) (List.getElem?_eq_getElem h2)
      obtain ⟨its2, r2, ho, _⟩ := I.tuple ht
      have ti : TS.TupInts s.heap (.ref q) ts[i] := ⟨q, its2.toArray, rfl, ho, by simpa using intsAre_ofK r2⟩
      rw [List.getElem_map, e, hkr, ti.ints]
  refine SrtT.sorted_tupsO (k := fun u => k (backV u)) hd1 hl.isList (by rw [← rv.length]; exact hz) (fun v hv => ?_) fun h' d out h1 h2 kp hd hn => ?_
  · obtain ⟨t, rfl⟩ := e2 v hv
    have hm : V.ref t ∈ xs := by rw [e1]; exact List.mem_map.mpr ⟨_, hv, rfl⟩
    obtain ⟨q, ns, e, ti, hl'⟩ := key _ hm
    cases e
    show TS.TupInts s.heap (.ref t) (k (.ref t)) ∧ (k (.ref t)).length = _
    rw [hkr, ti.ints]
    exact ⟨ti, hl'⟩
  · have h3 : ∀ u ∈ out, ∃ a, u = Value.ref a := fun u hu => e2 u (h2.perm.mem_iff.mp hu)
    obtain ⟨n, hn⟩ := hn
    have hb : SrtO.Stb (ltT k) (out.map backV) xs := by
      rw [e1]
      exact SrtO.Stb.map (SrtT.swo_lexL k) backV h2
    refine ⟨.ref d, upd H d (.lst (out.map backV)), I.laid (t' := s.toks) kp hd ⟨?_, out, n, vals_back h3, hn⟩, rfl, q k _ d hts (SrtO.srtd_map h1) hb (I.hok.fresh hd)⟩
    rw [hb.len]
    exact hz
end
end L2
namespace PySem
section
variable {prog : Program} {w : World} {A : Around} {E : Value → Shared → Prop} {s : Shared} {l : Addr} {xs : Array (Int × Tok)}
theorem sum_intTupG {Q : Value → Shared → Prop} (hh : A.handled = none) (hl : PyProof.Rows.IsTup s.heap l (intItems xs))
    (h : ∀ h' tk t', (∀ b o, s.heap.get? b = some o → h'.get? b = some o) → Q (.int (preSum (numAt xs) xs.size) t') { s with heap := h', toks := tk }) :
    wpAny (model prog w) A (call (.builtin "sum") [.ref l]) Q E s := by
  have hlt : l < s.heap.objs.size := by obtain ⟨_, e, _⟩ := hl; exact Heap.lt_size e
  have hlI : l ≠ s.heap.objs.size := Nat.ne_of_lt hlt
  have hT : (s.heap.push { cls := .type "tuple_iterator", data := .fields #[.ref l, .int 0 0] }).IsTuple l (intItems xs) := by
    obtain ⟨o, e, c, n, d⟩ := hl
    exact ⟨o, Heap.get?_push_of_some _ e, c, n, d⟩
  refine call_sum_walkG (PyProof.Rows.iter_tuple hl ?_)
  refine ⟨_, _, _, _, _, _, numAt xs, rfl, Walks.tuple (A := A.in1) hh _ l hlI (intItems xs), ⟨⟨_, Heap.get?_push_size _ rfl, rfl, rfl⟩, hT⟩, fun b hb => ?_, (fun _ _ => intItems_at), fun h' tk t' hk => ?_⟩
  · show b < (s.heap.push _).objs.size
    rw [Heap.size_push]
    rcases List.mem_cons.mp hb with rfl | hb
    · exact Nat.lt_succ_self _
    · rcases List.mem_cons.mp hb with rfl | hb
      · exact Nat.lt_succ_of_lt hlt
      · cases hb
  · have := h h' tk t' fun b o e => hk b o (by
      intro hm
      rcases List.mem_cons.mp hm with rfl | hm
      · exact Nat.lt_irrefl _ (Heap.lt_size e)
      · cases hm) (Heap.get?_push_of_some _ e)
    simpa [intItems] using this
end
end PySem
namespace L2
open PySem PySem.Spec PyProof.Rows
section
variable {prog : Program} {w : World} {A : Around} {E : Value → Shared → Prop} {s : Shared} {l : Addr} {its : List Value} {ns : List Int} {Q : Value → Shared → Prop}
theorem sum_rawT (hh : A.handled = none) (hl : IsTup s.heap l its.toArray) (hi : IntsAre its ns)
    (h : ∀ h' tk t', (∀ b o, s.heap.get? b = some o → h'.get? b = some o) → Q (.int ns.sum t') { s with heap := h', toks := tk }) : wpAny (model prog w) A (call (.builtin "sum") [.ref l]) Q E s := by
  obtain ⟨xs, e⟩ := hi.allInts.items
  have hn : numsOf (intItems xs).toList = ns := by rw [← e]; exact hi.numsOf
  rw [nums_intItems] at hn
  rw [e] at hl
  refine PySem.sum_intTupG hh hl fun h' tk t' hk => ?_
  have := h h' tk t' hk
  rw [preSum_eq, List.take_of_length_le (by simp), hn]; exact this
end
/-- sum(xs) of a tuple of ints -/
def rSumT (K : PySem.W.Frag) : List V → Hp → VK → Prop := fun vs H Q => ∃ (a : Addr) (ns : List Int), vs = [V.ref a] ∧ SqT K H a (ns.map V.int) ∧ Q (.int ns.sum) H
theorem cr_sumT {X : Cx} (hc : X.calm = true) : CallR X (.builtin "sum") (rSumT X.K) := by
  intro pins s σ H vs us Q I r h
  obtain ⟨a, ns, rfl, hs, q⟩ := h
  obtain ⟨its, rv, hl, _⟩ := I.tuple hs
  obtain ⟨u, rfl, ru⟩ := vals1 r
  obtain rfl : u = Value.ref a := ru
  exact sum_rawT (I.ok.hd hc) hl (intsAre_ofK rv) fun h' tk t' hk => ⟨.int _, H, I.kept hk, ⟨_, rfl⟩, q⟩
end L2

/-! Mi: a small total language and what it computes; later files show that the program's own text computes the same. -/
namespace Mi
open PySem

/-- a value: tuples and frozen lists by value, a fresh list (lst), a list of the small heap (ref), a def (fn), an empty dict, a thing of which nothing is known, an instance that never changes (its slots) -/
inductive MV where
  | non | bl (b : Bool) | int (i : Int) | str (s : Str)
  | tup (xs : List MV) | lst (xs : List MV) | fz (xs : List MV) | scr (ns : List Int) | ref (n : Nat) | fn (f : Nat) | edc | any | obj (c : Nat) (xs : List MV)
  deriving Inhabited

mutual
/-- no list of the small heap within -/
def MV.pure : MV → Bool
  | .tup xs => pureL xs
  | .fz xs => pureL xs
  | .obj _ xs => pureL xs
  | .lst _ => false
  | .ref _ => false
  | _ => true
def pureL : List MV → Bool
  | [] => true
  | x :: xs => x.pure && pureL xs
end

mutual
/-- no fresh list within -/
def MV.nol : MV → Bool
  | .tup xs => nolL xs
  | .fz xs => nolL xs
  | .obj _ xs => nolL xs
  | .lst _ => false
  | _ => true
def nolL : List MV → Bool
  | [] => true
  | x :: xs => x.nol && nolL xs
end

/-- an object of the small heap -/
inductive MO where
  | lst (xs : List MV)
  | scr (ns : List Int)
  | dct (kvs : List (L2.Key × MV))
  deriving Inhabited

abbrev Hm := List MO
abbrev Loc := List (Option MV)

/-- an exception: its class by number, what it keeps -/
structure MEx where
  cls : Nat
  arg : Option MV
  deriving Inhabited

inductive Res (α : Type) where
  | ok (a : α) (h : Hm)
  | ex (e : MEx) (h : Hm)
abbrev RO (α : Type) := Option (Res α)
def bnd {α β : Type} (x : RO α) (f : α → Hm → RO β) : RO β := match x with
  | some (.ok a h) => f a h
  | some (.ex e h) => some (.ex e h)
  | none => none
@[simp] theorem bnd_ok {α β : Type} (a : α) (h : Hm) (f : α → Hm → RO β) : bnd (some (.ok a h)) f = f a h := rfl
@[simp] theorem bnd_ex {α β : Type} (e : MEx) (h : Hm) (f : α → Hm → RO β) : bnd (some (.ex e h)) f = some (.ex e h) := rfl
@[simp] theorem bnd_none {α β : Type} (f : α → Hm → RO β) : bnd none f = none := rfl

/-- how a statement ends -/
inductive SRes where
  | nx (σ : Loc) (h : Hm)
  | rt (v : MV) (h : Hm)
  | bk (σ : Loc) (h : Hm)
  | ct (σ : Loc) (h : Hm)
  | ex (e : MEx) (σ : Loc) (h : Hm)

inductive BO where | add | sub | mul | fdv | mod | pow
  deriving DecidableEq, Inhabited
inductive CO where | eq | ne | lt | le | gt | ge | isN | notN | isT | notT | isin | notin
  deriving DecidableEq, Inhabited
inductive TyN where | int | bool | str | tuple | list | dict
  deriving DecidableEq, Inhabited
/-- built-in functions -/
inductive BI where | abs | max2 | min2 | int | len | sum | all | any | tuple | list | sorted | max1 | min1 | repr
  deriving DecidableEq, Inhabited
/-- methods of lists -/
inductive LM where | append | pop0 | pop1
  deriving DecidableEq, Inhabited

/-- an except clause: the classes (by number) that it takes, its text, whether what the exception keeps stands behind it -/
structure Hd where
  cs : List Nat
  txt : Str
  arg : Bool
  deriving Inhabited

mutual
inductive ME where
  | var (i : Nat)
  | cst (v : MV)
  | bin (op : BO) (a b : ME)
  | neg (a : ME)
  | not (a : ME)
  | and (a b : ME)
  | or (a b : ME)
  | ite (c a b : ME)
  | cmp (op : CO) (a b : ME)
  | chn (o1 o2 : CO) (a b c : ME)
  | tup (es : List ME)
  | lst (es : List ME)
  | ix (a b : ME)
  | sl (a : ME) (lo hi : Option ME)
  | rev (a : ME)
  | call (f : Nat) (es : List ME)
  | bi (b : BI) (es : List ME)
  | isi (a : ME) (ts : List TyN)
  | meth (m : LM) (o : ME) (es : List ME)
  | lc (own : List Nat) (tg : MT) (it : MI) (c : Option ME) (elt : ME)
  | edc
  | slst (a st : ME)
  | callv (i : Nat) (es : List ME)
  | met (hs : List Hd) (nt : Str) (e : ME)
  | chn3 (o1 o2 o3 : CO) (a b c d : ME)
  | lrg (a : Option ME) (b : ME)
  | lam
  | mk (c : Nat) (es : List ME)
  | fld (e : ME) (i : Nat) (c : Nat)
  | isf (e : ME) (c : Nat)
inductive MT where
  | var (i : Nat)
  | tup (ts : List MT)
  | sub (a i : ME)
inductive MI where
  | ex (a : ME)
  | r1 (a : ME)
  | r2 (a b : ME)
  | r3 (a b c : ME)
  | enu (a : ME)
  | zip (a b : ME)
end
instance : Inhabited ME := ⟨.cst .non⟩
instance : Inhabited MT := ⟨.var 0⟩
instance : Inhabited MI := ⟨.ex default⟩

inductive MS where
  | asg (t : MT) (e : ME)
  | par (is : List Nat) (es : List ME)
  | aug (i : Nat) (op : BO) (e : ME)
  | augS (a i : ME) (op : BO) (e : ME)
  | expr (e : ME)
  | ret (e : ME)
  | retN
  | ife (c : ME) (a b : List MS)
  | whl (c : ME) (b : List MS)
  | forr (t : MT) (it : MI) (b : List MS)
  | pass
  | brk
  | cnt
  | nev
  | rse (c : Nat) (e : Option ME)
  deriving Inhabited

/-! ### values -/
def sizeMax : Nat := 16777216
/-- what a list holds -/
def items (h : Hm) : MV → Option (List MV)
  | .lst xs => some xs
  | .fz xs => some xs
  | .scr ns => some (ns.map .int)
  | .ref n => match h[n]? with
    | some (.lst xs) => some xs
    | some (.scr ns) => some (ns.map .int)
    | _ => none
  | _ => none
/-- what a list or a tuple holds -/
def seq (h : Hm) : MV → Option (List MV)
  | .tup xs => some xs
  | v => items h v
/-- of a list that is no frozen script -/
def itemsL (h : Hm) : MV → Option (List MV)
  | .lst xs => some xs
  | .fz xs => some xs
  | .ref n => match h[n]? with
    | some (.lst xs) => some xs
    | _ => none
  | _ => none

mutual
/-- as data: for == -/
def toD (h : Hm) : MV → Option PyData
  | .non => some .none
  | .bl b => some (.bool b)
  | .int i => some (.int i)
  | .str s => some (.str s)
  | .tup xs => (toDs h xs).map .tuple
  | .lst xs => (toDs h xs).map .list
  | .fz xs => (toDs h xs).map .list
  | .scr ns => some (.list (ns.map .int))
  | .ref n => match h[n]? with
    | some (.lst xs) => (toDp xs).map .list
    | some (.scr ns) => some (.list (ns.map .int))
    | _ => none
  | .fn _ => none
  | .edc => none
  | .any => none
  | .obj _ _ => none
def toDs (h : Hm) : List MV → Option (List PyData)
  | [] => some []
  | x :: xs => match toD h x, toDs h xs with
    | some d, some ds => some (d :: ds)
    | _, _ => none
/-- of values without references -/
def toP : MV → Option PyData
  | .non => some .none
  | .bl b => some (.bool b)
  | .int i => some (.int i)
  | .str s => some (.str s)
  | .tup xs => (toDp xs).map .tuple
  | .lst xs => (toDp xs).map .list
  | .fz xs => (toDp xs).map .list
  | .scr ns => some (.list (ns.map .int))
  | .ref _ => none
  | .fn _ => none
  | .edc => none
  | .any => none
  | .obj _ _ => none
def toDp : List MV → Option (List PyData)
  | [] => some []
  | x :: xs => match toP x, toDp xs with
    | some d, some ds => some (d :: ds)
    | _, _ => none
end

def truth (h : Hm) : MV → Option Bool
  | .non => some false
  | .bl b => some b
  | .int i => some (i != 0)
  | .str s => if s.length ≤ sizeMax then some ((s.length : Int) != 0) else none
  | .tup xs => some (!xs.isEmpty)
  | .fn _ => none
  | v => match items h v with
    | some xs => some (!xs.isEmpty)
    | none => none

def mulOk (i j : Int) : Bool := decide (i.natAbs < 18446744073709551616) || decide (j.natAbs < 18446744073709551616) || decide (i.natAbs.log2 + j.natAbs.log2 < 1000000)
def fdvOk (j : Int) : Bool := (decide (0 < j) && decide (j.natAbs.log2 < 9000)) || (decide (j ≠ 0) && decide (j.natAbs < 1073741824)) || (decide (j ≠ 0) && decide (j.natAbs.log2 < 9000))
def powOk (i j : Int) : Bool := decide (0 ≤ j) && decide ((i.natAbs.log2 + 1 : Nat) * j ≤ 134217728)

def bop (op : BO) (x y : MV) (h : Hm) : Option MV := match op, x, y with
  | .add, .int i, .int j => some (.int (i + j))
  | .sub, .int i, .int j => some (.int (i - j))
  | .mul, .int i, .int j => if mulOk i j then some (.int (i * j)) else none
  | .fdv, .int i, .int j => if fdvOk j then some (.int (i.fdiv j)) else none
  | .mod, .int i, .int j => if j ≠ 0 then some (.int (i.fmod j)) else none
  | .pow, .int i, .int j => if powOk i j then some (.int (i ^ j.toNat)) else none
  | .add, .str a, .str b => if a.length + b.length ≤ sizeMax then some (.str (a ++ b)) else none
  | .add, .tup xs, .tup ys => if xs.length + ys.length ≤ sizeMax then some (.tup (xs ++ ys)) else none
  | .mul, .tup xs, .int k => if -9223372036854775808 ≤ k ∧ k < 9223372036854775808 ∧ xs.length * k.toNat ≤ sizeMax then some (.tup (List.replicate k.toNat xs).flatten) else none
  | .add, a, b => match itemsL h a, itemsL h b with
    | some xs, some ys => if xs.length + ys.length ≤ sizeMax then some (.lst (xs ++ ys)) else none
    | _, _ => none
  | .mul, a, .int k => match itemsL h a with
    | some xs => if -9223372036854775808 ≤ k ∧ k < 9223372036854775808 ∧ xs.length * k.toNat ≤ sizeMax then some (.lst (List.replicate k.toNat xs).flatten) else none
    | none => none
  | _, _, _ => none

/-- name op= e, of ints -/
def augOk (op : BO) (j : Int) : Bool := match op with
  | .add => true
  | .sub => true
  | .mul => true
  | .fdv => decide (0 < j) && decide (j.natAbs.log2 < 9000)
  | .mod => decide (0 < j)
  | .pow => false
def augV (op : BO) (x y : MV) (h : Hm) : Option MV := match x, y with
  | .int a, .int b => if augOk op b then bop op (.int a) (.int b) h else none
  | _, _ => none
/-- values whose == is told without the heap -/
def flat : MV → Bool
  | .non => true
  | .bl _ => true
  | .int _ => true
  | .str _ => true
  | _ => false
def eqF : MV → MV → Bool
  | .non, .non => true
  | .bl a, .bl b => a == b
  | .bl a, .int b => (if a then 1 else 0) == b
  | .int a, .bl b => a == (if b then 1 else 0)
  | .int a, .int b => a == b
  | .str a, .str b => a == b
  | _, _ => false
def inF (x : MV) (xs : List MV) : Bool := xs.any fun y => eqF y x

def eqD (x y : MV) (h : Hm) : Option Bool := match toD h x, toD h y with
  | some d, some e => if SeqAt.shaped d && SeqAt.shaped e then some (PyData.eqv d e) else none
  | _, _ => none
def cop (op : CO) (x y : MV) (h : Hm) : Option Bool := match op, x, y with
  | .lt, .int i, .int j => some (decide (i < j))
  | .le, .int i, .int j => some (decide (i ≤ j))
  | .gt, .int i, .int j => some (decide (j < i))
  | .ge, .int i, .int j => some (decide (j ≤ i))
  | .eq, .int i, .int j => some (decide (i = j))
  | .ne, .int i, .int j => some (!decide (i = j))
  | .eq, a, b => eqD a b h
  | .ne, a, b => (eqD a b h).map (!·)
  | .isin, a, b => match seq h b with
    | some xs => if flat a && xs.all flat then some (inF a xs) else none
    | none => none
  | .notin, a, b => match seq h b with
    | some xs => if flat a && xs.all flat then some (!inF a xs) else none
    | none => none
  | .isN, a, .non => match a with
    | .non => some true
    | .any => none
    | _ => some false
  | .notN, a, .non => match a with
    | .non => some false
    | .any => none
    | _ => some true
  | .isN, .bl a, .bl b => some (decide (a = b))
  | .notN, .bl a, .bl b => some (!decide (a = b))
  | _, _, _ => none

def tyOf (h : Hm) : MV → Option TyN
  | .bl _ => some .bool
  | .int _ => some .int
  | .str _ => some .str
  | .tup _ => some .tuple
  | .lst _ => some .list
  | .fz _ => some .list
  | .scr _ => some .list
  | .ref n => match h[n]? with
    | some (.lst _) => some .list
    | some (.scr _) => some .list
    | some (.dct _) => some .dict
    | none => none
  | .edc => some .dict
  | _ => none
def isTy (h : Hm) (v : MV) (t : TyN) : Option Bool := match v with
  | .non => some false
  | v => (tyOf h v).map fun u => decide (u = t) || (decide (u = .bool) && decide (t = .int))

/-- a fresh list that goes into another thing is frozen -/
def frz : MV → MV
  | .lst xs => .fz xs
  | v => v
/-- what is no fresh list -/
def unl : MV → Option MV
  | .lst _ => none
  | v => some v
def nl : MV → Bool
  | .lst _ => false
  | _ => true
def nthU (o : Option MV) : Option (Option MV) := match o with
  | none => some none
  | some x => (unl x).map some
/-- list[i], tuple[i] -/
def ixV (x y : MV) (h : Hm) : Option MV := match x, y with
  | .str s, .int i => if s.length ≤ sizeMax then (L2.atI s.cps.toList i).map fun c => .str ⟨#[c]⟩ else none
  | a, .int i => match seq h a with
    | some xs => (L2.atI xs i).bind unl
    | none => none
  | _, _ => none
def cut {α : Type} (xs : List α) (lo hi : Option Int) : List α := (xs.drop (HT.sIx xs.length 0 lo)).take (HT.sIx xs.length xs.length hi - HT.sIx xs.length 0 lo)
def slV (x : MV) (lo hi : Option Int) (h : Hm) : Option MV := match x with
  | .tup xs => some (.tup (cut xs lo hi))
  | a => match items h a with
    | some xs => some (.lst (cut xs lo hi))
    | none => none

def intsOf : List MV → Option (List Int)
  | [] => some []
  | .int i :: r => (intsOf r).map (i :: ·)
  | _ :: _ => none
def blsOf : List MV → Option (List Bool)
  | [] => some []
  | .bl i :: r => (blsOf r).map (i :: ·)
  | _ :: _ => none
def insI (x : Int) : List Int → List Int
  | [] => [x]
  | y :: r => if x ≤ y then x :: y :: r else y :: insI x r
def sortI : List Int → List Int
  | [] => []
  | x :: r => insI x (sortI r)
/-- tuples of whole numbers -/
def tupsOf : List MV → Option (List (List Int))
  | [] => some []
  | .tup xs :: r => match intsOf xs, tupsOf r with
    | some t, some ts => some (t :: ts)
    | _, _ => none
  | _ :: _ => none
def insL (x : List Int) : List (List Int) → List (List Int)
  | [] => [x]
  | y :: r => if SrtT.lexL y x then y :: insL x r else x :: y :: r
def sortL : List (List Int) → List (List Int)
  | [] => []
  | x :: r => insL x (sortL r)
/-- sorted: whole numbers, or tuples of them, all of one length -/
def sortedV (xs : List MV) : Option MV := match intsOf xs with
  | some ns => some (.lst ((sortI ns).map .int))
  | none => match tupsOf xs with
    | some ts => if decide (1 ≤ (ts.headD []).length) && ts.all (fun t => decide (t.length = (ts.headD []).length)) then some (.lst ((sortL ts).map fun t => .tup (t.map .int))) else none
    | none => none

/-- repr of data -/
def reprD (d : PyData) : Option Str := if d.showable && !d.hasDict && decide (d.depth ≤ 48) && decide (d.shown.length ≤ sizeMax) then some d.shown else none
def reprV (h : Hm) (v : MV) : Option Str := match toD h v with
  | some d => reprD d
  | none => none
/-- what the clauses make of an exception -/
def metV (hs : List Hd) (x : MEx) (h : Hm) : Option MV := match hs.find? (fun y => y.cs.contains x.cls) with
  | some y => match y.arg, x.arg with
    | false, _ => some (.str y.txt)
    | true, some v => match reprV h v with
      | some s => bop .add (.str y.txt) (.str s) h
      | none => none
    | true, none => none
  | none => none
def stepN (n k : Nat) : Nat := if 0 < n then (n - 1) / k + 1 else 0
def stepOf {α : Type} (xs : List α) (k : Nat) : List α := (List.range (stepN xs.length k)).filterMap fun i => xs[i * k]?
def biV (b : BI) (vs : List MV) (h : Hm) : Option MV := match b, vs with
  | .abs, [.int i] => some (.int (if i < 0 then -i else i))
  | .max2, [.int i, .int j] => some (.int (if j > i then j else i))
  | .min2, [.int i, .int j] => some (.int (if j < i then j else i))
  | .int, [.int i] => some (.int i)
  | .int, [.bl k] => some (.int (if k then 1 else 0))
  | .len, [.str s] => if s.length ≤ sizeMax then some (.int s.length) else none
  | .len, [a] => (seq h a).map fun xs => .int xs.length
  | .sum, [a] => match seq h a with
    | some xs => (intsOf xs).map fun ns => .int ns.sum
    | none => none
  | .all, [a] => match items h a with
    | some xs => (blsOf xs).map fun bs => .bl (bs.all id)
    | none => none
  | .any, [a] => match items h a with
    | some xs => (blsOf xs).map fun bs => .bl (bs.any id)
    | none => none
  | .tuple, [.tup xs] => some (.tup xs)
  | .tuple, [a] => (items h a).map .tup
  | .list, [a] => (seq h a).map .lst
  | .sorted, [a] => match items h a with
    | some xs => sortedV xs
    | none => none
  | .repr, [a] => (reprV h a).map .str
  | .max1, [a] => match items h a with
    | some xs => match intsOf xs with
      | some (n :: ns) => some (.int (ns.foldl max n))
      | _ => none
    | none => none
  | .min1, [a] => match items h a with
    | some xs => match intsOf xs with
      | some (n :: ns) => some (.int (ns.foldl min n))
      | _ => none
    | none => none
  | _, _ => none

/-- a range's ints -/
def rng (lo : Int) (n : Nat) : List MV := (List.range n).map fun (i : Nat) => .int (lo + i)
def rngC (lo c : Int) (n : Nat) : List MV := (List.range n).map fun (i : Nat) => .int (lo + i * c)
def rngN (i j c : Int) : Nat := (Builtin.Range.rangeSize i j c).toNat
def small (i : Int) : Bool := decide (-4611686018427387904 ≤ i) && decide (i < 4611686018427387904)
def enumV (xs : List MV) : List MV := (List.range xs.length).zipWith (fun (i : Nat) x => .tup [.int i, x]) xs
def zipV (xs ys : List MV) : List MV := xs.zipWith (fun x y => .tup [x, y]) ys
/-- where the items of a loop stand: a tuple, a list of its own, a list of the small heap as it is at each turn -/
inductive Cmp where
  | tv (vs : List MV)
  | lv (vs : List MV)
  | at_ (n : Nat)
inductive Src where
  | one (c : Cmp)
  | rg (vs : List MV)
  | enu (c : Cmp)
  | zip (c d : Cmp)
def cmpOf (v : MV) (h : Hm) : Option Cmp := match v with
  | .tup xs => some (.tv xs)
  | .lst xs => some (.lv xs)
  | .fz xs => some (.lv xs)
  | .scr ns => some (.lv (ns.map .int))
  | .ref n => match items h (.ref n) with
    | some _ => some (.at_ n)
    | none => none
  | _ => none
/-- the i-th item: there | none left | no list there -/
def Cmp.nth (c : Cmp) (i : Nat) (h : Hm) : Option (Option MV) := match c with
  | .tv vs => nthU vs[i]?
  | .lv vs => nthU vs[i]?
  | .at_ n => match items h (.ref n) with
    | some xs => nthU xs[i]?
    | none => none
def Src.nth (s : Src) (i : Nat) (h : Hm) : Option (Option MV) := match s with
  | .one c => c.nth i h
  | .rg vs => nthU vs[i]?
  | .enu c => (c.nth i h).map fun o => o.map fun x => .tup [.int i, x]
  | .zip c d => match c.nth i h, d.nth i h with
    | some (some x), some (some y) => some (some (.tup [x, y]))
    | some none, some _ => some none
    | some _, some none => some none
    | _, _ => none
def Cmp.isL (c : Cmp) : Bool := match c with
  | .tv _ => false
  | _ => true
def Cmp.len (c : Cmp) (h : Hm) : Nat := match c with
  | .tv vs => vs.length
  | .lv vs => vs.length
  | .at_ n => ((items h (.ref n)).getD []).length
def Src.len (s : Src) (h : Hm) : Nat := match s with
  | .one c => c.len h
  | .rg vs => vs.length
  | .enu c => c.len h
  | .zip c d => min (c.len h) (d.len h)

/-! ### storing -/
/-- a fresh list is laid into the heap -/
def sto (v : MV) (h : Hm) : Option (MV × Hm) := match v with
  | .lst xs => if pureL xs then some (.ref h.length, h ++ [.lst xs]) else none
  | v => if v.nol then some (v, h) else none
/-- a def's arguments: fresh lists are laid -/
def stoL : List MV → Hm → Option (List MV × Hm)
  | [], h => some ([], h)
  | v :: vs, h => match sto v h with
    | some (w, h1) => match stoL vs h1 with
      | some (ws, h2) => some (w :: ws, h2)
      | none => none
    | none => none
def setSub (o i v : MV) (h : Hm) : Option Hm := match o, i with
  | .ref n, .int k => match h[n]? with
    | some (.lst xs) => match L2.ixN xs.length k with
      | some j => if v.pure then some (h.set n (.lst (xs.set j v))) else none
      | none => none
    | _ => none
  | _, _ => none
def getSub (o i : MV) (h : Hm) : Option MV := match o, i with
  | .ref n, .int k => match h[n]? with
    | some (.lst xs) => (L2.atI xs k).bind unl
    | _ => none
  | _, _ => none
def methV (m : LM) (o : MV) (vs : List MV) (h : Hm) : Option (MV × Hm) := match o with
  | .ref n => match h[n]? with
    | some (.lst xs) => match m, vs with
      | .append, [v] => if (frz v).pure ∧ xs.length < sizeMax then some (.non, h.set n (.lst (xs ++ [frz v]))) else none
      | .pop0, [] => match xs[xs.length - 1]? with
        | some y => some (y, h.set n (.lst xs.dropLast))
        | none => none
      | .pop1, [.int i] => if -9223372036854775808 ≤ i ∧ i < 9223372036854775808 then match seqIndex? i xs.length with
          | some k => match xs[k]? with
            | some y => some (y, h.set n (.lst (xs.eraseIdx k)))
            | none => none
          | none => none
        else none
      | _, _ => none
    | _ => none
  | _ => none

mutual
/-- references from n on become frozen lists -/
def froz (n : Nat) (h : Hm) : MV → Option MV
  | .tup xs => (frozL n h xs).map .tup
  | .obj c xs => (frozL n h xs).map (.obj c)
  | .fz xs => (frozL n h xs).map .fz
  | .lst xs => (frozL n h xs).map .lst
  | .ref k => if k < n then some (.ref k) else match h[k]? with
    | some (.lst xs) => some (.fz xs)
    | _ => none
  | v => some v
def frozL (n : Nat) (h : Hm) : List MV → Option (List MV)
  | [] => some []
  | x :: xs => match froz n h x, frozL n h xs with
    | some y, some ys => some (y :: ys)
    | _, _ => none
end
/-- what a def hands back: its own lists are let go -/
def handBack (n : Nat) (v : MV) (h : Hm) : RO MV := match v with
  | .ref k => if k < n then some (.ok v (h.take n)) else match h[k]? with
    | some (.lst xs) => some (.ok (.lst xs) (h.take n))
    | _ => none
  | v => match froz n h v with
    | some w => some (.ok w (h.take n))
    | none => none
def wipeL (σ : Loc) : List Nat → Loc
  | [] => σ
  | v :: vs => (wipeL σ vs).set v none
def lift {α : Type} (x : Option α) (h : Hm) : RO α := match x with
  | some a => some (.ok a h)
  | none => none
@[simp] theorem lift_some {α : Type} (a : α) (h : Hm) : lift (some a) h = some (.ok a h) := rfl
@[simp] theorem lift_none {α : Type} (h : Hm) : lift (none : Option α) h = none := rfl

def iterMax : Nat := 1099511627776
/-- a while -/
def iterW (c : Loc → Hm → RO Bool) (b : Loc → Hm → Option SRes) : Nat → Loc → Hm → Option SRes
  | 0, _, _ => none
  | n + 1, σ, h => match c σ h with
    | some (.ok true h1) => match b σ h1 with
      | some (.nx σ2 h2) => iterW c b n σ2 h2
      | some (.ct σ2 h2) => iterW c b n σ2 h2
      | some (.bk σ2 h2) => some (.nx σ2 h2)
      | r => r
    | some (.ok false h1) => some (.nx σ h1)
    | some (.ex e h1) => some (.ex e σ h1)
    | none => none
/-- a for -/
def iterF (s : Src) (g : MV → Loc → Hm → Option (Loc × Hm)) (b : Loc → Hm → Option SRes) : Nat → Nat → Loc → Hm → Option SRes
  | 0, _, _, _ => none
  | n + 1, i, σ, h => match s.nth i h with
    | some none => some (.nx σ h)
    | some (some v) => match g v σ h with
      | some (σ1, h1) => match b σ1 h1 with
        | some (.nx σ2 h2) => iterF s g b n (i + 1) σ2 h2
        | some (.ct σ2 h2) => iterF s g b n (i + 1) σ2 h2
        | some (.bk σ2 h2) => some (.nx σ2 h2)
        | r => r
      | none => none
    | none => none
def noX {α : Type} (x : RO α) : RO α := match x with
  | some (.ok a h) => some (.ok a h)
  | _ => none
@[simp] theorem noX_ok {α : Type} (a : α) (h : Hm) : noX (some (.ok a h)) = some (.ok a h) := rfl
/-- a comprehension -/
def iterC (s : Src) (g : MV → Hm → Option (Loc × Hm)) (c : Loc → Hm → RO Bool) (e : Loc → Hm → RO MV) : Nat → Nat → List MV → Hm → RO (List MV)
  | 0, _, _, _ => none
  | n + 1, i, acc, h => match s.nth i h with
    | some none => some (.ok acc h)
    | some (some v) => match g v h with
      | some (σ1, h1) => bnd (noX (c σ1 h1)) fun k h2 => match k with
        | true => bnd (noX (e σ1 h2)) fun y h3 => if acc.length < sizeMax ∧ (frz y).nol = true then iterC s g c e n (i + 1) (acc ++ [frz y]) h3 else none
        | false => iterC s g c e n (i + 1) acc h2
      | none => none
    | none => none

/-! ### what a text does -/
/-- the defs: f of values -/
abbrev Calls := Nat → List MV → Hm → RO MV
def asI (v : MV) : Option Int := match v with
  | .int i => some i
  | _ => none

/-- a new instance: its slots are known, a, level, maker, modulus, sign, weight -/
def mkV (c : Nat) (vs : List MV) : Option MV := match vs with
  | [w, l, .tup [s, m], k] => if pureL [w, l, s, m, k] then some (.obj c [.any, l, k, m, s, w]) else none
  | _ => none
def fldV (i c : Nat) (x : MV) : Option MV := match x with
  | .obj c' xs => if c' = c then (xs[i]?).bind unl else none
  | _ => none
/-- is it an instance of that class? -/
def isfV (c : Nat) (x : MV) (h : Hm) : Option Bool := match x with
  | .obj c' _ => if c' = c then some true else none
  | .non => some false
  | v => (tyOf h v).map fun _ => false
mutual
def evalE (F : Calls) : ME → Loc → Hm → RO MV
  | .var i, σ, h => match σ[i]? with
    | some (some v) => some (.ok v h)
    | _ => none
  | .cst v, _, h => some (.ok v h)
  | .bin op a b, σ, h => bnd (evalE F a σ h) fun x h1 => bnd (evalE F b σ h1) fun y h2 => lift (bop op x y h2) h2
  | .neg a, σ, h => bnd (evalE F a σ h) fun x h1 => match x with
    | .int i => some (.ok (.int (-i)) h1)
    | _ => none
  | .not a, σ, h => bnd (evalE F a σ h) fun x h1 => match truth h1 x with
    | some b => some (.ok (.bl (!b)) h1)
    | none => none
  | .and a b, σ, h => bnd (evalE F a σ h) fun x h1 => match truth h1 x with
    | some true => evalE F b σ h1
    | some false => some (.ok x h1)
    | none => none
  | .or a b, σ, h => bnd (evalE F a σ h) fun x h1 => match truth h1 x with
    | some true => some (.ok x h1)
    | some false => evalE F b σ h1
    | none => none
  | .ite c a b, σ, h => bnd (evalE F c σ h) fun x h1 => match truth h1 x with
    | some true => evalE F a σ h1
    | some false => evalE F b σ h1
    | none => none
  | .cmp op a b, σ, h => bnd (evalE F a σ h) fun x h1 => bnd (evalE F b σ h1) fun y h2 => lift ((cop op x y h2).map .bl) h2
  | .chn o1 o2 a b c, σ, h => bnd (evalE F a σ h) fun x h1 => bnd (evalE F b σ h1) fun y h2 => match cop o1 x y h2 with
    | some true => bnd (evalE F c σ h2) fun z h3 => lift ((cop o2 y z h3).map .bl) h3
    | some false => some (.ok (.bl false) h2)
    | none => none
  | .tup es, σ, h => bnd (evalEs F es σ h) fun vs h1 => some (.ok (.tup (vs.map frz)) h1)
  | .lst es, σ, h => bnd (evalEs F es σ h) fun vs h1 => some (.ok (.lst (vs.map frz)) h1)
  | .ix a b, σ, h => bnd (evalE F a σ h) fun x h1 => bnd (evalE F b σ h1) fun y h2 => lift (ixV x y h2) h2
  | .sl a lo hi, σ, h => bnd (evalE F a σ h) fun x h1 => bnd (evalO F lo σ h1) fun i h2 => bnd (evalO F hi σ h2) fun j h3 => lift (slV x i j h3) h3
  | .rev a, σ, h => bnd (evalE F a σ h) fun x h1 => match items h1 x with
    | some xs => some (.ok (.lst xs.reverse) h1)
    | none => none
  | .call f es, σ, h => bnd (evalEs F es σ h) fun vs h1 => F f vs h1
  | .bi b es, σ, h => bnd (evalEs F es σ h) fun vs h1 => lift (biV b vs h1) h1
  | .isi a ts, σ, h => bnd (evalE F a σ h) fun x h1 => match ts.mapM (isTy h1 x) with
    | some bs => some (.ok (.bl (bs.any id)) h1)
    | none => none
  | .meth m o es, σ, h => bnd (evalE F o σ h) fun x h1 => match itemsL h1 x with
    | some _ => bnd (evalEs F es σ h1) fun vs h2 => match methV m x vs h2 with
      | some (v, h3) => some (.ok v h3)
      | none => none
    | none => none
  | .lc own tg it c elt, σ, h => bnd (evalI F it σ h) fun s h1 => bnd (iterC s (fun v h => evalT F tg v (wipeL σ own) h)
      (fun σ h => evalC F c σ h) (fun σ h => evalE F elt σ h) (s.len h1 + 1) 0 [] h1) fun acc h2 => some (.ok (.lst acc) h2)
  | .edc, _, h => some (.ok .edc h)
  | .slst a st, σ, h => bnd (evalE F a σ h) fun x h1 => bnd (evalE F st σ h1) fun y h2 => match x, y with
    | .tup xs, .int k => if 1 ≤ k ∧ k < 1073741824 ∧ xs.length ≤ sizeMax then some (.ok (.tup (stepOf xs k.toNat)) h2) else none
    | _, _ => none
  | .lrg a b, σ, h => bnd (evalO F a σ h) fun o h1 => bnd (evalE F b σ h1) fun y h2 => match y with
    | .int j => if small (o.getD 0) ∧ small j ∧ (j - o.getD 0).toNat ≤ 16777216 then some (.ok (.lst (rng (o.getD 0) (j - o.getD 0).toNat)) h2) else none
    | _ => none
  | .callv i es, σ, h => match σ[i]? with
    | some (some (.fn f)) => bnd (evalEs F es σ h) fun vs h1 => F f vs h1
    | _ => none
  | .lam, _, h => some (.ok .any h)
  | .mk c es, σ, h => bnd (evalEs F es σ h) fun vs h1 => lift (mkV c vs) h1
  | .fld e i c, σ, h => bnd (evalE F e σ h) fun x h1 => lift (fldV i c x) h1
  | .isf e c, σ, h => bnd (evalE F e σ h) fun x h1 => lift ((isfV c x h1).map .bl) h1
  | .met hs nt e, σ, h => match evalE F e σ h with
    | some (.ok _ h1) => some (.ok (.str nt) h1)
    | some (.ex x h1) => lift (metV hs x h1) h1
    | none => none
  | .chn3 o1 o2 o3 a b c d, σ, h => bnd (evalE F a σ h) fun x h1 => bnd (evalE F b σ h1) fun y h2 => match cop o1 x y h2 with
    | some true => bnd (evalE F c σ h2) fun z h3 => match cop o2 y z h3 with
      | some true => bnd (evalE F d σ h3) fun u h4 => lift ((cop o3 z u h4).map .bl) h4
      | some false => some (.ok (.bl false) h3)
      | none => none
    | some false => some (.ok (.bl false) h2)
    | none => none
def evalEs (F : Calls) : List ME → Loc → Hm → RO (List MV)
  | [], _, h => some (.ok [] h)
  | e :: es, σ, h => bnd (evalE F e σ h) fun v h1 => bnd (evalEs F es σ h1) fun vs h2 => some (.ok (v :: vs) h2)
/-- a slice's bound -/
def evalO (F : Calls) : Option ME → Loc → Hm → RO (Option Int)
  | none, _, h => some (.ok none h)
  | some e, σ, h => bnd (evalE F e σ h) fun v h1 => match v with
    | .int i => some (.ok (some i) h1)
    | _ => none
/-- a comprehension's test -/
def evalC (F : Calls) : Option ME → Loc → Hm → RO Bool
  | none, _, h => some (.ok true h)
  | some e, σ, h => bnd (evalE F e σ h) fun v h1 => lift (truth h1 v) h1
def evalT (F : Calls) : MT → MV → Loc → Hm → Option (Loc × Hm)
  | .var i, v, σ, h => match sto v h with
    | some (w, h1) => some (σ.set i (some w), h1)
    | none => none
  | .tup ts, v, σ, h => match seq h v with
    | some xs => if xs.length = ts.length ∧ xs.all nl = true then evalTs F ts xs σ h else none
    | none => none
  | .sub a i, v, σ, h => match evalE F a σ h with
    | some (.ok x h1) => match evalE F i σ h1 with
      | some (.ok y h2) => match setSub x y (frz v) h2 with
        | some h3 => some (σ, h3)
        | none => none
      | _ => none
    | _ => none
def evalTs (F : Calls) : List MT → List MV → Loc → Hm → Option (Loc × Hm)
  | [], _, σ, h => some (σ, h)
  | t :: ts, x :: xs, σ, h => match evalT F t x σ h with
    | some (σ1, h1) => evalTs F ts xs σ1 h1
    | none => none
  | _ :: _, [], _, _ => none
def evalI (F : Calls) : MI → Loc → Hm → RO Src
  | .ex a, σ, h => bnd (evalE F a σ h) fun x h1 => lift ((cmpOf x h1).map .one) h1
  | .r1 a, σ, h => bnd (evalE F a σ h) fun x h1 => match x with
    | .int j => if small j then some (.ok (.rg (rng 0 j.toNat)) h1) else none
    | _ => none
  | .r2 a b, σ, h => bnd (evalE F a σ h) fun x h1 => bnd (evalE F b σ h1) fun y h2 => match x, y with
    | .int i, .int j => if small i && small j then some (.ok (.rg (rng i (j - i).toNat)) h2) else none
    | _, _ => none
  | .r3 a b c, σ, h => bnd (evalE F a σ h) fun x h1 => bnd (evalE F b σ h1) fun y h2 => bnd (evalE F c σ h2) fun z h3 => match x, y, z with
    | .int i, .int j, .int k => if small i && small j && decide (k ≠ 0) && decide (k.natAbs < 1073741824) && Builtin.Range.small i j k && decide (0 ≤ Builtin.Range.rangeSize i j k) then some (.ok (.rg (rngC i k (rngN i j k))) h3) else none
    | _, _, _ => none
  | .enu a, σ, h => bnd (evalE F a σ h) fun x h1 => lift ((cmpOf x h1).map .enu) h1
  | .zip a b, σ, h => bnd (evalE F a σ h) fun x h1 => bnd (evalE F b σ h1) fun y h2 => match cmpOf x h2, cmpOf y h2 with
    | some c, some d => if c.isL = d.isL then some (.ok (.zip c d) h2) else none
    | _, _ => none
end

/-- values laid and stored at slots -/
def stoAll : List Nat → List MV → Loc → Hm → Option (Loc × Hm)
  | [], [], σ, h => some (σ, h)
  | i :: is, v :: vs, σ, h => match sto v h with
    | some (w, h1) => stoAll is vs (σ.set i (some w)) h1
    | none => none
  | _, _, _, _ => none
def exS {α : Type} (σ : Loc) (x : RO α) (f : α → Hm → Option SRes) : Option SRes := match x with
  | some (.ok a h) => f a h
  | some (.ex e h) => some (.ex e σ h)
  | none => none
@[simp] theorem exS_ok {α : Type} (σ : Loc) (a : α) (h : Hm) (f : α → Hm → Option SRes) : exS σ (some (.ok a h)) f = f a h := rfl
@[simp] theorem exS_ex {α : Type} (σ : Loc) (e : MEx) (h : Hm) (f : α → Hm → Option SRes) : exS σ (some (.ex e h)) f = some (.ex e σ h) := rfl
@[simp] theorem exS_none {α : Type} (σ : Loc) (f : α → Hm → Option SRes) : exS σ none f = none := rfl
def thenS (x : Option SRes) (f : Loc → Hm → Option SRes) : Option SRes := match x with
  | some (.nx σ h) => f σ h
  | r => r
@[simp] theorem thenS_nx (σ : Loc) (h : Hm) (f : Loc → Hm → Option SRes) : thenS (some (.nx σ h)) f = f σ h := rfl
@[simp] theorem thenS_rt (v : MV) (h : Hm) (f : Loc → Hm → Option SRes) : thenS (some (.rt v h)) f = some (.rt v h) := rfl
@[simp] theorem thenS_bk (σ : Loc) (h : Hm) (f : Loc → Hm → Option SRes) : thenS (some (.bk σ h)) f = some (.bk σ h) := rfl
@[simp] theorem thenS_ct (σ : Loc) (h : Hm) (f : Loc → Hm → Option SRes) : thenS (some (.ct σ h)) f = some (.ct σ h) := rfl
@[simp] theorem thenS_ex (e : MEx) (σ : Loc) (h : Hm) (f : Loc → Hm → Option SRes) : thenS (some (.ex e σ h)) f = some (.ex e σ h) := rfl
@[simp] theorem thenS_none (f : Loc → Hm → Option SRes) : thenS none f = none := rfl

mutual
def execS (F : Calls) : MS → Loc → Hm → Option SRes
  | .asg t e, σ, h => exS σ (evalE F e σ h) fun v h1 => match evalT F t v σ h1 with
    | some (σ1, h2) => some (.nx σ1 h2)
    | none => none
  | .par is es, σ, h => exS σ (evalEs F es σ h) fun vs h1 => match stoAll is vs σ h1 with
    | some (σ1, h2) => some (.nx σ1 h2)
    | none => none
  | .aug i op e, σ, h => match σ[i]? with
    | some (some x) => exS σ (evalE F e σ h) fun y h1 => match augV op x y h1 with
      | some v => some (.nx (σ.set i (some v)) h1)
      | none => none
    | _ => none
  | .augS a i op e, σ, h => exS σ (evalE F a σ h) fun o h1 => exS σ (evalE F i σ h1) fun k h2 => match getSub o k h2 with
    | some x => exS σ (evalE F e σ h2) fun y h3 => match augV op x y h3 with
      | some v => match setSub o k v h3 with
        | some h4 => some (.nx σ h4)
        | none => none
      | none => none
    | none => none
  | .expr e, σ, h => exS σ (evalE F e σ h) fun _ h1 => some (.nx σ h1)
  | .ret e, σ, h => exS σ (evalE F e σ h) fun v h1 => some (.rt v h1)
  | .retN, _, h => some (.rt .non h)
  | .ife c a b, σ, h => exS σ (evalE F c σ h) fun x h1 => match truth h1 x with
    | some true => execB F a σ h1
    | some false => execB F b σ h1
    | none => none
  | .whl c b, σ, h => iterW (fun σ h => evalC F (some c) σ h) (fun σ h => execB F b σ h) iterMax σ h
  | .forr t it b, σ, h => exS σ (evalI F it σ h) fun s h1 => iterF s (fun v σ h => evalT F t v σ h) (fun σ h => execB F b σ h) (s.len h1 + 1) 0 σ h1
  | .pass, σ, h => some (.nx σ h)
  | .brk, σ, h => some (.bk σ h)
  | .cnt, σ, h => some (.ct σ h)
  | .nev, _, _ => none
  | .rse c e, σ, h => match e with
    | none => some (.ex ⟨c, none⟩ σ h)
    | some a => exS σ (evalE F a σ h) fun v h1 => some (.ex ⟨c, some (frz v)⟩ σ h1)
def execB (F : Calls) : List MS → Loc → Hm → Option SRes
  | [], σ, h => some (.nx σ h)
  | s :: r, σ, h => thenS (execS F s σ h) fun σ1 h1 => execB F r σ1 h1
end

/-- a def: its parameters' number, its slots' number, its body -/
structure FnD where
  np : Nat
  ns : Nat
  body : List MS
  deriving Inhabited
/-- what a body's end is -/
def endFn (n : Nat) (x : Option SRes) : RO MV := match x with
  | some (.rt v h1) => handBack n v h1
  | some (.nx _ h1) => some (.ok .non (h1.take n))
  | some (.ex e _ h1) => match e.arg with
    | some v => match froz n h1 v with
      | some w => some (.ex ⟨e.cls, some w⟩ (h1.take n))
      | none => none
    | none => some (.ex e (h1.take n))
  | _ => none
def runFn (F : Calls) (d : FnD) (vs : List MV) (h : Hm) : RO MV :=
  if vs.length = d.np then match stoL vs h with
    | some (ws, h1) => endFn h.length (execB F d.body (ws.map some ++ List.replicate (d.ns - d.np) none) h1)
    | none => none
  else none
/-- the defs of a program, calls at most k deep -/
def calls (P : List FnD) : Nat → Calls
  | 0 => fun _ _ _ => none
  | k + 1 => fun f vs h => match P[f]? with
    | some d => runFn (calls P k) d vs h
    | none => none
end Mi

/-! MiS: every k-th item of a tuple; chains of three comparisons. -/
namespace MiS
open PySem PySem.Spec PyProof.Rows L2 HT
section
variable {prog : Program} {w : World} {A : Around} {E : Value → Shared → Prop} {s : Shared}
theorem stepN_places (n k : Nat) (hk : 1 ≤ k) : Builtin.Slice.slicePlaces 0 (n : Int) (k : Int) = Mi.stepN n k := by
  unfold Builtin.Slice.slicePlaces Mi.stepN
  rw [if_pos (by omega)]
  by_cases h : 0 < n
  · rw [if_pos (by omega), if_pos h]
    have e : (n : Int) - 0 - 1 = ((n - 1 : Nat) : Int) := by omega
    rw [e, ← Int.natCast_ediv, ← Int.natCast_succ, Int.toNat_natCast]
  · rw [if_neg (by omega), if_neg h]
    rfl
theorem stepN_le (n k : Nat) : Mi.stepN n k ≤ n := by
  unfold Mi.stepN
  split
  · have := Nat.div_le_self (n - 1) k
    omega
  · omega
/-- the slice with a step, over a length -/
theorem applied_step {sl : Addr} {vs : Value} {k n : Nat} (hk : 1 ≤ k) {Q : Int × Int × Nat → Shared → Prop} (hs : s.heap.IsSliceOf sl .none .none vs) (ps : IsPart vs (some (k : Int)))
    (h : Q (0, (k : Int), Mi.stepN n k) s) : wpAny (model prog w) A (Builtin.Slice.sliceApplied (.ref sl) (pure (n : Int))) Q E s := by
  obtain ⟨o, ho, _, hd⟩ := id hs
  unfold Builtin.Slice.sliceApplied Builtin.Slice.sliceFields
  refine wpAny_bind (wpAny_bind (wpAny_field ho hd (x := .none) rfl (wpAny_bind (wpAny_field ho hd (x := .none) rfl (wpAny_bind (wpAny_field ho hd (x := vs) rfl (wpAny_pure ?_)))))))
  refine wpAny_bind (slicePart_ ps ?_)
  have h0 : ¬ (((k : Int) == 0) = true) := by
    intro q
    have : (k : Int) = 0 := eq_of_beq q
    omega
  show wpAny _ _ (if ((k : Int) == 0) = true then _ else _) _ _ s
  rw [if_neg h0]
  refine wpAny_bind (slicePart_ .none (wpAny_bind (slicePart_ .none (wpAny_bind (wpAny_pure ?_)))))
  show wpAny _ _ (match Builtin.Slice.sliceAdjust none none (k : Int) (n : Int) with | (lo, hi) => pure (lo, (k : Int), Builtin.Slice.slicePlaces lo hi (k : Int))) _ _ s
  have e : Builtin.Slice.sliceAdjust none none (k : Int) (n : Int) = (0, (n : Int)) := by
    unfold Builtin.Slice.sliceAdjust
    have h1 : ¬ ((k : Int) < 0) := by omega
    simp only [h1, if_false]
  rw [e]
  show wpAny _ _ (pure ((0 : Int), (k : Int), Builtin.Slice.slicePlaces 0 (n : Int) (k : Int))) _ _ s
  rw [stepN_places n k hk]
  exact wpAny_pure h
theorem pick_step (xs : Array Value) (k n : Nat) : ((List.range n).filterMap fun (m : Nat) => xs[((0 : Int) + (m : Int) * (k : Int)).toNat]?) = (List.range n).filterMap fun m => xs.toList[m * k]? := by
  congr 1
  funext m
  have e : ((0 : Int) + (m : Int) * (k : Int)).toNat = m * k := by
    rw [Int.zero_add, ← Int.natCast_mul, Int.toNat_natCast]
  rw [e, Array.getElem?_toList]
/-- t[::k]: new, or the whole of it -/
theorem item_step {t sl : Addr} {items : Array Value} {vs : Value} {k : Nat} (hk : 1 ≤ k) {Q : Value → Shared → Prop} (ht : IsTup s.heap t items) (hs : s.heap.IsSliceOf sl .none .none vs) (ps : IsPart vs (some (k : Int)))
    (h1 : k = 1 → Q (.ref t) s) (h2 : k ≠ 1 → Q (.ref s.heap.objs.size) { s with heap := s.heap.push { cls := .type "tuple", data := .seq (Mi.stepOf items.toList k).toArray } }) (hsz : items.size ≤ sizeLine) :
    wpAny (model prog w) A (getItem (.ref t) (.ref sl)) Q E s := by
  obtain ⟨os, hos, hcs, hds⟩ := id hs
  have hT : s.TypeIs (.ref sl) "slice" := ⟨os, hos, hcs⟩
  unfold getItem
  try with_reducible refine wpAny_holding ?_
  first | refine wpAny_bind (wpAny_pure ?_) | skip
  refine wpAny_bind (wpAny_sequenceKey ht.typeIs (by decide) ?_)
  refine wpAny_bind (wpAny_callSpecial?_slot (name := Str.ofString "__getitem__") ht.typeIs PyProof.Rows.slot_tuple_getitem (wpAny_call_entry PyProof.Rows.slot_tuple_getitem ht.typeIs entry_tuple_getitem ?_ (args_tuple_getitem _ _)))
  show wpAny _ _ (Builtin.Tuple.tupleItemsOf (.ref t) >>= _) _ _ s
  refine wpAny_bind (tupleItemsOf_ ht (wpAny_bind (wpAny_typeOf hT ?_)))
  rw [if_pos (by decide)]
  refine wpAny_bind (applied_step hk hs ps ?_)
  by_cases e : k = 1
  · subst e
    have n1 : Mi.stepN items.size 1 = items.size := by
      unfold Mi.stepN
      split
      · rw [Nat.div_one]; omega
      · omega
    have yes : (((0 : Int) == 0) && (((1 : Nat) : Int) == 1) && (Mi.stepN items.size 1 == items.size)) = true := by
      rw [n1]
      simp
    show wpAny _ _ (if (((0 : Int) == 0) && (((1 : Nat) : Int) == 1) && (Mi.stepN items.size 1 == items.size)) = true then _ else _) _ _ s
    rw [if_pos yes]
    refine wpAny_bind ?_
    show wpAny _ _ (typeOf (.ref t) >>= fun T => pure (T == .type "tuple")) _ _ s
    refine wpAny_bind (wpAny_typeOf ht.typeIs (wpAny_pure ?_))
    first
      | rw [if_pos (by decide)]
      | simp only [beq_self_eq_true, if_true]
    first
      | exact wpAny_bind (wpAny_rule (wpAny_pure ⟨_, rfl, wpAny_pure (h1 rfl)⟩))
      | exact wpAny_bind (wpAny_rule (wpAny_bind (wpAny_pure (wpAny_pure ⟨_, rfl, wpAny_pure (h1 rfl)⟩))))
  · have no : ¬ ((((0 : Int) == 0) && ((k : Int) == 1) && (Mi.stepN items.size k == items.size)) = true) := by
      intro q
      rw [Bool.and_eq_true, Bool.and_eq_true] at q
      have : (k : Int) = 1 := eq_of_beq q.1.2
      omega
    show wpAny _ _ (if (((0 : Int) == 0) && ((k : Int) == 1) && (Mi.stepN items.size k == items.size)) = true then _ else _) _ _ s
    rw [if_neg no, pick_step]
    have so : sizeOk (.seq ((List.range (Mi.stepN items.size k)).filterMap fun m => items.toList[m * k]?).toArray) := by
      show _ ≤ sizeLine
      rw [List.size_toArray]
      refine Nat.le_trans (List.length_filterMap_le _ _) ?_
      rw [List.length_range]
      exact Nat.le_trans (stepN_le _ _) hsz
    have h3 := h2 e
    unfold Mi.stepOf at h3
    rw [Array.length_toList] at h3
    first
      | exact wpAny_bind (m := Builtin.Tuple.tupleExact _) (wpAny_newObj_type (wpAny_pure ⟨_, rfl, wpAny_pure h3⟩) so)
      | exact wpAny_bind (m := Builtin.Tuple.tupleExact _) (wpAny_newObj_type (wpAny_bind (wpAny_pure (wpAny_pure ⟨_, rfl, wpAny_pure h3⟩))) so)
      | exact wpAny_bind (wpAny_bind (m := Builtin.Tuple.tupleExact _) (wpAny_newObj_type (wpAny_pure (wpAny_pure ⟨_, rfl, wpAny_pure h3⟩)) so))
      | exact wpAny_bind (wpAny_bind (m := Builtin.Tuple.tupleExact _) (wpAny_newObj_type (wpAny_pure ⟨_, rfl, wpAny_pure h3⟩) so))
end
section
variable {X : Cx}
theorem vals_step {xs : List V} {us : List Value} (r : Vals xs us) (k : Nat) : Vals (Mi.stepOf xs k) (Mi.stepOf us k) := by
  unfold Mi.stepOf
  rw [r.length]
  generalize Mi.stepN us.length k = n
  induction n with
  | zero => exact .nil
  | succ n ih =>
    rw [List.range_succ, List.filterMap_append, List.filterMap_append]
    refine Vals.append ih ?_
    show Vals ([n].filterMap _) ([n].filterMap _)
    cases e : xs[n * k]? with
    | none =>
      have := Vals.none_of r e
      simp [List.filterMap_cons, e, this]
      exact .nil
    | some x =>
      obtain ⟨u, h1, h2⟩ := Vals.get r e
      simp [List.filterMap_cons, e, h1]
      exact .cons h2 .nil
def tStep (K : PySem.W.Frag) (te tk : TE) : TE := fun σ H Q => te σ H fun x H1 => tk σ H1 fun y H2 => ∃ a xs k, x = .ref a ∧ y = .int ((k : Nat) : Int) ∧ 1 ≤ k ∧ SqT K H2 a xs ∧ (k = 1 → Q (.ref a) H2) ∧ (k ≠ 1 → ∀ p, H2 p = none → Q (.ref p) (upd H2 p (.tup (Mi.stepOf xs k))))
/-- e[::k], k a name -/
theorem pe_step {e : Expr} {x : Str} {te tk : TE} {kp p3 pos : Pos} (he : PE X e te) (hk : PE X (.Name x kp) tk) : PE X (.Subscript e (.Slice none none (some (.Name x kp)) p3) pos) (tStep X.K te tk) := by
  refine ⟨fun pins s σ H Q I h => ?_⟩
  refine Subscript_ (thn (he.run pins s σ H _ I h) fun v s1 ⟨x1, H1, I1, r1, q1⟩ => ?_)
  refine wpAny_Slice (thn (po_none.run pins s1 σ H1 (fun o H2 => o = none ∧ H2 = H1) I1 ⟨rfl, rfl⟩) fun vl s2 ⟨l, H2, I2, pl, el, e2⟩ => ?_)
  subst el e2
  refine thn (po_none.run pins s2 σ H2 (fun o H3 => o = none ∧ H3 = H2) I2 ⟨rfl, rfl⟩) fun vu s3 ⟨u, H3, I3, pu, eu, e3⟩ => ?_
  subst eu e3
  cases pl
  cases pu
  refine thn (hk.run pins s3 σ H3 _ I3 q1) fun vs s4 ⟨y, H4, I4, ry, q4⟩ => ?_
  obtain ⟨a, xs, k, ex, ey, hk1, hx, qa, qb⟩ := q4
  subst ex ey
  cases r1
  obtain ⟨tt, ev⟩ := ry
  subst ev
  have I5 : Inv X pins σ H4 { s4 with heap := s4.heap.push { cls := .type "slice", data := .fields #[.none, .none, .int ((k : Nat) : Int) tt] } } := I4.kept (t' := s4.toks) fun b ob q => Heap.get?_push_of_some _ q
  obtain ⟨its, r, ht, hz⟩ := I5.tuple hx
  have hlen := r.length
  show wpAny (model X.prog X.w) X.A (subscriptTail e (.Slice none none (some (.Name x kp)) p3) (.ref a) (.ref s4.heap.objs.size)) (EP X pins σ Q) X.xe { s4 with heap := s4.heap.push { cls := .type "slice", data := .fields #[.none, .none, .int ((k : Nat) : Int) tt] } }
  refine tail_any (ops := [.ref a, .ref s4.heap.objs.size]) ht.typeIs (PyProof.Rows.slot_tuple_getitem.lookup) ?_ (by with_unfolding_all rfl)
  refine item_step hk1 ht (Heap.IsSliceOf.new _ .none .none _) (.int _ tt) (fun e1 => ?_) (fun e1 => ?_) (by rw [List.size_toArray]; omega)
  · exact ⟨.ref a, H4, I5, rfl, qa e1⟩
  · refine ⟨.ref _, _, I5.laid (t' := s4.toks) (o := .tup (Mi.stepOf xs k)) (fun b ob q => Heap.get?_push_of_some _ q) (Nat.le_refl _) ?_, rfl, qb e1 _ (I5.hok.fresh (Nat.le_refl _))⟩
    have hl : (Mi.stepOf xs k).length ≤ sizeLine := by
      unfold Mi.stepOf
      refine Nat.le_trans (List.length_filterMap_le _ _) ?_
      rw [List.length_range]
      exact Nat.le_trans (stepN_le _ _) (by omega)
    exact ⟨hl, Mi.stepOf its k, vals_step r k, _, Heap.get?_push_size _ rfl, rfl, 0, rfl⟩
/-- a o1 b o2 c o3 d -/
def tCh3 (r1 r2 r3 : R2) (ta tb tc td : TE) : TE := fun σ H Q => ta σ H fun x H1 => tb σ H1 fun y H2 => r1 x y H2 fun z H3 => ∃ k, z = .bl k ∧
  (if k = true then tc σ H3 fun w H4 => r2 y w H4 fun z2 H5 => ∃ k2, z2 = .bl k2 ∧ (if k2 = true then td σ H5 fun u H6 => r3 w u H6 Q else Q (.bl false) H5) else Q (.bl false) H3)
theorem pe_ch3 {a b c d : Expr} {ta tb tc td : TE} {pos : Pos} {o1 o2 o3 : CmpOp} {r1 r2 r3 : R2} (h1 : OpR X (compareOp o1) r1) (h2 : OpR X (compareOp o2) r2) (h3 : OpR X (compareOp o3) r3) (ha : PE X a ta) (hb : PE X b tb) (hc : PE X c tc) (hd : PE X d td)
    (hm : lastMarks [o1, o2, o3] [b, c, d] = false) : PE X (.Compare a [o1, o2, o3] [b, c, d] pos) (tCh3 r1 r2 r3 ta tb tc td) := by
  refine ⟨fun pins s σ H Q I h => ?_⟩
  refine Compare_chain (thn (ha.run pins s σ H _ I h) fun v s1 ⟨x, H1, I1, q1, g1⟩ => chain_link (thn (hb.run pins s1 σ H1 _ I1 g1) fun u s2 ⟨y, H2, I2, q2, g2⟩ =>
    thn (h1 pins s2 σ H2 x y v u _ I2 q1 q2 g2) fun t s3 ⟨z, H3, I3, q3, k, e, g3⟩ => ?_)) hm
  subst e
  cases q3
  refine wpAny_truthy_bool ?_
  cases k with
  | false => exact ite_ff ⟨.bl false, H3, I3, rfl, g3⟩
  | true =>
    refine ite_tt (chain_link (thn (hc.run pins s3 σ H3 _ I3 g3) fun w' s4 ⟨z', H4, I4, q4, g4⟩ => thn (h2 pins s4 σ H4 y z' u w' _ I4 q2 q4 g4) fun t' s5 ⟨z2, H5, I5, q5, k2, e2, g5⟩ => ?_))
    subst e2
    cases q5
    refine wpAny_truthy_bool ?_
    cases k2 with
    | false => exact ite_ff ⟨.bl false, H5, I5, rfl, g5⟩
    | true => exact ite_tt (chain_last (thn (hd.run pins s5 σ H5 _ I5 g5) fun u' s6 ⟨z6, H6, I6, q6, g6⟩ => h3 pins s6 σ H6 z' z6 w' u' Q I6 q4 q6 g6))
theorem pt_ch3 {a b c d : Expr} {ta tb tc td : TE} {pos : Pos} {o1 o2 o3 : CmpOp} {r1 r2 r3 : R2} (h1 : OpR X (compareOp o1) r1) (h2 : OpR X (compareOp o2) r2) (h3 : OpR X (compareOp o3) r3) (ha : PE X a ta) (hb : PE X b tb) (hc : PE X c tc) (hd : PE X d td)
    (hm : lastMarks [o1, o2, o3] [b, c, d] = false) : PT X (.Compare a [o1, o2, o3] [b, c, d] pos) (tTest (tCh3 r1 r2 r3 ta tb tc td)) := by
  refine ⟨fun pins s σ H Q I h => ?_⟩
  refine isTrue_chain (thn (ha.run pins s σ H _ I h) fun v s1 ⟨x, H1, I1, q1, g1⟩ => test_link (thn (hb.run pins s1 σ H1 _ I1 g1) fun u s2 ⟨y, H2, I2, q2, g2⟩ =>
    thn (h1 pins s2 σ H2 x y v u _ I2 q1 q2 g2) fun t s3 ⟨z, H3, I3, q3, k, e, g3⟩ => ?_)) hm
  subst e
  cases q3
  refine wpAny_truthy_bool ?_
  cases k with
  | false =>
    obtain ⟨k', e', q'⟩ := g3
    cases e'
    exact ite_ff ⟨H3, I3, q'⟩
  | true =>
    refine ite_tt (test_link (thn (hc.run pins s3 σ H3 _ I3 g3) fun w' s4 ⟨z', H4, I4, q4, g4⟩ => thn (h2 pins s4 σ H4 y z' u w' _ I4 q2 q4 g4) fun t' s5 ⟨z2, H5, I5, q5, k2, e2, g5⟩ => ?_))
    subst e2
    cases q5
    refine wpAny_truthy_bool ?_
    cases k2 with
    | false =>
      obtain ⟨k', e', q'⟩ := g5
      cases e'
      exact ite_ff ⟨H5, I5, q'⟩
    | true =>
      refine ite_tt (test_last (thn (hd.run pins s5 σ H5 _ I5 g5) fun u' s6 ⟨z6, H6, I6, q6, g6⟩ => thn (h3 pins s6 σ H6 z' z6 w' u' _ I6 q4 q6 g6) fun t6 s7 ⟨z7, H7, I7, q7, k7, e7, g7⟩ => ?_))
      subst e7
      cases q7
      exact wpAny_truthy_bool ⟨H7, I7, g7⟩
end
end MiS

/-! MiO: instances with slots: stores to targets, a lambda as a value, an __init__ that stores what it is given. -/
namespace MiO
open PySem PySem.Spec PyProof.Rows L2 SlX
section
variable {M : Model} {A : Around} {E : Value → Shared → Prop} {s : Shared} {env : Env}
theorem wp_assign_attr {o : Expr} {attr : Str} {pos : Pos} {v : Value} {Q : Unit → Shared → Prop}
    (h : wpAny M A (eval o env) (fun ov s₂ => wpAny M A (setAttr ov attr v) (fun _ s3 => Q () s3) E s₂) E s) : wpAny M A (assign (.Attribute o attr pos) env v) Q E s := fun Γ p hΓ => by
  simp only [assign_Attribute, Sem.wp_bind', Sem.wp_holding, Sem.wp_cmd_standAt, Sem.wp_release, Sem.wp_pure']
  exact Sem.wp_mono M Γ _ (fun ov _ s₂ h₂ => h₂ Γ _ hΓ) (fun _ _ _ h' => h') _ _ (h Γ _ hΓ)
end
/-- o.f as a target, o an instance with slots -/
def gSl (K : PySem.W.Frag) (ta : TE) (f : Str) : TG := fun y σ H Q => ta σ H fun x H2 => ∃ a C dx p vs i, x = .ref a ∧ Slt H2 a C dx vs ∧ SCls K C ∧ Slot1 K C f p i ∧ Q σ (slH H2 a C dx (putS i y vs))
theorem pg_sl {X : Cx} {o : Expr} {f : Str} {pos : Pos} {ta : TE} (ha : PE X o ta) : PG X (.Attribute o f pos) (gSl X.K ta f) := by
  refine ⟨fun pins s σ H y u Q I ry h => ?_⟩
  refine wp_assign_attr (thn (ha.run pins s σ H _ I h) fun ov s2 ⟨x, H2, I2, rx, a, C, dx, p, vs, i, ex, hsl, c, t, q2⟩ => ?_)
  subst ex
  obtain rfl : ov = Value.ref a := rx
  exact setslot_ok I2 hsl c t ry fun s3 I3 => ⟨σ, _, I3, q2⟩
/-! ### the __init__ of forms -/
def fmB : List Stmt → Bool
  | [.Assign [.Tuple [.Attribute (.Name s1 _) f1 _, .Attribute (.Name s2 _) f2 _, .Attribute (.Name s3 _) f3 _] _ _] (.Tuple [.Name a1 _, .Name a2 _, .Name a3 _] _ _) _, .Assign [.Tuple [.Attribute (.Name s4 _) f4 _, .Attribute (.Name s5 _) f5 _] _ _] (.Name a4 _) _, .Assign [.Attribute (.Name s6 _) f6 _] (.Tuple [] _ _) _] =>
    s1 == ("self" : Str) && s2 == ("self" : Str) && s3 == ("self" : Str) && s4 == ("self" : Str) && s5 == ("self" : Str) && s6 == ("self" : Str) && f1 == ("own_weight" : Str) && f2 == ("own_level" : Str) && f3 == ("own_maker" : Str) && f4 == ("own_sign" : Str) && f5 == ("own_modulus" : Str) && f6 == ("own_known" : Str) &&
    a1 == ("weight" : Str) && a2 == ("level" : Str) && a3 == ("maker" : Str) && a4 == ("character" : Str)
  | _ => false
abbrev fmN : List Str := ["self", "weight", "level", "character", "maker"]
def fmBody (p : Nat → Pos) (k : Nat → Nat) : List Stmt :=
  [.Assign [.Tuple [.Attribute (.Name "self" (p 0)) "own_weight" (p 1), .Attribute (.Name "self" (p 2)) "own_level" (p 3), .Attribute (.Name "self" (p 4)) "own_maker" (p 5)] (k 0) (p 6)] (.Tuple [.Name "weight" (p 7), .Name "level" (p 8), .Name "maker" (p 9)] (k 1) (p 10)) (p 11),
   .Assign [.Tuple [.Attribute (.Name "self" (p 12)) "own_sign" (p 13), .Attribute (.Name "self" (p 14)) "own_modulus" (p 15)] (k 2) (p 16)] (.Name "character" (p 17)) (p 18),
   .Assign [.Attribute (.Name "self" (p 19)) "own_known" (p 20)] (.Tuple [] (k 3) (p 21)) (p 22)]
def nthP (l : List Pos) (i : Nat) : Pos := l.getD i ⟨0, 0, 0, 0⟩
theorem fmB_ok {b : List Stmt} (h : fmB b = true) : ∃ (p : Nat → Pos) (k : Nat → Nat), b = fmBody p k := by
  unfold fmB at h
  split at h
  · rename_i s1 q1 f1 q2 s2 q3 f2 q4 s3 q5 f3 q6 k1 q7 a1 q8 a2 q9 a3 q10 k2 q11 q12 s4 q13 f4 q14 s5 q15 f5 q16 k3 q17 a4 q18 q19 s6 q20 f6 q21 k4 q22 q23
    simp only [Bool.and_eq_true, beq_iff_eq] at h
    obtain ⟨⟨⟨⟨⟨⟨⟨⟨⟨⟨⟨⟨⟨⟨⟨h1, h2⟩, h3⟩, h4⟩, h5⟩, h6⟩, h7⟩, h8⟩, h9⟩, h10⟩, h11⟩, h12⟩, h13⟩, h14⟩, h15⟩, h16⟩ := h
    subst h1 h2 h3 h4 h5 h6 h7 h8 h9 h10 h11 h12 h13 h14 h15 h16
    exact ⟨nthP [q1, q2, q3, q4, q5, q6, q7, q8, q9, q10, q11, q12, q13, q14, q15, q16, q17, q18, q19, q20, q21, q22, q23], fun i => [k1, k2, k3, k4].getD i 0, rfl⟩
  · cases h
/-- what of the text such a class must have -/
structure FmCls (K : PySem.W.Frag) (C : Addr) : Prop where
  cls : SCls K C
  s0 : ∃ p, Slot1 K C "own_known" p 0
  s1 : ∃ p, Slot1 K C "own_level" p 1
  s2 : ∃ p, Slot1 K C "own_maker" p 2
  s3 : ∃ p, Slot1 K C "own_modulus" p 3
  s4 : ∃ p, Slot1 K C "own_sign" p 4
  s5 : ∃ p, Slot1 K C "own_weight" p 5
/-- what its __init__ promises -/
def spFm (K : PySem.W.Frag) (C : Addr) : Sp := fun vs H Q _ => ∃ a dx w l m c s md, vs = [.ref a, w, l, .ref c, m] ∧ H a = some (.ins C dx []) ∧ H dx = some (.own a) ∧ dx ≠ a ∧ SqT K H c [s, md] ∧
  ∀ H' ws, (∀ b o, H b = some o → b ≠ a → b ≠ dx → H' b = some o) → (∀ b, H' b = none → H b = none) → H' a = some (SlO a C dx ws) → H' dx = some (.xd []) → (∃ kn, ws[0]? = some (some kn)) →
    ws[1]? = some (some l) → ws[2]? = some (some m) → ws[3]? = some (some md) → ws[4]? = some (some s) → ws[5]? = some (some w) → Q .non H'
theorem slH_a {H : Hp} {a C dx : Addr} {vs : List (Option V)} : slH H a C dx vs a = some (SlO a C dx vs) := upd_same
theorem slH_d {H : Hp} {a C dx : Addr} {vs : List (Option V)} (h : dx ≠ a) : slH H a C dx vs dx = some (.xd []) := by
  unfold slH
  rw [upd_ne h, upd_same]
section
variable {X : Cx} {C : Addr}
theorem fm_body (hc : X.calm = true) (hN : X.N = fmN) (fc : FmCls X.K C) {p : Nat → Pos} {k : Nat → Nat} (v0 : Vis X.env.scope "self") (v1 : Vis X.env.scope "weight") (v2 : Vis X.env.scope "level") (v3 : Vis X.env.scope "character") (v4 : Vis X.env.scope "maker") (kd : X.env.scope.kind = .function) :
    ∃ t, PSs X (fmBody p k) t ∧ ∀ (vs : List V) (H : Hp) (Q : VK) (E : XK) (D : Ends), spFm X.K C vs H Q E → (∀ σ H', Q .non H' → D.nx σ H') → t D (vs.map some) H := by
  obtain ⟨p0, f0⟩ := fc.s0
  obtain ⟨p1, f1⟩ := fc.s1
  obtain ⟨p2, f2⟩ := fc.s2
  obtain ⟨p3, f3⟩ := fc.s3
  obtain ⟨p4, f4⟩ := fc.s4
  obtain ⟨p5, f5⟩ := fc.s5
  have e0 : ∀ q, PE X (.Name "self" q) (tVar 0) := fun q => pe_var (by rw [hN]; rfl) v0
  have e1 : ∀ q, PE X (.Name "weight" q) (tVar 1) := fun q => pe_var (by rw [hN]; rfl) v1
  have e2 : ∀ q, PE X (.Name "level" q) (tVar 2) := fun q => pe_var (by rw [hN]; rfl) v2
  have e3 : ∀ q, PE X (.Name "character" q) (tVar 3) := fun q => pe_var (by rw [hN]; rfl) v3
  have e4 : ∀ q, PE X (.Name "maker" q) (tVar 4) := fun q => pe_var (by rw [hN]; rfl) v4
  have sz3 : ∀ {w l m : V}, ([w, l, m] : List V).length ≤ sizeLine := fun {w l m} => by
    rw [sizeLine_eq]
    exact (by omega : 3 ≤ 16777216)
  have sz0 : ([] : List V).length ≤ sizeLine := Nat.zero_le _
  have hw : ∀ (a0 a1 a2 a3 a4 a5 a6 b0 b1 b2 b3 : Pos) (k1 k2 : Nat), swappedStores [.Tuple [.Attribute (.Name "self" a0) "own_weight" a1, .Attribute (.Name "self" a2) "own_level" a3, .Attribute (.Name "self" a4) "own_maker" a5] k1 a6] (.Tuple [.Name "weight" b0, .Name "level" b1, .Name "maker" b2] k2 b3) X.env = pure none := fun a0 a1 a2 a3 a4 a5 a6 b0 b1 b2 b3 k1 k2 => by
    have hb : X.env.blockKind = .function := by unfold Env.blockKind; rw [kd]; rfl
    have hbb : (X.env.blockKind != .function) = false := by rw [hb]; rfl
    unfold swappedStores Env.kindOf
    simp only [hbb, Bool.or_false, pure_bind]
    exact (if_neg (fun h => nomatch h)).trans ((if_neg (fun h => nomatch h)).trans (if_pos rfl))
  refine ⟨_, pss_cons (ps_asg (pe_tup (pa_cons (e1 _) (pa_cons (e2 _) (pa_cons (e4 _) pa_nil)))) (pg_tup (n := 3) hc (pgs_cons (pg_sl (e0 _)) (pgs_cons (pg_sl (e0 _)) (pgs_cons (pg_sl (e0 _)) pgs_nil)))) (hw := hw _ _ _ _ _ _ _ _ _ _ _ _ _))
    (pss_cons (ps_asg (e3 _) (pg_tup (n := 2) hc (pgs_cons (pg_sl (e0 _)) (pgs_cons (pg_sl (e0 _)) pgs_nil)))) (pss_one (ps_asg (pe_tup pa_nil) (pg_sl (e0 _))))), fun vs H Q E D ⟨a, dx, w, l, m, c, s, md, ev, ha, hd, ne, hq, fin⟩ hD => ?_⟩
  subst ev
  refine ⟨w, rfl, l, rfl, m, rfl, sz3, fun q hq0 => ?_⟩
  have qa : a ≠ q := ne_of_none ha hq0
  have qd : dx ≠ q := ne_of_none hd hq0
  have ea : upd H q (.tup [w, l, m]) a = some (.ins C dx []) := by rw [upd_ne qa]; exact ha
  refine ⟨q, [w, l, m], rfl, .inl (.inl upd_same), rfl, w, _, rfl, .ref a, rfl, a, C, dx, p5, [], 5, rfl, .inl ⟨ea, rfl⟩, fc.cls, f5, l, _, rfl, .ref a, rfl, a, C, dx, p1, _, 1, rfl, slH_slt ne, fc.cls, f1, m, _, rfl, .ref a, rfl, a, C, dx, p2, _, 2, rfl, slH_slt ne, fc.cls, f2, rfl, ?_⟩
  rw [slH_twice ne, slH_twice ne]
  have hcs : ∀ vs, SqT X.K (slH (upd H q (.tup [w, l, m])) a C dx vs) c [s, md] := fun vs => by
    rcases hq with h | h
    · have key : ∀ o, H c = some o → o ≠ .ins C dx [] → o ≠ .own a → slH (upd H q (.tup [w, l, m])) a C dx vs c = some o := fun o e n1 n2 => by
        have c1 : c ≠ a := fun z => by rw [z, ha] at e; exact n1 (Option.some.inj e).symm
        have c2 : c ≠ dx := fun z => by rw [z, hd] at e; exact n2 (Option.some.inj e).symm
        rw [slH_ne c1 c2, upd_ne (ne_of_none e hq0)]
        exact e
      rcases h with h | ⟨o, h⟩
      · exact .inl (.inl (key _ h (fun z => nomatch z) (fun z => nomatch z)))
      · exact .inl (.inr ⟨o, key _ h (fun z => nomatch z) (fun z => nomatch z)⟩)
    · exact .inr h
  refine ⟨.ref c, rfl, c, [s, md], rfl, hcs _, rfl, s, _, rfl, .ref a, rfl, a, C, dx, p4, _, 4, rfl, slH_slt ne, fc.cls, f4, md, _, rfl, .ref a, rfl, a, C, dx, p3, _, 3, rfl, slH_slt ne, fc.cls, f3, rfl, ?_⟩
  rw [slH_twice ne, slH_twice ne]
  refine ⟨sz0, fun r hr0 => ⟨.ref a, rfl, a, C, dx, p0, putS 3 md (putS 4 s (putS 2 m (putS 1 l (putS 5 w [])))), 0, rfl, ?_, fc.cls, f0, hD _ _ (fin _ (putS 0 (.ref r) (putS 3 md (putS 4 s (putS 2 m (putS 1 l (putS 5 w [])))))) ?_ ?_ ?_ ?_ ⟨_, putS_get _ _ _⟩ ?_ ?_ ?_ ?_ ?_)⟩⟩
  · have ra : a ≠ r := ne_of_none slH_a hr0
    have rd : dx ≠ r := ne_of_none (slH_d ne) hr0
    refine .inr ⟨?_, ?_⟩
    · rw [upd_ne ra]
      exact slH_a
    · rw [upd_ne rd]
      exact slH_d ne
  · intro b o hb b1 b2
    have hb1 : slH (upd H q (.tup [w, l, m])) a C dx (putS 3 md (putS 4 s (putS 2 m (putS 1 l (putS 5 w []))))) b = some o := by
      rw [slH_ne b1 b2, upd_ne (ne_of_none hb hq0)]
      exact hb
    rw [slH_ne b1 b2, upd_ne (ne_of_none hb1 hr0)]
    exact hb1
  · intro b hb
    cases hx : H b with
    | none => rfl
    | some o =>
      exfalso
      by_cases b1 : b = a
      · rw [b1, slH_a] at hb
        cases hb
      · by_cases b2 : b = dx
        · rw [b2, slH_d ne] at hb
          cases hb
        · have hb1 : slH (upd H q (.tup [w, l, m])) a C dx (putS 3 md (putS 4 s (putS 2 m (putS 1 l (putS 5 w []))))) b = some o := by
            rw [slH_ne b1 b2, upd_ne (ne_of_none hx hq0)]
            exact hx
          rw [slH_ne b1 b2, upd_ne (ne_of_none hb1 hr0), hb1] at hb
          cases hb
  · exact slH_a
  · exact slH_d ne
  · exact (putS_ne (by decide)).mpr ((putS_ne (by decide)).mpr ((putS_ne (by decide)).mpr ((putS_ne (by decide)).mpr (putS_get _ _ _))))
  · exact (putS_ne (by decide)).mpr ((putS_ne (by decide)).mpr ((putS_ne (by decide)).mpr (putS_get _ _ _)))
  · exact (putS_ne (by decide)).mpr (putS_get _ _ _)
  · exact (putS_ne (by decide)).mpr ((putS_ne (by decide)).mpr (putS_get _ _ _))
  · exact (putS_ne (by decide)).mpr ((putS_ne (by decide)).mpr ((putS_ne (by decide)).mpr ((putS_ne (by decide)).mpr ((putS_ne (by decide)).mpr (putS_get _ _ _)))))
end
/-- the __init__ keeps its promise -/
theorem fn_fm {CX : CXT} {P : Program} {w : World} {K : PySem.W.Frag} {mg : Str → Option Value} {base : Heap} {k : Nat} {fa C : Addr} {name qual : Str} {params : Arguments} {body : List Stmt} {scope : Scope} {dV kV doc pm cdv ct oc : Value} {an od : Option Addr}
    {osl : Array (Option Value)} (lk : K.lookup fa = some ⟨oc, od, .func (PySem.W.fnOf name qual params body scope dV kV doc pm an cdv ct), osl⟩) (hcd : PySem.W.codeIn K cdv qual = true) (S : FnScope fmN fmN scope) (hb : fmB body = true) (fc : FmCls K C) :
    FnOk P w K mg base CX (k + 1) fa (PySem.W.fnOf name qual params body scope dV kV doc pm an cdv ct) fmN (spFm K C) := by
  have vis : ∀ x, x ∈ fmN → Vis scope x := fun x hx => (S.par x hx).elim (fun z => .inl z) (fun z => .inr (.inl z))
  obtain ⟨p, q, eb⟩ := fmB_ok hb
  subst eb
  refine fn_of lk hcd S (fun vs H Q E h => ?_) (fun A outer s H vs Q E hr h => ?_)
  · obtain ⟨a, dx, w, l, m, c, s, md, e, _⟩ := h
    rw [e]
    rfl
  · obtain ⟨t, ht, hq⟩ := fm_body (X := cxOf CX P w K mg base fmN qual scope fa cdv A outer s H E) (C := C) (p := p) (k := q) rfl rfl fc (vis _ (by simp)) (vis _ (by simp)) (vis _ (by simp)) (vis _ (by simp)) (vis _ (by simp)) S.kind
    refine ⟨t, ht, ?_⟩
    have := hq vs H Q E { nx := fun _ H' => Q .non H', rt := Q } h (fun σ H' z => z)
    obtain ⟨a, dx, w, l, m, c, s, md, e, _⟩ := h
    subst e
    exact this
/-- a property that hands a slot back -/
def getSl (C : Addr) (i : Nat) : Sp := fun vs H Q _ => ∃ a dx ws v, vs = [.ref a] ∧ Slt H a C dx ws ∧ ws[i]? = some (some v) ∧ Q v H
def gtB (f : Str) : List Stmt → Bool
  | [.Return (some (.Attribute (.Name s _) g _)) _] => s == ("self" : Str) && g == f
  | _ => false
theorem fn_getSl {CX : CXT} {P : Program} {w : World} {K : PySem.W.Frag} {mg : Str → Option Value} {base : Heap} {k i : Nat} {fa C p : Addr} {name qual f : Str} {params : Arguments} {body : List Stmt} {scope : Scope} {dV kV doc pm cdv ct oc : Value} {an od : Option Addr}
    {osl : Array (Option Value)} {N : List Str} (lk : K.lookup fa = some ⟨oc, od, .func (PySem.W.fnOf name qual params body scope dV kV doc pm an cdv ct), osl⟩) (hcd : PySem.W.codeIn K cdv qual = true) (S : FnScope N ["self"] scope)
    (hN : N[0]? = some ("self" : Str)) (hb : gtB f body = true) (c : SCls K C) (n : Slot1 K C f p i) :
    FnOk P w K mg base CX (k + 1) fa (PySem.W.fnOf name qual params body scope dV kV doc pm an cdv ct) ["self"] (getSl C i) := by
  unfold gtB at hb
  split at hb
  · rename_i s1 p1 g p2 p3
    simp only [Bool.and_eq_true, beq_iff_eq] at hb
    obtain ⟨h1, h2⟩ := hb
    subst h1 h2
    refine fn_of lk hcd S (fun vs H Q E h => ?_) (fun A outer s H vs Q E hr h => ?_)
    · obtain ⟨a, dx, fs, v, e, _⟩ := h
      rw [e]
      rfl
    · obtain ⟨a, dx, ws, v, e, ea, l, q⟩ := h
      subst e
      refine ⟨_, pss_one (ps_ret (pe_sl (pe_var (i := 0) hN ((S.par "self" (List.Mem.head _)).elim (fun z => .inl z) (fun z => .inr (.inl z)))) rfl)), ?_⟩
      exact ⟨.ref a, rfl, a, C, dx, p, ws, i, v, rfl, ea, c, n, l, q⟩
  · cases hb
/-- a lambda as a value -/
def tLamV (T : List (Addr × Str)) : TE := fun _ H Q => LamX.Tabs T H ∧ ∀ f H1, LamX.ExtN H H1 → LamX.Tabs T H1 → H1 f = none → Q (.ref f) H1
theorem pe_lamv {X : Cx} {T : List (Addr × Str)} {c P : Addr} {params : Arguments} {body : Expr} {scope : Scope} {pos : Pos} (TB : LamX.TabB X.base X.mg c P) (hcode : X.env.code = .ref c) (hm : (P, X.env.qual ++ "<lambda>") ∈ T) (hu : ∀ p ∈ T, p.1 = P → p.2 = X.env.qual ++ "<lambda>")
    (hdef : defaultsOf params X.env = ([], [])) (hfree : ∀ y ∈ scope.names, y.2 = .free → X.env.scope.names.lookup y.1 = some .cell ∨ X.env.scope.names.lookup y.1 = some .free) : PE X (.Lambda params body scope pos) (tLamV T) := by
  refine ⟨fun pins s σ H Q I h => ?_⟩
  obtain ⟨hT, h⟩ := h
  refine LamX.lam_make2 I TB hcode hm hu hT hdef (fun y hy e => ?_) fun f c' pm ctv H1 s' I1 eN T1 hf hfn _ _ => ⟨.ref f, H1, I1, rfl, h f H1 eN T1 hfn⟩
  rcases hfree y hy e with k | k
  · exact I.ok.has _ (.inl k)
  · exact I.ok.has _ (.inr k)
end MiO

/-! Mi1: how the small language's values and heaps stand for those of the layer. -/
namespace Mi
open PySem PySem.Spec PyProof.Rows L2

/-- the ground: where the defs and the exceptions' classes stand -/
structure GE where
  K : PySem.W.Frag
  fa : Nat → Option Addr
  ca : Nat → Option (Addr × Str)
  tabs : List (Addr × Str) := []
  ask : Nat → Bool := fun _ => false
  oc : Nat → Option Addr := fun _ => none

/-- where the small heap's objects stand; b: addresses that nothing else may name (fresh lists that are still owned) -/
structure Rh where
  l : List Addr
  b : Addr → Prop
def Rh.out (ρ : Rh) (a : Addr) : Prop := a ∉ ρ.l ∧ ¬ ρ.b a
/-- a list that nobody may write: the script -/
def SqF (K : PySem.W.Frag) (ρ : Rh) (H : Hp) (a : Addr) (vs : List V) : Prop :=
  (∃ o, H a = some (.frz o (.lst vs)) ∧ a ∉ ρ.l) ∨
    ∃ (o : Obj) (its : Array Value) (n : Nat), K.lookup a = some o ∧ o.cls = .type "list" ∧ o.dict = none ∧ o.data = .seq its n ∧ its.size ≤ sizeLine ∧ Vals vs its.toList
theorem SqF.sq {K : PySem.W.Frag} {ρ : Rh} {H : Hp} {a : Addr} {vs : List V} (h : SqF K ρ H a vs) : SqL K H a vs := h.elim (fun ⟨o, e, _⟩ => .inl (.inr ⟨o, e⟩)) .inr
mutual
inductive RV (g : GE) (ρ : Rh) (H : Hp) : MV → V → Prop
  | non : RV g ρ H .non .non
  | bl (b : Bool) : RV g ρ H (.bl b) (.bl b)
  | int (i : Int) : RV g ρ H (.int i) (.int i)
  | str (s : Str) : RV g ρ H (.str s) (.str s)
  | tup {xs : List MV} {a : Addr} {vs : List V} : SqT g.K H a vs → RVs g ρ H xs vs → RV g ρ H (.tup xs) (.ref a)
  | lst {xs : List MV} {a : Addr} {vs : List V} : H a = some (.lst vs) → a ∉ ρ.l → RVs g ρ H xs vs → RV g ρ H (.lst xs) (.ref a)
  | fz {xs : List MV} {a : Addr} {vs : List V} : H a = some (.lst vs) → ρ.out a → RVs g ρ H xs vs → RV g ρ H (.fz xs) (.ref a)
  | scr {ns : List Int} {a : Addr} : SqF g.K ρ H a (ns.map V.int) → RV g ρ H (.scr ns) (.ref a)
  | ref {n : Nat} {a : Addr} : ρ.l[n]? = some a → RV g ρ H (.ref n) (.ref a)
  | fn {f : Nat} {a : Addr} : g.fa f = some a → g.ask f = false → RV g ρ H (.fn f) (.ref a)
  | edc {a : Addr} : H a = some (.dK []) → a ∉ ρ.l → RV g ρ H .edc (.ref a)
  | any (v : V) : RV g ρ H .any v
  | obj {c : Nat} {xs : List MV} {a C dx : Addr} {vs : List (Option V)} {ws : List V} : g.oc c = some C → H a = some (SlX.SlO a C dx vs) → H dx = some (.xd []) → a ∉ ρ.l → dx ∉ ρ.l → RVs g ρ H xs ws → (∀ (k : Nat) (w : V), ws[k]? = some w → vs[k]? = some (some w)) → RV g ρ H (.obj c xs) (.ref a)
inductive RVs (g : GE) (ρ : Rh) (H : Hp) : List MV → List V → Prop
  | nil : RVs g ρ H [] []
  | cons {x : MV} {v : V} {xs : List MV} {vs : List V} : RV g ρ H x v → RVs g ρ H xs vs → RVs g ρ H (x :: xs) (v :: vs)
end

section
variable {g : GE} {ρ ρ' : Rh} {H H' : Hp}
theorem RVs.length : ∀ {xs : List MV} {vs : List V}, RVs g ρ H xs vs → xs.length = vs.length
  | _, _, .nil => rfl
  | _, _, .cons _ t => congrArg (· + 1) (RVs.length t)
theorem RVs.get : ∀ {xs : List MV} {vs : List V} {i : Nat} {x : MV}, RVs g ρ H xs vs → xs[i]? = some x → ∃ v, vs[i]? = some v ∧ RV g ρ H x v
  | _, _, _, _, .nil, e => by simp at e
  | _, _, 0, _, .cons r _, e => by simp at e; subst e; exact ⟨_, rfl, r⟩
  | _, _, i + 1, x, .cons _ t, e => by
    obtain ⟨v, h1, h2⟩ := RVs.get (i := i) (x := x) t (by simpa using e)
    exact ⟨v, by simpa using h1, h2⟩
theorem RVs.none_of {xs : List MV} {vs : List V} {i : Nat} (r : RVs g ρ H xs vs) (e : xs[i]? = none) : vs.length ≤ i := by
  have := r.length
  have h : xs.length ≤ i := List.getElem?_eq_none_iff.mp e
  omega
theorem RVs.append : ∀ {xs ys : List MV} {vs ws : List V}, RVs g ρ H xs vs → RVs g ρ H ys ws → RVs g ρ H (xs ++ ys) (vs ++ ws)
  | _, _, _, _, .nil, s => s
  | _, _, _, _, .cons r t, s => .cons r (RVs.append t s)
theorem RVs.take : ∀ {xs : List MV} {vs : List V} (n : Nat), RVs g ρ H xs vs → RVs g ρ H (xs.take n) (vs.take n)
  | _, _, 0, _ => .nil
  | _, _, _ + 1, .nil => .nil
  | _, _, n + 1, .cons r t => .cons r (RVs.take n t)
theorem RVs.drop : ∀ {xs : List MV} {vs : List V} (n : Nat), RVs g ρ H xs vs → RVs g ρ H (xs.drop n) (vs.drop n)
  | _, _, 0, r => r
  | _, _, _ + 1, .nil => .nil
  | _, _, n + 1, .cons _ t => RVs.drop n t
theorem RVs.set : ∀ {xs : List MV} {vs : List V} (i : Nat) {x : MV} {v : V}, RV g ρ H x v → RVs g ρ H xs vs → RVs g ρ H (xs.set i x) (vs.set i v)
  | _, _, _, _, _, _, .nil => .nil
  | _, _, 0, _, _, r, .cons _ t => .cons r t
  | _, _, i + 1, _, _, r, .cons q t => .cons q (RVs.set i r t)
theorem RVs.eraseIdx : ∀ {xs : List MV} {vs : List V} (i : Nat), RVs g ρ H xs vs → RVs g ρ H (xs.eraseIdx i) (vs.eraseIdx i)
  | _, _, _, .nil => .nil
  | _, _, 0, .cons _ t => t
  | _, _, i + 1, .cons q t => .cons q (RVs.eraseIdx i t)
theorem RVs.reverse : ∀ {xs : List MV} {vs : List V}, RVs g ρ H xs vs → RVs g ρ H xs.reverse vs.reverse
  | _, _, .nil => .nil
  | _, _, .cons r t => by
    rw [List.reverse_cons, List.reverse_cons]
    exact (RVs.reverse t).append (.cons r .nil)
theorem RVs.dropLast {xs : List MV} {vs : List V} (r : RVs g ρ H xs vs) : RVs g ρ H xs.dropLast vs.dropLast := by
  rw [List.dropLast_eq_take, List.dropLast_eq_take, r.length]
  exact r.take _
theorem RVs.rep {xs : List MV} {vs : List V} (r : RVs g ρ H xs vs) : ∀ n : Nat, RVs g ρ H (List.replicate n xs).flatten (List.replicate n vs).flatten
  | 0 => .nil
  | n + 1 => by
    rw [List.replicate_succ, List.replicate_succ, List.flatten_cons, List.flatten_cons]
    exact r.append (RVs.rep r n)
theorem RVs.ints : ∀ {ns : List Int}, RVs g ρ H (ns.map .int) (ns.map V.int)
  | [] => .nil
  | n :: ns => .cons (.int n) RVs.ints
theorem RVs.isEmpty {xs : List MV} {vs : List V} (r : RVs g ρ H xs vs) : xs.isEmpty = vs.isEmpty := by
  cases r <;> rfl
theorem RVs.intsOf : ∀ {xs : List MV} {vs : List V} {ns : List Int}, RVs g ρ H xs vs → Mi.intsOf xs = some ns → vs = ns.map V.int
  | _, _, ns, .nil, e => by
    have e : some [] = some ns := e
    cases e; rfl
  | _, _, ns, .cons r t, e => by
    cases r with
    | int i =>
      simp only [Mi.intsOf] at e
      obtain ⟨ms, h1, h2⟩ := Option.map_eq_some_iff.mp e
      subst h2
      rw [List.map_cons, RVs.intsOf t h1]
    | _ => cases e
theorem RVs.blsOf : ∀ {xs : List MV} {vs : List V} {ns : List Bool}, RVs g ρ H xs vs → Mi.blsOf xs = some ns → vs = ns.map V.bl
  | _, _, ns, .nil, e => by
    have e : some [] = some ns := e
    cases e; rfl
  | _, _, ns, .cons r t, e => by
    cases r with
    | bl i =>
      simp only [Mi.blsOf] at e
      obtain ⟨ms, h1, h2⟩ := Option.map_eq_some_iff.mp e
      subst h2
      rw [List.map_cons, RVs.blsOf t h1]
    | _ => cases e
end

/-- an object of the small heap stands at a -/
def ORel (g : GE) (ρ : Rh) (H : Hp) (o : MO) (a : Addr) : Prop := match o with
  | .lst xs => ∃ vs, H a = some (.lst vs) ∧ RVs g ρ H xs vs
  | .scr ns => ∃ o, H a = some (.frz o (.lst (ns.map V.int)))
  | .dct _ => False

structure Rel (g : GE) (ρ : Rh) (σm : Loc) (hm : Hm) (σ : L2.St) (H : Hp) : Prop where
  len : ρ.l.length = hm.length
  nd : ρ.l.Nodup
  obj : ∀ (i : Nat) (o : MO) (a : Addr), hm[i]? = some o → ρ.l[i]? = some a → ORel g ρ H o a
  pur : ∀ (i : Nat) (xs : List MV), hm[i]? = some (.lst xs) → pureL xs = true
  slen : σm.length = σ.length
  loc : ∀ (i : Nat) (v : MV), σm[i]? = some (some v) → ∃ x, σ[i]? = some (some x) ∧ RV g ρ H v x
  nol : ∀ (i : Nat) (v : MV), σm[i]? = some (some v) → v.nol = true
  blk : ∀ a, ρ.b a → ∃ xs, H a = some (.lst xs)
  tab : LamX.Tabs g.tabs H

/-- nothing stands there but a table of code objects -/
def Fr (H : Hp) (a : Addr) : Prop := ∀ o, H a = some o → ∃ ps, o = .tbl ps
theorem Fr.of {H : Hp} {a : Addr} (h : H a = none) : Fr H a := fun o e => by rw [h] at e; cases e
theorem Fr.no {H : Hp} {a : Addr} {o : HO} (f : Fr H a) (h : H a = some o) (nt : ∀ ps, o ≠ .tbl ps) : False := by
  obtain ⟨ps, e⟩ := f o h
  exact nt ps e
/-- what a step may do: the small heap grows, what stands outside of it is kept -/
structure Post (ρ : Rh) (H : Hp) (ρ' : Rh) (H' : Hp) : Prop where
  ext : ∀ (n : Nat) (a : Addr), ρ.l[n]? = some a → ρ'.l[n]? = some a
  new : ∀ a, a ∈ ρ'.l → a ∈ ρ.l ∨ Fr H a
  newb : ∀ a, ρ'.b a → ρ.b a ∨ Fr H a
  keep : ∀ a o, H a = some o → a ∉ ρ.l → (∀ ps, o ≠ .tbl ps) → H' a = some o
  more : ∀ a, Fr H' a → Fr H a
  blk : ∀ a, ρ.b a → ρ'.b a

theorem Post.refl {ρ : Rh} {H : Hp} : Post ρ H ρ H := ⟨fun _ _ h => h, fun _ h => .inl h, fun _ h => .inl h, fun _ _ h _ _ => h, fun _ h => h, fun _ h => h⟩
theorem Post.trans {ρ ρ1 ρ2 : Rh} {H H1 H2 : Hp} (a : Post ρ H ρ1 H1) (b : Post ρ1 H1 ρ2 H2) : Post ρ H ρ2 H2 where
  ext := fun n x h => b.ext n x (a.ext n x h)
  new := fun x h => by
    rcases b.new x h with q | q
    · exact a.new x q
    · exact .inr (a.more x q)
  newb := fun x h => by
    rcases b.newb x h with q | q
    · exact a.newb x q
    · exact .inr (a.more x q)
  keep := fun x o h n nt => by
    refine b.keep x o (a.keep x o h n nt) (fun m => ?_) nt
    rcases a.new x m with q | q
    · exact n q
    · exact q.no h nt
  more := fun x h => a.more x (b.more x h)
  blk := fun x h => b.blk x (a.blk x h)
/-- an address outside, with something there, stays outside -/
theorem Post.outl {ρ ρ' : Rh} {H H' : Hp} (p : Post ρ H ρ' H') {a : Addr} {o : HO} (h : H a = some o) (n : a ∉ ρ.l) (nt : ∀ ps, o ≠ .tbl ps := by nofun) : a ∉ ρ'.l := fun m => by
  rcases p.new a m with q | q
  · exact n q
  · exact q.no h nt
theorem Post.out {ρ ρ' : Rh} {H H' : Hp} (p : Post ρ H ρ' H') {a : Addr} {o : HO} (h : H a = some o) (n : ρ.out a) (nt : ∀ ps, o ≠ .tbl ps := by nofun) : ρ'.out a := ⟨p.outl h n.1 nt, fun m => by
  rcases p.newb a m with q | q
  · exact n.2 q
  · exact q.no h nt⟩

/-- a list is written: the tables stay -/
theorem tabs_lst {T : List (Addr × Str)} {H : Hp} {a : Addr} {xs : List V} {o : HO} (h : H a = some (.lst xs)) (t : LamX.Tabs T H) : LamX.Tabs T (upd H a o) := fun p hp => by
  obtain ⟨ps, h1, h2, h3⟩ := t p hp
  refine ⟨ps, by rw [upd_ne (fun e => by subst e; rw [h] at h1; cases h1)]; exact h1, h2, fun pos cv hc => ?_⟩
  obtain ⟨c, e1, e2⟩ := h3 pos cv hc
  exact ⟨c, e1, by rw [upd_ne (fun e => by subst e; rw [h] at e2; unfold LamX.CodeO at e2; cases e2)]; exact e2⟩
/-- no tuple stands in the small heap -/
def NoT (ρ : Rh) (H : Hp) : Prop := ∀ a, a ∈ ρ.l → ∀ xs, ¬ Rd H a (.tup xs)
section
variable {g : GE} {ρ ρ' : Rh} {H H' : Hp} {σm : Loc} {hm : Hm} {σ : L2.St}
theorem Rel.objAt (R : Rel g ρ σm hm σ H) {a : Addr} (h : a ∈ ρ.l) : ∃ (i : Nat) (o : MO), ρ.l[i]? = some a ∧ hm[i]? = some o ∧ ORel g ρ H o a := by
  obtain ⟨i, hi, e⟩ := List.mem_iff_getElem.mp h
  have e1 : ρ.l[i]? = some a := by rw [List.getElem?_eq_getElem hi, e]
  have hi2 : i < hm.length := by have := R.len; omega
  exact ⟨i, hm[i], e1, List.getElem?_eq_getElem hi2, R.obj i _ a (List.getElem?_eq_getElem hi2) e1⟩
theorem Rel.noT (R : Rel g ρ σm hm σ H) : NoT ρ H := fun a h xs r => by
  obtain ⟨i, o, _, _, q⟩ := R.objAt h
  cases o with
  | lst ys =>
    obtain ⟨vs, e, _⟩ := q
    rcases r with r | ⟨_, r⟩ <;> rw [e] at r <;> cases r
  | scr ns =>
    obtain ⟨ob, e⟩ := q
    rcases r with r | ⟨_, r⟩ <;> rw [e] at r <;> cases r
  | dct _ => exact q.elim
theorem Rel.there (R : Rel g ρ σm hm σ H) {a : Addr} (h : a ∈ ρ.l) : ∃ o, H a = some o := by
  obtain ⟨i, o, _, _, q⟩ := R.objAt h
  cases o with
  | lst ys => obtain ⟨vs, e, _⟩ := q; exact ⟨_, e⟩
  | scr ns => obtain ⟨ob, e⟩ := q; exact ⟨_, e⟩
  | dct _ => exact q.elim
theorem SqT.post {a : Addr} {vs : List V} (h : SqT g.K H a vs) (p : Post ρ H ρ' H') (n : NoT ρ H) : SqT g.K H' a vs := by
  rcases h with h | h
  · have m : a ∉ ρ.l := fun m => n a m vs h
    rcases h with h | ⟨o, h⟩
    · exact .inl (.inl (p.keep _ _ h m nofun))
    · exact .inl (.inr ⟨o, p.keep _ _ h m nofun⟩)
  · exact .inr h
theorem SqF.post {a : Addr} {vs : List V} (h : SqF g.K ρ H a vs) (p : Post ρ H ρ' H') : SqF g.K ρ' H' a vs :=
  h.elim (fun ⟨o, e, m⟩ => .inl ⟨o, p.keep _ _ e m nofun, p.outl e m⟩) .inr
theorem slO_ntb {a C dx : Addr} {vs : List (Option V)} : ∀ ps, SlX.SlO a C dx vs ≠ .tbl ps := fun ps z => by
  unfold SlX.SlO at z
  cases z
mutual
theorem RV.post (p : Post ρ H ρ' H') (n : NoT ρ H) : ∀ {v : MV} {x : V}, RV g ρ H v x → RV g ρ' H' v x
  | _, _, .non => .non
  | _, _, .bl b => .bl b
  | _, _, .int i => .int i
  | _, _, .str s => .str s
  | _, _, .tup h r => .tup (SqT.post h p n) (RVs.post p n r)
  | _, _, .lst h m r => .lst (p.keep _ _ h m nofun) (p.outl h m) (RVs.post p n r)
  | _, _, .fz h m r => .fz (p.keep _ _ h m.1 nofun) (p.out h m) (RVs.post p n r)
  | _, _, .scr h => .scr (SqF.post h p)
  | _, _, .ref e => .ref (p.ext _ _ e)
  | _, _, .fn e q => .fn e q
  | _, _, .edc h m => .edc (p.keep _ _ h m nofun) (p.outl h m)
  | _, _, .any v => .any v
  | _, _, .obj e h1 h2 m1 m2 r q => .obj e (p.keep _ _ h1 m1 slO_ntb) (p.keep _ _ h2 m2 nofun) (p.outl h1 m1 slO_ntb) (p.outl h2 m2) (RVs.post p n r) q
theorem RVs.post (p : Post ρ H ρ' H') (n : NoT ρ H) : ∀ {v : List MV} {x : List V}, RVs g ρ H v x → RVs g ρ' H' v x
  | _, _, .nil => .nil
  | _, _, .cons r t => .cons (RV.post p n r) (RVs.post p n t)
end
/-- fewer addresses are kept apart -/
def Rh.less (ρ : Rh) (b : Addr → Prop) : Rh := ⟨ρ.l, b⟩
mutual
theorem RV.less {b : Addr → Prop} (s : ∀ a, b a → ρ.b a) : ∀ {v : MV} {x : V}, RV g ρ H v x → RV g (ρ.less b) H v x
  | _, _, .non => .non
  | _, _, .bl b => .bl b
  | _, _, .int i => .int i
  | _, _, .str s => .str s
  | _, _, .tup h r => .tup h (RVs.less s r)
  | _, _, .lst h m r => .lst h m (RVs.less s r)
  | _, _, .fz h m r => .fz h ⟨m.1, fun q => m.2 (s _ q)⟩ (RVs.less s r)
  | _, _, .scr h => .scr h
  | _, _, .ref e => .ref e
  | _, _, .fn e q => .fn e q
  | _, _, .edc h m => .edc h m
  | _, _, .any v => .any v
  | _, _, .obj e h1 h2 m1 m2 r q => .obj e h1 h2 m1 m2 (RVs.less s r) q
theorem RVs.less {b : Addr → Prop} (s : ∀ a, b a → ρ.b a) : ∀ {v : List MV} {x : List V}, RVs g ρ H v x → RVs g (ρ.less b) H v x
  | _, _, .nil => .nil
  | _, _, .cons r t => .cons (RV.less s r) (RVs.less s t)
end
theorem Rel.less (R : Rel g ρ σm hm σ H) {b : Addr → Prop} (s : ∀ a, b a → ρ.b a) : Rel g (ρ.less b) σm hm σ H := by
  refine ⟨R.len, R.nd, fun i o a h1 h2 => ?_, R.pur, R.slen, fun i v h => ?_, R.nol, fun a h => R.blk a (s a h), R.tab⟩
  · have q := R.obj i o a h1 h2
    cases o with
    | lst ys => obtain ⟨vs, e, t⟩ := q; exact ⟨vs, e, t.less s⟩
    | scr ns => exact q
    | dct _ => exact q
  · obtain ⟨x, e, r⟩ := R.loc i v h
    exact ⟨x, e, r.less s⟩
theorem RV.frz {x : MV} {v : V} (r : RV g ρ H x v) (t : ∀ a, (∃ xs, x = .lst xs) → v = .ref a → ¬ ρ.b a) : RV g ρ H (Mi.frz x) v := by
  cases r with
  | lst h m q => exact .fz h ⟨m, t _ ⟨_, rfl⟩ rfl⟩ q
  | non => exact .non
  | bl b => exact .bl b
  | int i => exact .int i
  | str s => exact .str s
  | tup h q => exact .tup h q
  | fz h m q => exact .fz h m q
  | scr h => exact .scr h
  | ref h => exact .ref h
  | fn h q => exact .fn h q
  | edc h m => exact .edc h m
  | any v => exact .any v
  | obj e h1 h2 m1 m2 r q => exact .obj e h1 h2 m1 m2 r q

/-- what stands at a list's address -/
theorem Rel.items (R : Rel g ρ σm hm σ H) {v : MV} {x : V} {xs : List MV} (r : RV g ρ H v x) (e : Mi.items hm v = some xs) : ∃ a vs, x = .ref a ∧ SqL g.K H a vs ∧ RVs g ρ H xs vs := by
  cases r with
  | lst h m t => cases e; exact ⟨_, _, rfl, .of h, t⟩
  | fz h m t => cases e; exact ⟨_, _, rfl, .of h, t⟩
  | scr h => cases e; exact ⟨_, _, rfl, h.sq, RVs.ints⟩
  | @ref n a h =>
    simp only [Mi.items] at e
    split at e
    · rename_i ys q
      cases e
      obtain ⟨vs, e1, t⟩ := R.obj n _ a q h
      exact ⟨_, _, rfl, .of e1, t⟩
    · rename_i ns q
      cases e
      obtain ⟨o, e1⟩ := R.obj n _ a q h
      exact ⟨_, _, rfl, .inl (.inr ⟨o, e1⟩), RVs.ints⟩
    · cases e
  | _ => cases e
theorem Rel.itemsL (R : Rel g ρ σm hm σ H) {v : MV} {x : V} {xs : List MV} (r : RV g ρ H v x) (e : Mi.itemsL hm v = some xs) : ∃ a vs, x = .ref a ∧ H a = some (.lst vs) ∧ RVs g ρ H xs vs := by
  cases r with
  | lst h m t => cases e; exact ⟨_, _, rfl, h, t⟩
  | fz h m t => cases e; exact ⟨_, _, rfl, h, t⟩
  | @ref n a h =>
    simp only [Mi.itemsL] at e
    split at e
    · rename_i ys q
      cases e
      obtain ⟨vs, e1, t⟩ := R.obj n _ a q h
      exact ⟨_, _, rfl, e1, t⟩
    · cases e
  | _ => cases e
theorem Rel.seq (R : Rel g ρ σm hm σ H) {v : MV} {x : V} {xs : List MV} (r : RV g ρ H v x) (e : Mi.seq hm v = some xs) : ∃ a vs, x = .ref a ∧ (SqL g.K H a vs ∨ SqT g.K H a vs) ∧ RVs g ρ H xs vs := by
  cases r with
  | tup h t => cases e; exact ⟨_, _, rfl, .inr h, t⟩
  | non => cases e
  | bl _ => cases e
  | int _ => cases e
  | str _ => cases e
  | fn _ _ => cases e
  | edc _ _ => cases e
  | any _ => cases e
  | obj _ _ _ _ _ _ _ => cases e
  | lst h m t =>
    obtain ⟨a, vs, e1, h1, t1⟩ := R.items (.lst h m t) e
    exact ⟨a, vs, e1, .inl h1, t1⟩
  | scr h =>
    obtain ⟨a, vs, e1, h1, t1⟩ := R.items (.scr h) e
    exact ⟨a, vs, e1, .inl h1, t1⟩
  | fz h m t =>
    obtain ⟨a, vs, e1, h1, t1⟩ := R.items (.fz h m t) e
    exact ⟨a, vs, e1, .inl h1, t1⟩
  | ref h =>
    obtain ⟨a, vs, e1, h1, t1⟩ := R.items (.ref h) e
    exact ⟨a, vs, e1, .inl h1, t1⟩
/-- one more address is kept apart -/
def Rh.plus (ρ : Rh) (p : Addr) : Rh := ⟨ρ.l, fun a => ρ.b a ∨ a = p⟩
/-- a new object outside of the small heap -/
theorem Rel.laid {o : HO} {p : Addr} (R : Rel g ρ σm hm σ H) (n : H p = none) : Post ρ H ρ (upd H p o) ∧ Rel g ρ σm hm σ (upd H p o) ∧ ρ.out p := by
  have np : p ∉ ρ.l := fun m => by
    obtain ⟨o, e⟩ := R.there m
    rw [n] at e; cases e
  have nb : ¬ ρ.b p := fun m => by
    obtain ⟨o, e⟩ := R.blk p m
    rw [n] at e; cases e
  have P : Post ρ H ρ (upd H p o) := ⟨fun _ _ h => h, fun _ h => .inl h, fun _ h => .inl h, fun a u h _ _ => by rw [upd_ne (ne_of_none h n)]; exact h, fun a h => by
    by_cases e : a = p
    · subst e; exact .of n
    · exact fun o' q => h o' (by rw [upd_ne e]; exact q), fun _ h => h⟩
  refine ⟨P, ⟨R.len, R.nd, fun i u a h1 h2 => ?_, R.pur, R.slen, fun i v h => ?_, R.nol, fun a h => ?_, R.tab.ext fun b u h => by rw [upd_ne (ne_of_none h n)]; exact h⟩, np, nb⟩
  · have q := R.obj i u a h1 h2
    cases u with
    | lst ys =>
      obtain ⟨vs, e, t⟩ := q
      exact ⟨vs, by rw [upd_ne (ne_of_none e n)]; exact e, t.post P R.noT⟩
    | scr ns =>
      obtain ⟨ob, e⟩ := q
      exact ⟨ob, by rw [upd_ne (ne_of_none e n)]; exact e⟩
    | dct _ => exact q
  · obtain ⟨x, e, r⟩ := R.loc i v h
    exact ⟨x, e, r.post P R.noT⟩
  · obtain ⟨xs, e⟩ := R.blk a h
    exact ⟨xs, by rw [upd_ne (ne_of_none e n)]; exact e⟩
/-- a new list, kept apart -/
theorem Rel.laidL {vs : List V} {p : Addr} (R : Rel g ρ σm hm σ H) (n : H p = none) : Post ρ H (ρ.plus p) (upd H p (.lst vs)) ∧ Rel g (ρ.plus p) σm hm σ (upd H p (.lst vs)) ∧ p ∉ ρ.l := by
  obtain ⟨P, R1, np⟩ := R.laid (o := .lst vs) n
  have P2 : Post ρ H (ρ.plus p) (upd H p (.lst vs)) := ⟨P.ext, P.new, fun a h => by
    rcases h with h | h
    · exact .inl h
    · subst h; exact .inr (.of n), P.keep, P.more, fun a h => .inl h⟩
  refine ⟨P2, ⟨R.len, R.nd, fun i u a h1 h2 => ?_, R.pur, R.slen, fun i v h => ?_, R.nol, fun a h => ?_, R1.tab⟩, np.1⟩
  · have q := R.obj i u a h1 h2
    cases u with
    | lst ys =>
      obtain ⟨vs, e, t⟩ := q
      exact ⟨vs, by rw [upd_ne (ne_of_none e n)]; exact e, t.post P2 R.noT⟩
    | scr ns =>
      obtain ⟨ob, e⟩ := q
      exact ⟨ob, by rw [upd_ne (ne_of_none e n)]; exact e⟩
    | dct _ => exact q
  · obtain ⟨x, e, r⟩ := R.loc i v h
    exact ⟨x, e, r.post P2 R.noT⟩
  · rcases h with h | h
    · exact R1.blk a h
    · subst h; exact ⟨vs, upd_same⟩
end

/-! ### what a reading wants -/
/-- an exception of the small language as the layer has it -/
def EXR (g : GE) (ρ : Rh) (H : Hp) (e : MEx) (c : Value) (d : Option Addr) : Prop :=
  ∃ C f, g.ca e.cls = some (C, f) ∧ c = .ref C ∧ match e.arg with
    | none => d = none
    | some v => ∃ p x, d = some p ∧ H p = some (.xd [(f, x)]) ∧ p ∉ ρ.l ∧ RV g ρ H v x
/-- what a result is: how it stands for the layer's, and the addresses of fresh lists in it -/
structure Kd (α β : Type) where
  R : Rh → Hp → α → β → Prop
  T : α → β → Addr → Prop
def Fin {α β : Type} (g : GE) (W : WX) (K : Kd α β) (σm : Loc) (σ : L2.St) (ρ : Rh) (H : Hp) (r : Res α) (Q : β → Hp → Prop) : Prop := match r with
  | .ok v h => ∀ ρ' H' x, Post ρ H ρ' H' → Rel g ρ' σm h σ H' → K.R ρ' H' v x → (∀ a, K.T v x a → Fr H a ∧ ρ'.b a) → Q x H'
  | .ex e h => ∀ ρ' H' c d, Post ρ H ρ' H' → Rel g ρ' σm h σ H' → EXR g ρ' H' e c d → W c d σ H'
/-- the reading of what the small language computes -/
def L {α β : Type} (g : GE) (W : WX) (K : Kd α β) (f : Loc → Hm → RO α) : L2.St → Hp → (β → Hp → Prop) → Prop := fun σ H Q =>
  ∃ ρ σm hm r, Rel g ρ σm hm σ H ∧ f σm hm = some r ∧ Fin g W K σm σ ρ H r Q

section
variable {α β γ δ : Type} {g : GE} {W : WX} {K : Kd α β} {K' : Kd γ δ} {σm : Loc} {hm : Hm} {σ : L2.St} {ρ ρ1 : Rh} {H H1 : Hp} {r : Res α} {Q : β → Hp → Prop}
theorem Fin.post (p : Post ρ H ρ1 H1) (h : Fin g W K σm σ ρ H r Q) : Fin g W K σm σ ρ1 H1 r Q := by
  cases r with
  | ok v h' => exact fun ρ' H' x q R r fr => h ρ' H' x (p.trans q) R r fun a ha => ⟨p.more a (fr a ha).1, (fr a ha).2⟩
  | ex e h' => exact fun ρ' H' c d q => h ρ' H' c d (p.trans q)
theorem L.bnd {fa : Loc → Hm → RO γ} {k : γ → Hm → RO α} {Q' : δ → Hp → Prop} (hR : Rel g ρ σm hm σ H) (he : Mi.bnd (fa σm hm) k = some r) (hF : Fin g W K σm σ ρ H r Q)
    (h : ∀ ρ1 H1 v hm1 x, Post ρ H ρ1 H1 → Rel g ρ1 σm hm1 σ H1 → K'.R ρ1 H1 v x → (∀ a, K'.T v x a → Fr H a ∧ ρ1.b a) → k v hm1 = some r → Fin g W K σm σ ρ1 H1 r Q → Q' x H1) : L g W K' fa σ H Q' := by
  cases e : fa σm hm with
  | none => rw [e] at he; cases he
  | some q =>
    refine ⟨ρ, σm, hm, q, hR, e, ?_⟩
    rw [e] at he
    cases q with
    | ok v hm1 => exact fun ρ1 H1 x p R1 rv fr => h ρ1 H1 v hm1 x p R1 rv fr he (hF.post p)
    | ex ex hm1 =>
      have he : some (Res.ex ex hm1) = some r := he
      cases he
      exact hF
/-- .. at the end -/
theorem L.of {fa : Loc → Hm → RO α} (hR : Rel g ρ σm hm σ H) (he : fa σm hm = some r) (hF : Fin g W K σm σ ρ H r Q) : L g W K fa σ H Q := ⟨ρ, σm, hm, r, hR, he, hF⟩
theorem Fin.ok {v : α} {h' : Hm} {x : β} (hF : Fin g W K σm σ ρ H (.ok v h') Q) (R0 : Rel g ρ σm h' σ H) (r : K.R ρ H v x) (fr : ∀ a, K.T v x a → Fr H a ∧ ρ.b a) : Q x H := hF ρ H x .refl R0 r fr
end
/-- a value that is no fresh list -/
def NL (v : MV) : Prop := ∀ xs, v ≠ .lst xs
theorem NL.frz (v : MV) : NL (Mi.frz v) := fun xs e => by cases v <;> cases e
/-- values -/
def TV (v : MV) (x : V) (a : Addr) : Prop := (∃ xs, v = .lst xs) ∧ x = .ref a
def kE (g : GE) : Kd MV V := ⟨fun ρ H v x => RV g ρ H v x, TV⟩
def TVs (vs : List MV) (xs : List V) (a : Addr) : Prop := ∃ (i : Nat) (v : MV) (x : V), vs[i]? = some v ∧ xs[i]? = some x ∧ TV v x a
/-- no two fresh lists are one -/
def Apart : List MV → List V → Prop
  | v :: vs, x :: xs => (∀ a, TV v x a → ¬ TVs vs xs a) ∧ Apart vs xs
  | _, _ => True
def kA (g : GE) : Kd (List MV) (List V) := ⟨fun ρ H v x => RVs g ρ H v x ∧ Apart v x, TVs⟩
def kB {α : Type} : Kd α α := ⟨fun _ _ v x => v = x, fun _ _ _ => False⟩
theorem Fin.okE {g : GE} {W : WX} {σm : Loc} {σ : L2.St} {ρ : Rh} {H : Hp} {h' : Hm} {v : MV} {x : V} {Q : VK} (hF : Fin g W (kE g) σm σ ρ H (.ok v h') Q) (R0 : Rel g ρ σm h' σ H) (r : RV g ρ H v x) (nl : NL v := by intro _ h; cases h) : Q x H :=
  hF ρ H x .refl R0 r fun a ⟨⟨xs, e⟩, _⟩ => absurd e (nl xs)
theorem Fin.okB {α : Type} {g : GE} {W : WX} {σm : Loc} {σ : L2.St} {ρ : Rh} {H : Hp} {h' : Hm} {v : α} {Q : α → Hp → Prop} (hF : Fin g W (kB (α := α)) σm σ ρ H (.ok v h') Q) (R0 : Rel g ρ σm h' σ H) : Q v H :=
  hF ρ H v .refl R0 rfl fun _ h => h.elim
theorem unl_of {v w : MV} (h : unl v = some w) : v = w ∧ NL w := by
  cases v <;> first | (cases h; exact ⟨rfl, fun _ e => by cases e⟩) | cases h
theorem nl_of {v : MV} (h : nl v = true) : NL v := fun xs e => by subst e; cases h
theorem nol_NL {v : MV} (h : v.nol = true) : NL v := fun xs e => by subst e; cases h
theorem pure_NL {v : MV} (h : v.pure = true) : NL v := fun xs e => by subst e; cases h
theorem frz_NL {v : MV} (h : NL v) : Mi.frz v = v := by
  cases v <;> first | rfl | exact absurd rfl (h _)
/-- fresh lists that go into other things are let go -/
theorem RVs.frz {g : GE} {ρ : Rh} {H : Hp} : ∀ {vs : List MV} {xs : List V}, RVs g ρ H vs xs → (∀ a, TVs vs xs a → ¬ ρ.b a) → RVs g ρ H (vs.map Mi.frz) xs
  | _, _, .nil, _ => .nil
  | _, _, .cons r t, n => .cons (r.frz fun a h e => n a ⟨0, _, _, rfl, rfl, h, e⟩) (RVs.frz t fun a ⟨i, v, x, h1, h2, h3⟩ => n a ⟨i + 1, v, x, by simpa using h1, by simpa using h2, h3⟩)
theorem Rel.unb {g : GE} {ρ ρ1 : Rh} {H H1 : Hp} {σm : Loc} {hm hm1 : Hm} {σ : L2.St} (R : Rel g ρ σm hm σ H) (p : Post ρ H ρ1 H1) (R1 : Rel g ρ1 σm hm1 σ H1) {T : Addr → Prop} (fr : ∀ a, T a → Fr H a ∧ ρ1.b a) :
    ∃ b, (∀ a, b a → ρ1.b a) ∧ (∀ a, T a → ¬ b a) ∧ Post ρ H (ρ1.less b) H1 ∧ Rel g (ρ1.less b) σm hm1 σ H1 :=
  ⟨fun a => ρ1.b a ∧ ¬ T a, fun a h => h.1, fun a h q => q.2 h, ⟨p.ext, p.new, fun a h => p.newb a h.1, p.keep, p.more, fun a h => ⟨p.blk a h, fun q => by
    obtain ⟨xs, e⟩ := R.blk a h
    exact (fr a q).1.no e nofun⟩⟩, R1.less fun a h => h.1⟩
theorem TV.one {v : MV} {x : V} {a : Addr} (h : TV v x a) : TVs [v] [x] a := ⟨0, v, x, rfl, rfl, h⟩
theorem live_of {g : GE} {ρ : Rh} {σm : Loc} {hm : Hm} {σ : L2.St} {H : Hp} (R : Rel g ρ σm hm σ H) : ∀ a, ρ.b a → ¬ Fr H a := fun a h q => by
  obtain ⟨xs, e⟩ := R.blk a h
  exact q.no e nofun
abbrev LE (g : GE) (W : WX) (f : Loc → Hm → RO MV) : TE := L g W (kE g) f
abbrev LA (g : GE) (W : WX) (f : Loc → Hm → RO (List MV)) : TA := L g W (kA g) f
abbrev LT (g : GE) (W : WX) (f : Loc → Hm → RO Bool) : TT := L g W (kB (α := Bool)) f
end Mi

/-! Mi2: from the text to the small language. -/
namespace Mi
open PySem PySem.Spec PyProof.Rows L2

/-- an exception's class: its name, the field that keeps the argument, the classes (by number) that it is of -/
structure CE where
  x : Str
  f : Option Str
  sup : List Nat
  deriving Inhabited
/-- a class of instances that never change: its name, its slots with their places, its properties with the places of the slots that they hand back -/
structure OE where
  x : Str
  slots : List (Str × Nat)
  props : List (Str × Nat)
  deriving Inhabited
/-- what the names of the module stand for -/
structure CG where
  fns : List Str
  cst : List (Str × MV)
  cls : List CE := []
  /-- the defs that tell what a call raises: their clauses, their last text -/
  mets : List (Str × List Hd × Str) := []
  /-- here it is known that no repr is under way -/
  gd : Bool := false
  /-- which defs ask for that -/
  gfn : List Bool := []
  objs : List OE := []
  deriving Inhabited
/-- within a comprehension -/
def CG.noMet (G : CG) : CG := { G with mets := [] }
/-- within a lambda -/
def CG.inner (G : CG) : CG := { G with mets := [], gd := false }
/-- within a def that has lambdas (lam), that is called where no repr is under way (ask) -/
def CG.at (G : CG) (lam ask : Bool) : CG := { G with mets := if lam then G.mets else [], gd := ask }
def CG.asks (G : CG) (i : Nat) : Bool := G.gfn.getD i false

def slot (N : List Str) (x : Str) : Option Nat := N.findIdx? (· == x)
def isVis (sc : Scope) (x : Str) : Bool := match sc.names.lookup x with
  | some .local => true
  | some .cell => true
  | some .free => true
  | _ => false
def isGl (sc : Scope) (x : Str) : Bool := match sc.names.lookup x with
  | some .globalImplicit => true
  | _ => false
def isLoc (sc : Scope) (x : Str) : Bool := match sc.names.lookup x with
  | some .local => true
  | _ => false
def isCell (sc : Scope) (x : Str) : Bool := match sc.names.lookup x with
  | some .cell => true
  | _ => false
def okName (x : Str) : Bool := !(x == ("__debug__" : Str)) && !(x == ("__classdict__" : Str)) && !(x == ("__name__" : Str))
/-- a built-in's name: no def and no constant of the module -/
def isBlt (G : CG) (sc : Scope) (x : Str) : Bool := isGl sc x && !(G.fns.contains x) && (G.cst.lookup x).isNone && okName x
def fnNum (G : CG) (x : Str) : Option Nat := G.fns.findIdx? (· == x)
def clsNum (G : CG) (x : Str) : Option Nat := G.cls.findIdx? (·.x == x)
def objNum (G : CG) (x : Str) : Option Nat := G.objs.findIdx? (·.x == x)
/-- which class has such a slot or property: the class, the slot's place, whether it is a property -/
def fldIn : List OE → Nat → Str → Option (Nat × Nat × Bool)
  | [], _, _ => none
  | o :: r, c, f => match o.slots.lookup f with
    | some i => some (c, i, false)
    | none => match o.props.lookup f with
      | some i => some (c, i, true)
      | none => fldIn r (c + 1) f
def notSup : Expr → Bool
  | .Call (.Name _ _) [] [] _ => false
  | _ => true
def noDef : Arguments → Bool
  | ⟨_, _, _, _, [], _, []⟩ => true
  | _ => false
/-- what a lambda takes of its maker is the maker's cell -/
def freeB (sc scope : Scope) : Bool := scope.names.all fun y => !(y.2 == .free) || sc.names.lookup y.1 == some .cell || sc.names.lookup y.1 == some .free
/-- a lambda without parameters, whose names are the maker's or globals -/
def noPar : Arguments → Bool
  | ⟨[], [], none, [], [], none, []⟩ => true
  | _ => false

def boOf : Operator → Option BO
  | .Add => some .add
  | .Sub => some .sub
  | .Mult => some .mul
  | .FloorDiv => some .fdv
  | .Mod => some .mod
  | .Pow => some .pow
  | _ => none
def coOf : CmpOp → Option CO
  | .Eq => some .eq
  | .NotEq => some .ne
  | .Lt => some .lt
  | .LtE => some .le
  | .Gt => some .gt
  | .GtE => some .ge
  | .In => some .isin
  | .NotIn => some .notin
  | .Is => some .isN
  | .IsNot => some .notN
def biOf (x : Str) (n : Nat) : Option BI :=
  if x = ("abs" : Str) ∧ n = 1 then some .abs
  else if x = ("max" : Str) ∧ n = 2 then some .max2
  else if x = ("min" : Str) ∧ n = 2 then some .min2
  else if x = ("int" : Str) ∧ n = 1 then some .int
  else if x = ("len" : Str) ∧ n = 1 then some .len
  else if x = ("sum" : Str) ∧ n = 1 then some .sum
  else if x = ("all" : Str) ∧ n = 1 then some .all
  else if x = ("any" : Str) ∧ n = 1 then some .any
  else if x = ("tuple" : Str) ∧ n = 1 then some .tuple
  else if x = ("list" : Str) ∧ n = 1 then some .list
  else if x = ("sorted" : Str) ∧ n = 1 then some .sorted
  else none
def biOfG (G : CG) (x : Str) (n : Nat) : Option BI := if x = ("repr" : Str) ∧ n = 1 then (if G.gd then some .repr else none) else if x = ("max" : Str) ∧ n = 1 then some .max1 else if x = ("min" : Str) ∧ n = 1 then some .min1 else biOf x n
def tyOfN (x : Str) : Option TyN :=
  if x = ("int" : Str) then some .int
  else if x = ("bool" : Str) then some .bool
  else if x = ("str" : Str) then some .str
  else if x = ("tuple" : Str) then some .tuple
  else if x = ("list" : Str) then some .list
  else none

/-- a comprehension's own names with their slots -/
def ownOf (N : List Str) (scope : Scope) : List (Str × Nat) := scope.names.filterMap fun (n, k) => if k == .local || k == .cell then (slot N n).map fun i => (n, i) else none
def tgIn (own : List Nat) : Nat → MT → Bool
  | 0, _ => false
  | n + 1, .var i => own.contains i
  | n + 1, .tup ts => ts.all (tgIn own n)
  | _ + 1, .sub _ _ => false
def topB (top : Option Scope) (x : Str) : Bool := match top with
  | none => true
  | some s => s.names.lookup x == some .cell
def isTupleE : Expr → Bool
  | .Tuple _ _ _ => true
  | _ => false
def isNameE : Expr → Bool
  | .Name _ _ => true
  | _ => false
def noStar : Expr → Bool
  | .Starred _ _ => false
  | _ => true

mutual
def compE (G : CG) (N : List Str) : Nat → Scope → Expr → Option ME
  | 0, _, _ => none
  | n + 1, sc, e => match e with
    | .Name x _ =>
      if isVis sc x && okName x then (slot N x).map .var
      else if isGl sc x && okName x then match G.cst.lookup x with
        | some v => some (.cst v)
        | none => match fnNum G x with
          | some i => if G.asks i then none else some (.cst (.fn i))
          | none => none
      else none
    | .Dict [] [] _ => some .edc
    | .Constant (.int i) _ _ => some (.cst (.int i))
    | .Constant (.bool b) _ _ => some (.cst (.bl b))
    | .Constant .none _ _ => some (.cst .non)
    | .Constant (.str s) _ _ => some (.cst (.str s))
    | .BinOp a op b _ => match boOf op, compE G N n sc a, compE G N n sc b with
      | some o, some x, some y => some (.bin o x y)
      | _, _, _ => none
    | .UnaryOp .USub a _ => (compE G N n sc a).map .neg
    | .UnaryOp .Not a _ => (compE G N n sc a).map .not
    | .BoolOp op vs _ => compB G N n sc op vs
    | .IfExp c a b _ => match compE G N n sc c, compE G N n sc a, compE G N n sc b with
      | some x, some y, some z => some (.ite x y z)
      | _, _, _ => none
    | .Compare a [op] [b] _ => match coOf op, compE G N n sc a, compE G N n sc b with
      | some o, some x, some y => some (.cmp o x y)
      | _, _, _ => none
    | .Compare a [o1, o2] [b, c] _ => match coOf o1, coOf o2, compE G N n sc a, compE G N n sc b, compE G N n sc c with
      | some p, some q, some x, some y, some z => some (.chn p q x y z)
      | _, _, _, _, _ => none
    | .Compare a [o1, o2, o3] [b, c, d] _ => match coOf o1, coOf o2, coOf o3, compE G N n sc a, compE G N n sc b, compE G N n sc c, compE G N n sc d with
      | some p, some q, some r, some x, some y, some z, some u => some (.chn3 p q r x y z u)
      | _, _, _, _, _, _, _ => none
    | .Tuple es _ _ => if es.length ≤ 1000 then (compEs G N n sc es).map .tup else none
    | .List es _ => if es.length ≤ 1000 then (compEs G N n sc es).map .lst else none
    | .Subscript a (.Slice lo hi st _) _ => match st with
      | none => match compE G N n sc a, compO G N n sc lo, compO G N n sc hi with
        | some x, some l, some h => some (.sl x l h)
        | _, _, _ => none
      | some (.UnaryOp .USub (.Constant (.int i) _ _) _) => if i = 1 ∧ lo.isNone ∧ hi.isNone then (compE G N n sc a).map .rev else none
      | some (.Name k kp) => if lo.isNone ∧ hi.isNone then match compE G N n sc a, compE G N n sc (.Name k kp) with
          | some x, some y => some (.slst x y)
          | _, _ => none
        else none
      | _ => none
    | .Subscript a b _ => match compE G N n sc a, compE G N n sc b with
      | some x, some y => some (.ix x y)
      | _, _ => none
    | .Call (.Name f _) [.Lambda params body scope _] [] _ => match G.mets.lookup f with
      | some (hs, nt) => if G.gd && isGl sc f && okName f && noPar params && LamX.lamSB sc scope then (compE G.inner N n scope body).map (.met hs nt) else none
      | none => none
    | .Lambda params body scope _ => if noDef params && freeB sc scope && !G.mets.isEmpty then some .lam else none
    | .Attribute e f _ => match fldIn G.objs 0 f with
      | some (c, i, p) => if notSup e && (!p || !G.mets.isEmpty) then (compE G N n sc e).map fun x => .fld x i c else none
      | none => none
    | .Call (.Name f _) [a, b, c, .Lambda ps bd scope lp] [] _ => match objNum G f with
      | some k => if isGl sc f && okName f && !G.mets.isEmpty then (compEs G N n sc [a, b, c, .Lambda ps bd scope lp]).map (.mk k) else none
      | none => none
    | .Call (.Name f _) args [] _ =>
      if isBlt G sc f then
        match args with
        | [a, .Name t _] => if f = ("isinstance" : Str) && isBlt G sc t && (objNum G t).isNone then match compE G N n sc a, tyOfN t with
            | some x, some ty => some (.isi x [ty])
            | _, _ => none
          else if f = ("isinstance" : Str) then match objNum G t with
            | some k => if isGl sc t && okName t then (compE G N n sc a).map fun x => .isf x k else none
            | none => none
          else match biOfG G f 2, compEs G N n sc args with
            | some b, some xs => some (.bi b xs)
            | _, _ => none
        | [.Call (.Name r rp) rs [] q] => if f = ("list" : Str) && r = ("range" : Str) && isBlt G sc r then match rs with
            | [b] => (compE G N n sc b).map (.lrg none)
            | [a, b] => match compE G N n sc a, compE G N n sc b with
              | some x, some y => some (.lrg (some x) y)
              | _, _ => none
            | _ => none
          else match biOfG G f 1, compEs G N n sc [.Call (.Name r rp) rs [] q] with
            | some b, some xs => some (.bi b xs)
            | _, _ => none
        | _ => match biOfG G f args.length, compEs G N n sc args with
          | some b, some xs => some (.bi b xs)
          | _, _ => none
      else if isGl sc f && okName f && !args.isEmpty then match fnNum G f, compEs G N n sc args with
        | some i, some xs => if G.asks i && !G.gd then none else some (.call i xs)
        | _, _ => none
      else if isVis sc f && okName f && !args.isEmpty then match slot N f, compEs G N n sc args with
        | some i, some xs => some (.callv i xs)
        | _, _ => none
      else none
    | .Call (.Attribute o m ap) args [] pos => match compE G N n sc o, compEs G N n sc args with
      | some x, some xs =>
        if !(isNameE o && (ap.endLine == pos.line)) then none
        else if m = ("append" : Str) ∧ args.length = 1 then some (.meth .append x xs)
        else if m = ("pop" : Str) ∧ args.length = 0 then some (.meth .pop0 x xs)
        else if m = ("pop" : Str) ∧ args.length = 1 then some (.meth .pop1 x xs)
        else none
      | _, _ => none
    | .ListComp elt [⟨tg, iter, ifs, 0⟩] scope _ =>
      let own := ownOf N scope
      if blkC N sc scope own then
        match compT G.noMet N n (some scope) (relS scope sc) tg, compI G N n sc (isTupleE tg) iter, compC G.noMet N n (relS scope sc) ifs, compE G.noMet N n (relS scope sc) elt with
        | some t, some i, some c, some x => if tgIn (own.map (·.2)) n t then some (.lc (own.map (·.2)) t i c x) else none
        | _, _, _, _ => none
      else none
    | _ => none
def compB (G : CG) (N : List Str) : Nat → Scope → BoolOp → List Expr → Option ME
  | 0, _, _, _ => none
  | n + 1, sc, op, vs => match vs with
    | [] => none
    | [e] => compE G N n sc e
    | e :: r => match compE G N n sc e, compB G N n sc op r with
      | some x, some y => match op with
        | .And => some (.and x y)
        | .Or => some (.or x y)
      | _, _ => none
def compEs (G : CG) (N : List Str) : Nat → Scope → List Expr → Option (List ME)
  | 0, _, _ => none
  | n + 1, sc, es => match es with
    | [] => some []
    | e :: r => if noStar e then match compE G N n sc e, compEs G N n sc r with
        | some x, some xs => some (x :: xs)
        | _, _ => none
      else none
def compO (G : CG) (N : List Str) : Nat → Scope → Option Expr → Option (Option ME)
  | 0, _, _ => none
  | n + 1, sc, o => match o with
    | none => some none
    | some e => (compE G N n sc e).map some
def compC (G : CG) (N : List Str) : Nat → Scope → List Expr → Option (Option ME)
  | 0, _, _ => none
  | n + 1, sc, o => match o with
    | [] => some none
    | [e] => (compE G N n sc e).map some
    | _ => none
/-- top: whose cells may be targets (none: a def's own) -/
def compT (G : CG) (N : List Str) : Nat → Option Scope → Scope → Expr → Option MT
  | 0, _, _, _ => none
  | n + 1, top, sc, e => match e with
    | .Name x _ => if (isLoc sc x || (topB top x && isCell sc x)) && okName x then (slot N x).map .var else none
    | .Tuple es _ _ => (compTs G N n top sc es).map .tup
    | .Subscript a i _ => match i with
      | .Slice _ _ _ _ => none
      | i => match compE G N n sc a, compE G N n sc i with
        | some x, some y => some (.sub x y)
        | _, _ => none
    | _ => none
def compTs (G : CG) (N : List Str) : Nat → Option Scope → Scope → List Expr → Option (List MT)
  | 0, _, _, _ => none
  | n + 1, top, sc, es => match es with
    | [] => some []
    | e :: r => match compT G N n top sc e, compTs G N n top sc r with
      | some x, some xs => some (x :: xs)
      | _, _ => none
/-- tup: the loop's target is written as a tuple -/
def compI (G : CG) (N : List Str) : Nat → Scope → Bool → Expr → Option MI
  | 0, _, _, _ => none
  | n + 1, sc, tup, e => match e with
    | .Call (.Name f _) args [] _ =>
      if isBlt G sc f && args.all noStar then
        match args with
        | [a] =>
          if f = ("range" : Str) then (compE G N n sc a).map .r1
          else if f = ("enumerate" : Str) then if tup then (compE G N n sc a).map .enu else none
          else (compE G N n sc e).map .ex
        | [a, b] =>
          if f = ("range" : Str) then match compE G N n sc a, compE G N n sc b with
            | some x, some y => some (.r2 x y)
            | _, _ => none
          else if f = ("zip" : Str) then if tup then match compE G N n sc a, compE G N n sc b with
            | some x, some y => some (.zip x y)
            | _, _ => none else none
          else (compE G N n sc e).map .ex
        | [a, b, c] =>
          if f = ("range" : Str) then match compE G N n sc a, compE G N n sc b, compE G N n sc c with
            | some x, some y, some z => some (.r3 x y z)
            | _, _, _ => none
          else none
        | _ => none
      else (compE G N n sc e).map .ex
    | .Set _ _ _ => none
    | e => (compE G N n sc e).map .ex
end
/-- no comprehension -/
def noLc : Expr → Bool
  | .ListComp _ _ _ _ => false
  | .SetComp _ _ _ _ => false
  | .DictComp _ _ _ _ _ => false
  | _ => true
/-- a comprehension that is stored into a local name on its line -/
def swB (sc : Scope) : Expr → Expr → Bool
  | .ListComp _ _ s p, .Name t pos => isLoc sc t && pos.line == p.line && !(s.names.any fun (n, k) => n == t && (k == .local || k == .cell))
  | _, _ => false
def isStar : Expr → Bool
  | .Starred .. => true
  | _ => false
/-- the plain local names of a target, on one line -/
def nmS (sc : Scope) (ts : List Expr) : List Str := ts.filterMap fun
  | .Name id pos => if sc.names.lookup id == some .local && pos.line == (ts.head?.map (·.pos.line)).getD 0 then some id else none
  | _ => none
def nmB (names : List Str) (n : Nat) : Bool := names.length != n || names.eraseDups.length != names.length
/-- stored from the right? -/
def swP (sc : Scope) (ts vs : List Expr) : Option (Option (List Str)) :=
  if (!(ts.length == 2 || ts.length == 3) || vs.length != ts.length) = true then some none
  else if vs.any isStar = true then some none
  else if nmB (nmS sc ts) ts.length = true then some none
  else if vs.all (foldedForSure 8) = true then some none
  else if vs.all (constantsAlone 8) = true then none
  else some (some (nmS sc ts))
def isSlice : Expr → Bool
  | .Slice _ _ _ _ => true
  | _ => false
mutual
def compS (G : CG) (N : List Str) : Nat → Scope → Stmt → Option MS
  | 0, _, _ => none
  | n + 1, sc, s => match s with
    | .Expr (.Constant (.str _) _ _) _ => some .pass
    | .Raise (some (.Call (.Name x _) [a] [] _)) none _ => match clsNum G x with
      | some c => if isGl sc x && okName x && noStar a then match G.cls[c]? with
          | some k => match k.f with
            | none => match a with
              | .Constant (.str _) _ _ => some (.rse c none)
              | _ => none
            | some _ => (compE G N n sc a).map fun m => .rse c (some m)
          | none => none
        else none
      | none => none
    | .Expr e _ => if noLc e then (compE G N n sc e).map .expr else none
    | .Return (some e) _ => (compE G N n sc e).map .ret
    | .Return none _ => some .retN
    | .Pass _ => some .pass
    | .Break _ => some .brk
    | .Continue _ => some .cnt
    | .If c a b _ => match compE G N n sc c, compSs G N n sc a, compSs G N n sc b with
      | some x, some y, some z => some (.ife x y z)
      | _, _, _ => none
    | .While c b [] _ => match compE G N n sc c, compSs G N n sc b with
      | some x, some y => some (.whl x y)
      | _, _ => none
    | .For tg iter b [] _ => match compT G N n none sc tg, compI G N n sc (isTupleE tg) iter, compSs G N n sc b with
      | some t, some i, some y => some (.forr t i y)
      | _, _, _ => none
    | .Assign [tg] e _ => match tg, e with
      | .Tuple ts _ _, .Tuple vs _ _ => match swP sc ts vs with
        | none => none
        | some none => match compT G N n none sc tg, compE G N n sc e with
          | some t, some x => some (.asg t x)
          | _, _ => none
        | some (some _) => match ts, vs with
          | [.Name x _, .Name y _], [a, b] => match slot N x, slot N y, compEs G N n sc [a, b] with
            | some i, some j, some es => if isLoc sc x && isLoc sc y && decide (i ≠ j) && decide (swP sc ts vs = some (some [x, y])) then some (.par [i, j] es) else none
            | _, _, _ => none
          | [.Name x _, .Name y _, .Name z _], [a, b, c] => match slot N x, slot N y, slot N z, compEs G N n sc [a, b, c] with
            | some i, some j, some l, some es => if isLoc sc x && isLoc sc y && isLoc sc z && decide (i ≠ j) && decide (i ≠ l) && decide (j ≠ l) && decide (swP sc ts vs = some (some [x, y, z])) then some (.par [i, j, l] es) else none
            | _, _, _, _ => none
          | _, _ => none
      | tg, e => match compT G N n none sc tg, compE G N n sc e with
        | some t, some x => some (.asg t x)
        | _, _ => none
    | .AugAssign (.Name x _) op e _ => if (isLoc sc x || isCell sc x) && okName x then match slot N x, boOf op, compE G N n sc e with
        | some i, some o, some m => some (.aug i o m)
        | _, _, _ => none
      else none
    | .AugAssign (.Subscript a i _) op e _ => if isSlice i then none else match compE G N n sc a, compE G N n sc i, boOf op, compE G N n sc e with
      | some x, some y, some o, some m => some (.augS x y o m)
      | _, _, _, _ => none
    | _ => none
def compSs (G : CG) (N : List Str) : Nat → Scope → List Stmt → Option (List MS)
  | 0, _, _ => none
  | n + 1, sc, ss => match ss with
    | [] => some []
    | s :: r => match compSs G N n sc r with
      | some xs => some (((compS G N n sc s).getD .nev) :: xs)
      | _ => none
end
end Mi

/-! Mi3: what the operations on values are. -/
namespace Mi
open PySem PySem.Spec PyProof.Rows L2
theorem op_fdivX {X : Cx} : OpR X (binaryOp .FloorDiv) (rI (fun _ j => j ≠ 0 ∧ j.natAbs.log2 < 9000) fun i j => .int (i.fdiv j)) := opI fun _ _ _ _ _ _ _ hc q => floordiv_int hc.1 q (.inl (PyProof.noPylong_of_log2 hc.2))

theorem sizeMax_eq : sizeMax = sizeLine := by rw [sizeLine_eq]; rfl

section
variable {X : Cx} {e : Expr}
theorem PE.imp {t t' : TE} (h : PE X e t) (i : ∀ σ H Q, t' σ H Q → t σ H Q) : PE X e t' := ⟨fun pins s σ H Q I q => h.run pins s σ H Q I (i σ H Q q)⟩
theorem PT.imp {t t' : TT} (h : PT X e t) (i : ∀ σ H Q, t' σ H Q → t σ H Q) : PT X e t' := ⟨fun pins s σ H Q I q => h.run pins s σ H Q I (i σ H Q q)⟩
theorem PA.imp {es : List Expr} {t t' : TA} (h : PA X es t) (i : ∀ σ H Q, t' σ H Q → t σ H Q) : PA X es t' := ⟨fun pos pins s σ H Q I q => h.run pos pins s σ H Q I (i σ H Q q)⟩
end

/-- a value behind an operation: nothing but new objects -/
def Done (g : GE) (σm : Loc) (hm : Hm) (σ : L2.St) (ρ : Rh) (H : Hp) (z : MV) (Q : VK) : Prop :=
  ∀ ρ' H' x, Post ρ H ρ' H' → Rel g ρ' σm hm σ H' → RV g ρ' H' z x → (∀ a, TV z x a → Fr H a ∧ ρ'.b a) → Q x H'
section
variable {g : GE} {σm : Loc} {hm : Hm} {σ : L2.St} {ρ : Rh} {H : Hp} {z : MV} {x : V} {Q : VK}
theorem Done.now (d : Done g σm hm σ ρ H z Q) (R : Rel g ρ σm hm σ H) (r : RV g ρ H z x) (nl : ∀ xs, z ≠ .lst xs := by intro _ h; cases h) : Q x H := d ρ H x .refl R r fun a ⟨⟨xs, e⟩, _⟩ => absurd e (nl xs)
/-- a new tuple -/
theorem Done.tup {zs : List MV} {vs : List V} (d : Done g σm hm σ ρ H (.tup zs) Q) (R : Rel g ρ σm hm σ H) (r : RVs g ρ H zs vs) : ∀ p, H p = none → Q (.ref p) (upd H p (.tup vs)) := fun p n => by
  obtain ⟨P, R', _⟩ := R.laid (o := .tup vs) n
  exact d ρ _ _ P R' (.tup (.of upd_same) (r.post P R.noT)) fun a ⟨⟨xs, e⟩, _⟩ => nomatch e
/-- a new list -/
theorem Done.lst {zs : List MV} {vs : List V} (d : Done g σm hm σ ρ H (.lst zs) Q) (R : Rel g ρ σm hm σ H) (r : RVs g ρ H zs vs) : ∀ p, H p = none → Q (.ref p) (upd H p (.lst vs)) := fun p n => by
  obtain ⟨P, R', np⟩ := R.laidL (vs := vs) n
  exact d _ _ _ P R' (.lst upd_same np (r.post P R.noT)) fun a ⟨_, e⟩ => by cases e; exact ⟨.of n, .inr rfl⟩
/-- from the layer's reading -/
theorem Fin.done {W : WX} (h : Fin g W (kE g) σm σ ρ H (.ok z hm) Q) : Done g σm hm σ ρ H z Q := h
end

/-- two values for an operation -/
def rBin (g : GE) (f : MV → MV → Hm → Option MV) : R2 := fun x y H Q =>
  ∃ ρ σm hm σ v w z, Rel g ρ σm hm σ H ∧ RV g ρ H v x ∧ RV g ρ H w y ∧ f v w hm = some z ∧ Done g σm hm σ ρ H z Q

section
variable {X : Cx} {g : GE}
theorem opr_bin (hK : g.K = X.K) {o : Operator} {bo : BO} (ho : boOf o = some bo) : OpR X (binaryOp o) (rBin g (bop bo)) := by
  intro pins s σ0 H x y v0 u0 Q I rx ry h
  obtain ⟨ρ, σm, hm, σ, v, w, z, R, rv, rw', e, d⟩ := h
  have hint : ∀ {i : Int} {x : V}, RV g ρ H (.int i) x → x = .int i := fun r => by cases r; rfl
  have hstr : ∀ {i : Str} {x : V}, RV g ρ H (.str i) x → x = .str i := fun r => by cases r; rfl
  have catL : bo = .add → (∃ xs ys, itemsL hm v = some xs ∧ itemsL hm w = some ys ∧ (if xs.length + ys.length ≤ sizeMax then some (MV.lst (xs ++ ys)) else none) = some z) → wpAny (model X.prog X.w) X.A (binaryOp o v0 u0) (EP X pins σ0 Q) X.xe s := fun hb ⟨xs, ys, e1, e2, e3⟩ => by
    subst hb
    obtain ⟨a, vs, rfl, ha, ra⟩ := R.itemsL rv e1
    obtain ⟨b, ws, rfl, hb, rb⟩ := R.itemsL rw' e2
    split at e3
    · rename_i hz
      cases e3
      have ho' : o = .Add := by cases o <;> first | rfl | cases ho
      subst ho'
      rw [sizeMax_eq] at hz
      exact op_cat pins s σ0 H _ _ v0 u0 Q I rx ry ⟨a, b, vs, ws, rfl, rfl, ha, hb, by rw [← ra.length, ← rb.length]; exact hz, d.lst R (ra.append rb)⟩
    · cases e3
  have repL : bo = .mul → (∃ xs k, itemsL hm v = some xs ∧ w = .int k ∧ (if -9223372036854775808 ≤ k ∧ k < 9223372036854775808 ∧ xs.length * k.toNat ≤ sizeMax then some (MV.lst (List.replicate k.toNat xs).flatten) else none) = some z) → wpAny (model X.prog X.w) X.A (binaryOp o v0 u0) (EP X pins σ0 Q) X.xe s := fun hb ⟨xs, k, e1, e2, e3⟩ => by
    subst hb
    subst e2
    obtain ⟨a, vs, rfl, ha, ra⟩ := R.itemsL rv e1
    have := hint rw'
    subst this
    split at e3
    · rename_i hz
      cases e3
      have ho' : o = .Mult := by cases o <;> first | rfl | cases ho
      subst ho'
      rw [sizeMax_eq] at hz
      exact op_rep pins s σ0 H _ _ v0 u0 Q I rx ry ⟨a, k, vs, rfl, rfl, ha, by omega, by omega, by rw [← ra.length]; exact hz.2.2, d.lst R (ra.rep _)⟩
    · cases e3
  unfold bop at e
  split at e
  · -- int + int
    cases e
    have ho' : o = .Add := by cases o <;> first | rfl | cases ho
    subst ho'
    exact op_add pins s σ0 H x y v0 u0 Q I rx ry ⟨_, _, hint rv, hint rw', d.now R (.int _)⟩
  · cases e
    have ho' : o = .Sub := by cases o <;> first | rfl | cases ho
    subst ho'
    exact op_sub pins s σ0 H x y v0 u0 Q I rx ry ⟨_, _, hint rv, hint rw', d.now R (.int _)⟩
  · rename_i i j
    have ho' : o = .Mult := by cases o <;> first | rfl | cases ho
    subst ho'
    split at e
    · rename_i hz
      cases e
      unfold mulOk at hz
      simp only [Bool.or_eq_true, decide_eq_true_eq] at hz
      rcases hz with (hz | hz) | hz
      · exact op_mul pins s σ0 H x y v0 u0 Q I rx ry ⟨_, _, hint rv, hint rw', .inl ⟨by omega, by omega⟩, d.now R (.int _)⟩
      · exact op_mul pins s σ0 H x y v0 u0 Q I rx ry ⟨_, _, hint rv, hint rw', .inr ⟨by omega, by omega⟩, d.now R (.int _)⟩
      · exact op_mulW pins s σ0 H x y v0 u0 Q I rx ry ⟨_, _, hint rv, hint rw', hz, d.now R (.int _)⟩
    · cases e
  · rename_i i j
    have ho' : o = .FloorDiv := by cases o <;> first | rfl | cases ho
    subst ho'
    split at e
    · rename_i hz
      cases e
      unfold fdvOk at hz
      simp only [Bool.or_eq_true, Bool.and_eq_true, decide_eq_true_eq] at hz
      rcases hz with (hz | hz) | hz
      · exact op_fdivW pins s σ0 H x y v0 u0 Q I rx ry ⟨_, _, hint rv, hint rw', hz, by show Q (V.int (i / j)) H; rw [← Int.fdiv_eq_ediv_of_nonneg i (by omega : 0 ≤ j)]; exact d.now R (.int _)⟩
      · exact op_fdivN pins s σ0 H x y v0 u0 Q I rx ry ⟨_, _, hint rv, hint rw', hz, d.now R (.int _)⟩
      · exact op_fdivX pins s σ0 H x y v0 u0 Q I rx ry ⟨_, _, hint rv, hint rw', hz, d.now R (.int _)⟩
    · cases e
  · have ho' : o = .Mod := by cases o <;> first | rfl | cases ho
    subst ho'
    split at e
    · rename_i hz
      cases e
      exact op_modN pins s σ0 H x y v0 u0 Q I rx ry ⟨_, _, hint rv, hint rw', hz, d.now R (.int _)⟩
    · cases e
  · rename_i i j
    have ho' : o = .Pow := by cases o <;> first | rfl | cases ho
    subst ho'
    split at e
    · rename_i hz
      cases e
      unfold powOk at hz
      simp only [Bool.and_eq_true, decide_eq_true_eq] at hz
      have e1 := hint rv
      have e2 := hint rw'
      subst e1
      subst e2
      obtain ⟨t, rfl⟩ := rx
      obtain ⟨t', rfl⟩ := ry
      refine pow_int hz.1 ?_ ⟨.int _, H, I.tok _, ⟨_, rfl⟩, d.now R (.int _)⟩
      have b : Builtin.Int.intBits i ≤ i.natAbs.log2 + 1 := by unfold Builtin.Int.intBits; split <;> omega
      have b2 : (Builtin.Int.intBits i : Int) * j ≤ ((i.natAbs.log2 + 1 : Nat) : Int) * j := Int.mul_le_mul_of_nonneg_right (by omega) hz.1
      have := hz.2
      omega
    · cases e
  · have ho' : o = .Add := by cases o <;> first | rfl | cases ho
    subst ho'
    split at e
    · rename_i hz
      cases e
      rw [sizeMax_eq] at hz
      exact op_add_str pins s σ0 H x y v0 u0 Q I rx ry ⟨_, _, hstr rv, hstr rw', hz, d.now R (.str _)⟩
    · cases e
  · rename_i xs ys
    have ho' : o = .Add := by cases o <;> first | rfl | cases ho
    subst ho'
    split at e
    · rename_i hz
      cases e
      rw [sizeMax_eq] at hz
      cases rv with
      | tup ha ra =>
        cases rw' with
        | tup hb rb =>
          rename_i a vs b ws
          refine op_catA pins s σ0 H _ _ v0 u0 Q I rx ry ⟨_, _, vs, ws, rfl, rfl, by rw [← hK]; exact ha, by rw [← hK]; exact hb, by rw [← ra.length, ← rb.length]; exact hz, fun e => ?_, fun e1 e => ?_, fun _ _ => d.tup R (ra.append rb)⟩
          · subst e
            cases ra
            exact d.now R (.tup hb rb)
          · subst e
            cases rb
            exact d.now R (.tup ha (by rw [List.append_nil]; exact ra))
    · cases e
  · rename_i xs k
    have ho' : o = .Mult := by cases o <;> first | rfl | cases ho
    subst ho'
    split at e
    · rename_i hz
      cases e
      cases rv with
      | tup ha ra =>
        rename_i a vs
        rw [sizeMax_eq] at hz
        refine op_repA pins s σ0 H _ _ v0 u0 Q I rx ry ⟨_, k, vs, rfl, hint rw', by rw [← hK]; exact ha, hz.1, hz.2.1, by rw [← ra.length]; exact hz.2.2, fun hs => ?_, fun hs => d.tup R (ra.rep _)⟩
        have e0 : (List.replicate k.toNat xs).flatten = xs := by
          rcases hs with e | e
          · subst e
            cases ra
            simp
          · subst e
            simp
        rw [e0] at d
        exact d.now R (.tup ha ra)
    · cases e
  · split at e
    · rename_i xs ys e1 e2
      exact catL rfl ⟨xs, ys, e1, e2, e⟩
    · cases e
  · split at e
    · rename_i xs e1
      exact repL rfl ⟨xs, _, e1, rfl, e⟩
    · cases e
  · cases e

/-! ### comparisons -/
theorem dpInts {K : PySem.W.Frag} {H : Hp} : ∀ ns : List Int, DpAll K H (ns.map V.int) (ns.map PyData.int)
  | [] => .nil
  | n :: ns => .cons (.int n) (dpInts ns)
mutual
theorem Rel.dp {ρ : Rh} {σm : Loc} {hm : Hm} {σ : L2.St} {H : Hp} (R : Rel g ρ σm hm σ H) : ∀ {v : MV} {x : V} {d : PyData}, RV g ρ H v x → toD hm v = some d → Dp g.K H x d
  | _, _, _, .non, e => by simp only [toD] at e; cases e; exact .non
  | _, _, _, .bl b, e => by simp only [toD] at e; cases e; exact .bl b
  | _, _, _, .int b, e => by simp only [toD] at e; cases e; exact .int b
  | _, _, _, .str b, e => by simp only [toD] at e; cases e; exact .str b
  | _, _, _, .tup h r, e => by
    simp only [toD] at e
    obtain ⟨ds, h1, rfl⟩ := Option.map_eq_some_iff.mp e
    exact .tup h (Rel.dps R r h1)
  | _, _, _, .lst h m r, e => by
    simp only [toD] at e
    obtain ⟨ds, h1, rfl⟩ := Option.map_eq_some_iff.mp e
    exact .lst (.of h) (Rel.dps R r h1)
  | _, _, _, @RV.scr _ _ _ ns _ h, e => by
    simp only [toD] at e
    cases e
    exact .lst h.sq (dpInts ns)
  | _, _, _, .fz h m r, e => by
    simp only [toD] at e
    obtain ⟨ds, h1, rfl⟩ := Option.map_eq_some_iff.mp e
    exact .lst (.of h) (Rel.dps R r h1)
  | _, _, _, .fn _ _, e => by simp only [toD] at e; cases e
  | _, _, _, .edc _ _, e => by simp only [toD] at e; cases e
  | _, _, _, .any _, e => by simp only [toD] at e; cases e
  | _, _, _, .obj _ _ _ _ _ _ _, e => by simp only [toD] at e; cases e
  | _, _, _, @RV.ref _ _ _ n a h, e => by
    simp only [toD] at e
    split at e
    · rename_i xs q
      obtain ⟨ds, h1, rfl⟩ := Option.map_eq_some_iff.mp e
      obtain ⟨vs, e1, t⟩ := R.obj n _ a q h
      exact .lst (.of e1) (Rel.dpP R t h1)
    · rename_i ns q
      cases e
      obtain ⟨o, e1⟩ := R.obj n _ a q h
      exact .lst (.inl (.inr ⟨o, e1⟩)) (dpInts ns)
    · cases e
theorem Rel.dps {ρ : Rh} {σm : Loc} {hm : Hm} {σ : L2.St} {H : Hp} (R : Rel g ρ σm hm σ H) : ∀ {v : List MV} {x : List V} {d : List PyData}, RVs g ρ H v x → toDs hm v = some d → DpAll g.K H x d
  | _, _, _, .nil, e => by simp only [toDs] at e; cases e; exact .nil
  | _, _, _, .cons r t, e => by
    simp only [toDs] at e
    split at e
    · rename_i d ds h1 h2
      cases e
      exact .cons (Rel.dp R r h1) (Rel.dps R t h2)
    · cases e
theorem Rel.dpP1 {ρ : Rh} {σm : Loc} {hm : Hm} {σ : L2.St} {H : Hp} (R : Rel g ρ σm hm σ H) : ∀ {v : MV} {x : V} {d : PyData}, RV g ρ H v x → toP v = some d → Dp g.K H x d
  | _, _, _, .non, e => by simp only [toP] at e; cases e; exact .non
  | _, _, _, .bl b, e => by simp only [toP] at e; cases e; exact .bl b
  | _, _, _, .int b, e => by simp only [toP] at e; cases e; exact .int b
  | _, _, _, .str b, e => by simp only [toP] at e; cases e; exact .str b
  | _, _, _, .tup h r, e => by
    simp only [toP] at e
    obtain ⟨ds, h1, rfl⟩ := Option.map_eq_some_iff.mp e
    exact .tup h (Rel.dpP R r h1)
  | _, _, _, .lst h m r, e => by
    simp only [toP] at e
    obtain ⟨ds, h1, rfl⟩ := Option.map_eq_some_iff.mp e
    exact .lst (.of h) (Rel.dpP R r h1)
  | _, _, _, @RV.scr _ _ _ ns _ h, e => by
    simp only [toP] at e
    cases e
    exact .lst h.sq (dpInts ns)
  | _, _, _, .fz h m r, e => by
    simp only [toP] at e
    obtain ⟨ds, h1, rfl⟩ := Option.map_eq_some_iff.mp e
    exact .lst (.of h) (Rel.dpP R r h1)
  | _, _, _, .fn _ _, e => by simp only [toP] at e; cases e
  | _, _, _, .edc _ _, e => by simp only [toP] at e; cases e
  | _, _, _, .any _, e => by simp only [toP] at e; cases e
  | _, _, _, .obj _ _ _ _ _ _ _, e => by simp only [toP] at e; cases e
  | _, _, _, .ref _, e => by simp only [toP] at e; cases e
theorem Rel.dpP {ρ : Rh} {σm : Loc} {hm : Hm} {σ : L2.St} {H : Hp} (R : Rel g ρ σm hm σ H) : ∀ {v : List MV} {x : List V} {d : List PyData}, RVs g ρ H v x → toDp v = some d → DpAll g.K H x d
  | _, _, _, .nil, e => by simp only [toDp] at e; cases e; exact .nil
  | _, _, _, .cons r t, e => by
    simp only [toDp] at e
    split at e
    · rename_i d ds h1 h2
      cases e
      exact .cons (Rel.dpP1 R r h1) (Rel.dpP R t h2)
    · cases e
end
theorem flat_of {ρ : Rh} {H : Hp} {v : MV} {x : V} (r : RV g ρ H v x) (f : flat v = true) : flatV x = true := by
  cases r <;> first | rfl | cases f
theorem flats_of {ρ : Rh} {H : Hp} : ∀ {vs : List MV} {xs : List V}, RVs g ρ H vs xs → vs.all flat = true → xs.all flatV = true
  | _, _, .nil, _ => rfl
  | _, _, .cons r t, f => by
    rw [List.all_cons, Bool.and_eq_true] at f
    rw [List.all_cons, flat_of r f.1, flats_of t f.2] <;> rfl
theorem eqF_of {ρ : Rh} {H : Hp} {v w : MV} {x y : V} (r : RV g ρ H v x) (q : RV g ρ H w y) (f : flat v = true) (f' : flat w = true) : eqF v w = eqV x y := by
  cases r <;> cases q <;> first | rfl | exact absurd f Bool.false_ne_true | exact absurd f' Bool.false_ne_true
theorem inF_of {ρ : Rh} {H : Hp} {v : MV} {x : V} (r : RV g ρ H v x) (f : flat v = true) : ∀ {vs : List MV} {xs : List V}, RVs g ρ H vs xs → vs.all flat = true → inF v vs = inV x xs
  | _, _, .nil, _ => rfl
  | _, _, .cons q t, f' => by
    rw [List.all_cons, Bool.and_eq_true] at f'
    have ih := inF_of r f t f'.2
    unfold inF inV at ih ⊢
    rw [List.any_cons, List.any_cons, ih, eqF_of q r f'.1 f]
def rCmp (g : GE) (op : CO) : R2 := rBin g fun v w h => (cop op v w h).map .bl
theorem opr_cmp (hK : g.K = X.K) (hu : X.A.units + 64 < cLine) {o : CmpOp} {co : CO} (ho : coOf o = some co) : OpR X (compareOp o) (rCmp g co) := by
  intro pins s σ0 H x y v0 u0 Q I rx ry h
  obtain ⟨ρ, σm, hm, σ, v, w, z, R, rv, rw', e, d⟩ := h
  obtain ⟨b, hb, hz⟩ := Option.map_eq_some_iff.mp (show (cop co v w hm).map .bl = some z from e)
  subst hz
  clear e
  have e := hb
  clear hb
  have q : Q (.bl b) H := d.now R (.bl b)
  have hint : ∀ {i : Int} {x : V}, RV g ρ H (.int i) x → x = .int i := fun r => by cases r; rfl
  have eqdn : ∀ {a b : MV} {k : Bool}, eqD a b hm = some k → ∀ {x y : V}, RV g ρ H a x → RV g ρ H b y → ∃ d e, Dp X.K H x d ∧ Dp X.K H y e ∧ SeqAt.shaped d = true ∧ SeqAt.shaped e = true ∧ PyData.eqv d e = k := fun {a b k} e {x y} ra rb => by
    unfold eqD at e
    split at e
    · rename_i d1 e1 h1 h2
      split at e
      · rename_i hs
        rw [Bool.and_eq_true] at hs
        cases e
        exact ⟨d1, e1, hK ▸ R.dp ra h1, hK ▸ R.dp rb h2, hs.1, hs.2, rfl⟩
      · cases e
    · cases e
  unfold cop at e
  split at e
  · cases e
    have ho' : o = .Lt := by cases o <;> first | rfl | cases ho
    subst ho'
    exact op_lt pins s σ0 H x y v0 u0 Q I rx ry ⟨_, _, hint rv, hint rw', q⟩
  · cases e
    have ho' : o = .LtE := by cases o <;> first | rfl | cases ho
    subst ho'
    exact op_le pins s σ0 H x y v0 u0 Q I rx ry ⟨_, _, hint rv, hint rw', q⟩
  · cases e
    have ho' : o = .Gt := by cases o <;> first | rfl | cases ho
    subst ho'
    exact op_gt pins s σ0 H x y v0 u0 Q I rx ry ⟨_, _, hint rv, hint rw', q⟩
  · cases e
    have ho' : o = .GtE := by cases o <;> first | rfl | cases ho
    subst ho'
    exact op_ge pins s σ0 H x y v0 u0 Q I rx ry ⟨_, _, hint rv, hint rw', q⟩
  · rename_i i j
    cases e
    have ho' : o = .Eq := by cases o <;> first | rfl | cases ho
    subst ho'
    have e1 := hint rv
    have e2 := hint rw'
    subst e1
    subst e2
    refine op_eq pins s σ0 H _ _ v0 u0 Q I rx ry ⟨rfl, ?_⟩
    rw [dec_int, ← Bool.beq_eq_decide_eq] at *
    exact q
  · rename_i i j
    cases e
    have ho' : o = .NotEq := by cases o <;> first | rfl | cases ho
    subst ho'
    have e1 := hint rv
    have e2 := hint rw'
    subst e1
    subst e2
    refine op_ne pins s σ0 H _ _ v0 u0 Q I rx ry ⟨rfl, ?_⟩
    rw [dec_int, ← Bool.beq_eq_decide_eq] at *
    exact q
  · have ho' : o = .Eq := by cases o <;> first | rfl | cases ho
    subst ho'
    obtain ⟨d1, e1, h1, h2, h3, h4, h5⟩ := eqdn e rv rw'
    exact op_eqD hu pins s σ0 H _ _ v0 u0 Q I rx ry ⟨d1, e1, h1, h2, h3, h4, by rw [h5]; exact q⟩
  · have ho' : o = .NotEq := by cases o <;> first | rfl | cases ho
    subst ho'
    obtain ⟨k, e0, rfl⟩ := Option.map_eq_some_iff.mp e
    obtain ⟨d1, e1, h1, h2, h3, h4, h5⟩ := eqdn e0 rv rw'
    exact op_neD hu pins s σ0 H _ _ v0 u0 Q I rx ry ⟨d1, e1, h1, h2, h3, h4, by rw [h5]; exact q⟩
  · have ho' : o = .In := by cases o <;> first | rfl | cases ho
    subst ho'
    split at e
    · rename_i xs hx
      split at e
      · rename_i hf
        rw [Bool.and_eq_true] at hf
        cases e
        obtain ⟨a, vs, rfl, hs, rs⟩ := R.seq rw' hx
        rw [hK] at hs
        exact op_in_seq pins s σ0 H _ _ v0 u0 Q I rx ry ⟨a, vs, rfl, hs, flat_of rv hf.1, flats_of rs hf.2, by rw [← inF_of rv hf.1 rs hf.2]; exact q⟩
      · cases e
    · cases e
  · have ho' : o = .NotIn := by cases o <;> first | rfl | cases ho
    subst ho'
    split at e
    · rename_i xs hx
      split at e
      · rename_i hf
        rw [Bool.and_eq_true] at hf
        cases e
        obtain ⟨a, vs, rfl, hs, rs⟩ := R.seq rw' hx
        rw [hK] at hs
        exact op_notIn_seq pins s σ0 H _ _ v0 u0 Q I rx ry ⟨a, vs, rfl, hs, flat_of rv hf.1, flats_of rs hf.2, by rw [← inF_of rv hf.1 rs hf.2]; exact q⟩
      · cases e
    · cases e
  · have ho' : o = .Is := by cases o <;> first | rfl | cases ho
    subst ho'
    have ey : y = .non := by cases rw'; rfl
    split at e
    · cases e
      cases rv
      exact op_isN pins s σ0 H _ _ v0 u0 Q I rx ry ⟨ey, q⟩
    · cases e
    · rename_i nv na
      cases e
      refine op_isN pins s σ0 H _ _ v0 u0 Q I rx ry ⟨ey, ?_⟩
      have nx : decide (x = V.non) = false := decide_eq_false fun h => by
        subst h
        cases rv
        · exact nv rfl
        · exact na rfl
      rw [nx]
      exact q
  · have ho' : o = .IsNot := by cases o <;> first | rfl | cases ho
    subst ho'
    have ey : y = .non := by cases rw'; rfl
    split at e
    · cases e
      cases rv
      exact op_notN pins s σ0 H _ _ v0 u0 Q I rx ry ⟨ey, q⟩
    · cases e
    · rename_i nv na
      cases e
      refine op_notN pins s σ0 H _ _ v0 u0 Q I rx ry ⟨ey, ?_⟩
      have nx : decide (x = V.non) = false := decide_eq_false fun h => by
        subst h
        cases rv
        · exact nv rfl
        · exact na rfl
      rw [nx]
      exact q
  · cases e
    have ho' : o = .Is := by cases o <;> first | rfl | cases ho
    subst ho'
    cases rv
    cases rw'
    exact op_isBl pins s σ0 H _ _ v0 u0 Q I rx ry ⟨_, _, rfl, rfl, q⟩
  · cases e
    have ho' : o = .IsNot := by cases o <;> first | rfl | cases ho
    subst ho'
    cases rv
    cases rw'
    exact op_notBl pins s σ0 H _ _ v0 u0 Q I rx ry ⟨_, _, rfl, rfl, q⟩
  · cases e
end
end Mi

/-! MiE: own exceptions whose __init__ hands its argument on by super() and keeps it. -/
namespace MiE
open PySem PySem.W PySem.Calls PyProof.Rows PySem.HandSPX Builtin Builtin.ObjectAttr
section
variable {prog : Program} {w : World} {A : Around} {E : Value → Shared → Prop} {R : Result → Shared → Prop} {hp : Heap} {g : Array GenState} {d : Drawn} {t : Nat} {os : OsState}
theorem osa_tail {K : W.Frag} {bmB : List Value} {name : Str} {tk : Tok} {v : Value} {x C : Addr} {fv : Array Value} {cd : ClassData}
    (X : K.In hp) (hx : hp.get? x = some { cls := .ref C, data := .fields fv }) (hcd : W.clsIn K C = some cd) (hm : excTail bmB cd.mro = true) (hps : ∀ self, refuseLoop self "__setattr__" bmB = pure ()) (hob : bmB.contains (.type "object") = true) (hh : cd.hasDict = true) (ha : W.findIn K (.ref C) name = some none)
    (hq : ∀ h' tk' dx, (∀ b o, b ≠ x → hp.get? b = some o → h'.get? b = some o) → hp.objs.size ≤ dx → dx ≠ x → h'.get? x = some { cls := .ref C, dict := some dx, data := .fields fv } →
      h'.Ns1 dx (fun y => if y = name then some v else none) → R (.ok (.ret .none)) ⟨h', g, d, tk', os⟩) :
    codeAny (model prog w) A (.call (.builtin "object.__setattr__") ⟨[.ref x, .str name tk, v], []⟩) R ⟨hp, g, d, t, os⟩ := by
  have I : W.InstAt hp x { cls := .ref C, data := .fields fv } C none := ⟨hx, rfl, rfl, trivial⟩
  have SF := F.store_object
  have hob : cd.mro.contains (.type "object") = true := (excTail_contains "object" _ hm).trans hob
  have ne : cd.mro.isEmpty = false := by
    cases e : cd.mro with
    | nil => rw [e] at hob; cases hob
    | cons _ _ => rfl
  have hxs : x ≠ hp.objs.size := Nat.ne_of_lt (Heap.lt_size hx)
  have sub : W.Looks (model prog w) hp (isInstance (.ref x) (.type "object")) true := I.type.andThen (W.looks_mroIn X (by unfold W.mroIn; rw [hcd, Option.bind_some, if_neg (by rw [ne]; decide), hob]))
  refine codeAny_call_builtin SF.slot.plain SF.entry (@W.check_slot (model prog w) _ _ ⟨hp, g, d, t, os⟩ "object.__setattr__" "object" "__setattr__" (.ref x) [.str name tk, v] [] _ SF.kind SF.split sub (SF.args (.ref x) (.str name tk) v) ?_)
  have hmr : W.Looks (model prog w) hp (mroOf (.ref C)) cd.mro := (W.looks_clsIn X hcd).andThen .now
  have L3 : W.Looks (model prog w) hp (storeTaker? none) none := .now
  have hcls : W.Looks (model prog w) hp (classData C) cd := W.looks_clsIn X hcd
  rw [W.osa_eq, refuse_eq]
  refine wpAny_bind (wpAny_bind (I.type.at (wpAny_bind (hmr.at ?_))))
  rw [excTail_pass _ (hps _) _ hm]
  refine wpAny_pure (wpAny_bind (I.type.at (wpAny_bind ((W.looks_findIn X ha).at (wpAny_bind (L3.at ?_))))))
  show wpAny _ _ (storeInOwnDict (.ref x) (.ref C) (.str name tk) name v false) _ _ _
  obtain ⟨nm, bs, mro, ns, qn, hd, sn, sb, ab, col, del⟩ := cd
  dsimp only at hh
  subst hh
  unfold storeInOwnDict ownDictForStores
  repeat (first | with_reducible refine store_in_new ?_ ?_ | with_reducible refine wpAny_loadPart_at hx ?_ | with_reducible refine hcls.at ?_ | wp_step)
  · exact ⟨_, #[], _, (Heap.get?_update_ne _ _ _ _ hxs.symm).trans (Heap.get?_push_at rfl rfl), rfl, fun e he => absurd he (by simp), fun _ => rfl⟩
  · intro h' tk' hn' hs
    have hx₁ : (hp.push { cls := .type "dict", data := .dict #[] }).get? x = some { cls := .ref C, data := .fields fv } := Heap.get?_push_of_some _ hx
    refine hq h' tk' hp.objs.size (fun b o hb ho => ?_) (Nat.le_refl _) hxs.symm ?_ hn'
    · exact (hs.2 b (Nat.ne_of_lt (Heap.lt_size ho))).trans ((Heap.get?_update_ne _ _ _ _ hb).trans (Heap.get?_push_of_some _ ho))
    · exact (hs.2 x hxs).trans (Heap.get?_update_self _ hx₁ rfl)
/-- super().__init__(..): the bound built-in called -/
theorem call_mw {B i newId : String} {bmB : List Value} {nm q : Str} {C N e u t0 : Addr} {bs bm : List Value} {hdct : Bool} {sn : List Str} {sub : List Value} {ab : Bool} {col : Option Bool} {dd : Option Addr} {k0 k1 k2 k3 k5 : Option Value} {rest : List Value} {Q : Value → Shared → Prop}
    (FB : ExcBaseFacts B newId i bmB) (hC : hp.get? C = some (excClassObj nm q C N bs bm hdct sn sub ab col dd k0 k1 k2 k3 k5 newId)) (he : hp.get? e = some (excO C t0)) (hu : hp.get? u = some (kxs_mw i e)) (hz : rest.length ≤ sizeLine)
    (h : ∀ h' t1, (∀ b o, b ≠ e → hp.get? b = some o → h'.get? b = some o) → h'.get? e = some (excO C t1) → Q .none ⟨h', g, d, t, os⟩) :
    wpAny (model prog w) A (call (.ref u) rest) Q E ⟨hp, g, d, t, os⟩ := by
  refine wpAny_call (codeAny_of_tree ?_)
  show wpAny _ A.in1 (callAny (.ref u) ⟨rest, []⟩) _ _ _
  simp only [callAny]
  refine wpAny_bind (wpAny_load hu ?_)
  simp only [kxs_mw, show (Value.type "method-wrapper" == Value.type "method" || Value.type "method-wrapper" == Value.type "builtin_function_or_method" || Value.type "method-wrapper" == Value.type "method-wrapper") = true by decide, if_true]
  refine KFB.if_so (by decide) ?_
  refine wpAny_bind (check_bound_init FB.toExcCallFacts hC he rfl ?_)
  refine wpAny_bind (wpAny_pure (wpAny_pure ?_))
  refine ⟨plainId_quiet FB.init.plain _, codeAny_builtin FB.initEntry ?_⟩
  exact exc_init_tree (cls := .ref C) (t0 := t0) (dv := none) (c2 := .none) (c3 := .none) (b4 := .bool false) he hz fun h' k e' t' => h h' _ k e'
/-- the text of such an __init__ -/
def initBody (a f : Str) (p0 p1 p2 p3 p4 p5 q0 q1 q2 q3 : Pos) : List Stmt :=
  [.Expr (.Call (.Attribute (.Call (.Name "super" p0) [] [] p1) "__init__" p2) [.Name a p3] [] p4) p5, .Assign [.Attribute (.Name "self" q0) f q1] (.Name a q2) q3]
/-- what is known of the class at C: B the built-in class whose __init__ super() finds -/
structure SupC (prog : Program) (K : Frag) (C : Addr) (f : Str) (B i newId : String) (bmB : List Value) : Prop where
  ex : ∃ (fI cc cda : Addr) (a qual file : Str) (p0 p1 p2 p3 p4 p5 q0 q1 q2 q3 : Pos) (params : Arguments) (scope : Scope) (dV kV doc pm ct oc ccl cl : Value) (an od cdd cld : Option Addr) (osl ccs csl : Array (Option Value)) (vs : Array Value) (tf : Tok) (cd : ClassData) (ar : Arg),
    K.lookup fI = some ⟨oc, od, .func (ksFn "__init__" qual params (initBody a f p0 p1 p2 p3 p4 p5 q0 q1 q2 q3) scope dV kV doc pm an (.ref cda) ct cc), osl⟩ ∧ codeIn K (.ref cda) qual = true ∧
    K.lookup cda = some ⟨ccl, cdd, .fields vs, ccs⟩ ∧ vs[2]? = some (.str file tf) ∧ ((prog.main.file : Str) == file) = true ∧ K.lookup cc = some ⟨cl, cld, .cell (some (.ref C)), csl⟩ ∧
    clsIn K C = some cd ∧ mroIn K C (.ref C) = some true ∧ excTail bmB cd.mro = true ∧ cd.hasDict = true ∧ alongIn K "__init__" ((cd.mro.dropWhile (· != .ref C)).drop 1) = some (some (.builtin i)) ∧
    (params.posonlyargs ++ params.args).head? = some ar ∧ ar.arg = "self" ∧ scope.names.lookup ("super" : Str) = some .globalImplicit ∧ scope.names.lookup ("__class__" : Str) = some .free ∧ scope.names.lookup ("self" : Str) = some .local ∧ scope.names.lookup a = some .local ∧
    (scope.names.all fun x => x.2 != .cell) = true ∧ scope.kind = .function ∧ scope.isCoroutine = false ∧ scope.isGenerator = false ∧ a ≠ "self" ∧ (a == ("__debug__" : Str)) = false ∧ (p2.endLine == p4.line) = true ∧
    (∀ u v : Value, bindArgs (ksFn "__init__" qual params (initBody a f p0 p1 p2 p3 p4 p5 q0 q1 q2 q3) scope dV kV doc pm an (.ref cda) ct cc) ⟨[u, v], []⟩ = pure [(("self" : Str), u), (a, v)]) ∧
    W.findIn K (.ref C) "__init__" = some (some (.ref fI)) ∧ W.typeIn K (.ref fI) = some (.type "function")
  thd : nsIn K cStatics "thirdparty.any" = some none
  sub : subIn K (.ref C) (.type B) = some true
  exc : excInitIn K C bmB newId = true
  exB : subIn K (.ref C) (.type "BaseException") = some true
  ty : typeIn K (.ref C) = some (.type "type")
  sa : findIn K (.ref C) "__setattr__" = some (some (.builtin "object.__setattr__"))
  noat : findIn K (.ref C) f = some none
  kp : keepIn K (.ref C) = true
theorem init_run {K : Frag} {C e t0 : Addr} {f : Str} {v : Value} {B i newId : String} {bmB : List Value} {mg mb : Str → Option Value} (S : SupC prog K C f B i newId bmB) (KF : KxsFacts B i) (FB : ExcBaseFacts B newId i bmB)
    (hps : ∀ self, refuseLoop self "__setattr__" bmB = pure ()) (hob : bmB.contains (.type "object") = true) (X : K.In hp) (hg : hp.Ns mainGlobals mg) (hb : hp.Ns builtinsNs mb) (hms : mg "super" = none) (hbs : mb "super" = some (.type "super")) (lim : hp.NoLimit)
    (htop : (prog.main.scope.names.lookup ("super" : Str)).isSome = false) (room : A.depth < recursionLimit) (he : hp.get? e = some (excO C t0)) (hKe : K.lookup e = none)
    (hq : ∀ h' tk' dx t1, (∀ b o, b ≠ e → hp.get? b = some o → h'.get? b = some o) → hp.get? dx = none → dx ≠ e → h'.get? e = some { cls := .ref C, dict := some dx, data := .fields #[.ref t1, .none, .none, .none, .bool false, .none] } →
      h'.Ns1 dx (fun y => if y = f then some v else none) → R (.ok (.ret .none)) ⟨h', g, d, tk', os⟩) :
    ∃ fI, W.findIn K (.ref C) "__init__" = some (some (.ref fI)) ∧ W.typeIn K (.ref fI) = some (.type "function") ∧ codeAny (model prog w) A (.call (.ref fI) ⟨[.ref e, v], []⟩) R ⟨hp, g, d, t, os⟩ := by
  obtain ⟨fI, cc, cda, a, qual, file, p0, p1, p2, p3, p4, p5, q0, q1, q2, q3, params, scope, dV, kV, doc, pm, ct, oc, ccl, cl, an, od, cdd, cld, osl, ccs, csl, vs, tf, cd, ar, hf, hcd, hcode, hvs, hfile, hcell, hD, hmro, htl, hdict, hal, hpar, har, hks, hkc, hself, hka, hcells, hk, hco, hgen, hne, hdb, hline, hbind, fi, ti⟩ := S.ex
  refine ⟨fI, fi, ti, ?_⟩
  obtain ⟨nm, N', qn, bs, bm, hdct, sn, sub, ab, col, dd, k0, k1, k2, k3, k5, hC, hT⟩ := excInit_of X S.exc
  obtain ⟨oD, hD1, hD2⟩ : ∃ oD, hp.get? C = some oD ∧ oD.data = .cls cd := by
    have hD := hD
    unfold clsIn at hD
    split at hD
    · rename_i c d cd' sl ho
      cases hD
      exact ⟨_, X _ _ ho, rfl⟩
    · cases hD
  have hcells' : ∀ x ∈ scope.names, x.2 ≠ .cell := fun x hx c => by
    have := List.all_eq_true.mp hcells x hx
    rw [c] at this
    exact absurd this (by decide)
  refine ks_codeAny_call_defAt (fd := ksFn "__init__" qual params (initBody a f p0 p1 p2 p3 p4 p5 q0 q1 q2 q3) scope dV kV doc pm an (.ref cda) ct cc) (binds := [(("self" : Str), .ref e), (a, v)]) room (X _ _ hf) rfl lim (codeRec_of X hcd) rfl (BindsTo.of_eq (hbind _ _)) hcells' (fun x hx => ?_) (fun h₁ hns hk₁ => ?_) hco hgen hk
  · simp only [List.mem_cons, List.not_mem_nil, or_false] at hx
    rcases hx with rfl | rfl
    · exact hself
    · exact hka
  -- the frame: L = hp.objs.size
  have X1 : K.In h₁ := X.keeps hk₁
  have lself : (fun x => ([(("self" : Str), .ref e), (a, v)] : List (Str × Value)).reverse.lookup x) "self" = some (Value.ref e) := by
    show List.lookup ("self" : Str) [(a, v), (("self" : Str), Value.ref e)] = _
    rw [List.lookup_cons]
    have : (("self" : Str) == a) = false := by simpa using Ne.symm hne
    rw [this]
    simp [List.lookup_cons]
  have la : (fun x => ([(("self" : Str), .ref e), (a, v)] : List (Str × Value)).reverse.lookup x) a = some v := by
    show List.lookup a [(a, v), (("self" : Str), Value.ref e)] = _
    rw [List.lookup_cons]
    simp
  have ns1 : h₁.Ns hp.objs.size (fun x => ([(("self" : Str), .ref e), (a, v)] : List (Str × Value)).reverse.lookup x) := hns
  generalize hm : (fun x => ([(("self" : Str), .ref e), (a, v)] : List (Str × Value)).reverse.lookup x) = m at lself la ns1
  show _root_.PySem.wpAt (model prog w) (A.deeper (ksEnv qual scope hp.objs.size fI (.ref cda) cc)) (.func (initBody a f p0 p1 p2 p3 p4 p5 q0 q1 q2 q3) (ksEnv qual scope hp.objs.size fI (.ref cda) cc)) (execs (initBody a f p0 p1 p2 p3 p4 p5 q0 q1 q2 q3) (ksEnv qual scope hp.objs.size fI (.ref cda) cc)) _ _ _
  have enL : (ksEnv qual scope hp.objs.size fI (.ref cda) cc).locals = hp.objs.size := rfl
  have eLne : e ≠ hp.objs.size := Nat.ne_of_lt (Heap.lt_size he)
  have he1 := hk₁ _ _ he
  have hCne : e ≠ C := fun z => by
    rw [z, hC] at he
    cases he
  generalize hbody : initBody a f p0 p1 p2 p3 p4 p5 q0 q1 q2 q3 = body at *
  have hbody2 : execs body (ksEnv qual scope hp.objs.size fI (.ref cda) cc) = execs (initBody a f p0 p1 p2 p3 p4 p5 q0 q1 q2 q3) (ksEnv qual scope hp.objs.size fI (.ref cda) cc) := by rw [hbody]
  rw [hbody2]
  unfold initBody
  have hi : interactive (ksEnv qual scope hp.objs.size fI (.ref cda) cc) = false := by
    unfold interactive
    show (scope.kind == .module && _) = false
    rw [hk]; rfl
  have heq : eval (.Call (.Attribute (.Call (.Name "super" p0) [] [] p1) "__init__" p2) [.Name a p3] [] p4) (ksEnv qual scope hp.objs.size fI (.ref cda) cc) = (do
      let ov ← attributeBase (.Call (.Name "super" p0) [] [] p1) "__init__" (ksEnv qual scope hp.objs.size fI (.ref cda) cc) (eval (.Call (.Name "super" p0) [] [] p1) (ksEnv qual scope hp.objs.size fI (.ref cda) cc))
      standAt p2.atName
      let (f, first) ← holding [ov] (getMethod ov "__init__" (do return (← importBound (.Call (.Name "super" p0) [] [] p1) (ksEnv qual scope hp.objs.size fI (.ref cda) cc)).getD true))
      callWith p4 f first (backTo p4 (starEach [.Name a p3] (ksEnv qual scope hp.objs.size fI (.ref cda) cc))) []) := by
    show (do
      let ov ← attributeBase (.Call (.Name "super" p0) [] [] p1) "__init__" (ksEnv qual scope hp.objs.size fI (.ref cda) cc) (eval (.Call (.Name "super" p0) [] [] p1) (ksEnv qual scope hp.objs.size fI (.ref cda) cc))
      standAt p2.atName
      methodCall (.Call (.Name "super" p0) [] [] p1) "__init__" p2 p4 (ksEnv qual scope hp.objs.size fI (.ref cda) cc) ov 1 (backTo p4 (starEach [.Name a p3] (ksEnv qual scope hp.objs.size fI (.ref cda) cc))) []) = _
    unfold methodCall methodCallPos
    simp only [hline, Bool.or_true, if_true, pure_bind]
    rfl
  refine ks_wpAt_execs_cons (ks_wpAt_Expr_any (hi := hi) (ks_wpAt_MethodCall (he := heq) (ks_wpAt_super_base (f := fI) (cc := cda) hks hkc (by decide) rfl (X1 _ _ hf) rfl hpar rfl (X1 _ _ hcode) rfl hvs hfile htop ?_)))
  refine ks_loadName_global hk hks (loadGlobal_builtin (env := ksEnv qual scope hp.objs.size fI (.ref cda) cc) (mg := mg) (mb := mb) (hg.keeps hk₁) hms (hb.keeps hk₁) hbs ⟨rfl, ?_⟩)
  refine wpAny_loadName_free hk hkc rfl ⟨_, X1 _ _ hcell, rfl⟩ ?_
  rw [har]
  refine wpAny_loadName_local hk hself ns1 lself ?_
  refine ks_wpAny_isType_cls (hk₁ _ _ hD1) hD2 ⟨rfl, ?_⟩
  refine ks_wpAny_call_super (hk₁ _ _ hD1) hD2 he1 rfl (fun c z => by cases z) (looks_mroIn X1 hmro) (fun h₂ hso k₂ => ?_)
  have X2 := X1.keeps k₂
  have ns2 := ns1.keeps k₂
  have he2 := k₂ _ _ he1
  have hI : Looks (model prog w) h₂ (isInstance (.ref e) (.type B)) true := (InstAt.type (⟨he2, rfl, rfl, trivial⟩ : InstAt h₂ e (excO C t0) C none)).andThen (looks_subIn X2 S.sub)
  refine kxs_getMethod KF hso (looks_opaque X2 S.thd) (l₀ := cd.mro) (fun A Q E s k q => wpAny_bind ((looks_clsIn X2 hD) A _ E s k (wpAny_pure q))) rfl X2 hal hI hCne (by decide) ?_
  obtain ⟨h₃, hh3⟩ : ∃ h₃, h₃ = h₂.push (kxs_mw i e) := ⟨_, rfl⟩
  have k₃ : ∀ b o, h₂.get? b = some o → h₃.get? b = some o := fun b o z => by rw [hh3]; exact Heap.get?_push_of_some _ z
  have hu : h₃.get? h₂.objs.size = some (kxs_mw i e) := by rw [hh3]; exact Heap.get?_push_at rfl rfl
  rw [← hh3]
  have X3 := X2.keeps k₃
  have ns3 := ns2.keeps k₃
  have he3 := k₃ _ _ he2
  refine kxs_callWith (i := i) (x := e) rfl ?_
  refine Calls.evalArgs_plain (x := eval (.Name a p3) (ksEnv qual scope hp.objs.size fI (.ref cda) cc)) (rest := []) ?_
  refine Calls.spliced_cons (ESX.ldL (m := m) (v := v) ns3 la ?_ hk hka hdb)
  refine Calls.spliced_nil ⟨hu, ?_⟩
  show wpAny _ _ (call (.ref h₂.objs.size) [v]) _ _ _
  have hC3 := k₃ _ _ (k₂ _ _ (hk₁ _ _ hC))
  refine call_mw FB hC3 he3 hu (by show 1 ≤ sizeLine; rw [sizeLine_eq]; omega) fun h₄ t1 k₄ he4 => ?_
  -- self.f = a
  have ns4 : h₄.Ns hp.objs.size m := by
    obtain ⟨o, es, ep, z1, z2⟩ := ns3
    exact ⟨o, es, ep, k₄ _ _ (Ne.symm eLne) z1, z2⟩
  have X4 : K.In h₄ := fun b o z => by
    by_cases hbe : b = e
    · rw [hbe, hKe] at z; cases z
    · exact k₄ b o hbe (X3 b o z)
  refine ks_wpAt_execs_cons (ks_wpAt_Assign_Attr (wpAt_of_wpAny (ESX.ldL (m := m) (v := v) ns4 la ?_ hk hka hdb)))
  refine ESX.ldL (m := m) (v := .ref e) ns4 lself ?_ hk hself (by decide)
  refine PySem.W.set_plain X4 (ox := excO C t1) (od := none) ⟨he4, rfl, rfl, trivial⟩ S.sa ?_
  refine osa_tail X4 he4 hD htl hps hob hdict S.noat fun h₅ tk' dx k₅ hdx hdxe he5 hn5 => ?_
  refine wpAt_of_wpAny (wpAny_execs_nil ?_)
  have kall : ∀ b o, b ≠ e → hp.get? b = some o → h₄.get? b = some o := fun b o hbe z => k₄ b o hbe (k₃ _ _ (k₂ _ _ (hk₁ _ _ z)))
  have hdn : hp.get? dx = none := by
    cases z : hp.get? dx with
    | none => rfl
    | some o => exact absurd (Heap.lt_size (kall dx o hdxe z)) (Nat.not_lt.mpr hdx)
  exact hq h₅ tk' dx t1 (fun b o hbe z => k₅ b o hbe (kall b o hbe z)) hdn hdxe he5 hn5
end
section
open L2
variable {X : Cx}
theorem boot_super : bootBuiltins "super" = some (.type "super") := by first | boot_by_name | rfl | kernel_rfl
/-- C(e): the exception's dict keeps the argument -/
theorem pmk_sup {x f : Str} {C : Addr} {B i newId : String} {bmB : List Value} {e : Expr} {te : TE} {p pos : Pos} (S : SupC X.prog X.K C f B i newId bmB) (KF : KxsFacts B i) (FB : ExcBaseFacts B newId i bmB) (hps : ∀ self, refuseLoop self "__setattr__" bmB = pure ()) (hob : bmB.contains (.type "object") = true)
    (hms : X.mg "super" = none) (htop : (X.prog.main.scope.names.lookup ("super" : Str)).isSome = false) (hr : Room 1 X.A) (hg : Gl X x) (hm : X.mg x = some (.ref C)) (ha : PE X e te)
    (hdb : (x == ("__debug__" : Str)) = false := by decide) (he : starEach [e] X.env = (false, eval e X.env) :: starEach [] X.env := by rfl) (hpl : (backTo pos (starEach [] X.env)).any (·.1) = false := by rfl) :
    PMk X (.Call (.Name x p) [e] [] pos) (fun σ H Q => te σ H fun v H1 => ∀ dx, H1 dx = none → Q (.ref C) (some dx) (upd H1 dx (.xd [(f, v)]))) := by
  intro pins s σ H Q I h
  refine wpAny_Call_Name_kw (ld_glob I hg hm ?_ hdb)
  have hA : PA X [e] (tCons te tNil) := pa_cons ha pa_nil he
  refine PySem.W.callWith_K (h₀ := X.base) I.ok.mod.kin S.kp (thn (hA.run pos pins s σ H (fun vs H1 => match vs with
      | [v] => ∀ dx, H1 dx = none → Q (.ref C) (some dx) (upd H1 dx (.xd [(f, v)]))
      | _ => False) I h) fun us s1 hh => ?_) he hpl
  obtain ⟨vs, H1, I1, r1, q1⟩ := hh
  obtain ⟨v, rfl⟩ : ∃ v, vs = [v] := by
    match vs, q1 with
    | [v], _ => exact ⟨v, rfl⟩
    | [], z => exact z.elim
    | _ :: _ :: _, z => exact z.elim
  refine ⟨I1.kIn, ?_⟩
  obtain ⟨u, rfl, ru⟩ : ∃ u, us = [u] ∧ RelV v u := by
    cases r1 with
    | cons a b => cases b; exact ⟨_, rfl, a⟩
  show wpAny _ _ (call (.ref C) [u]) _ _ _
  obtain ⟨hp, g, dr, tk, os⟩ := s1
  obtain ⟨nm, N', qn, bs, bm, hdct, sn, sub, ab, col, dd, k0, k1, k2, k3, k5, hC, hT⟩ := excInit_of I1.kIn S.exc
  obtain ⟨mb, hb0, hbb⟩ := I1.ok.mod.blt
  have kk : ∀ b o, hp.get? b = some o → ((hp.push (PySem.W.kdv_tup [u])).push (excO C hp.objs.size)).get? b = some o := fun b o z => Heap.get?_push_of_some _ (Heap.get?_push_of_some _ z)
  have hget : ((hp.push (PySem.W.kdv_tup [u])).push (excO C hp.objs.size)).get? (hp.objs.size + 1) = some (excO C hp.objs.size) := by heap_get
  have hKe : X.K.lookup (hp.objs.size + 1) = none := by
    cases z : X.K.lookup (hp.objs.size + 1) with
    | none => rfl
    | some o => exact absurd (Heap.lt_size (I1.kIn _ _ z)) (by show ¬ hp.objs.size + 1 < hp.objs.size; omega)
  have fin : ∀ (h' : Heap) (tk' dx : Nat) (t1 : Addr), (∀ b o, b ≠ hp.objs.size + 1 → ((hp.push (PySem.W.kdv_tup [u])).push (excO C hp.objs.size)).get? b = some o → h'.get? b = some o) → ((hp.push (PySem.W.kdv_tup [u])).push (excO C hp.objs.size)).get? dx = none → dx ≠ hp.objs.size + 1 →
      h'.get? (hp.objs.size + 1) = some { cls := .ref C, dict := some dx, data := .fields #[.ref t1, .none, .none, .none, .bool false, .none] } → h'.Ns1 dx (fun y => if y = f then some u else none) →
      W.InitBack (hp.objs.size + 1) (fun r s' => match r with
      | .ok (.ret v) => MkP X pins σ Q v s'
      | .ok _ => False
      | .error e => X.xe e s') (.ok (.ret .none)) ⟨h', g, dr, tk', os⟩ := by
    intro h' tk' dx t1 k' hdn hdx he' hn'
    obtain ⟨G, g1, g2⟩ := restrict h' fun b => decide (b ≠ hp.objs.size + 1)
    have gk : ∀ b, b ≠ hp.objs.size + 1 → G.get? b = h'.get? b := fun b hb => g1 b (decide_eq_true hb)
    have ge : G.get? (hp.objs.size + 1) = none := g2 _ (by simp)
    have nb : ∀ {b : Addr} {o : Obj}, hp.get? b = some o → b ≠ hp.objs.size + 1 := fun {b o} z => Nat.ne_of_lt (Nat.lt_succ_of_lt (Heap.lt_size z))
    have kG : ∀ b o, hp.get? b = some o → G.get? b = some o := fun b o z => (gk b (nb z)).trans (k' b o (nb z) (kk b o z))
    have hdn0 : hp.get? dx = none := by
      cases z : hp.get? dx with
      | none => rfl
      | some o => rw [kk _ _ z] at hdn; cases hdn
    have hd1 : H1 dx = none := I1.hok.gone hdn0
    have he1 : H1 (hp.objs.size + 1) = none := I1.hok.fresh (Nat.le_succ _)
    have J : Inv X pins σ (upd H1 dx (.xd [(f, v)])) ⟨G, g, dr, tk', os⟩ := I1.laidN (t' := tk') (o := .xd [(f, v)]) kG hdn0 hd1 ⟨_, hn'.at fun o y => (gk dx hdx).trans y, fun y => by
      show RelO (List.lookup y [(f, v)]) (if y = f then some u else none)
      rw [List.lookup_cons]
      by_cases e : y = f
      · subst e; simp; exact ru
      · have : (y == f) = false := by simpa using e
        rw [this, if_neg e]; exact True.intro⟩
    exact ⟨rfl, _, _, _, ⟨G, g, dr, tk', os⟩, _, .ref C, some dx, rfl, J, fun b o z => by
      by_cases hb : b = hp.objs.size + 1
      · rw [hb, ge] at z; cases z
      · exact (gk b hb).symm.trans z, ge, he', ⟨rfl, rfl⟩, rfl, rfl, by rw [upd_ne (Ne.symm hdx)]; exact he1, rfl, I1.bare, raises_own S.exB S.ty, q1 dx hd1⟩
  obtain ⟨fI, iC, tI, run⟩ := init_run (w := X.w) (A := X.A.under (.builtin "type.__call__" ⟨.ref C :: [u], []⟩)) (R := W.InitBack (hp.objs.size + 1) (fun r s' => match r with
      | .ok (.ret v) => MkP X pins σ Q v s'
      | .ok _ => False
      | .error e => X.xe e s')) (g := g) (d := dr) (t := tk) (os := os) (v := u) S KF FB hps hob (I1.kIn.keeps kk) ((I1.mod.glob.keeps I1.bk).keeps kk) ((hb0.keeps I1.bk).keeps kk) hms ((hbb _ (by decide +kernel)).trans boot_super) (I1.nolimit.keeps kk) htop (hr.make C [u] []).depth hget hKe fin
  refine wpAny_call (PySem.HandSPX.call_own FB hT hC (PySem.W.looks_findIn I1.kIn iC) (fun self => PySem.W.bind_fn I1.kIn self tI) (by show 1 ≤ sizeLine; rw [sizeLine_eq]; omega) (codeAny_mono run fun r s' z => ?_))
  cases r with
  | error e => exact z
  | ok fl =>
    cases fl with
    | ret v =>
      exact z
    | next => exact z
    | brk => exact z
    | cont => exact z
end
end MiE

/-! MiF: several except clauses, some with a name. -/
namespace MiF
open PySem PySem.Spec PyProof.Rows L2
/-- a clause: its class, the name's slot if it has one, what its suite does -/
structure Cl where
  c : Value
  nm : Option Nat
  ts : Addr → Value → Option Addr → TS
/-- the ends behind a suite whose name goes -/
def behind (nm : Option Nat) (D : Ends) : Ends := match nm with
  | none => D
  | some i => { nx := fun σ H => D.nx (σ.set i none) H, rt := D.rt, bk := fun σ H => D.bk (σ.set i none) H, ct := fun σ H => D.ct (σ.set i none) H }
def ahead (nm : Option Nat) (a : Addr) (σ : L2.St) : L2.St := match nm with
  | none => σ
  | some i => σ.set i (some (.ref a))
/-- what the clauses wish of an exception of the body -/
def wMix (K : PySem.W.Frag) (Wout : WX) (D : Ends) : List Cl → WX
  | [] => Wout
  | x :: r => fun cls d σ H => ∃ b, PySem.W.exmOne K cls x.c = some b ∧ (b = true → ∀ a, H a = none → x.ts a cls d (behind x.nm D) (ahead x.nm a σ) H) ∧ (b = false → wMix K Wout D r cls d σ H)
inductive ClsOk (X : Cx) : List ExceptHandler → List Cl → Prop
  | nil : ClsOk X [] []
  | plain {x : Str} {c : Value} {ts : Addr → Value → Option Addr → TS} {b₀ : Stmt} {suite : List Stmt} {np pos' : Pos} {hds : List ExceptHandler} {l : List Cl} (hc : Names X x c)
      (hsu : ∀ (a : Addr) (oe : Obj) (cls : Value) (d : Option Addr) (pn : List (Addr × Obj)), Zc cls d oe → (∃ vs, oe.data = .fields vs) → PSs (X.suite a ((a, oe) :: pn)) (b₀ :: suite) (ts a cls d)) (r : ClsOk X hds l) :
      ClsOk X (.ExceptHandler (some (.Name x np)) none (b₀ :: suite) pos' :: hds) (⟨c, none, ts⟩ :: l)
  | named {x n : Str} {i : Nat} {c : Value} {ts : Addr → Value → Option Addr → TS} {b₀ : Stmt} {suite : List Stmt} {np pos' : Pos} {hds : List ExceptHandler} {l : List Cl} (hN : X.N.Nodup) (hi : X.N[i]? = some n) (hln : X.env.kindOf n = some .local) (hc : Names X x c)
      (hsu : ∀ (a : Addr) (oe : Obj) (cls : Value) (d : Option Addr) (pn : List (Addr × Obj)), Zc cls d oe → (∃ vs, oe.data = .fields vs) → PSs (X.suite a ((a, oe) :: pn)) (b₀ :: suite) (ts a cls d)) (r : ClsOk X hds l) :
      ClsOk X (.ExceptHandler (some (.Name x np)) (some n) (b₀ :: suite) pos' :: hds) (⟨c, some i, ts⟩ :: l)
section
variable {X : Cx} {body : List Stmt} {h₀ : ExceptHandler} {hds : List ExceptHandler} {l : List Cl} {pos : Pos} {tb : WX → TS} {Wout : WX}
theorem ps_try_mix (hs : X.stack = X.env :: X.outer) (hf : X.env.frame = some X.env.locals) (tk : Takes X Wout)
    (hb : ∀ (W : WX) (pn : List (Addr × Obj)) (xe : Value → Shared → Prop), Takes (X.tr pn xe) W → PassesOwn (model X.prog X.w) X.A X.env xe → PSs (X.tr pn xe) body (tb W))
    (hh : ClsOk X (h₀ :: hds) l) : PS X (.Try body (h₀ :: hds) [] [] pos) (fun D σ H => tb (wMix X.K Wout D l) D σ H) := by
  refine ⟨fun pins s σ H D I h => ?_⟩
  have ok := I.ok
  have hfr : X.A.frames = some (X.env :: X.outer) := by rw [ok.frames, hs]
  refine wpAny_Try_except ?_
  refine wpAny_mono ((hb (wMix X.K Wout D l) (X.pn ++ pins) (fun e s₁ => wpAny (model X.prog X.w) X.A (noteFrame e X.env) (fun _ s₂ => wpAny (model X.prog X.w) X.A (setFlight e none) (fun _ s₃ =>
    wpAny (model X.prog X.w) X.A (handleBy e X.env (h₀ :: hds)) (SP X pins D) X.xe s₃) X.xe s₂) X.xe s₁) (fun u s' xx => ?_) PassesOwn.looking).run [] s σ H D (I.toTry _) h) (fun f s1 hsp => ?_) (fun e s1 he => he)
  · obtain ⟨a, B, sI, pins', σ', H', cls, d, rfl, J', nb, up, sky, na, os, ag, w⟩ := xx
    have J : Inv X pins σ' H' sI := J'.ofTry ok
    show wpAny (model X.prog X.w) X.A (noteFrame (.ref a) X.env) _ _ _
    refine Sky.land Zc.steady hfr hf (by rw [← hs]; exact sky) fun h3 fl3 up3 => ?_
    have J3 : Inv X pins σ' H' { s' with heap := h3 } := J.landed nb fl3.1 (up.trans up3) os ag
    obtain ⟨oe3, vs3, he3, hz3, hd3⟩ := fl3.there
    have nfr : a ∉ frs (X.env :: X.outer) := fun hm => by
      obtain ⟨_, o', e', hnf⟩ := fl3.2.2.1.mem hm
      rw [he3] at e'
      cases e'
      exact hnf _ hd3
    have nL : a ≠ X.env.locals := fun z => nfr (List.mem_filterMap.mpr ⟨X.env, List.mem_cons_self, by rw [hf, z]⟩)
    have nF : a ∉ X.fs := fun hm => by
      obtain ⟨e, he, q⟩ := List.mem_filterMap.mp hm
      exact nfr (List.mem_filterMap.mpr ⟨e, List.mem_cons_of_mem _ he, q⟩)
    have S3 := J3.suite he3 hd3 na nL nF
    have LT : PySem.W.Looks (model X.prog X.w) h3 (typeOf (.ref a)) cls := fun A Q E s k q => wpAny_typeOf_ref (k _ _ he3) (by rw [hz3.1]; exact q)
    have test : ∀ {x : Str} {c : Value} {np : Pos} {Q : Value → Shared → Prop} {E : Value → Shared → Prop}, Names X x c → Q c { s' with heap := h3 } → wpAny (model X.prog X.w) (X.A.mark (some (.ref a))) (eval (.Name x np) X.env) Q E { s' with heap := h3 } := fun {x c np Q E} hc q => by
      obtain ⟨hg, hdbg, hm | ⟨hm, hv, hnn⟩⟩ := hc
      · exact ld_glob (X := X.suite a ((a, oe3) :: (X.pn ++ pins))) S3 hg hm q hdbg
      · exact ld_blt (X := X.suite a ((a, oe3) :: (X.pn ++ pins))) S3 hg hm hv q hnn hdbg
    have go : ∀ {hds' : List ExceptHandler} {l' : List Cl}, ClsOk X hds' l' → wMix X.K Wout D l' cls d σ' H' →
        wpAny (model X.prog X.w) X.A (handleBy (.ref a) X.env hds') (SP X pins D) X.xe { s' with heap := h3 } := by
      intro hds' l' hk
      induction hk with
      | nil =>
        intro w
        refine wpAny_handleBy_nil ?_
        obtain ⟨k1, k2, k3, oe, vs, T, oT, ts', he, hz, hd, h1, hr⟩ := id fl3
        unfold PySem.passOn
        refine wpAny_bind (wpAny_field he hd h1 ?_)
        rw [if_neg (show ¬ ((Value.ref T == Value.none) = true) from by simp)]
        have fin : wpAny (model X.prog X.w) X.A (setFlight (.ref a) X.env.frame) (fun _ s4 => wpAny (model X.prog X.w) X.A (throw (.ref a) : Sem Flow) (SP X pins D) X.xe s4) X.xe { s' with heap := h3 } := by
          rw [hf]
          refine HandSPX.setFlight_upZ fl3 fun h4 hh4 up4 => wpAny_throw (tk _ _ ?_)
          exact ⟨a, B, sI, pins, σ', H', cls, d, rfl, J, nb, (up.trans up3).trans up4, .inr (.inr (by rw [hs]; exact hh4)), na, os, ag, w⟩
        first
          | exact wpAny_bind (wpAny_pure (wpAny_bind fin))
          | exact wpAny_bind fin
      | @plain x c ts b₀ suite np pos' hds2 l2 hc hsu r ih =>
        rintro ⟨b, hb1, hyes, hno⟩
        refine wpAny_handleBy_cons (codeAny_handlers_test ?_) (by intro q; cases q)
        refine test hc ((PySem.W.exm_one (M := model X.prog X.w) J3.kIn LT hb1).here ?_)
        cases b with
        | true =>
          refine codeAny_handlers_suite (HandSPX.lands_againZ fl3 fun h4 fl4 up4 => ?_)
          have J4 : Inv X pins σ' H' { s' with heap := h4 } := J.landed nb fl4.1 ((up.trans up3).trans up4) os ag
          obtain ⟨oe4, vs4, he4, hz4, hd4⟩ := fl4.there
          refine wpAny_mono ((hsu a oe4 cls d (X.pn ++ pins) hz4 ⟨_, hd4⟩).run [] _ _ H' _ (J4.suite he4 hd4 na nL nF) (hyes rfl a na)) (fun f s6 hsp => ?_) (fun _ _ z => False.elim z)
          cases f with
          | next => obtain ⟨σ6, H6, S6, q6⟩ := hsp; exact ⟨_, _, S6.unsuite ok, q6⟩
          | brk => obtain ⟨σ6, H6, S6, q6⟩ := hsp; exact ⟨_, _, S6.unsuite ok, q6⟩
          | cont => obtain ⟨σ6, H6, S6, q6⟩ := hsp; exact ⟨_, _, S6.unsuite ok, q6⟩
          | ret u => obtain ⟨v6, σ6, H6, S6, r6, q6⟩ := hsp; exact ⟨_, _, _, S6.unsuite ok, r6, q6⟩
        | false => exact ih (hno rfl)
      | @named x n i c ts b₀ suite np pos' hds2 l2 hN hi hln hc hsu r ih =>
        rintro ⟨b, hb1, hyes, hno⟩
        refine wpAny_handleBy_cons (codeAny_handlers_test ?_) (by intro q; cases q)
        refine test hc ((PySem.W.exm_one (M := model X.prog X.w) J3.kIn LT hb1).here ?_)
        cases b with
        | true =>
          refine codeAny_handlers_suite_as (HandSPX.lands_againZ fl3 fun h4 fl4 up4 => ?_)
          have J4 : Inv X pins σ' H' { s' with heap := h4 } := J.landed nb fl4.1 ((up.trans up3).trans up4) os ag
          obtain ⟨oe4, vs4, he4, hz4, hd4⟩ := fl4.there
          refine store_ok (X := X.suite a ((a, oe4) :: (X.pn ++ pins))) (v := .ref a) (J4.suite he4 hd4 na nL nF) hN hi (.inl hln) rfl (fun s5 S5 => ?_) (.inr hln)
          refine wpAny_mono ((hsu a oe4 cls d (X.pn ++ pins) hz4 ⟨_, hd4⟩).run [] s5 _ H' _ S5 (hyes rfl a na)) (fun f s6 hsp => ?_) (fun _ _ z => False.elim z)
          have end_ : ∀ {σ6 : L2.St} {H6 : Hp} {Q : Shared → Prop}, Inv (X.suite a ((a, oe4) :: (X.pn ++ pins))) [] σ6 H6 s6 → (∀ s7, Inv X pins (σ6.set i none) H6 s7 → Q s7) →
              wpAny (model X.prog X.w) X.A (do bindName X.env n .none; unbindBehindTheSuite X.env n pos') (fun _ s7 => Q s7) X.xe s6 := fun {σ6 H6 Q} S6 hq => gone_ok (S6.unsuite ok) hN hi hln hq
          cases f with
          | next => obtain ⟨σ6, H6, S6, q6⟩ := hsp; exact end_ S6 fun s7 J7 => ⟨_, _, J7, q6⟩
          | brk => obtain ⟨σ6, H6, S6, q6⟩ := hsp; exact end_ S6 fun s7 J7 => ⟨_, _, J7, q6⟩
          | cont => obtain ⟨σ6, H6, S6, q6⟩ := hsp; exact end_ S6 fun s7 J7 => ⟨_, _, J7, q6⟩
          | ret u => obtain ⟨v6, σ6, H6, S6, r6, q6⟩ := hsp; exact end_ S6 fun s7 J7 => ⟨_, _, _, J7, r6, q6⟩
        | false => exact ih (hno rfl)
    exact go hh w
  · cases f with
    | next => obtain ⟨σ', H', J', q⟩ := hsp; exact wpAny_execs_nil ⟨σ', H', J'.ofTry ok, q⟩
    | brk => obtain ⟨σ', H', J', q⟩ := hsp; exact ⟨σ', H', J'.ofTry ok, q⟩
    | cont => obtain ⟨σ', H', J', q⟩ := hsp; exact ⟨σ', H', J'.ofTry ok, q⟩
    | ret u => obtain ⟨v, σ', H', J', r, q⟩ := hsp; exact ⟨v, σ', H', J'.ofTry ok, r, q⟩
end
end MiF

/-! Mi4: the text's expressions compute what the small language computes: rule by rule. -/
namespace Mi
open PySem PySem.Spec PyProof.Rows L2

/-- the built-ins' names that the small language knows -/
def BN : List Str := ["abs", "max", "min", "int", "len", "sum", "all", "any", "tuple", "list", "range", "enumerate", "zip", "isinstance", "bool", "str", "sorted", "reversed", "repr", "super"]
/-- what is known of an exception's class at C -/
structure ClsOk (prog : Program) (K : PySem.W.Frag) (mg : Str → Option Value) (c : CE) (C : Addr) : Prop where
  glo : mg c.x = some (.ref C)
  kp : PySem.W.keepIn K (.ref C) = true
  exB : PySem.W.subIn K (.ref C) (.type "BaseException") = some true
  ty : PySem.W.typeIn K (.ref C) = some (.type "type")
  xf : XfC K C
  made : match c.f with
    | none => ∃ (B newId initId : String) (bmB : List Value), ExcBaseFacts B newId initId bmB ∧ PySem.W.excIn K C bmB newId = true
    | some f => PySem.W.findIn K (.ref C) f = some none ∧ ∃ (B i newId : String) (bmB : List Value), MiE.SupC prog K C f B i newId bmB ∧ PySem.W.KxsFacts B i ∧ ExcBaseFacts B newId i bmB ∧
        (∀ self, refuseLoop self "__setattr__" bmB = pure ()) ∧ bmB.contains (.type "object") = true
/-- which classes a clause over the class j takes -/
def takenBy (G : CG) (j : Nat) : List Nat := (List.range G.cls.length).filter fun i => match G.cls[i]? with
  | some c => c.sup.contains j
  | none => false
/-- a clause, from the text: n: the name that it may bind -/
def hdOf (G : CG) (sc : Scope) (n : Str) : ExceptHandler → Option (Nat × Hd)
  | .ExceptHandler (some (.Name x _)) none [.Return (some (.Constant (.str t) _ _)) _] _ => match clsNum G x with
    | some j => if isGl sc x && okName x then some (j, ⟨takenBy G j, t, false⟩) else none
    | none => none
  | .ExceptHandler (some (.Name x _)) (some m) [.Return (some (.BinOp (.Constant (.str t) _ _) .Add (.Call (.Name r _) [.Attribute (.Name m2 _) f _] [] _) _)) _] _ => match clsNum G x with
    | some j => match G.cls[j]? with
      | some c => if (isGl sc x && okName x && isGl sc ("repr" : Str)) = true ∧ r = ("repr" : Str) ∧ m = n ∧ m2 = n ∧ c.f = some f ∧ takenBy G j = [j] then some (j, ⟨[j], t, true⟩) else none
      | none => none
    | none => none
  | _ => none
def hdsOf (G : CG) (sc : Scope) (n : Str) : List ExceptHandler → Option (List (Nat × Hd))
  | [] => some []
  | h :: r => match hdOf G sc n h, hdsOf G sc n r with
    | some x, some xs => some (x :: xs)
    | _, _ => none
/-- a def that tells what a call raises, from its text: a: its parameter; its clauses, its last text -/
def metOf (G : CG) (sc : Scope) (a n : Str) : List Stmt → Option (List (Nat × Hd) × Str)
  | [.Try [.Expr (.Call (.Name x _) [] [] _) _] (h :: hs) [] [] _, .Return (some (.Constant (.str t) _ _)) _] => if x = a ∧ (isLoc sc a && isLoc sc n && okName a && okName n && !(a == n)) = true then match hdsOf G sc n (h :: hs) with
      | some l => some (l, t)
      | none => none
    else none
  | _ => none
/-- what is known of such a def -/
structure MetOk (G : CG) (K : PySem.W.Frag) (mg : Str → Option Value) (f : Str) (hs : List Hd) (nt : Str) : Prop where
  ex : ∃ (st : Stmt) (fa : Addr) (a n : Str) (l : List (Nat × Hd)) (oc : Value) (od : Option Addr) (dV kV doc pm : Value) (an : Option Addr) (cdv ct : Value) (osl : Array (Option Value)), mg f = some (.ref fa) ∧ PySem.W.keepIn K (.ref fa) = true ∧
    K.lookup fa = some ⟨oc, od, .func (PySem.W.fnOf f f (defArgs st) (defBody st) (defScope st) dV kV doc pm an cdv ct), osl⟩ ∧ PySem.W.codeIn K cdv f = true ∧
    Binds K (PySem.W.fnOf f f (defArgs st) (defBody st) (defScope st) dV kV doc pm an cdv ct) [a] [] ∧ FnScope [a, n] [a] (defScope st) ∧ metOf G (defScope st) a n (defBody st) = some (l, nt) ∧ l.map (·.2) = hs
structure GOk (G : CG) (g : GE) (K : PySem.W.Frag) (mg : Str → Option Value) : Prop where
  hK : g.K = K
  ask : ∀ i, g.ask i = G.asks i
  low : ∀ (i : Nat) (a : Addr), g.fa i = some a → ∃ x, G.fns[i]? = some x
  fn : ∀ (i : Nat) (x : Str), G.fns[i]? = some x → ∃ a, g.fa i = some a ∧ mg x = some (.ref a) ∧ PySem.W.keepIn K (.ref a) = true
  cst : ∀ (x : Str) (v : MV), G.cst.lookup x = some v → ∃ u w, mg x = some u ∧ RelV w u ∧ NL v ∧ ∀ ρ H, RV g ρ H v w
  blt : ∀ x, x ∈ BN → mg x = none

abbrev RelH (g : GE) (ρ : Rh) (hm : Hm) (H : Hp) : Prop := Rel g ρ [] hm [] H
/-- what a def's call wants -/
def FinC (g : GE) (ρ : Rh) (H : Hp) (r : Res MV) (Q : VK) (E : XK) : Prop := match r with
  | .ok v h => ∀ ρ' H' x, Post ρ H ρ' H' → RelH g ρ' h H' → RV g ρ' H' v x → (∀ a, TV v x a → Fr H a ∧ ρ'.b a) → Q x H'
  | .ex e h => ∀ ρ' H' c d, Post ρ H ρ' H' → RelH g ρ' h H' → EXR g ρ' H' e c d → E c d H'
/-- the promise of the i-th def: it does what the small language does -/
def spM (g : GE) (P : List FnD) (d : Nat) (i : Nat) : Sp := fun vs H Q E => ∃ ρ0 H0 ρ hm xs r, (∀ a, ρ0.b a → ¬ Fr H0 a) ∧ Post ρ0 H0 ρ H ∧ RelH g ρ hm H ∧ RVs g ρ H xs vs ∧ Apart xs vs ∧ (∀ a, TVs xs vs a → Fr H0 a ∧ ρ.b a) ∧ calls P d i xs hm = some r ∧ FinC g ρ0 H0 r Q E

/-- a def's promise, asked for where no repr is under way, if γ -/
structure FnG (γ : Bool) (P : Program) (w : World) (K : PySem.W.Frag) (mg : Str → Option Value) (base : Heap) (CX : CXT) (k : Nat) (f : Addr) (fd : FuncData) (ps : List Str) (sp : Sp) : Prop where
  len : ∀ vs H Q E, sp vs H Q E → vs.length = ps.length
  run : ∀ (A : Around) (outer : List Env) (s : Shared) (H : Hp) (args : Args) (us : List Value) (vs : List V) (Q : VK) (E : XK), (γ = true → A.guards = some []) → Room k A → Env0 P w K mg base A outer s H → BindsTo s fd args (ps.zip us) → Vals vs us → sp vs H Q E →
    codeAny (model P w) A (.call (.ref f) args) (CR CX outer P w H s Q E) s
theorem FnG.mono {γ : Bool} {P : Program} {w : World} {K : PySem.W.Frag} {mg : Str → Option Value} {base : Heap} {CX : CXT} {j k : Nat} {f : Addr} {fd : FuncData} {ps : List Str} {sp : Sp} (F : FnG γ P w K mg base CX j f fd ps sp) (h : j ≤ k) : FnG γ P w K mg base CX k f fd ps sp :=
  ⟨F.len, fun A outer s H args us vs Q E hg hr => F.run A outer s H args us vs Q E hg (hr.mono h)⟩
/-- a class of instances that never change -/
def OInit (K : PySem.W.Frag) (fa : Addr) (fd : FuncData) : Prop := ∃ (name qual : Str) (params : Arguments) (body : List Stmt) (scope : Scope) (kV doc pm cdv ct oc : Value) (an od : Option Addr) (osl : Array (Option Value)),
  fd = PySem.W.fnOf name qual params body scope .none kV doc pm an cdv ct ∧ K.lookup fa = some ⟨oc, od, .func fd, osl⟩ ∧ PySem.W.codeIn K cdv qual = true ∧ FnScope MiO.fmN MiO.fmN scope ∧ MiO.fmB body = true ∧ Binds K fd MiO.fmN []
def OGet (K : PySem.W.Frag) (C fa : Addr) (i : Nat) : Prop := ∃ (f name qual : Str) (p : Addr) (params : Arguments) (body : List Stmt) (scope : Scope) (kV doc pm cdv ct oc : Value) (an od : Option Addr) (osl : Array (Option Value)),
  K.lookup fa = some ⟨oc, od, .func (PySem.W.fnOf name qual params body scope .none kV doc pm an cdv ct), osl⟩ ∧ PySem.W.codeIn K cdv qual = true ∧ FnScope ["self"] ["self"] scope ∧ MiO.gtB f body = true ∧ SlX.Slot1 K C f p i ∧ Binds K (PySem.W.fnOf name qual params body scope .none kV doc pm an cdv ct) ["self"] []
structure ObjOk (g : GE) (K : PySem.W.Frag) (mg : Str → Option Value) (c : Nat) (oe : OE) (C : Addr) : Prop where
  oc : g.oc c = some C
  mg : mg oe.x = some (.ref C)
  fc : MiO.FmCls K C
  isi : SlX.SIsi K C
  self : PySem.W.kitOne K (.ref C) (.ref C) = some true
  kit : ∀ t ∈ (["NoneType", "int", "bool", "str", "tuple", "list", "dict"] : List String), PySem.W.kitOne K (.type t) (.ref C) = some false
  ini : ∃ fa fd, L2.Mk K C fa ∧ OInit K fa fd
  slots : ∀ f i, oe.slots.lookup f = some i → ∃ p, SlX.Slot1 K C f p i
  props : ∀ f i, oe.props.lookup f = some i → ∃ p ga, PySem.W.findIn K (.ref C) f = some (some (.ref p)) ∧ PySem.W.specialIn K (.ref p) "__get__" = some (some (.builtin "property.__get__")) ∧ PySem.W.takesIn K (.ref p) = some true ∧ (∃ rest, PySem.W.recIn K p "property" = some (.ref ga :: rest)) ∧ OGet K C ga i
/-- the program's classes of exceptions, the defs that tell what a call raises -/
structure PgOk (G : CG) (g : GE) (prog : Program) (K : PySem.W.Frag) (mg : Str → Option Value) : Prop where
  top : (prog.main.scope.names.lookup ("super" : Str)).isSome = false
  cls : ∀ (i : Nat) (c : CE), G.cls[i]? = some c → ∃ C, g.ca i = some (C, c.f.getD Str.empty) ∧ ClsOk prog K mg c C
  exm : ∀ (i j : Nat) (c : CE) (C D : Addr) (f f' : Str), G.cls[i]? = some c → g.ca i = some (C, f) → g.ca j = some (D, f') → PySem.W.exmOne K (.ref C) (.ref D) = some (c.sup.contains j)
  low : ∀ (i : Nat) (C : Addr) (f : Str), g.ca i = some (C, f) → ∃ c, G.cls[i]? = some c
  met : ∀ (f : Str) (hs : List Hd) (nt : Str), G.mets.lookup f = some (hs, nt) → MetOk G K mg f hs nt
  obj : ∀ (c : Nat) (oe : OE), G.objs[c]? = some oe → ∃ C, ObjOk g K mg c oe C
/-- where lambdas are made -/
structure LamOk (g : GE) (d : Nat) (X : Cx) : Prop where
  room : Room (3 * d + 2) X.A
  ex : ∃ c P : Addr, X.env.code = .ref c ∧ LamX.TabB X.base X.mg c P ∧ (P, X.env.qual ++ "<lambda>") ∈ g.tabs ∧ ∀ p ∈ g.tabs, p.1 = P → p.2 = X.env.qual ++ "<lambda>"
structure XOk (G : CG) (g : GE) (P : List FnD) (d : Nat) (W : WX) (sc : Scope) (X : Cx) : Prop where
  go : GOk G g X.K X.mg
  nd : X.N.Nodup
  calm : X.calm = true
  sc : X.env.scope = sc
  room : Room (3 * d) X.A
  gd : G.gd = true → X.A.guards = some []
  fn : ∀ (i : Nat) (x : Str) (a : Addr), G.fns[i]? = some x → g.fa i = some a → ∃ fd ps, FnG (G.asks i) X.prog X.w X.K X.mg X.base (L2.CX X.prog X.w) (3 * d) a fd ps (spM g P d i) ∧ Binds X.K fd ps []
  tk : Takes X W
  pg : PgOk G g X.prog X.K X.mg
  lam : G.mets ≠ [] → LamOk g d X

theorem Rel.noLoc {g : GE} {ρ : Rh} {σm : Loc} {hm : Hm} {σ : L2.St} {H : Hp} (R : Rel g ρ σm hm σ H) : RelH g ρ hm H := ⟨R.len, R.nd, R.obj, R.pur, rfl, fun i v h => by simp at h, fun i xs h => by simp at h, R.blk, R.tab⟩
theorem Rel.after {g : GE} {ρ ρ' : Rh} {σm : Loc} {hm hm' : Hm} {σ : L2.St} {H H' : Hp} (R : Rel g ρ σm hm σ H) (p : Post ρ H ρ' H') (R' : RelH g ρ' hm' H') : Rel g ρ' σm hm' σ H' :=
  ⟨R'.len, R'.nd, R'.obj, R'.pur, R.slen, fun i v h => by
    obtain ⟨x, e, r⟩ := R.loc i v h
    exact ⟨x, e, r.post p R.noT⟩, R.nol, R'.blk, R'.tab⟩

theorem slot_get {N : List Str} {x : Str} {i : Nat} (h : slot N x = some i) : N[i]? = some x := by
  unfold slot at h
  obtain ⟨hi, e, _⟩ := List.findIdx?_eq_some_iff_getElem.mp h
  rw [List.getElem?_eq_getElem hi]
  exact congrArg some (eq_of_beq e)
theorem okName_d {x : Str} (h : okName x = true) : (x == ("__debug__" : Str)) = false := by
  unfold okName at h
  simp only [Bool.and_eq_true, Bool.not_eq_true'] at h
  exact h.1.1
theorem okName_c {x : Str} (h : okName x = true) : (x == ("__classdict__" : Str)) = false := by
  unfold okName at h
  simp only [Bool.and_eq_true, Bool.not_eq_true'] at h
  exact h.1.2
theorem okName_n {x : Str} (h : okName x = true) : x ≠ "__name__" := by
  unfold okName at h
  simp only [Bool.and_eq_true, Bool.not_eq_true'] at h
  exact fun e => by
    have := h.2
    rw [e] at this
    simp at this
theorem isVis_of {sc : Scope} {x : Str} (h : isVis sc x = true) : Vis sc x := by
  unfold isVis at h
  split at h
  · exact .inl (by assumption)
  · exact .inr (.inl (by assumption))
  · exact .inr (.inr (by assumption))
  · cases h
theorem isGl_of {sc : Scope} {x : Str} (h : isGl sc x = true) : sc.names.lookup x = some .globalImplicit := by
  unfold isGl at h
  split at h
  · assumption
  · cases h

theorem isLoc_of {sc : Scope} {x : Str} (h : isLoc sc x = true) : sc.names.lookup x = some .local := by
  unfold isLoc at h
  split at h
  · assumption
  · cases h
theorem isCell_of {sc : Scope} {x : Str} (h : isCell sc x = true) : sc.names.lookup x = some .cell := by
  unfold isCell at h
  split at h
  · assumption
  · cases h
section
variable {G : CG} {g : GE} {P : List FnD} {d : Nat} {W : WX} {sc : Scope} {X : Cx}

abbrev SE (g : GE) (P : List FnD) (d : Nat) (W : WX) (X : Cx) (e : Expr) (m : ME) : Prop := PE X e (LE g W (evalE (calls P d) m))
abbrev SA (g : GE) (P : List FnD) (d : Nat) (W : WX) (X : Cx) (e : List Expr) (m : List ME) : Prop := PA X e (LA g W (evalEs (calls P d) m))
abbrev ST (g : GE) (P : List FnD) (d : Nat) (W : WX) (X : Cx) (e : Expr) (m : ME) : Prop := PT X e (LT g W (evalC (calls P d) (some m)))
abbrev SO (g : GE) (P : List FnD) (d : Nat) (W : WX) (X : Cx) (e : Option Expr) (m : Option ME) : Prop := PO X e (L g W (kB (α := Option Int)) (evalO (calls P d) m))

theorem XOk.gl (ok : XOk G g P d W sc X) {x : Str} (h : isGl sc x = true) : Gl X x := by
  show X.env.scope.names.lookup x = _
  rw [ok.sc]
  exact isGl_of h
theorem s_var (ok : XOk G g P d W sc X) {x : Str} {pos : Pos} {i : Nat} (hv : isVis sc x = true) (ho : okName x = true) (hi : slot X.N x = some i) : SE g P d W X (.Name x pos) (.var i) := by
  refine PE.imp (pe_var (slot_get hi) (by rw [ok.sc]; exact isVis_of hv) (okName_d ho) (okName_c ho)) fun σ H Q ⟨ρ, σm, hm, r, R, e, F⟩ => ?_
  simp only [evalE] at e
  split at e
  · rename_i v hv
    cases e
    obtain ⟨x, e1, r1⟩ := R.loc _ _ hv
    exact ⟨x, e1, F.okE R r1 (nol_NL (R.nol _ v hv))⟩
  · cases e
theorem s_glob (ok : XOk G g P d W sc X) {x : Str} {pos : Pos} {v : MV} (hg : isGl sc x = true) (ho : okName x = true) (hc : G.cst.lookup x = some v) : SE g P d W X (.Name x pos) (.cst v) := by
  obtain ⟨u, w, h1, h2, nl, h3⟩ := ok.go.cst x v hc
  refine PE.imp (pe_glob (ok.gl hg) h1 h2 (okName_d ho)) fun σ H Q ⟨ρ, σm, hm, r, R, e, F⟩ => ?_
  simp only [evalE] at e
  cases e
  exact F.okE R (h3 ρ H) nl
theorem s_fn (ok : XOk G g P d W sc X) {x : Str} {pos : Pos} {i : Nat} (hg : isGl sc x = true) (ho : okName x = true) (hi : fnNum G x = some i) (hq : G.asks i = false) : SE g P d W X (.Name x pos) (.cst (.fn i)) := by
  obtain ⟨a, h1, h2, h3⟩ := ok.go.fn i x (slot_get hi)
  refine PE.imp (pe_glob (ok.gl hg) h2 (show RelV (.ref a) (Value.ref a) from rfl) (okName_d ho)) fun σ H Q ⟨ρ, σm, hm, r, R, e, F⟩ => ?_
  simp only [evalE] at e
  cases e
  exact F.okE R (.fn h1 (by rw [ok.go.ask]; exact hq)) (fun _ h => nomatch h)
theorem s_edc {pos : Pos} : SE g P d W X (.Dict [] [] pos) .edc := by
  refine PE.imp pe_dnewK fun σ H Q ⟨ρ, σm, hm, r, R, e, F⟩ => ?_
  simp only [evalE] at e
  cases e
  intro p n
  obtain ⟨P1, R1, o1⟩ := R.laid (o := .dK []) n
  exact F ρ _ _ P1 R1 (.edc upd_same o1.1) fun a ⟨⟨xs, e⟩, _⟩ => nomatch e
theorem s_cst {e : Expr} {v : MV} {w : V} (h : PE X e (tC w)) (nl : NL v) (hr : ∀ ρ H, RV g ρ H v w) : SE g P d W X e (.cst v) := by
  refine PE.imp h fun σ H Q ⟨ρ, σm, hm, r, R, e, F⟩ => ?_
  simp only [evalE] at e
  cases e
  exact F.okE R (hr ρ H) nl
theorem s_bin (ok : XOk G g P d W sc X) {a b : Expr} {x y : ME} {o : Operator} {bo : BO} {pos : Pos} (ho : boOf o = some bo) (ha : SE g P d W X a x) (hb : SE g P d W X b y) : SE g P d W X (.BinOp a o b pos) (.bin bo x y) := by
  refine PE.imp (pe_op (opr_bin ok.go.hK ho) ha hb) fun σ H Q ⟨ρ, σm, hm, r, R, e, F⟩ => ?_
  simp only [evalE] at e
  refine L.bnd R e F fun ρ1 H1 v hm1 x1 p1 R1 r1 fr1 e F => L.bnd R1 e F fun ρ2 H2 w hm2 y1 p2 R2 r2 fr2 e F => ?_
  cases hz : bop bo v w hm2 with
  | none => rw [hz] at e; cases e
  | some z =>
    rw [hz] at e
    cases e
    exact ⟨ρ2, σm, hm2, σ, v, w, z, R2, r1.post p2 R1.noT, r2, hz, F.done⟩
theorem s_cmp (ok : XOk G g P d W sc X) {a b : Expr} {x y : ME} {o : CmpOp} {co : CO} {pos : Pos} (ho : coOf o = some co) (hm : behindInMarks o b = false) (ha : SE g P d W X a x) (hb : SE g P d W X b y) : SE g P d W X (.Compare a [o] [b] pos) (.cmp co x y) := by
  refine PE.imp (pe_cmpR (opr_cmp ok.go.hK ok.room.units ho) ha hb hm) fun σ H Q ⟨ρ, σm, hm, r, R, e, F⟩ => ?_
  simp only [evalE] at e
  refine L.bnd R e F fun ρ1 H1 v hm1 x1 p1 R1 r1 fr1 e F => L.bnd R1 e F fun ρ2 H2 w hm2 y1 p2 R2 r2 fr2 e F => ?_
  cases hz : (cop co v w hm2).map MV.bl with
  | none => rw [hz] at e; cases e
  | some z =>
    rw [hz] at e
    cases e
    exact ⟨ρ2, σm, hm2, σ, v, w, z, R2, r1.post p2 R1.noT, r2, hz, F.done⟩
theorem cop_bl {co : CO} {v w z : MV} {hm : Hm} (h : (cop co v w hm).map MV.bl = some z) : ∃ b, z = .bl b := by
  obtain ⟨b, _, e⟩ := Option.map_eq_some_iff.mp h
  exact ⟨b, e.symm⟩
theorem st_cmp (ok : XOk G g P d W sc X) {a b : Expr} {x y : ME} {o : CmpOp} {co : CO} {pos : Pos} (ho : coOf o = some co) (hm : behindInMarks o b = false) (ha : SE g P d W X a x) (hb : SE g P d W X b y) : ST g P d W X (.Compare a [o] [b] pos) (.cmp co x y) := by
  refine PT.imp (pt_cmpR (opr_cmp ok.go.hK ok.room.units ho) ha hb hm) fun σ H Q ⟨ρ, σm, hm, r, R, e, F⟩ => ?_
  simp only [evalC, evalE] at e
  have e : bnd (evalE (calls P d) x σm hm) (fun v h1 => bnd (bnd (evalE (calls P d) y σm h1) fun w h2 => lift ((cop co v w h2).map MV.bl) h2) fun v h => lift (truth h v) h) = some r := by
    rw [← e]
    cases evalE (calls P d) x σm hm with
    | none => rfl
    | some q => cases q <;> rfl
  refine L.bnd R e F fun ρ1 H1 v hm1 x1 p1 R1 r1 fr1 e F => ?_
  have e : bnd (evalE (calls P d) y σm hm1) (fun w h2 => bnd (lift ((cop co v w h2).map MV.bl) h2) fun v h => lift (truth h v) h) = some r := by
    rw [← e]
    cases evalE (calls P d) y σm hm1 with
    | none => rfl
    | some q => cases q <;> rfl
  refine L.bnd R1 e F fun ρ2 H2 w hm2 y1 p2 R2 r2 fr2 e F => ?_
  cases hz : (cop co v w hm2).map MV.bl with
  | none => rw [hz] at e; cases e
  | some z =>
    rw [hz] at e
    obtain ⟨b, rfl⟩ := cop_bl hz
    have e : some (Res.ok b hm2) = some r := e
    cases e
    refine ⟨ρ2, σm, hm2, σ, v, w, _, R2, r1.post p2 R1.noT, r2, hz, fun ρ' H' z p R' rz _ => ?_⟩
    cases rz
    exact ⟨b, rfl, F ρ' H' b p R' rfl fun _ h => h.elim⟩

theorem bnd_assoc {α β γ : Type} (x : RO α) (f : α → Hm → RO β) (k : β → Hm → RO γ) : bnd (bnd x f) k = bnd x fun a h => bnd (f a h) k := by
  cases x with
  | none => rfl
  | some q => cases q <;> rfl
theorem Rel.truV {ρ : Rh} {σm : Loc} {hm : Hm} {σ : L2.St} {H : Hp} (R : Rel g ρ σm hm σ H) {v : MV} {x : V} {b : Bool} (r : RV g ρ H v x) (e : truth hm v = some b) : TruV g.K x H b := by
  cases r with
  | non => simp only [truth] at e; cases e; rfl
  | bl _ => simp only [truth] at e; cases e; rfl
  | int _ => simp only [truth] at e; cases e; rfl
  | str s =>
    simp only [truth] at e
    split at e
    · rename_i hz
      cases e
      rw [sizeMax_eq] at hz
      exact ⟨hz, rfl⟩
    · cases e
  | tup h t => simp only [truth] at e; cases e; exact .inr (.inl ⟨_, h, by rw [t.isEmpty]⟩)
  | fn _ => simp only [truth] at e; cases e
  | edc _ _ => simp only [truth, Mi.items] at e; cases e
  | any _ => simp only [truth, Mi.items] at e; cases e
  | obj _ _ _ _ _ _ _ => simp only [truth, Mi.items] at e; cases e
  | lst h m t =>
    simp only [truth] at e
    split at e
    · rename_i xs hx
      cases e
      obtain ⟨a, vs, e1, hs, rs⟩ := R.items (.lst h m t) hx
      cases e1
      exact .inl ⟨vs, hs, by rw [rs.isEmpty]⟩
    · cases e
  | scr h =>
    simp only [truth] at e
    split at e
    · rename_i xs hx
      cases e
      obtain ⟨a, vs, e1, hs, rs⟩ := R.items (.scr h) hx
      cases e1
      exact .inl ⟨vs, hs, by rw [rs.isEmpty]⟩
    · cases e
  | fz h m t =>
    simp only [truth] at e
    split at e
    · rename_i xs hx
      cases e
      obtain ⟨a, vs, e1, hs, rs⟩ := R.items (.fz h m t) hx
      cases e1
      exact .inl ⟨vs, hs, by rw [rs.isEmpty]⟩
    · cases e
  | ref h =>
    simp only [truth] at e
    split at e
    · rename_i xs hx
      cases e
      obtain ⟨a, vs, e1, hs, rs⟩ := R.items (.ref h) hx
      cases e1
      exact .inl ⟨vs, hs, by rw [rs.isEmpty]⟩
    · cases e
/-- a test that is its value's truth -/
theorem st_truth (ok : XOk G g P d W sc X) {a : Expr} {x : ME} (ha : SE g P d W X a x) (he : ∀ whole, isTrue a X.env whole = (do let v ← whole; standAt a.pos; holding [v] (truthy v))) : ST g P d W X a x := by
  refine PT.imp (pt_truth ha he) fun σ H Q ⟨ρ, σm, hm, r, R, e, F⟩ => ?_
  simp only [evalC] at e
  refine L.bnd R e F fun ρ1 H1 v hm1 x1 p1 R1 r1 fr1 e F => ?_
  cases hz : truth hm1 v with
  | none => rw [hz] at e; cases e
  | some b =>
    rw [hz] at e
    cases e
    exact ⟨b, ok.go.hK ▸ R1.truV r1 hz, F.okB R1⟩
theorem s_neg {a : Expr} {x : ME} {pos : Pos} (ha : SE g P d W X a x) : SE g P d W X (.UnaryOp .USub a pos) (.neg x) := by
  refine PE.imp (pe_un un_neg ha) fun σ H Q ⟨ρ, σm, hm, r, R, e, F⟩ => ?_
  simp only [evalE] at e
  refine L.bnd R e F fun ρ1 H1 v hm1 x1 p1 R1 r1 fr1 e F => ?_
  split at e
  · cases e
    cases r1
    exact ⟨_, rfl, F.okE R1 (.int _)⟩
  · cases e
/-- what a test gives -/
theorem evalC_bnd {α : Type} {x : ME} {σm : Loc} {hm : Hm} {k : Bool → Hm → RO α} :
    bnd (evalC (calls P d) (some x) σm hm) k = bnd (evalE (calls P d) x σm hm) fun v h => match truth h v with
      | some b => k b h
      | none => none := by
  simp only [evalC]
  rw [bnd_assoc]
  congr 1
  funext v h
  cases truth h v <;> rfl
theorem s_not {a : Expr} {x : ME} {pos : Pos} (ok : XOk G g P d W sc X) (ha : SE g P d W X a x) : SE g P d W X (.UnaryOp .Not a pos) (.not x) := by
  refine PE.imp (pe_notT ha) fun σ H Q ⟨ρ, σm, hm, r, R, e, F⟩ => ?_
  simp only [evalE] at e
  refine L.bnd R e F fun ρ1 H1 v hm1 x1 p1 R1 r1 fr1 e F => ?_
  cases hz : truth hm1 v with
  | none => rw [hz] at e; cases e
  | some b =>
    rw [hz] at e
    cases e
    exact ⟨b, ok.go.hK ▸ R1.truV r1 hz, F.okE R1 (.bl _)⟩
theorem st_not {a : Expr} {x : ME} {pos : Pos} (ha : ST g P d W X a x) : ST g P d W X (.UnaryOp .Not a pos) (.not x) := by
  refine PT.imp (pt_not ha) fun σ H Q ⟨ρ, σm, hm, r, R, e, F⟩ => ?_
  have e : bnd (evalC (calls P d) (some x) σm hm) (fun b h => some (.ok (!b) h)) = some r := by
    rw [← e, evalC_bnd]
    simp only [evalC, evalE, bnd_assoc]
    congr 1
    funext v h
    cases truth h v <;> rfl
  refine L.bnd R e F fun ρ1 H1 v hm1 x1 p1 R1 r1 fr1 e F => ?_
  cases e
  subst r1
  exact F.okB R1
theorem s_and {a b : Expr} {r : List Expr} {x y : ME} {pos : Pos} (ok : XOk G g P d W sc X) (ha : SE g P d W X a x) (hb : SE g P d W X (.BoolOp .And (b :: r) pos) y) : SE g P d W X (.BoolOp .And (a :: b :: r) pos) (.and x y) := by
  refine PE.imp (pe_andT ha hb) fun σ H Q ⟨ρ, σm, hm, r, R, e, F0⟩ => ?_
  simp only [evalE] at e
  refine L.bnd R e F0 fun ρ1 H1 v hm1 x1 p1 R1 r1 fr1 e F => ?_
  cases hz : truth hm1 v with
  | none => rw [hz] at e; cases e
  | some b =>
    rw [hz] at e
    refine ⟨b, ok.go.hK ▸ R1.truV r1 hz, ?_⟩
    cases b with
    | true => exact L.of R1 e F
    | false =>
      cases e
      exact F0 _ _ _ p1 R1 r1 fr1
theorem s_or {a b : Expr} {r : List Expr} {x y : ME} {pos : Pos} (ok : XOk G g P d W sc X) (ha : SE g P d W X a x) (hb : SE g P d W X (.BoolOp .Or (b :: r) pos) y) : SE g P d W X (.BoolOp .Or (a :: b :: r) pos) (.or x y) := by
  refine PE.imp (pe_orT ha hb) fun σ H Q ⟨ρ, σm, hm, r, R, e, F0⟩ => ?_
  simp only [evalE] at e
  refine L.bnd R e F0 fun ρ1 H1 v hm1 x1 p1 R1 r1 fr1 e F => ?_
  cases hz : truth hm1 v with
  | none => rw [hz] at e; cases e
  | some b =>
    rw [hz] at e
    refine ⟨b, ok.go.hK ▸ R1.truV r1 hz, ?_⟩
    cases b with
    | true =>
      cases e
      exact F0 _ _ _ p1 R1 r1 fr1
    | false => exact L.of R1 e F
/-- as a test, whatever stands around -/
abbrev SW (g : GE) (P : List FnD) (d : Nat) (W : WX) (X : Cx) (e : Expr) (m : ME) : Prop := PW X e (LT g W (evalC (calls P d) (some m)))
theorem PW.imp {e : Expr} {t t' : TT} (h : PW X e t) (i : ∀ σ H Q, t' σ H Q → t σ H Q) : PW X e t' := ⟨fun wh pins s σ H Q I q => h.run wh pins s σ H Q I (i σ H Q q)⟩
theorem sw_and {a b : Expr} {r : List Expr} {x y : ME} {pos : Pos} (ha : ST g P d W X a x) (hb : SW g P d W X (.BoolOp .And (b :: r) pos) y) : SW g P d W X (.BoolOp .And (a :: b :: r) pos) (.and x y) := by
  refine PW.imp (pw_and ha hb) fun σ H Q ⟨ρ, σm, hm, r, R, e, F⟩ => ?_
  have e : bnd (evalC (calls P d) (some x) σm hm) (fun b h => match b with
      | true => evalC (calls P d) (some y) σm h
      | false => some (.ok false h)) = some r := by
    rw [← e, evalC_bnd]
    simp only [evalC, evalE, bnd_assoc]
    congr 1
    funext v h
    cases hz : truth h v with
    | none => rfl
    | some b =>
      cases b with
      | true => rfl
      | false => simp [hz]
  refine L.bnd R e F fun ρ1 H1 v hm1 x1 p1 R1 r1 fr1 e F => ?_
  subst r1
  cases v with
  | true => exact iteT (L.of R1 e F)
  | false =>
    cases e
    exact iteF (F.okB R1)
theorem sw_or {a b : Expr} {r : List Expr} {x y : ME} {pos : Pos} (ha : ST g P d W X a x) (hb : SW g P d W X (.BoolOp .Or (b :: r) pos) y) : SW g P d W X (.BoolOp .Or (a :: b :: r) pos) (.or x y) := by
  refine PW.imp (pw_or ha hb) fun σ H Q ⟨ρ, σm, hm, r, R, e, F⟩ => ?_
  have e : bnd (evalC (calls P d) (some x) σm hm) (fun b h => match b with
      | false => evalC (calls P d) (some y) σm h
      | true => some (.ok true h)) = some r := by
    rw [← e, evalC_bnd]
    simp only [evalC, evalE, bnd_assoc]
    congr 1
    funext v h
    cases hz : truth h v with
    | none => rfl
    | some b =>
      cases b with
      | false => rfl
      | true => simp [hz]
  refine L.bnd R e F fun ρ1 H1 v hm1 x1 p1 R1 r1 fr1 e F => ?_
  subst r1
  cases v with
  | false => exact iteF (L.of R1 e F)
  | true =>
    cases e
    exact iteT (F.okB R1)
theorem s_ite {c a b : Expr} {x y z : ME} {pos : Pos} (hc : ST g P d W X c x) (ha : SE g P d W X a y) (hb : SE g P d W X b z) : SE g P d W X (.IfExp c a b pos) (.ite x y z) := by
  refine PE.imp (pe_ifExp hc ha hb) fun σ H Q ⟨ρ, σm, hm, r, R, e, F⟩ => ?_
  have e : bnd (evalC (calls P d) (some x) σm hm) (fun b h => match b with
      | true => evalE (calls P d) y σm h
      | false => evalE (calls P d) z σm h) = some r := by
    rw [← e, evalC_bnd]
    simp only [evalE]
    congr 1
    funext v h
    cases hz : truth h v with
    | none => rfl
    | some b => cases b <;> rfl
  refine L.bnd R e F fun ρ1 H1 v hm1 x1 p1 R1 r1 fr1 e F => ?_
  subst r1
  cases v with
  | true => exact iteT (L.of R1 e F)
  | false => exact iteF (L.of R1 e F)
theorem pt_ifExp {c a b : Expr} {tc ta tb : TT} {pos : Pos} (hc : PT X c tc) (ha : PT X a ta) (hb : PT X b tb) : PT X (.IfExp c a b pos) (fun σ H Q => tc σ H fun k H1 => if k = true then ta σ H1 Q else tb σ H1 Q) := by
  refine ⟨fun pins s σ H Q I h => ?_⟩
  have e : isTrue (.IfExp c a b pos) X.env (eval (.IfExp c a b pos) X.env) = (do
    if ← isTrue c X.env (eval c X.env) then isTrue a X.env (eval a X.env) else isTrue b X.env (eval b X.env)) := by
    rw [PySem.isTrue]
  rw [e]
  refine wpAny_bind (thn (hc.run pins s σ H _ I h) fun k s1 ⟨H1, I1, q1⟩ => ?_)
  cases k with
  | true => exact ha.run pins s1 σ H1 Q I1 q1
  | false => exact hb.run pins s1 σ H1 Q I1 q1
theorem st_ite {c a b : Expr} {x y z : ME} {pos : Pos} (hc : ST g P d W X c x) (ha : ST g P d W X a y) (hb : ST g P d W X b z) : ST g P d W X (.IfExp c a b pos) (.ite x y z) := by
  refine PT.imp (pt_ifExp hc ha hb) fun σ H Q ⟨ρ, σm, hm, r, R, e, F⟩ => ?_
  have e : bnd (evalC (calls P d) (some x) σm hm) (fun b h => match b with
      | true => evalC (calls P d) (some y) σm h
      | false => evalC (calls P d) (some z) σm h) = some r := by
    rw [← e, evalC_bnd]
    simp only [evalC, evalE, bnd_assoc]
    congr 1
    funext v h
    cases hz : truth h v with
    | none => rfl
    | some b => cases b <;> rfl
  refine L.bnd R e F fun ρ1 H1 v hm1 x1 p1 R1 r1 fr1 e F => ?_
  subst r1
  cases v with
  | true => exact iteT (L.of R1 e F)
  | false => exact iteF (L.of R1 e F)

/-! ### argument lists, displays -/
theorem sa_nil : SA g P d W X [] [] := by
  refine PA.imp pa_nil fun σ H Q ⟨ρ, σm, hm, r, R, e, F⟩ => ?_
  simp only [evalEs] at e
  cases e
  exact F.ok R ⟨.nil, trivial⟩ fun a ⟨i, v, x, h, _⟩ => by simp at h
theorem star_cons {e : Expr} {es : List Expr} {env : Env} (h : noStar e = true) : starEach (e :: es) env = (false, eval e env) :: starEach es env := by
  cases e <;> first | rfl | exact absurd h Bool.false_ne_true
theorem sa_cons {a : Expr} {r : List Expr} {x : ME} {xs : List ME} (hs : noStar a = true) (ha : SE g P d W X a x) (hr : SA g P d W X r xs) : SA g P d W X (a :: r) (x :: xs) := by
  refine PA.imp (pa_cons ha hr (star_cons hs)) fun σ H Q ⟨ρ, σm, hm, r, R, e, F0⟩ => ?_
  simp only [evalEs] at e
  refine L.bnd R e F0 fun ρ1 H1 v hm1 x1 p1 R1 r1 fr1 e _ => L.bnd R1 e (F0.post p1) fun ρ2 H2 w hm2 y1 p2 R2 r2 fr2 e _ => ?_
  cases e
  refine F0 _ _ _ (p1.trans p2) R2 ⟨.cons (r1.post p2 R1.noT) r2.1, fun a ha hb => ?_, r2.2⟩ fun a ⟨i, v', x', h1, h2, h3⟩ => ?_
  · have h0 := (fr2 a hb).1
    obtain ⟨⟨xs, e⟩, e2⟩ := ha
    subst e
    subst e2
    cases r1 with
    | lst hh _ _ => exact (h0.no hh nofun).elim
  · cases i with
    | zero =>
      simp at h1 h2
      subst h1
      subst h2
      exact ⟨(fr1 a h3).1, p2.blk a (fr1 a h3).2⟩
    | succ i =>
      have q := fr2 a ⟨i, v', x', by simpa using h1, by simpa using h2, h3⟩
      exact ⟨p1.more a q.1, q.2⟩
theorem evalEs_len {F : Calls} : ∀ {es : List ME} {σ : Loc} {h h' : Hm} {vs : List MV}, evalEs F es σ h = some (.ok vs h') → vs.length = es.length
  | [], σ, h, h', vs, e => by
    simp only [evalEs] at e
    cases e
    rfl
  | a :: r, σ, h, h', vs, e => by
    simp only [evalEs] at e
    cases h1 : evalE F a σ h with
    | none => rw [h1] at e; cases e
    | some q =>
      rw [h1] at e
      cases q with
      | ex e1 h2 => cases e
      | ok v h2 =>
        simp only [bnd_ok] at e
        cases h3 : evalEs F r σ h2 with
        | none => rw [h3] at e; cases e
        | some q =>
          rw [h3] at e
          cases q with
          | ex e1 h2 => cases e
          | ok w h4 =>
            cases e
            rw [List.length_cons, List.length_cons, evalEs_len h3]
theorem SA.len {es : List Expr} {xs : List ME} : ∀ {n : Nat} {N : List Str} {sc : Scope}, compEs G N n sc es = some xs → xs.length = es.length := by
  induction es generalizing xs with
  | nil =>
    intro n N sc e
    cases n with
    | zero => simp only [compEs] at e; cases e
    | succ n => simp only [compEs] at e; cases e; rfl
  | cons a r ih =>
    intro n N sc e
    cases n with
    | zero => simp only [compEs] at e; cases e
    | succ n =>
      simp only [compEs] at e
      split at e
      · split at e
        · rename_i h1 h2
          cases e
          rw [List.length_cons, List.length_cons, ih h2]
        · cases e
      · cases e
theorem L.bnd_len {σm : Loc} {hm : Hm} {σ : L2.St} {ρ : Rh} {H : Hp} {r : Res MV} {Q : VK} {xs : List ME} {k : List MV → Hm → RO MV} {Q' : List V → Hp → Prop} (hR : Rel g ρ σm hm σ H) (he : Mi.bnd (evalEs (calls P d) xs σm hm) k = some r)
    (hF : Fin g W (kE g) σm σ ρ H r Q)
    (h : ∀ ρ1 H1 v hm1 x, Post ρ H ρ1 H1 → Rel g ρ1 σm hm1 σ H1 → RVs g ρ1 H1 v x → (∀ a, TVs v x a → Fr H a ∧ ρ1.b a) → v.length = xs.length → k v hm1 = some r → Fin g W (kE g) σm σ ρ1 H1 r Q → Q' x H1) : LA g W (evalEs (calls P d) xs) σ H Q' := by
  cases e : evalEs (calls P d) xs σm hm with
  | none => rw [e] at he; cases he
  | some q =>
    refine ⟨ρ, σm, hm, q, hR, e, ?_⟩
    rw [e] at he
    cases q with
    | ok v hm1 => exact fun ρ1 H1 x p R1 rv fr => h ρ1 H1 v hm1 x p R1 rv.1 fr (evalEs_len e) he (hF.post p)
    | ex ex hm1 =>
      have he : some (Res.ex ex hm1) = some r := he
      cases he
      exact hF
theorem s_tup {es : List Expr} {xs : List ME} {k : Nat} {pos : Pos} (h : SA g P d W X es xs) (hz : xs.length ≤ 1000) : SE g P d W X (.Tuple es k pos) (.tup xs) := by
  refine PE.imp (pe_tup h) fun σ H Q ⟨ρ, σm, hm, r, R, e, F⟩ => ?_
  simp only [evalE] at e
  refine L.bnd_len R e F fun ρ1 H1 v hm1 x1 p1 R1 r1 fr1 hl e _ => ?_
  cases e
  obtain ⟨b, hb, hT, p2, R2⟩ := R.unb p1 R1 fr1
  refine ⟨?_, (F.post p2).done.tup R2 ((r1.less hb).frz hT)⟩
  have := r1.length
  rw [sizeLine_eq]
  omega
theorem s_lst {es : List Expr} {xs : List ME} {pos : Pos} (h : SA g P d W X es xs) (hz : xs.length ≤ 1000) : SE g P d W X (.List es pos) (.lst xs) := by
  refine PE.imp (pe_lst h) fun σ H Q ⟨ρ, σm, hm, r, R, e, F⟩ => ?_
  simp only [evalE] at e
  refine L.bnd_len R e F fun ρ1 H1 v hm1 x1 p1 R1 r1 fr1 hl e _ => ?_
  cases e
  obtain ⟨b, hb, hT, p2, R2⟩ := R.unb p1 R1 fr1
  refine ⟨?_, (F.post p2).done.lst R2 ((r1.less hb).frz hT)⟩
  have := r1.length
  rw [sizeLine_eq]
  omega

/-! ### chains of two comparisons -/
theorem s_chn (ok : XOk G g P d W sc X) {a b c : Expr} {x y z : ME} {o o' : CmpOp} {co co' : CO} {pos : Pos} (ho : coOf o = some co) (ho' : coOf o' = some co') (hm : lastMarks [o, o'] [b, c] = false)
    (ha : SE g P d W X a x) (hb : SE g P d W X b y) (hc : SE g P d W X c z) : SE g P d W X (.Compare a [o, o'] [b, c] pos) (.chn co co' x y z) := by
  refine PE.imp (pe_chain (opr_cmp ok.go.hK ok.room.units ho) (opr_cmp ok.go.hK ok.room.units ho') ha hb hc hm) fun σ H Q ⟨ρ, σm, hm, r, R, e, F⟩ => ?_
  simp only [evalE] at e
  refine L.bnd R e F fun ρ1 H1 v hm1 x1 p1 R1 r1 fr1 e F => L.bnd R1 e F fun ρ2 H2 w hm2 y1 p2 R2 r2 fr2 e F => ?_
  cases hz : cop co v w hm2 with
  | none => rw [hz] at e; cases e
  | some k =>
    rw [hz] at e
    refine ⟨ρ2, σm, hm2, σ, v, w, .bl k, R2, r1.post p2 R1.noT, r2, (by show (cop co v w hm2).map MV.bl = _; rw [hz]; rfl), fun ρ3 H3 q p3 R3 rq _ => ?_⟩
    cases rq
    refine ⟨k, rfl, ?_⟩
    have F := F.post p3
    cases k with
    | false =>
      cases e
      exact iteF (F.okE R3 (.bl _))
    | true =>
      refine iteT (L.bnd R3 e F fun ρ4 H4 u hm4 z1 p4 R4 r4 fr4 e F => ?_)
      cases hz' : (cop co' w u hm4).map MV.bl with
      | none => rw [hz'] at e; cases e
      | some q =>
        rw [hz'] at e
        cases e
        exact ⟨ρ4, σm, hm4, σ, w, u, q, R4, (r2.post p3 R2.noT).post p4 R3.noT, r4, hz', F.done⟩
theorem st_chn (ok : XOk G g P d W sc X) {a b c : Expr} {x y z : ME} {o o' : CmpOp} {co co' : CO} {pos : Pos} (ho : coOf o = some co) (ho' : coOf o' = some co') (hm : lastMarks [o, o'] [b, c] = false)
    (ha : SE g P d W X a x) (hb : SE g P d W X b y) (hc : SE g P d W X c z) : ST g P d W X (.Compare a [o, o'] [b, c] pos) (.chn co co' x y z) := by
  refine PT.imp (pt_chain (opr_cmp ok.go.hK ok.room.units ho) (opr_cmp ok.go.hK ok.room.units ho') ha hb hc hm) fun σ H Q ⟨ρ, σm, hm, r, R, e, F⟩ => ?_
  simp only [evalC, evalE, bnd_assoc] at e
  refine L.bnd R e F fun ρ1 H1 v hm1 x1 p1 R1 r1 fr1 e F => L.bnd R1 e F fun ρ2 H2 w hm2 y1 p2 R2 r2 fr2 e F => ?_
  cases hz : cop co v w hm2 with
  | none => rw [hz] at e; cases e
  | some k =>
    rw [hz] at e
    refine ⟨ρ2, σm, hm2, σ, v, w, .bl k, R2, r1.post p2 R1.noT, r2, (by show (cop co v w hm2).map MV.bl = _; rw [hz]; rfl), fun ρ3 H3 q p3 R3 rq _ => ?_⟩
    cases rq
    refine ⟨k, rfl, ?_⟩
    have F := F.post p3
    cases k with
    | false =>
      cases e
      exact iteF ⟨false, rfl, F.okB R3⟩
    | true =>
      simp only [bnd_assoc] at e
      refine iteT (L.bnd R3 e F fun ρ4 H4 u hm4 z1 p4 R4 r4 fr4 e F => ?_)
      cases hz' : (cop co' w u hm4).map MV.bl with
      | none => rw [hz'] at e; cases e
      | some q =>
        rw [hz'] at e
        obtain ⟨b, rfl⟩ := cop_bl hz'
        have e : some (Res.ok b hm4) = some r := e
        cases e
        refine ⟨ρ4, σm, hm4, σ, w, u, _, R4, (r2.post p3 R2.noT).post p4 R3.noT, r4, hz', fun ρ' H' z p R' rz _ => ?_⟩
        cases rz
        exact ⟨b, rfl, F ρ' H' b p R' rfl fun _ h => h.elim⟩

/-! ### chains of three -/
theorem s_chn3 (ok : XOk G g P d W sc X) {a b c e : Expr} {x y z u : ME} {o o' o2 : CmpOp} {co co' co2 : CO} {pos : Pos} (ho : coOf o = some co) (ho' : coOf o' = some co') (ho2 : coOf o2 = some co2) (hm : lastMarks [o, o', o2] [b, c, e] = false)
    (ha : SE g P d W X a x) (hb : SE g P d W X b y) (hc : SE g P d W X c z) (he : SE g P d W X e u) : SE g P d W X (.Compare a [o, o', o2] [b, c, e] pos) (.chn3 co co' co2 x y z u) := by
  refine PE.imp (MiS.pe_ch3 (opr_cmp ok.go.hK ok.room.units ho) (opr_cmp ok.go.hK ok.room.units ho') (opr_cmp ok.go.hK ok.room.units ho2) ha hb hc he hm) fun σ H Q ⟨ρ, σm, hm, r, R, e, F⟩ => ?_
  simp only [evalE] at e
  refine L.bnd R e F fun ρ1 H1 v hm1 x1 p1 R1 r1 fr1 e F => L.bnd R1 e F fun ρ2 H2 w hm2 y1 p2 R2 r2 fr2 e F => ?_
  cases hz : cop co v w hm2 with
  | none => rw [hz] at e; cases e
  | some k =>
    rw [hz] at e
    refine ⟨ρ2, σm, hm2, σ, v, w, .bl k, R2, r1.post p2 R1.noT, r2, (by show (cop co v w hm2).map MV.bl = _; rw [hz]; rfl), fun ρ3 H3 q p3 R3 rq _ => ?_⟩
    cases rq
    refine ⟨k, rfl, ?_⟩
    have F := F.post p3
    cases k with
    | false =>
      cases e
      exact iteF (F.okE R3 (.bl _))
    | true =>
      refine iteT (L.bnd R3 e F fun ρ4 H4 t hm4 z1 p4 R4 r4 fr4 e F => ?_)
      have r24 := (r2.post p3 R2.noT).post p4 R3.noT
      cases hz2 : cop co' w t hm4 with
      | none => rw [hz2] at e; cases e
      | some k2 =>
        rw [hz2] at e
        refine ⟨ρ4, σm, hm4, σ, w, t, .bl k2, R4, r24, r4, (by show (cop co' w t hm4).map MV.bl = _; rw [hz2]; rfl), fun ρ5 H5 q p5 R5 rq _ => ?_⟩
        cases rq
        refine ⟨k2, rfl, ?_⟩
        have F := F.post p5
        cases k2 with
        | false =>
          cases e
          exact iteF (F.okE R5 (.bl _))
        | true =>
          refine iteT (L.bnd R5 e F fun ρ6 H6 t6 hm6 z6 p6 R6 r6 fr6 e F => ?_)
          cases hz3 : (cop co2 t t6 hm6).map MV.bl with
          | none => rw [hz3] at e; cases e
          | some q =>
            rw [hz3] at e
            cases e
            exact ⟨ρ6, σm, hm6, σ, t, t6, q, R6, (r4.post p5 R4.noT).post p6 R5.noT, r6, hz3, F.done⟩
theorem st_chn3 (ok : XOk G g P d W sc X) {a b c e : Expr} {x y z u : ME} {o o' o2 : CmpOp} {co co' co2 : CO} {pos : Pos} (ho : coOf o = some co) (ho' : coOf o' = some co') (ho2 : coOf o2 = some co2) (hm : lastMarks [o, o', o2] [b, c, e] = false)
    (ha : SE g P d W X a x) (hb : SE g P d W X b y) (hc : SE g P d W X c z) (he : SE g P d W X e u) : ST g P d W X (.Compare a [o, o', o2] [b, c, e] pos) (.chn3 co co' co2 x y z u) := by
  refine PT.imp (MiS.pt_ch3 (opr_cmp ok.go.hK ok.room.units ho) (opr_cmp ok.go.hK ok.room.units ho') (opr_cmp ok.go.hK ok.room.units ho2) ha hb hc he hm) fun σ H Q ⟨ρ, σm, hm, r, R, e, F⟩ => ?_
  simp only [evalC, evalE, bnd_assoc] at e
  refine L.bnd R e F fun ρ1 H1 v hm1 x1 p1 R1 r1 fr1 e F => L.bnd R1 e F fun ρ2 H2 w hm2 y1 p2 R2 r2 fr2 e F => ?_
  cases hz : cop co v w hm2 with
  | none => rw [hz] at e; cases e
  | some k =>
    rw [hz] at e
    refine ⟨ρ2, σm, hm2, σ, v, w, .bl k, R2, r1.post p2 R1.noT, r2, (by show (cop co v w hm2).map MV.bl = _; rw [hz]; rfl), fun ρ3 H3 q p3 R3 rq _ => ?_⟩
    cases rq
    refine ⟨k, rfl, ?_⟩
    have F := F.post p3
    cases k with
    | false =>
      cases e
      exact iteF ⟨false, rfl, F.okB R3⟩
    | true =>
      simp only [bnd_assoc] at e
      refine iteT (L.bnd R3 e F fun ρ4 H4 t hm4 z1 p4 R4 r4 fr4 e F => ?_)
      have r24 := (r2.post p3 R2.noT).post p4 R3.noT
      cases hz2 : cop co' w t hm4 with
      | none => rw [hz2] at e; cases e
      | some k2 =>
        rw [hz2] at e
        refine ⟨ρ4, σm, hm4, σ, w, t, .bl k2, R4, r24, r4, (by show (cop co' w t hm4).map MV.bl = _; rw [hz2]; rfl), fun ρ5 H5 q p5 R5 rq _ => ?_⟩
        cases rq
        refine ⟨k2, rfl, ?_⟩
        have F := F.post p5
        cases k2 with
        | false =>
          cases e
          exact iteF ⟨false, rfl, F.okB R5⟩
        | true =>
          simp only [bnd_assoc] at e
          refine iteT (L.bnd R5 e F fun ρ6 H6 t6 hm6 z6 p6 R6 r6 fr6 e F => ?_)
          cases hz3 : (cop co2 t t6 hm6).map MV.bl with
          | none => rw [hz3] at e; cases e
          | some q =>
            rw [hz3] at e
            obtain ⟨b, rfl⟩ := cop_bl hz3
            have e : some (Res.ok b hm6) = some r := e
            cases e
            refine ⟨ρ6, σm, hm6, σ, t, t6, _, R6, (r4.post p5 R4.noT).post p6 R5.noT, r6, hz3, fun ρ' H' z p R' rz _ => ?_⟩
            cases rz
            exact ⟨b, rfl, F ρ' H' b p R' rfl fun _ h => h.elim⟩
/-! ### subscripts -/
theorem opr_ix (hK : g.K = X.K) : IxR X (rBin g ixV) := by
  intro value slice pins s σ0 H x y v0 u0 Q I rx ry h hs
  obtain ⟨ρ, σm, hm, σ, v, w, z, R, rv, rw', e, d⟩ := h
  refine ix_seq value slice pins s σ0 H x y v0 u0 Q I rx ry ?_ hs
  have seqC : ∀ {a : MV} {i : Int}, v = a → w = .int i → (∀ s, a ≠ .str s) → (match Mi.seq hm a with
    | some xs => (L2.atI xs i).bind unl
    | none => none) = some z → rIx X.K x y H Q := fun {a i} e1 e2 ns e9 => by
    subst e1
    subst e2
    cases rw'
    split at e9
    · rename_i xs hx
      obtain ⟨p, vs, rfl, hs, rs⟩ := R.seq rv hx
      rw [hK] at hs
      obtain ⟨z0, e8, e7⟩ := Option.bind_eq_some_iff.mp e9
      obtain ⟨rfl, nz⟩ := unl_of e7
      unfold atI at e8
      have lv := rs.length
      cases hj : ixN xs.length i with
      | none => rw [hj] at e8; cases e8
      | some j =>
        rw [hj] at e8
        obtain ⟨y1, g1, g2⟩ := rs.get (i := j) (x := z0) e8
        have ea : atI vs i = some y1 := by
          unfold atI
          rw [← lv, hj]
          exact g1
        rcases hs with hs | hs
        · exact .inl ⟨p, vs, i, y1, rfl, rfl, hs, ea, d.now R g2 nz⟩
        · exact .inr (.inl ⟨p, vs, i, y1, rfl, rfl, hs, ea, d.now R g2 nz⟩)
    · cases e9
  unfold ixV at e
  split at e
  · rename_i s1 i
    split at e
    · rename_i hz
      rw [sizeMax_eq] at hz
      obtain ⟨c, hc, rfl⟩ := Option.map_eq_some_iff.mp e
      cases rv
      cases rw'
      exact .inr (.inr ⟨s1, i, c, rfl, rfl, hz, hc, d.now R (.str _)⟩)
    · cases e
  · rename_i i ns
    exact seqC rfl rfl (fun s e => ns s e) e
  · cases e
theorem s_ix (ok : XOk G g P d W sc X) {a b : Expr} {x y : ME} {pos : Pos} (hp : PlainIx b) (ha : SE g P d W X a x) (hb : SE g P d W X b y) : SE g P d W X (.Subscript a b pos) (.ix x y) := by
  refine PE.imp (pe_ix (opr_ix ok.go.hK) ha hb hp) fun σ H Q ⟨ρ, σm, hm, r, R, e, F⟩ => ?_
  simp only [evalE] at e
  refine L.bnd R e F fun ρ1 H1 v hm1 x1 p1 R1 r1 fr1 e F => L.bnd R1 e F fun ρ2 H2 w hm2 y1 p2 R2 r2 fr2 e F => ?_
  cases hz : ixV v w hm2 with
  | none => rw [hz] at e; cases e
  | some z =>
    rw [hz] at e
    cases e
    exact ⟨ρ2, σm, hm2, σ, v, w, z, R2, r1.post p2 R1.noT, r2, hz, F.done⟩
theorem PO.imp {e : Option Expr} {t t' : TO} (h : PO X e t) (i : ∀ σ H Q, t' σ H Q → t σ H Q) : PO X e t' := ⟨fun pins s σ H Q I q => h.run pins s σ H Q I (i σ H Q q)⟩
theorem so_none : SO g P d W X none none := by
  refine PO.imp po_none fun σ H Q ⟨ρ, σm, hm, r, R, e, F⟩ => ?_
  simp only [evalO] at e
  cases e
  exact F.okB R
theorem so_some {a : Expr} {x : ME} (ha : SE g P d W X a x) : SO g P d W X (some a) (some x) := by
  refine PO.imp (po_some ha) fun σ H Q ⟨ρ, σm, hm, r, R, e, F⟩ => ?_
  simp only [evalO] at e
  refine L.bnd R e F fun ρ1 H1 v hm1 x1 p1 R1 r1 fr1 e F => ?_
  split at e
  · cases e
    cases r1
    exact ⟨_, rfl, F.okB R1⟩
  · cases e
theorem RVs.cut {ρ : Rh} {H : Hp} {xs : List MV} {vs : List V} (r : RVs g ρ H xs vs) (lo hi : Option Int) : RVs g ρ H (Mi.cut xs lo hi) (cutV vs lo hi) := by
  unfold Mi.cut cutV
  rw [r.length]
  exact (r.drop _).take _
theorem cut_all {α : Type} {xs : List α} {lo hi : Option Int} (h : HT.sIx xs.length 0 lo = 0 ∧ HT.sIx xs.length xs.length hi = xs.length) : Mi.cut xs lo hi = xs := by
  unfold Mi.cut
  rw [h.1, h.2, List.drop_zero, Nat.sub_zero, List.take_length]
def rSl (g : GE) : V → Option Int → Option Int → Hp → VK → Prop := fun x lo hi H Q => ∃ ρ σm hm σ v z, Rel g ρ σm hm σ H ∧ RV g ρ H v x ∧ slV v lo hi hm = some z ∧ Done g σm hm σ ρ H z Q
theorem opr_sl (hK : g.K = X.K) : SlR X (rSl g) := by
  intro pins s σ0 H x v0 vl vu lo hi sl Q I rx hs pl pu h
  obtain ⟨ρ, σm, hm, σ, v, z, R, rv, e, d⟩ := h
  have lst : ∀ {a : MV}, v = a → (match items hm a with
    | some xs => some (MV.lst (Mi.cut xs lo hi))
    | none => none) = some z → ∃ T id, typeLookup (.type T) "__getitem__" = pure (some (.builtin id)) ∧ s.TypeIs v0 T ∧ wpAny (model X.prog X.w) X.A (getItem v0 (.ref sl)) (EP X pins σ0 Q) X.xe s := fun {a} e1 e9 => by
    subst e1
    split at e9
    · rename_i xs hx
      cases e9
      obtain ⟨p, vs, rfl, hs', rs⟩ := R.items rv hx
      rw [hK] at hs'
      exact sl_list pins s σ0 H _ v0 vl vu lo hi sl Q I rx hs pl pu ⟨p, vs, rfl, hs', d.lst R (rs.cut lo hi)⟩
    · cases e9
  unfold slV at e
  split at e
  · cases e
    cases rv with
    | tup ht rs =>
      rename_i p vs
      rw [hK] at ht
      refine sl_tupA pins s σ0 H _ v0 vl vu lo hi sl Q I rx hs pl pu ⟨_, vs, rfl, ht, fun ha => ?_, fun _ => d.tup R (rs.cut lo hi)⟩
      rw [← rs.length] at ha
      exact d.now R (by rw [cut_all ha]; exact .tup (by rw [hK]; exact ht) rs)
  · exact lst rfl e
theorem s_sl (ok : XOk G g P d W sc X) {a : Expr} {lo hi : Option Expr} {x : ME} {l u : Option ME} {pos p2 : Pos} (ha : SE g P d W X a x) (hl : SO g P d W X lo l) (hu : SO g P d W X hi u) : SE g P d W X (.Subscript a (.Slice lo hi none p2) pos) (.sl x l u) := by
  refine PE.imp (pe_slice (opr_sl ok.go.hK) ha hl hu) fun σ H Q ⟨ρ, σm, hm, r, R, e, F⟩ => ?_
  simp only [evalE] at e
  refine L.bnd R e F fun ρ1 H1 v hm1 x1 p1 R1 r1 fr1 e F => L.bnd R1 e F fun ρ2 H2 i hm2 i1 p2 R2 r2 fr2 e F => L.bnd R2 e F fun ρ3 H3 j hm3 j1 p3 R3 r3 fr3 e F => ?_
  subst r2
  subst r3
  cases hz : slV v i j hm3 with
  | none => rw [hz] at e; cases e
  | some z =>
    rw [hz] at e
    cases e
    exact ⟨ρ3, σm, hm3, σ, v, z, R3, (r1.post p2 R1.noT).post p3 R2.noT, hz, F.done⟩
theorem s_rev (ok : XOk G g P d W sc X) {a : Expr} {x : ME} {k : Nat} {p1 p2 p3 pos : Pos} (ha : SE g P d W X a x) : SE g P d W X (.Subscript a (.Slice none none (some (.UnaryOp .USub (.Constant (.int 1) k p1) p2)) p3) pos) (.rev x) := by
  refine PE.imp (pe_revL ha) fun σ H Q ⟨ρ, σm, hm, r, R, e, F⟩ => ?_
  simp only [evalE] at e
  refine L.bnd R e F fun ρ1 H1 v hm1 x1 p1 R1 r1 fr1 e F => ?_
  split at e
  · rename_i xs hx
    cases e
    obtain ⟨p, vs, rfl, hs', rs⟩ := R1.items r1 hx
    rw [ok.go.hK] at hs'
    exact ⟨p, vs, rfl, hs', F.done.lst R1 rs.reverse⟩
  · cases e
theorem RVs.step {ρ : Rh} {H : Hp} {xs : List MV} {vs : List V} (r : RVs g ρ H xs vs) (k : Nat) : RVs g ρ H (stepOf xs k) (stepOf vs k) := by
  unfold stepOf
  rw [r.length]
  generalize stepN vs.length k = n
  induction n with
  | zero => exact .nil
  | succ n ih =>
    rw [List.range_succ, List.filterMap_append, List.filterMap_append]
    refine RVs.append ih ?_
    cases e : xs[n * k]? with
    | none =>
      have h := r.none_of e
      have e2 : vs[n * k]? = none := List.getElem?_eq_none_iff.mpr h
      simp [List.filterMap_cons, e, e2]
      exact .nil
    | some x =>
      obtain ⟨u, h1, h2⟩ := r.get e
      simp [List.filterMap_cons, e, h1]
      exact .cons h2 .nil
theorem range_get {α : Type} : ∀ xs : List α, (List.range xs.length).filterMap (fun i => xs[i]?) = xs
  | [] => rfl
  | x :: xs => by
    rw [List.length_cons, List.range_succ_eq_map, List.filterMap_cons, List.filterMap_map]
    show x :: (List.range xs.length).filterMap (fun i => xs[i]?) = _
    rw [range_get xs]
theorem stepOf_one {α : Type} (xs : List α) : stepOf xs 1 = xs := by
  have e : stepN xs.length 1 = xs.length := by
    unfold stepN
    split
    · rw [Nat.div_one]; omega
    · omega
  unfold stepOf
  rw [e]
  simp only [Nat.mul_one]
  exact range_get xs
theorem s_slst (ok : XOk G g P d W sc X) {a : Expr} {x y : ME} {k : Str} {kp p2 pos : Pos} (ha : SE g P d W X a x) (hk : SE g P d W X (.Name k kp) y) : SE g P d W X (.Subscript a (.Slice none none (some (.Name k kp)) p2) pos) (.slst x y) := by
  refine PE.imp (MiS.pe_step ha hk) fun σ H Q ⟨ρ, σm, hm, r, R, e, F⟩ => ?_
  simp only [evalE] at e
  refine L.bnd R e F fun ρ1 H1 v hm1 x1 p1 R1 r1 fr1 e F => L.bnd R1 e F fun ρ2 H2 w hm2 y1 p2 R2 r2 fr2 e F => ?_
  split at e
  · rename_i _ _ xs k _
    split at e
    · rename_i hz
      cases e
      cases r2
      have r1' := r1.post p2 R1.noT
      cases r1' with
      | tup ht rs =>
        rename_i a vs
        rw [ok.go.hK] at ht
        refine ⟨a, vs, k.toNat, rfl, by rw [Int.toNat_of_nonneg (by omega)], by omega, ht, fun e1 => ?_, fun e1 => F.done.tup R2 (rs.step _)⟩
        rw [e1, stepOf_one] at F
        exact F.okE R2 (.tup (by rw [ok.go.hK]; exact ht) rs)
    · cases e
  · cases e
end
end Mi

/-! Mi5: calls. -/
namespace Mi
open PySem PySem.Spec PyProof.Rows L2
section
variable {G : CG} {g : GE} {P : List FnD} {d : Nat} {W : WX} {sc : Scope} {X : Cx}

/-- a def's call; an exception that leaves it is wished for at the caller's slots -/
theorem pe_callW {γ : Bool} {k : Nat} {f : Addr} {fd : FuncData} {ps : List Str} {sp : Sp} {x : Str} {p pos : Pos} {e : Expr} {es : List Expr} {t : TA} (F : FnG γ X.prog X.w X.K X.mg X.base (L2.CX X.prog X.w) k f fd ps sp) (hγ : γ = true → X.A.guards = some []) (hr : Room k X.A) (hg : Gl X x)
    (hm : X.mg x = some (.ref f)) (hk : PySem.W.keepIn X.K (.ref f) = true) (hb : Binds X.K fd ps []) (tk : Takes X W) (ha : PA X (e :: es) t) (hdb : (x == ("__debug__" : Str)) = false) (he : starEach (e :: es) X.env = (false, eval e X.env) :: starEach es X.env)
    (hpl : (backTo pos (starEach es X.env)).any (·.1) = false) : PE X (.Call (.Name x p) (e :: es) [] pos) (fun σ H Q => t σ H fun vs H1 => sp vs H1 Q (fun c d H' => W c d σ H')) := by
  refine ⟨fun pins s σ H Q I h => ?_⟩
  refine wpAny_Call_Name_kw (ld_glob I hg hm ?_ hdb)
  refine PySem.W.callWith_K (h₀ := X.base) I.ok.mod.kin hk (thn (ha.run pos pins s σ H _ I h) fun us s1 ⟨vs, H1, I1, r, q⟩ => ⟨I1.kIn, ?_⟩) he hpl
  have hl : (us ++ []).length = ps.length := by rw [List.append_nil, ← r.length]; exact F.len _ _ _ _ q
  have hb' := hb s1 us I1.kIn hl
  rw [List.append_nil] at hb'
  show wpAny _ _ (call (.ref f) ([] ++ us)) _ _ _
  rw [List.nil_append]
  refine wpAny_call (codeAny_mono (F.run X.A X.stack s1 H1 ⟨us, []⟩ us vs Q _ hγ hr I1.env0 hb' r q) fun r s' hq => ?_)
  cases r with
  | error e => exact tk e s' (XE.of_call I1 (fun cls d H' h => h) hq)
  | ok fl =>
    cases fl with
    | ret u => exact I1.after hq
    | next => exact False.elim hq
    | brk => exact False.elim hq
    | cont => exact False.elim hq
/-- .. of a def that a local name holds -/
theorem pe_callLW {γ : Bool} {i k : Nat} {f : Addr} {fd : FuncData} {ps : List Str} {sp : Sp} {x : Str} {p pos : Pos} {e : Expr} {es : List Expr} {t : TA} (F : FnG γ X.prog X.w X.K X.mg X.base (L2.CX X.prog X.w) k f fd ps sp) (hγ : γ = true → X.A.guards = some []) (hr : Room k X.A) (hN : X.N[i]? = some x) (hv : Vis X.env.scope x)
    (hk : PySem.W.keepIn X.K (.ref f) = true) (hb : Binds X.K fd ps []) (tk : Takes X W) (ha : PA X (e :: es) t) (hdb : (x == ("__debug__" : Str)) = false) (hcd : (x == ("__classdict__" : Str)) = false) (he : starEach (e :: es) X.env = (false, eval e X.env) :: starEach es X.env)
    (hpl : (backTo pos (starEach es X.env)).any (·.1) = false) : PE X (.Call (.Name x p) (e :: es) [] pos) (fun σ H Q => σ[i]? = some (some (.ref f)) ∧ t σ H fun vs H1 => sp vs H1 Q (fun c d H' => W c d σ H')) := by
  refine ⟨fun pins s σ H Q I ⟨hs, h⟩ => ?_⟩
  refine wpAny_Call_Name_kw (thn ((pe_var (pos := p) hN hv hdb hcd).run pins s σ H (fun v H1 => v = .ref f ∧ H1 = H) I ⟨.ref f, hs, rfl, rfl⟩) fun u s0 ⟨v, H0, I0, r0, q0⟩ => ?_)
  obtain ⟨rfl, rfl⟩ := q0
  cases r0
  refine PySem.W.callWith_K (h₀ := X.base) I.ok.mod.kin hk (thn (ha.run pos pins s0 σ _ _ I0 h) fun us s1 ⟨vs, H1, I1, r, q⟩ => ⟨I1.kIn, ?_⟩) he hpl
  have hl : (us ++ []).length = ps.length := by rw [List.append_nil, ← r.length]; exact F.len _ _ _ _ q
  have hb' := hb s1 us I1.kIn hl
  rw [List.append_nil] at hb'
  show wpAny _ _ (call (.ref f) ([] ++ us)) _ _ _
  rw [List.nil_append]
  refine wpAny_call (codeAny_mono (F.run X.A X.stack s1 H1 ⟨us, []⟩ us vs Q _ hγ hr I1.env0 hb' r q) fun r s' hq => ?_)
  cases r with
  | error e => exact tk e s' (XE.of_call I1 (fun cls d H' h => h) hq)
  | ok fl =>
    cases fl with
    | ret u => exact I1.after hq
    | next => exact False.elim hq
    | brk => exact False.elim hq
    | cont => exact False.elim hq
theorem star_any {es : List Expr} {pos : Pos} {env : Env} (h : es.all noStar = true) : (backTo pos (starEach es env)).any (·.1) = false := by
  induction es with
  | nil => rfl
  | cons a r ih =>
    rw [List.all_cons, Bool.and_eq_true] at h
    rw [star_cons h.1]
    show (false || (backTo pos (starEach r env)).any (·.1)) = false
    rw [ih h.2] <;> rfl
theorem compEs_star {N : List Str} {es : List Expr} : ∀ {xs : List ME} {n : Nat} {sc : Scope}, compEs G N n sc es = some xs → es.all noStar = true := by
  induction es with
  | nil => intros; rfl
  | cons a r ih =>
    intro xs n sc e
    cases n with
    | zero => simp only [compEs] at e; cases e
    | succ n =>
      simp only [compEs] at e
      split at e
      · rename_i hs
        split at e
        · rename_i h1 h2
          rw [List.all_cons, hs, ih h2] <;> rfl
        · cases e
      · cases e
theorem s_call (ok : XOk G g P d W sc X) {x : Str} {p pos : Pos} {e : Expr} {es : List Expr} {xs : List ME} {i : Nat} (hg : isGl sc x = true) (ho : okName x = true) (hi : fnNum G x = some i) (hq : (G.asks i && !G.gd) = false) (hst : (e :: es).all noStar = true)
    (ha : SA g P d W X (e :: es) xs) : SE g P d W X (.Call (.Name x p) (e :: es) [] pos) (.call i xs) := by
  have hi' : G.fns[i]? = some x := slot_get hi
  obtain ⟨a, h1, h2, h3⟩ := ok.go.fn i x hi'
  obtain ⟨fd, ps, F, B⟩ := ok.fn i x a hi' h1
  rw [List.all_cons, Bool.and_eq_true] at hst
  have hγ : G.asks i = true → X.A.guards = some [] := fun h => ok.gd (by
    rw [h] at hq
    simpa using hq)
  refine PE.imp (pe_callW F hγ ok.room (ok.gl hg) h2 h3 B ok.tk ha (okName_d ho) (star_cons hst.1) (star_any hst.2)) fun σ H Q ⟨ρ, σm, hm, r, R, e, FF⟩ => ?_
  simp only [evalE] at e
  refine L.bnd R e FF fun ρ1 H1 v hm1 x1 p1 R1 r1 fr1 e _ => ?_
  refine ⟨ρ, H, ρ1, hm1, v, r, live_of R, p1, R1.noLoc, r1.1, r1.2, fr1, e, ?_⟩
  cases r with
  | ok z h => exact fun ρ' H' x p' R' rv fr => FF ρ' H' x p' (R.after p' R') rv fr
  | ex z h => exact fun ρ' H' c d p' R' rv => FF ρ' H' c d p' (R.after p' R') rv

theorem s_callv (ok : XOk G g P d W sc X) {x : Str} {p pos : Pos} {e : Expr} {es : List Expr} {xs : List ME} {i : Nat} (hv : isVis sc x = true) (ho : okName x = true) (hi : slot X.N x = some i) (hst : (e :: es).all noStar = true)
    (ha : SA g P d W X (e :: es) xs) : SE g P d W X (.Call (.Name x p) (e :: es) [] pos) (.callv i xs) := by
  rw [List.all_cons, Bool.and_eq_true] at hst
  refine ⟨fun pins s σ H Q I ⟨ρ, σm, hm, r, R, e, FF⟩ => ?_⟩
  simp only [evalE] at e
  cases hl : σm[i]? with
  | none => rw [hl] at e; cases e
  | some o =>
    rw [hl] at e
    cases o with
    | none => cases e
    | some v =>
      cases v with
      | fn f =>
        obtain ⟨x1, hx, rx⟩ := R.loc _ _ hl
        cases rx with
        | fn h1 h2 =>
          rename_i a
          rw [ok.go.ask] at h2
          obtain ⟨y, hy⟩ := ok.go.low f a h1
          obtain ⟨a', h1', h2', h3'⟩ := ok.go.fn f y hy
          rw [h1] at h1'
          cases h1'
          obtain ⟨fd, ps, F, B⟩ := ok.fn f y a hy h1
          refine (pe_callLW F (fun q => by rw [h2] at q; cases q) ok.room (slot_get hi) (by rw [ok.sc]; exact isVis_of hv) h3' B ok.tk ha (okName_d ho) (okName_c ho) (star_cons hst.1) (star_any hst.2)).run pins s σ H Q I ⟨hx, ?_⟩
          refine L.bnd R e FF fun ρ1 H1 v hm1 x1 p1 R1 r1 fr1 e _ => ?_
          refine ⟨ρ, H, ρ1, hm1, v, r, live_of R, p1, R1.noLoc, r1.1, r1.2, fr1, e, ?_⟩
          cases r with
          | ok z h => exact fun ρ' H' x p' R' rv fr => FF ρ' H' x p' (R.after p' R') rv fr
          | ex z h => exact fun ρ' H' c d p' R' rv => FF ρ' H' c d p' (R.after p' R') rv
      | _ => cases e

/-! ### built-ins -/
def rBI (g : GE) (b : BI) : List V → Hp → VK → Prop := fun xs H Q => ∃ ρ σm hm σ vs z, Rel g ρ σm hm σ H ∧ RVs g ρ H vs xs ∧ biV b vs hm = some z ∧ Done g σm hm σ ρ H z Q
theorem RVs.one {ρ : Rh} {H : Hp} {v : MV} {xs : List V} (r : RVs g ρ H [v] xs) : ∃ x, xs = [x] ∧ RV g ρ H v x := by
  cases r with
  | cons a b => cases b; exact ⟨_, rfl, a⟩
theorem RVs.two {ρ : Rh} {H : Hp} {v w : MV} {xs : List V} (r : RVs g ρ H [v, w] xs) : ∃ x y, xs = [x, y] ∧ RV g ρ H v x ∧ RV g ρ H w y := by
  cases r with
  | cons a b => obtain ⟨y, rfl, q⟩ := b.one; exact ⟨_, _, rfl, a, q⟩

theorem cr_abs' : CallR X (.builtin "abs") (rBI g .abs) := by
  intro pins s σ0 H xs us Q I rs ⟨ρ, σm, hm, σ, vs, z, R, rv, e, dn⟩
  unfold biV at e
  split at e <;> first | contradiction | skip
  cases e
  obtain ⟨x, rfl, r⟩ := rv.one
  cases r
  exact call_abs pins s σ0 H _ us Q I rs ⟨_, rfl, dn.now R (.int _)⟩
theorem cr_max2' (hc : X.calm = true) : CallR X (.builtin "max") (rBI g .max2) := by
  intro pins s σ0 H xs us Q I rs ⟨ρ, σm, hm, σ, vs, z, R, rv, e, dn⟩
  unfold biV at e
  split at e <;> first | contradiction | skip
  cases e
  obtain ⟨x, y, rfl, r, r2⟩ := rv.two
  cases r
  cases r2
  exact call_max2 hc pins s σ0 H _ us Q I rs ⟨_, _, rfl, dn.now R (.int _)⟩
theorem cr_min2' (hc : X.calm = true) : CallR X (.builtin "min") (rBI g .min2) := by
  intro pins s σ0 H xs us Q I rs ⟨ρ, σm, hm, σ, vs, z, R, rv, e, dn⟩
  unfold biV at e
  split at e <;> first | contradiction | skip
  cases e
  obtain ⟨x, y, rfl, r, r2⟩ := rv.two
  cases r
  cases r2
  exact call_min2 hc pins s σ0 H _ us Q I rs ⟨_, _, rfl, dn.now R (.int _)⟩
theorem cr_int' : CallR X (.type "int") (rBI g .int) := by
  intro pins s σ0 H xs us Q I rs ⟨ρ, σm, hm, σ, vs, z, R, rv, e, dn⟩
  unfold biV at e
  split at e <;> first | contradiction | skip
  · cases e
    obtain ⟨x, rfl, r⟩ := rv.one
    cases r
    exact call_int1 pins s σ0 H _ us Q I rs (.inl ⟨_, rfl, dn.now R (.int _)⟩)
  · cases e
    obtain ⟨x, rfl, r⟩ := rv.one
    cases r
    exact call_int1 pins s σ0 H _ us Q I rs (.inr ⟨_, rfl, dn.now R (.int _)⟩)
theorem cr_len' (hK : g.K = X.K) : CallR X (.builtin "len") (rBI g .len) := by
  intro pins s σ0 H xs us Q I rs ⟨ρ, σm, hm, σ, vs, z, R, rv, e, dn⟩
  unfold biV at e
  split at e <;> first | contradiction | skip
  · split at e
    · rename_i hz
      rw [sizeMax_eq] at hz
      cases e
      obtain ⟨x, rfl, r⟩ := rv.one
      cases r
      exact call_len pins s σ0 H _ us Q I rs ⟨_, _, rfl, ⟨hz, rfl⟩, dn.now R (.int _)⟩
    · cases e
  · obtain ⟨ys, hy, rfl⟩ := Option.map_eq_some_iff.mp e
    obtain ⟨x, rfl, r⟩ := rv.one
    obtain ⟨a, ws, rfl, hs, rs'⟩ := R.seq r hy
    rw [hK] at hs
    rcases hs with hs | hs
    · exact call_len pins s σ0 H _ us Q I rs ⟨_, _, rfl, .inl ⟨ws, hs, rfl⟩, by rw [← rs'.length]; exact dn.now R (.int _)⟩
    · exact call_len pins s σ0 H _ us Q I rs ⟨_, _, rfl, .inr ⟨ws, hs, rfl⟩, by rw [← rs'.length]; exact dn.now R (.int _)⟩
theorem cr_sum' (hK : g.K = X.K) (hc : X.calm = true) : CallR X (.builtin "sum") (rBI g .sum) := by
  intro pins s σ0 H xs us Q I rs ⟨ρ, σm, hm, σ, vs, z, R, rv, e, dn⟩
  unfold biV at e
  split at e <;> first | contradiction | skip
  split at e <;> first | contradiction | skip
  rename_i ys hy
  obtain ⟨ns, hn, rfl⟩ := Option.map_eq_some_iff.mp e
  obtain ⟨x, rfl, r⟩ := rv.one
  obtain ⟨a, ws, rfl, hs, rs'⟩ := R.seq r hy
  have := rs'.intsOf hn
  subst this
  rw [hK] at hs
  rcases hs with hs | hs
  · exact cr_sum hc pins s σ0 H _ us Q I rs ⟨a, ns, rfl, hs, dn.now R (.int _)⟩
  · exact cr_sumT hc pins s σ0 H _ us Q I rs ⟨a, ns, rfl, hs, dn.now R (.int _)⟩
theorem foldl_max : ∀ (ns : List Int) (n : Int), ns.foldl max n ∈ n :: ns ∧ ∀ y, y ∈ n :: ns → y ≤ ns.foldl max n
  | [], n => ⟨List.mem_cons_self, fun y h => by
    have : y = n := by simpa using h
    rw [this]
    exact Int.le_refl _⟩
  | m :: ns, n => by
    obtain ⟨h1, h2⟩ := foldl_max ns (max n m)
    refine ⟨?_, fun y hy => ?_⟩
    · show ns.foldl max (max n m) ∈ _
      rcases List.mem_cons.mp h1 with e | e
      · rw [e]
        rcases Int.le_total n m with q | q
        · rw [Int.max_eq_right q]; simp
        · rw [Int.max_eq_left q]; simp
      · exact List.mem_cons_of_mem _ (List.mem_cons_of_mem _ e)
    · show y ≤ ns.foldl max (max n m)
      have h3 := h2 (max n m) List.mem_cons_self
      rcases List.mem_cons.mp hy with e | e
      · rw [e]; exact Int.le_trans (Int.le_max_left _ _) h3
      · rcases List.mem_cons.mp e with e | e
        · rw [e]; exact Int.le_trans (Int.le_max_right _ _) h3
        · exact h2 y (List.mem_cons_of_mem _ e)
theorem foldl_min : ∀ (ns : List Int) (n : Int), ns.foldl min n ∈ n :: ns ∧ ∀ y, y ∈ n :: ns → ns.foldl min n ≤ y
  | [], n => ⟨List.mem_cons_self, fun y h => by
    have : y = n := by simpa using h
    rw [this]
    exact Int.le_refl _⟩
  | m :: ns, n => by
    obtain ⟨h1, h2⟩ := foldl_min ns (min n m)
    refine ⟨?_, fun y hy => ?_⟩
    · show ns.foldl min (min n m) ∈ _
      rcases List.mem_cons.mp h1 with e | e
      · rw [e]
        rcases Int.le_total n m with q | q
        · rw [Int.min_eq_left q]; simp
        · rw [Int.min_eq_right q]; simp
      · exact List.mem_cons_of_mem _ (List.mem_cons_of_mem _ e)
    · show ns.foldl min (min n m) ≤ y
      have h3 := h2 (min n m) List.mem_cons_self
      rcases List.mem_cons.mp hy with e | e
      · rw [e]; exact Int.le_trans h3 (Int.min_le_left _ _)
      · rcases List.mem_cons.mp e with e | e
        · rw [e]; exact Int.le_trans h3 (Int.min_le_right _ _)
        · exact h2 y (List.mem_cons_of_mem _ e)
theorem cr_max1' (hK : g.K = X.K) (hc : X.calm = true) : CallR X (.builtin "max") (rBI g .max1) := by
  intro pins s σ0 H xs us Q I rs ⟨ρ, σm, hm, σ, vs, z, R, rv, e, dn⟩
  unfold biV at e
  split at e <;> first | contradiction | skip
  split at e <;> first | contradiction | skip
  rename_i ys hy
  split at e <;> first | contradiction | skip
  rename_i n ns hn
  cases e
  obtain ⟨x, rfl, r⟩ := rv.one
  obtain ⟨a, ws, rfl, hs, rs'⟩ := R.items r hy
  have := rs'.intsOf hn
  subst this
  rw [hK] at hs
  refine cr_max hc pins s σ0 H _ us Q I rs ⟨a, n :: ns, rfl, hs, by simp, fun m h1 h2 => ?_⟩
  obtain ⟨g1, g2⟩ := foldl_max ns n
  have em : m = ns.foldl max n := Int.le_antisymm (g2 m h1) (h2 _ g1)
  rw [em]
  exact dn.now R (.int _)
theorem cr_min1' (hK : g.K = X.K) (hc : X.calm = true) : CallR X (.builtin "min") (rBI g .min1) := by
  intro pins s σ0 H xs us Q I rs ⟨ρ, σm, hm, σ, vs, z, R, rv, e, dn⟩
  unfold biV at e
  split at e <;> first | contradiction | skip
  split at e <;> first | contradiction | skip
  rename_i ys hy
  split at e <;> first | contradiction | skip
  rename_i n ns hn
  cases e
  obtain ⟨x, rfl, r⟩ := rv.one
  obtain ⟨a, ws, rfl, hs, rs'⟩ := R.items r hy
  have := rs'.intsOf hn
  subst this
  rw [hK] at hs
  refine cr_min hc pins s σ0 H _ us Q I rs ⟨a, n :: ns, rfl, hs, by simp, fun m h1 h2 => ?_⟩
  obtain ⟨g1, g2⟩ := foldl_min ns n
  have em : m = ns.foldl min n := Int.le_antisymm (h2 _ g1) (g2 m h1)
  rw [em]
  exact dn.now R (.int _)
theorem cr_all' (hK : g.K = X.K) (hc : X.calm = true) : CallR X (.builtin "all") (rBI g .all) := by
  intro pins s σ0 H xs us Q I rs ⟨ρ, σm, hm, σ, vs, z, R, rv, e, dn⟩
  unfold biV at e
  split at e <;> first | contradiction | skip
  split at e <;> first | contradiction | skip
  rename_i ys hy
  obtain ⟨ns, hn, rfl⟩ := Option.map_eq_some_iff.mp e
  obtain ⟨x, rfl, r⟩ := rv.one
  obtain ⟨a, ws, rfl, hs, rs'⟩ := R.items r hy
  have := rs'.blsOf hn
  subst this
  rw [hK] at hs
  exact cr_all hc pins s σ0 H _ us Q I rs ⟨a, ns, rfl, hs, dn.now R (.bl _)⟩
theorem cr_any' (hK : g.K = X.K) (hc : X.calm = true) : CallR X (.builtin "any") (rBI g .any) := by
  intro pins s σ0 H xs us Q I rs ⟨ρ, σm, hm, σ, vs, z, R, rv, e, dn⟩
  unfold biV at e
  split at e <;> first | contradiction | skip
  split at e <;> first | contradiction | skip
  rename_i ys hy
  obtain ⟨ns, hn, rfl⟩ := Option.map_eq_some_iff.mp e
  obtain ⟨x, rfl, r⟩ := rv.one
  obtain ⟨a, ws, rfl, hs, rs'⟩ := R.items r hy
  have := rs'.blsOf hn
  subst this
  rw [hK] at hs
  exact cr_any hc pins s σ0 H _ us Q I rs ⟨a, ns, rfl, hs, dn.now R (.bl _)⟩
theorem cr_tuple' (hK : g.K = X.K) : CallR X (.type "tuple") (rBI g .tuple) := by
  intro pins s σ0 H xs us Q I rs ⟨ρ, σm, hm, σ, vs, z, R, rv, e, dn⟩
  unfold biV at e
  split at e <;> first | contradiction | skip
  · cases e
    obtain ⟨x, rfl, r⟩ := rv.one
    cases r with
    | tup ht t =>
      rename_i a ws
      exact call_tuple_of pins s σ0 H _ us Q I rs ⟨_, ws, rfl, .inr ⟨hK ▸ ht, dn.now R (.tup ht t)⟩⟩
  · obtain ⟨ys, hy, rfl⟩ := Option.map_eq_some_iff.mp e
    obtain ⟨x, rfl, r⟩ := rv.one
    obtain ⟨a, ws, rfl, hs, rs'⟩ := R.items r hy
    rw [hK] at hs
    exact call_tuple_of pins s σ0 H _ us Q I rs ⟨a, ws, rfl, .inl ⟨hs, dn.tup R rs'⟩⟩
theorem cr_list' (hK : g.K = X.K) : CallR X (.type "list") (rBI g .list) := by
  intro pins s σ0 H xs us Q I rs ⟨ρ, σm, hm, σ, vs, z, R, rv, e, dn⟩
  unfold biV at e
  split at e <;> first | contradiction | skip
  obtain ⟨ys, hy, rfl⟩ := Option.map_eq_some_iff.mp e
  obtain ⟨x, rfl, r⟩ := rv.one
  obtain ⟨a, ws, rfl, hs, rs'⟩ := R.seq r hy
  rw [hK] at hs
  exact call_list_of pins s σ0 H _ us Q I rs ⟨a, ws, rfl, hs, dn.lst R rs'⟩
theorem insI_perm (x : Int) : ∀ xs : List Int, (insI x xs).Perm (x :: xs)
  | [] => .refl _
  | y :: r => by
    unfold insI
    split
    · exact .refl _
    · exact ((insI_perm x r).cons y).trans (.swap x y r)
theorem sortI_perm : ∀ xs : List Int, (sortI xs).Perm xs
  | [] => .refl _
  | x :: r => (insI_perm x (sortI r)).trans ((sortI_perm r).cons x)
theorem insI_sorted (x : Int) : ∀ {xs : List Int}, xs.Pairwise (· ≤ ·) → (insI x xs).Pairwise (· ≤ ·)
  | [], _ => by simp [insI]
  | y :: r, h => by
    unfold insI
    rw [List.pairwise_cons] at h
    split
    · rename_i hxy
      rw [List.pairwise_cons, List.pairwise_cons]
      refine ⟨fun z hz => ?_, h⟩
      rcases List.mem_cons.mp hz with q | q
      · rw [q]; exact hxy
      · exact Int.le_trans hxy (h.1 z q)
    · rename_i hxy
      rw [List.pairwise_cons]
      refine ⟨fun z hz => ?_, insI_sorted x h.2⟩
      rcases List.mem_cons.mp ((insI_perm x r).mem_iff.mp hz) with q | q
      · rw [q]; omega
      · exact h.1 z q
theorem sortI_sorted : ∀ xs : List Int, (sortI xs).Pairwise (· ≤ ·)
  | [] => List.Pairwise.nil
  | x :: r => insI_sorted x (sortI_sorted r)
theorem sorted_uniq : ∀ {xs ys : List Int}, xs.Perm ys → xs.Pairwise (· ≤ ·) → ys.Pairwise (· ≤ ·) → xs = ys
  | [], ys, p, _, _ => (List.nil_perm.mp p).symm
  | x :: xs, [], p, _, _ => absurd p.length_eq (by simp)
  | x :: xs, y :: ys, p, h1, h2 => by
    rw [List.pairwise_cons] at h1 h2
    have e : x = y := by
      have a : x ∈ y :: ys := p.mem_iff.mp List.mem_cons_self
      have b : y ∈ x :: xs := p.mem_iff.mpr List.mem_cons_self
      rcases List.mem_cons.mp a with q | q
      · exact q
      · rcases List.mem_cons.mp b with q' | q'
        · exact q'.symm
        · have := h1.1 y q'
          have := h2.1 x q
          omega
    subst e
    rw [sorted_uniq (List.Perm.cons_inv p) h1.2 h2.2]
theorem insL_perm (x : List Int) : ∀ xs : List (List Int), (insL x xs).Perm (x :: xs)
  | [] => .refl _
  | y :: r => by
    unfold insL
    split
    · exact ((insL_perm x r).cons y).trans (.swap x y r)
    · exact .refl _
theorem sortL_perm : ∀ xs : List (List Int), (sortL xs).Perm xs
  | [] => .refl _
  | x :: r => (insL_perm x (sortL r)).trans ((sortL_perm r).cons x)
theorem insL_sorted (x : List Int) : ∀ {xs : List (List Int)}, xs.Pairwise (fun a b => SrtT.lexL b a = false) → (insL x xs).Pairwise (fun a b => SrtT.lexL b a = false)
  | [], _ => by simp [insL]
  | y :: r, h => by
    unfold insL
    rw [List.pairwise_cons] at h
    split
    · rename_i hxy
      rw [List.pairwise_cons]
      refine ⟨fun z hz => ?_, insL_sorted x h.2⟩
      rcases List.mem_cons.mp ((insL_perm x r).mem_iff.mp hz) with q | q
      · rw [q]; exact SrtT.lexL_asym _ _ hxy
      · exact h.1 z q
    · rename_i hxy
      have hxy : SrtT.lexL y x = false := by simpa using hxy
      rw [List.pairwise_cons, List.pairwise_cons]
      refine ⟨fun z hz => ?_, h⟩
      rcases List.mem_cons.mp hz with q | q
      · rw [q]; exact hxy
      · exact SrtT.lexL_tr x y z hxy (h.1 z q)
theorem sortL_sorted : ∀ xs : List (List Int), (sortL xs).Pairwise (fun a b => SrtT.lexL b a = false)
  | [] => List.Pairwise.nil
  | x :: r => insL_sorted x (sortL_sorted r)
theorem sortedL_uniq : ∀ {xs ys : List (List Int)}, xs.Perm ys → xs.Pairwise (fun a b => SrtT.lexL b a = false) → ys.Pairwise (fun a b => SrtT.lexL b a = false) → xs = ys
  | [], ys, p, _, _ => (List.nil_perm.mp p).symm
  | x :: xs, [], p, _, _ => absurd p.length_eq (by simp)
  | x :: xs, y :: ys, p, h1, h2 => by
    rw [List.pairwise_cons] at h1 h2
    have e : x = y := by
      have a : x ∈ y :: ys := p.mem_iff.mp List.mem_cons_self
      have b : y ∈ x :: xs := p.mem_iff.mpr List.mem_cons_self
      rcases List.mem_cons.mp a with q | q
      · exact q
      · rcases List.mem_cons.mp b with q' | q'
        · exact q'.symm
        · exact SrtT.lexL_eq x y (h2.1 x q) (h1.1 y q')
    subst e
    rw [sortedL_uniq (List.Perm.cons_inv p) h1.2 h2.2]
theorem RVs.tupsOf {g : GE} {ρ : Rh} {H : Hp} : ∀ {xs : List MV} {vs : List V} {ts : List (List Int)}, RVs g ρ H xs vs → Mi.tupsOf xs = some ts → vs.length = ts.length ∧ ∀ (i : Nat) (x : V) (t : List Int), vs[i]? = some x → ts[i]? = some t → ∃ q, x = V.ref q ∧ SqT g.K H q (t.map .int)
  | _, _, ts, .nil, e => by
    have e : some [] = some ts := e
    cases e
    exact ⟨rfl, fun i x t h => by simp at h⟩
  | _, _, ts, .cons r t, e => by
    cases r with
    | tup hs rs =>
      simp only [Mi.tupsOf] at e
      split at e
      · rename_i t0 ts0 h1 h2
        cases e
        obtain ⟨l, q⟩ := RVs.tupsOf t h2
        have := rs.intsOf h1
        subst this
        refine ⟨by simp [l], fun i x t h h' => ?_⟩
        cases i with
        | zero =>
          simp only [List.getElem?_cons_zero, Option.some.injEq] at h h'
          subst h h'
          exact ⟨_, rfl, hs⟩
        | succ i => exact q i x t (by simpa using h) (by simpa using h')
      · cases e
    | _ => simp only [Mi.tupsOf] at e; cases e
theorem RVs.of_tups {g : GE} {ρ : Rh} {H : Hp} {k : V → List Int} : ∀ {ys : List V}, (∀ y ∈ ys, ∃ q, y = V.ref q ∧ SqT g.K H q ((k y).map .int)) → RVs g ρ H ((ys.map k).map fun t => .tup (t.map .int)) ys
  | [], _ => .nil
  | y :: ys, h => by
    obtain ⟨q, e, hs⟩ := h y List.mem_cons_self
    refine .cons ?_ (RVs.of_tups fun z hz => h z (List.mem_cons_of_mem _ hz))
    have := RV.tup (ρ := ρ) hs RVs.ints
    rw [e] at this ⊢
    exact this
theorem cr_sorted' (hK : g.K = X.K) : CallR X (.builtin "sorted") (rBI g .sorted) := by
  intro pins s σ0 H xs us Q I rs ⟨ρ, σm, hm, σ, vs, z, R, rv, e, dn⟩
  unfold biV at e
  split at e <;> first | contradiction | skip
  split at e <;> first | contradiction | skip
  rename_i ys hy
  unfold sortedV at e
  obtain ⟨x, rfl, r⟩ := rv.one
  obtain ⟨a, ws, rfl, hs, rs'⟩ := R.items r hy
  rw [hK] at hs
  split at e
  · rename_i ns hn
    cases e
    have := rs'.intsOf hn
    subst this
    refine cr_sortedI pins s σ0 H _ us Q I rs ⟨a, ns, rfl, hs, fun ns' p h1 h2 hp => ?_⟩
    have e : ns' = sortI ns := sorted_uniq (h1.trans (sortI_perm ns).symm) h2 (sortI_sorted ns)
    subst e
    exact dn.lst R RVs.ints p hp
  · split at e
    · rename_i ts ht
      split at e
      · rename_i hc
        cases e
        simp only [Bool.and_eq_true, decide_eq_true_eq, List.all_eq_true] at hc
        obtain ⟨hl, ht⟩ := rs'.tupsOf ht
        refine cr_sortedT pins s σ0 H _ us Q I rs ⟨a, ws, ts, _, rfl, hs, hc.1, hl, fun i x t h1 h2 => ⟨hc.2 t (List.mem_of_getElem? h2), ?_⟩, fun k ys p hk h1 h2 hp => ?_⟩
        · obtain ⟨q, e, hq⟩ := ht i x t h1 h2
          exact ⟨q, e, hK ▸ hq⟩
        · have hm : ∀ y ∈ ws, ∃ q, y = V.ref q ∧ SqT g.K H q ((k y).map .int) := fun y hy => by
            obtain ⟨i, hi, rfl⟩ := List.getElem_of_mem hy
            have hi' : i < ts.length := hl ▸ hi
            have e : k ws[i] = ts[i] := by
              have : (ws.map k)[i]'(by simpa using hi) = ts[i] := by
                congr 1
              rw [List.getElem_map] at this
              exact this
            obtain ⟨q, e1, hq⟩ := ht i _ _ (List.getElem?_eq_getElem hi) (List.getElem?_eq_getElem hi')
            rw [e]
            exact ⟨q, e1, hq⟩
          have e : ys.map k = sortL ts := by
            refine sortedL_uniq ?_ (List.pairwise_map.mpr h1) (sortL_sorted ts)
            have := h2.perm.map k
            rw [hk] at this
            exact this.trans (sortL_perm ts).symm
          have r := RVs.of_tups (ρ := ρ) fun y hy => hm y (h2.perm.mem_iff.mp hy)
          rw [e] at r
          exact dn.lst R r p hp
      · cases e
    · cases e
/-- repr of data, where no repr is under way -/
theorem dp_data {K : PySem.W.Frag} {H : Hp} {x : V} {d : PyData} (h : Dp K H x d) : (∃ a, x = .ref a) ∨ (x = .non ∧ d = .none) ∨ (∃ b, x = .bl b ∧ d = .bool b) ∨ (∃ i, x = .int i ∧ d = .int i) ∨ ∃ y, x = .str y ∧ d = .str y := by
  cases h with
  | non => exact .inr (.inl ⟨rfl, rfl⟩)
  | bl b => exact .inr (.inr (.inl ⟨b, rfl, rfl⟩))
  | int i => exact .inr (.inr (.inr (.inl ⟨i, rfl, rfl⟩)))
  | str y => exact .inr (.inr (.inr (.inr ⟨y, rfl, rfl⟩)))
  | lst => exact .inl ⟨_, rfl⟩
  | tup => exact .inl ⟨_, rfl⟩
theorem cr_reprD (hg : X.A.guards = some []) (hu : X.A.units + 64 < cLine) : CallR X (.builtin "repr") (fun xs H Q => ∃ x d t, xs = [x] ∧ Dp X.K H x d ∧ reprD d = some t ∧ Q (.str t) H) := by
  intro pins s σ0 H xs us Q I rs h
  obtain ⟨x, d, t, rfl, hd, ht, q⟩ := h
  cases rs with
  | cons ru rn =>
    rename_i u us'
    cases rn
    obtain ⟨as, rd⟩ := Dp.reads I d x u hd ru
    unfold reprD at ht
    split at ht
    · rename_i hz
      cases ht
      simp only [Bool.and_eq_true, decide_eq_true_eq, Bool.not_eq_true'] at hz
      obtain ⟨⟨⟨h1, h2⟩, h3⟩, h4⟩ := hz
      rw [sizeMax_eq] at h4
      rcases dp_data hd with ⟨a, rfl⟩ | ⟨rfl, rfl⟩ | ⟨b, rfl, rfl⟩ | ⟨i, rfl, rfl⟩ | ⟨y, rfl, rfl⟩
      · cases ru
        exact PySem.repr_of_reads' rd h1 (fun z => by rw [h2] at z; cases z) hg (by omega) (fun _ _ e => e) (fun h' v tk hk => ⟨.str d.shown, H, I.kept hk, ⟨_, rfl⟩, q⟩) h4
      · cases ru
        simp only [PyData.shown] at q
        exact PySem.P.repr_of_none ⟨.str _, H, I.tok _, ⟨_, rfl⟩, q⟩
      · cases ru
        simp only [PyData.shown] at q
        exact PySem.P.repr_of_bool ⟨.str _, H, I.tok _, ⟨_, rfl⟩, q⟩
      · obtain ⟨tt, rfl⟩ := ru
        simp only [PyData.shown] at q
        exact PySem.P.repr_of_int (by simpa [PyData.showable] using h1) ⟨.str _, H, I.tok _, ⟨_, rfl⟩, q⟩
      · obtain ⟨tt, rfl⟩ := ru
        simp only [PyData.shown] at q h4
        exact PySem.P.repr_of_str ⟨.str _, H, I.tok _, ⟨_, rfl⟩, q⟩ h4
    · cases ht
theorem cr_repr' (hK : g.K = X.K) (hg : X.A.guards = some []) (hu : X.A.units + 64 < cLine) : CallR X (.builtin "repr") (rBI g .repr) := by
  intro pins s σ0 H xs us Q I rs h
  obtain ⟨ρ, σm, hm, σ, vs, z, R, rv, e, dn⟩ := h
  unfold biV at e
  split at e <;> first | contradiction | skip
  rename_i a _
  obtain ⟨t, h1, rfl⟩ := Option.map_eq_some_iff.mp e
  obtain ⟨x, rfl, r⟩ := rv.one
  unfold reprV at h1
  split at h1
  · rename_i dd hd
    have := R.dp r hd
    rw [hK] at this
    exact cr_reprD hg hu pins s σ0 H _ us Q I rs ⟨x, dd, t, rfl, this, h1, dn.now R (.str t)⟩
  · cases h1
/-- the argument list ends in a value -/
theorem L.biL {b : BI} {xs : List ME} {σ : L2.St} {H : Hp} {Q : VK} (h : LE g W (evalE (calls P d) (.bi b xs)) σ H Q) : LA g W (evalEs (calls P d) xs) σ H fun vs H1 => rBI g b vs H1 Q := by
  obtain ⟨ρ, σm, hm, r, R, e, F⟩ := h
  simp only [evalE] at e
  refine L.bnd R e F fun ρ1 H1 v hm1 x1 p1 R1 r1 fr1 e F => ?_
  cases hz : biV b v hm1 with
  | none => rw [hz] at e; cases e
  | some z =>
    rw [hz] at e
    cases e
    exact ⟨ρ1, σm, hm1, σ, v, z, R1, r1.1, hz, F.done⟩
theorem s_biB (ok : XOk G g P d W sc X) {x : Str} {id : String} {b : BI} {p pos : Pos} {e : Expr} {es : List Expr} {xs : List ME} (hc : CallR X (.builtin id) (rBI g b)) (hg : isGl sc x = true) (hm : X.mg x = none) (ho : okName x = true) (hv : bootBuiltins x = some (.builtin id))
    (hst : (e :: es).all noStar = true) (ha : SA g P d W X (e :: es) xs) : SE g P d W X (.Call (.Name x p) (e :: es) [] pos) (.bi b xs) := by
  rw [List.all_cons, Bool.and_eq_true] at hst
  exact PE.imp (pe_callB hc (ok.gl hg) hm hv ha (okName_n ho) (okName_d ho) (star_cons hst.1) (star_any hst.2)) fun σ H Q h => L.biL h
theorem s_biT (ok : XOk G g P d W sc X) {x : Str} {id : String} {b : BI} {p pos : Pos} {e : Expr} {es : List Expr} {xs : List ME} (hc : CallR X (.type id) (rBI g b)) (hg : isGl sc x = true) (hm : X.mg x = none) (ho : okName x = true) (hv : bootBuiltins x = some (.type id))
    (hst : (e :: es).all noStar = true) (ha : SA g P d W X (e :: es) xs) : SE g P d W X (.Call (.Name x p) (e :: es) [] pos) (.bi b xs) := by
  rw [List.all_cons, Bool.and_eq_true] at hst
  exact PE.imp (pe_callTy hc (ok.gl hg) hm hv ha (okName_n ho) (okName_d ho) (star_cons hst.1) (star_any hst.2)) fun σ H Q h => L.biL h
theorem s_bi (ok : XOk G g P d W sc X) {x : Str} {b : BI} {p pos : Pos} {e : Expr} {es : List Expr} {xs : List ME} (hb : biOfG G x (e :: es).length = some b) (hg : isGl sc x = true) (ho : okName x = true)
    (hst : (e :: es).all noStar = true) (ha : SA g P d W X (e :: es) xs) : SE g P d W X (.Call (.Name x p) (e :: es) [] pos) (.bi b xs) := by
  have hK := ok.go.hK
  have hc := ok.calm
  unfold biOfG at hb
  split at hb
  · rename_i hx
    obtain ⟨hx, _⟩ := hx
    subst hx
    split at hb
    · rename_i hgd
      cases hb
      exact s_biB ok (cr_repr' hK (ok.gd hgd) ok.room.units) hg (ok.go.blt _ (by decide +kernel)) ho (by decide +kernel) hst ha
    · cases hb
  split at hb
  · rename_i hx
    obtain ⟨hx, _⟩ := hx
    subst hx
    cases hb
    exact s_biB ok (cr_max1' hK hc) hg (ok.go.blt _ (by decide +kernel)) ho boot_max hst ha
  split at hb
  · rename_i hx
    obtain ⟨hx, _⟩ := hx
    subst hx
    cases hb
    exact s_biB ok (cr_min1' hK hc) hg (ok.go.blt _ (by decide +kernel)) ho boot_min hst ha
  unfold biOf at hb
  repeat' split at hb
  all_goals first | (cases hb; done) | skip
  all_goals (rename_i hx; obtain ⟨hx, _⟩ := hx; subst hx; cases hb)
  · exact s_biB ok cr_abs' hg (ok.go.blt _ (by decide +kernel)) ho boot_abs hst ha
  · exact s_biB ok (cr_max2' hc) hg (ok.go.blt _ (by decide +kernel)) ho boot_max hst ha
  · exact s_biB ok (cr_min2' hc) hg (ok.go.blt _ (by decide +kernel)) ho boot_min hst ha
  · exact s_biT ok cr_int' hg (ok.go.blt _ (by decide +kernel)) ho boot_int hst ha
  · exact s_biB ok (cr_len' hK) hg (ok.go.blt _ (by decide +kernel)) ho PySem.boot_len hst ha
  · exact s_biB ok (cr_sum' hK hc) hg (ok.go.blt _ (by decide +kernel)) ho boot_sum hst ha
  · exact s_biB ok (cr_all' hK hc) hg (ok.go.blt _ (by decide +kernel)) ho boot_all hst ha
  · exact s_biB ok (cr_any' hK hc) hg (ok.go.blt _ (by decide +kernel)) ho boot_any hst ha
  · exact s_biT ok (cr_tuple' hK) hg (ok.go.blt _ (by decide +kernel)) ho boot_tuple hst ha
  · exact s_biT ok (cr_list' hK) hg (ok.go.blt _ (by decide +kernel)) ho boot_list hst ha
  · exact s_biB ok (cr_sorted' hK) hg (ok.go.blt _ (by decide +kernel)) ho (by decide +kernel) hst ha

/-! ### list(range(..)) -/
theorem rgV_rng {g : GE} {ρ : Rh} {H : Hp} (a b : Int) : RVs g ρ H (rng a (b - a).toNat) (rgV a b) := by
  unfold rng rgV
  generalize (b - a).toNat = n
  induction n with
  | zero => exact .nil
  | succ n ih =>
    rw [List.range_succ, List.map_append, List.map_append]
    exact ih.append (.cons (.int _) .nil)
theorem small_rg {i : Int} (h : small i = true) : -(2 ^ 62) ≤ i ∧ i < 2 ^ 62 := by
  unfold small at h
  simp only [Bool.and_eq_true, decide_eq_true_eq] at h
  exact ⟨by omega, by omega⟩
theorem s_lrg1 (ok : XOk G g P d W sc X) {b : Expr} {y : ME} {p p2 p3 pos : Pos} (hg : isGl sc ("list" : Str) = true) (hg2 : isGl sc ("range" : Str) = true) (hs : noStar b = true) (hb : SE g P d W X b y) :
    SE g P d W X (.Call (.Name "list" p) [.Call (.Name "range" p2) [b] [] p3] [] pos) (.lrg none y) := by
  refine PE.imp (pe_listRg ok.calm (ok.gl hg) (ok.go.blt _ (by decide +kernel)) (prg_1 (ok.gl hg2) (ok.go.blt _ (by decide +kernel)) hb (star_cons hs)) (star_cons rfl)) fun σ H Q ⟨ρ, σm, hm, r, R, e, F⟩ => ?_
  simp only [evalE, evalO, bnd_ok] at e
  refine L.bnd R e F fun ρ1 H1 v hm1 x1 p1 R1 r1 fr1 e F => ?_
  split at e
  · rename_i j
    split at e
    · rename_i hz
      cases e
      cases r1
      obtain ⟨h1, h2, h3⟩ := hz
      obtain ⟨a1, a2⟩ := small_rg h2
      refine ⟨j, rfl, ⟨by decide, by decide, a1, a2, by simpa using h3⟩, fun q n => ?_⟩
      exact F.done.lst R1 (rgV_rng 0 j) q n
    · cases e
  · cases e
theorem s_lrg2 (ok : XOk G g P d W sc X) {a b : Expr} {x y : ME} {p p2 p3 pos : Pos} (hg : isGl sc ("list" : Str) = true) (hg2 : isGl sc ("range" : Str) = true) (hs : noStar a = true) (hs2 : noStar b = true) (ha : SE g P d W X a x) (hb : SE g P d W X b y) :
    SE g P d W X (.Call (.Name "list" p) [.Call (.Name "range" p2) [a, b] [] p3] [] pos) (.lrg (some x) y) := by
  refine PE.imp (pe_listRg ok.calm (ok.gl hg) (ok.go.blt _ (by decide +kernel)) (prg_2 (ok.gl hg2) (ok.go.blt _ (by decide +kernel)) ha hb (star_cons hs) (star_cons hs2) (star_any (by simp [hs2]))) (star_cons rfl)) fun σ H Q ⟨ρ, σm, hm, r, R, e, F⟩ => ?_
  simp only [evalE, evalO, bnd_assoc] at e
  refine L.bnd R e F fun ρ1 H1 v hm1 x1 p1 R1 r1 fr1 e F => ?_
  split at e
  · rename_i i
    simp only [bnd_ok] at e
    refine L.bnd R1 e F fun ρ2 H2 w hm2 x2 p2 R2 r2 fr2 e F => ?_
    split at e
    · rename_i j
      split at e
      · rename_i hz
        cases e
        cases r1
        cases r2
        obtain ⟨h1, h2, h3⟩ := hz
        obtain ⟨a1, a2⟩ := small_rg h1
        obtain ⟨b1, b2⟩ := small_rg h2
        exact ⟨i, j, rfl, rfl, ⟨a1, a2, b1, b2, h3⟩, fun q n => F.done.lst R2 (rgV_rng i j) q n⟩
      · cases e
    · cases e
  · cases e
/-! ### isinstance -/
def tyName : TyN → String
  | .int => "int"
  | .bool => "bool"
  | .str => "str"
  | .tuple => "tuple"
  | .list => "list"
  | .dict => "dict"
theorem kit_all (t u : TyN) : kitB (tyName t) (tyName u) = some (decide (t = u) || (decide (t = .bool) && decide (u = .int))) := by
  cases t <;> cases u <;> decide +kernel
theorem kit_non (u : TyN) : kitB "NoneType" (tyName u) = some false := by
  cases u <;> decide +kernel
theorem Rel.tyX (hK : g.K = X.K) {ρ : Rh} {σm : Loc} {hm : Hm} {σ : L2.St} {H : Hp} (R : Rel g ρ σm hm σ H) {v : MV} {x : V} {t : TyN} (r : RV g ρ H v x) (e : tyOf hm v = some t) : TyX X.K H x (.type (tyName t)) := by
  cases r with
  | non => cases e
  | bl _ => cases e; exact .base (.bl _)
  | int _ => cases e; exact .base (.int _)
  | str _ => cases e; exact .base (.str _)
  | fn _ _ => cases e
  | edc h _ => cases e; exact .base (.dK h)
  | any _ => cases e
  | obj _ _ _ _ _ _ _ => cases e
  | tup h _ =>
    cases e
    rcases h with (h | ⟨o, h⟩) | ⟨o, its, n, h1, h2, _⟩
    · exact .base (.tup h)
    · exact .fTuple h
    · exact .kTuple (hK ▸ h1) h2
  | lst h _ _ => cases e; exact .base (.lst h)
  | fz h _ _ => cases e; exact .base (.lst h)
  | scr h =>
    cases e
    rcases h with ⟨o, h, _⟩ | ⟨o, its, n, h1, h2, _⟩
    · exact .base (.frz h)
    · exact .kList (hK ▸ h1) h2
  | @ref n a h =>
    simp only [tyOf] at e
    split at e
    · rename_i ys q
      cases e
      obtain ⟨vs, e1, _⟩ := R.obj n _ a q h
      exact .base (.lst e1)
    · rename_i ns q
      cases e
      obtain ⟨o, e1⟩ := R.obj n _ a q h
      exact .base (.frz e1)
    · rename_i q
      cases e
      exact (R.obj n _ a q h).elim
    · cases e
theorem tyOfN_name {x : Str} {t : TyN} (h : tyOfN x = some t) : bootBuiltins x = some (.type (tyName t)) := by
  unfold tyOfN at h
  repeat' split at h
  all_goals first | (cases h; done) | skip
  all_goals (rename_i hx; subst hx; cases h; decide +kernel)
theorem tyOfN_bn {x : Str} {t : TyN} (h : tyOfN x = some t) : x ∈ BN := by
  unfold tyOfN at h
  repeat' split at h
  all_goals first | (cases h; done) | skip
  all_goals (rename_i hx; subst hx; decide +kernel)
theorem s_isi (ok : XOk G g P d W sc X) {t : Str} {ty : TyN} {p p2 pos : Pos} {a : Expr} {x : ME} (hg : isGl sc ("isinstance" : Str) = true) (hgt : isGl sc t = true) (hot : okName t = true) (ht : tyOfN t = some ty) (hst : noStar a = true)
    (ha : SE g P d W X a x) : SE g P d W X (.Call (.Name "isinstance" p) [a, .Name t p2] [] pos) (.isi x [ty]) := by
  have hb : PE X (.Name t p2) (tC (.ty (tyName ty))) := pe_bltn (ok.gl hgt) (ok.go.blt _ (tyOfN_bn ht)) (tyOfN_name ht) rfl (okName_n hot) (okName_d hot)
  refine PE.imp (pe_callB call_isi (ok.gl hg) (ok.go.blt _ (by decide +kernel)) boot_isinstance (pa_cons ha (pa_cons hb pa_nil) (star_cons hst)) (by decide) (by decide) (star_cons hst) (star_any rfl)) fun σ H Q ⟨ρ, σm, hm, r, R, e, F⟩ => ?_
  simp only [evalE] at e
  refine L.bnd R e F fun ρ1 H1 v hm1 x1 p1 R1 r1 fr1 e F => ?_
  have fin : ∀ {b : Bool} {t0 : Value}, isTy hm1 v ty = some b → TyX X.K H1 x1 t0 → PySem.W.kitOne X.K t0 (.type (tyName ty)) = some b → tCons (tC (.ty (tyName ty))) tNil σ H1 (fun vs H2 => rIsi X.K (x1 :: vs) H2 Q) := fun {b t0} e1 e2 e3 => by
    simp only [List.mapM_cons, List.mapM_nil, e1] at e
    have e : some (Res.ok (MV.bl ([b].any id)) hm1) = some r := e
    cases e
    refine ⟨x1, .ty (tyName ty), t0, .type (tyName ty), b, rfl, .ty _, e2, e3, ?_⟩
    have q := F.okE R1 (RV.bl ([b].any id))
    have eb : [b].any id = b := by simp
    rw [eb] at q
    exact q
  cases hv : isTy hm1 v ty with
  | none =>
    simp only [List.mapM_cons, List.mapM_nil, hv] at e
    cases e
  | some b =>
    have hv0 := hv
    unfold isTy at hv
    split at hv
    · cases hv
      cases r1
      exact fin hv0 (.base .non) (kit_ty (kit_non ty))
    · obtain ⟨u, hu, rfl⟩ := Option.map_eq_some_iff.mp hv
      exact fin hv0 (R1.tyX ok.go.hK r1 hu) (kit_ty (kit_all u ty))
end
end Mi

/-! Mi6: methods of lists, stores. -/
namespace Mi
open PySem PySem.Spec PyProof.Rows L2
section
variable {G : CG} {g : GE} {P : List FnD} {d : Nat} {W : WX} {sc : Scope} {X : Cx}
variable {ρ ρ' : Rh} {H H' : Hp} {σm : Loc} {hm : Hm} {σ : L2.St}
theorem nodup_get : ∀ {l : List Addr}, l.Nodup → ∀ {i j : Nat} {a : Addr}, l[i]? = some a → l[j]? = some a → i = j
  | [], _, _, _, _, h, _ => by simp at h
  | b :: l, n, 0, 0, _, _, _ => rfl
  | b :: l, n, 0, j + 1, a, h1, h2 => by
    simp at h1 h2
    subst h1
    exact absurd (List.mem_of_getElem? h2) (List.nodup_cons.mp n).1
  | b :: l, n, i + 1, 0, a, h1, h2 => by
    simp at h1 h2
    subst h2
    exact absurd (List.mem_of_getElem? h1) (List.nodup_cons.mp n).1
  | b :: l, n, i + 1, j + 1, a, h1, h2 => by
    simp at h1 h2
    rw [nodup_get (List.nodup_cons.mp n).2 h1 h2]
/-- a list of the small heap is written -/
theorem Rel.write (R : Rel g ρ σm hm σ H) {n : Nat} {a : Addr} {xs ys : List MV} {us vs : List V} (hn : ρ.l[n]? = some a) (ho : hm[n]? = some (.lst xs)) (ha : H a = some (.lst us)) (rv : RVs g ρ H ys vs) (hp : pureL ys = true) :
    Post ρ H ρ (upd H a (.lst vs)) ∧ Rel g ρ σm (hm.set n (.lst ys)) σ (upd H a (.lst vs)) := by
  have am : a ∈ ρ.l := List.mem_of_getElem? hn
  have P : Post ρ H ρ (upd H a (.lst vs)) := ⟨fun _ _ h => h, fun _ h => .inl h, fun _ h => .inl h, fun b o h m _ => by
    rw [upd_ne (fun e => by subst e; exact m am)]
    exact h, fun b h => by
    by_cases e : b = a
    · subst e; exact (h.no upd_same nofun).elim
    · exact fun o' q => h o' (by rw [upd_ne e]; exact q), fun _ h => h⟩
  refine ⟨P, by simpa using R.len, R.nd, fun i o b h1 h2 => ?_, fun i zs h => ?_, R.slen, fun i v h => ?_, R.nol, fun b h => ?_, tabs_lst ha R.tab⟩
  · by_cases hi : i = n
    · subst hi
      rw [hn] at h2
      cases h2
      have hlt : i < hm.length := (List.getElem?_eq_some_iff.mp ho).1
      rw [List.getElem?_set_self hlt] at h1
      cases h1
      exact ⟨vs, upd_same, rv.post P R.noT⟩
    · rw [List.getElem?_set_ne (Ne.symm hi)] at h1
      have nb : b ≠ a := fun e => hi (nodup_get R.nd h2 (e ▸ hn))
      have q := R.obj i o b h1 h2
      cases o with
      | lst zs =>
        obtain ⟨ws, e, t⟩ := q
        exact ⟨ws, by rw [upd_ne nb]; exact e, t.post P R.noT⟩
      | scr ns =>
        obtain ⟨ob, e⟩ := q
        exact ⟨ob, by rw [upd_ne nb]; exact e⟩
      | dct _ => exact q
  · by_cases hi : i = n
    · subst hi
      have hlt : i < hm.length := (List.getElem?_eq_some_iff.mp ho).1
      rw [List.getElem?_set_self hlt] at h
      cases h
      exact hp
    · rw [List.getElem?_set_ne (Ne.symm hi)] at h
      exact R.pur i zs h
  · obtain ⟨x, e, r⟩ := R.loc i v h
    exact ⟨x, e, r.post P R.noT⟩
  · obtain ⟨zs, e⟩ := R.blk b h
    by_cases eb : b = a
    · subst eb; exact ⟨vs, upd_same⟩
    · exact ⟨zs, by rw [upd_ne eb]; exact e⟩
theorem pureL_append : ∀ {xs ys : List MV}, pureL (xs ++ ys) = (pureL xs && pureL ys)
  | [], _ => by simp [pureL]
  | x :: xs, ys => by
    rw [List.cons_append]
    simp only [pureL]
    rw [pureL_append, Bool.and_assoc]
theorem pureL_mem : ∀ {xs : List MV}, pureL xs = true ↔ ∀ x ∈ xs, x.pure = true
  | [] => by simp [pureL]
  | x :: xs => by
    simp only [pureL, Bool.and_eq_true, List.mem_cons, forall_eq_or_imp]
    rw [pureL_mem]
theorem pureL_sub {xs ys : List MV} (h : pureL xs = true) (s : ∀ y ∈ ys, y ∈ xs) : pureL ys = true := pureL_mem.mpr fun y hy => pureL_mem.mp h y (s y hy)
theorem tyV_list {a : Addr} {vs : List V} (h : H a = some (.lst vs)) : tyV X.K "list" (.ref a) H := .inl ⟨rfl, vs, .of h⟩

theorem Rel.isL (R : Rel g ρ σm hm σ H) {v : MV} {x : V} {xs : List MV} (r : RV g ρ H v x) (e : Mi.itemsL hm v = some xs) : tyV X.K "list" x H := by
  obtain ⟨a, vs, rfl, h, _⟩ := R.itemsL r e
  exact tyV_list h
theorem s_append {o : Expr} {x : ME} {a : Expr} {xs : List ME} {ap pos : Pos} (hb : attributeBase o "append" X.env (eval o X.env) = eval o X.env) (hl : (ap.endLine == pos.line) = true) (hs : noStar a = true) (ho : SE g P d W X o x) (ha : SA g P d W X [a] xs) (hx : xs.length = 1) :
    SE g P d W X (.Call (.Attribute o "append" ap) [a] [] pos) (.meth .append x xs) := by
  have hfew : ((backTo pos (starEach [a] X.env)).all (fun x => !x.1) && (backToKw pos (keywordEach [] X.env)).all (fun x => x.1.isSome) && decide ([a].length + ([] : List Keyword).length + (if ([] : List Keyword).isEmpty then 0 else 1) < 30)) = true := by
    rw [star_cons hs]
    rfl
  refine PE.imp (pe_bm PySem.F.plainAttrs_list PySem.F.slot_list_append PySem.F.type_list_append mt_append ho ha hb hfew hl (star_cons hs) (star_any rfl)) fun σ H Q ⟨ρ, σm, hm, r, R, e, F⟩ => ?_
  simp only [evalE] at e
  refine L.bnd R e F fun ρ1 H1 v hm1 x1 p1 R1 r1 fr1 e F => ?_
  split at e
  · rename_i ys hy
    refine ⟨R1.isL r1 hy, L.bnd_len R1 e F fun ρ2 H2 vs hm2 us p2 R2 r2 fr2 hlen e F2 => ?_⟩
    have r1 := r1.post p2 R1.noT
    cases r1 with
    | @ref n a0 hn =>
      simp only [methV] at e
      cases hz : hm2[n]? with
      | none => rw [hz] at e; cases e
      | some ob =>
        rw [hz] at e
        cases ob with
        | lst zs =>
          cases r2 with
          | nil => simp only at e; cases e
          | @cons y u _ _ ru t =>
            cases t with
            | cons _ _ => simp only at e; cases e
            | nil =>
              simp only at e
              by_cases hc : (Mi.frz y).pure = true ∧ zs.length < sizeMax
              · rw [if_pos hc] at e
                cases e
                obtain ⟨b, hb, hT, p4, R4⟩ := R1.unb p2 R2 fr2
                obtain ⟨ws, ha, rw'⟩ := R4.obj n _ _ hz hn
                have lw := rw'.length
                have hpz := R4.pur n zs hz
                obtain ⟨p3, R3⟩ := R4.write hn hz ha (rw'.append ((RVs.cons (ru.less hb) .nil).frz hT)) (by rw [pureL_append, hpz]; simp only [pureL, List.map_cons, List.map_nil, hc.1]; rfl)
                refine ⟨_, ws, u, rfl, rfl, ha, by rw [← lw, ← sizeMax_eq]; exact hc.2, ?_⟩
                exact (F.post (p4.trans p3)).okE R3 .non
              · rw [if_neg hc] at e
                cases e
        | scr _ => simp only at e; cases e
        | dct _ => simp only at e; cases e
    | _ => simp only [methV] at e; cases e
  · cases e

theorem RVs.nil' {ρ : Rh} {H : Hp} {xs : List V} (r : RVs g ρ H [] xs) : xs = [] := by
  cases r
  rfl
theorem s_pop0 {o : Expr} {x : ME} {ap pos : Pos} (hb : attributeBase o "pop" X.env (eval o X.env) = eval o X.env) (hl : (ap.endLine == pos.line) = true) (ho : SE g P d W X o x) :
    SE g P d W X (.Call (.Attribute o "pop" ap) [] [] pos) (.meth .pop0 x []) := by
  refine PE.imp (pe_bm0 PySem.F.plainAttrs_list PySem.F.slot_list_pop PySem.F.type_list_pop mt_pop ho hb hl) fun σ H Q ⟨ρ, σm, hm, r, R, e, F⟩ => ?_
  simp only [evalE] at e
  refine L.bnd R e F fun ρ1 H1 v hm1 x1 p1 R1 r1 fr1 e F => ?_
  split at e
  · rename_i ys hy
    refine ⟨R1.isL r1 hy, ?_⟩
    simp only [evalEs, bnd_ok] at e
    cases r1 with
    | @ref n a0 hn =>
      simp only [methV] at e
      cases hz : hm1[n]? with
      | none => rw [hz] at e; cases e
      | some ob =>
        rw [hz] at e
        cases ob with
        | lst zs =>
          simp only at e
          cases hy : zs[zs.length - 1]? with
          | none => rw [hy] at e; cases e
          | some y =>
            rw [hy] at e
            cases e
            obtain ⟨ws, ha, rw'⟩ := R1.obj n _ _ hz hn
            obtain ⟨u, hu, ru⟩ := rw'.get hy
            have lw := rw'.length
            have hpz := R1.pur n zs hz
            obtain ⟨p3, R3⟩ := R1.write hn hz ha rw'.dropLast (pureL_sub hpz fun y hy => List.dropLast_subset _ hy)
            refine ⟨_, ws, u, rfl, rfl, ha, by rw [← lw]; exact hu, ?_⟩
            exact (F.post p3).okE R3 (ru.post p3 R1.noT) (pure_NL (pureL_mem.mp hpz y (List.mem_of_getElem? hy)))
        | scr _ => simp only at e; cases e
        | dct _ => simp only at e; cases e
    | _ => simp only [methV] at e; cases e
  · cases e
theorem s_pop1 {o : Expr} {x : ME} {a : Expr} {xs : List ME} {ap pos : Pos} (hb : attributeBase o "pop" X.env (eval o X.env) = eval o X.env) (hl : (ap.endLine == pos.line) = true) (hs : noStar a = true) (ho : SE g P d W X o x) (ha : SA g P d W X [a] xs) :
    SE g P d W X (.Call (.Attribute o "pop" ap) [a] [] pos) (.meth .pop1 x xs) := by
  have hfew : ((backTo pos (starEach [a] X.env)).all (fun x => !x.1) && (backToKw pos (keywordEach [] X.env)).all (fun x => x.1.isSome) && decide ([a].length + ([] : List Keyword).length + (if ([] : List Keyword).isEmpty then 0 else 1) < 30)) = true := by
    rw [star_cons hs]
    rfl
  refine PE.imp (pe_bm PySem.F.plainAttrs_list PySem.F.slot_list_pop PySem.F.type_list_pop mt_popAt ho ha hb hfew hl (star_cons hs) (star_any rfl)) fun σ H Q ⟨ρ, σm, hm, r, R, e, F⟩ => ?_
  simp only [evalE] at e
  refine L.bnd R e F fun ρ1 H1 v hm1 x1 p1 R1 r1 fr1 e F => ?_
  split at e
  · rename_i ys hy
    refine ⟨R1.isL r1 hy, L.bnd_len R1 e F fun ρ2 H2 vs hm2 us p2 R2 r2 fr2 hlen e F2 => ?_⟩
    have r1 := r1.post p2 R1.noT
    cases r1 with
    | @ref n a0 hn =>
      simp only [methV] at e
      cases hz : hm2[n]? with
      | none => rw [hz] at e; cases e
      | some ob =>
        rw [hz] at e
        cases ob with
        | lst zs =>
          cases r2 with
          | nil => simp only at e; cases e
          | @cons y u _ _ ru t =>
            cases t with
            | cons _ _ => simp only at e; cases e
            | nil =>
              cases ru with
              | int i =>
                simp only at e
                by_cases hc : -9223372036854775808 ≤ i ∧ i < 9223372036854775808
                · rw [if_pos hc] at e
                  cases hk : seqIndex? i zs.length with
                  | none => rw [hk] at e; cases e
                  | some k =>
                    rw [hk] at e
                    simp only at e
                    cases hy : zs[k]? with
                    | none => rw [hy] at e; cases e
                    | some y =>
                      rw [hy] at e
                      cases e
                      obtain ⟨ws, ha, rw'⟩ := R2.obj n _ _ hz hn
                      obtain ⟨u, hu, ru⟩ := rw'.get hy
                      have lw := rw'.length
                      have hpz := R2.pur n zs hz
                      obtain ⟨p3, R3⟩ := R2.write hn hz ha (rw'.eraseIdx k) (pureL_sub hpz fun y hy => List.mem_of_mem_eraseIdx hy)
                      refine ⟨_, ws, i, k, u, rfl, rfl, ha, by omega, by omega, by rw [← lw]; exact hk, hu, ?_⟩
                      exact (F.post (p2.trans p3)).okE R3 (ru.post p3 R2.noT) (pure_NL (pureL_mem.mp hpz y (List.mem_of_getElem? hy)))
                · rw [if_neg hc] at e
                  cases e
              | _ => simp only at e; cases e
        | scr _ => simp only at e; cases e
        | dct _ => simp only at e; cases e
    | _ => simp only [methV] at e; cases e
  · cases e

end
end Mi

/-! Mi7: stores and targets. -/
namespace Mi
open PySem PySem.Spec PyProof.Rows L2

mutual
theorem pure_nol : ∀ {v : MV}, v.pure = true → v.nol = true
  | .non, _ => rfl
  | .bl _, _ => rfl
  | .int _, _ => rfl
  | .str _, _ => rfl
  | .fn _, _ => rfl
  | .scr _, _ => rfl
  | .edc, _ => rfl
  | .any, _ => rfl
  | .obj c xs, h => by
    simp only [MV.pure] at h
    simp only [MV.nol]
    exact pureL_nol h
  | .ref _, h => by simp [MV.pure] at h
  | .lst _, h => by simp [MV.pure] at h
  | .tup xs, h => by
    simp only [MV.pure] at h
    simp only [MV.nol]
    exact pureL_nol h
  | .fz xs, h => by
    simp only [MV.pure] at h
    simp only [MV.nol]
    exact pureL_nol h
theorem pureL_nol : ∀ {xs : List MV}, pureL xs = true → nolL xs = true
  | [], _ => rfl
  | x :: xs, h => by
    simp only [pureL, Bool.and_eq_true] at h
    simp only [nolL, Bool.and_eq_true]
    exact ⟨pure_nol h.1, pureL_nol h.2⟩
end
section
variable {g : GE} {ρ ρ' : Rh} {H H' : Hp} {σm : Loc} {hm : Hm} {σ : L2.St}
theorem slO_nl {a C dx : Addr} {vs : List (Option V)} : ∀ xs, SlX.SlO a C dx vs ≠ .lst xs := fun xs z => by
  unfold SlX.SlO at z
  cases z
/-- tuples and frozen lists go along -/
structure MvP (g : GE) (ρ : Rh) (H : Hp) (ρ' : Rh) (H' : Hp) : Prop where
  tup : ∀ a vs, SqT g.K H a vs → SqT g.K H' a vs
  fz : ∀ a vs, H a = some (.lst vs) → ρ.out a → H' a = some (.lst vs) ∧ ρ'.out a
  frz : ∀ a o vs, H a = some (.frz o (.lst vs)) → a ∉ ρ.l → H' a = some (.frz o (.lst vs)) ∧ a ∉ ρ'.l
  kp : ∀ a o, H a = some o → (∀ xs, o ≠ .lst xs) → a ∉ ρ.l → H' a = some o ∧ a ∉ ρ'.l
theorem MvP.sqf (m : MvP g ρ H ρ' H') {a : Addr} {vs : List V} (h : SqF g.K ρ H a vs) : SqF g.K ρ' H' a vs :=
  h.elim (fun ⟨o, e, n⟩ => .inl ⟨o, m.frz a o vs e n⟩) .inr
mutual
theorem RV.move (m : MvP g ρ H ρ' H') (hr : ∀ (n : Nat) (a : Addr), ρ.l[n]? = some a → ρ'.l[n]? = some a) : ∀ {v : MV} {x : V}, v.nol = true → RV g ρ H v x → RV g ρ' H' v x
  | _, _, _, .non => .non
  | _, _, _, .bl b => .bl b
  | _, _, _, .int i => .int i
  | _, _, _, .str s => .str s
  | _, _, h, .tup e r => .tup (m.tup _ _ e) (RVs.move m hr (by simpa only [MV.nol] using h) r)
  | _, _, h, .lst _ _ _ => by simp [MV.nol] at h
  | _, _, _, .scr h => .scr (m.sqf h)
  | _, _, h, .fz e o r => .fz (m.fz _ _ e o).1 (m.fz _ _ e o).2 (RVs.move m hr (by simpa only [MV.nol] using h) r)
  | _, _, _, .ref e => .ref (hr _ _ e)
  | _, _, _, .fn e q => .fn e q
  | _, _, _, .edc h n => .edc (m.kp _ _ h nofun n).1 (m.kp _ _ h nofun n).2
  | _, _, _, .any v => .any v
  | _, _, h, .obj e h1 h2 n1 n2 r q => .obj e (m.kp _ _ h1 slO_nl n1).1 (m.kp _ _ h2 nofun n2).1 (m.kp _ _ h1 slO_nl n1).2 (m.kp _ _ h2 nofun n2).2 (RVs.move m hr (by simpa only [MV.nol] using h) r) q
theorem RVs.move (m : MvP g ρ H ρ' H') (hr : ∀ (n : Nat) (a : Addr), ρ.l[n]? = some a → ρ'.l[n]? = some a) : ∀ {v : List MV} {x : List V}, nolL v = true → RVs g ρ H v x → RVs g ρ' H' v x
  | _, _, _, .nil => .nil
  | _, _, h, .cons r t => by
    simp only [nolL, Bool.and_eq_true] at h
    exact .cons (RV.move m hr h.1 r) (RVs.move m hr h.2 t)
end
mutual
theorem RV.moveP (m : MvP g ρ H ρ' H') : ∀ {v : MV} {x : V}, v.pure = true → RV g ρ H v x → RV g ρ' H' v x
  | _, _, _, .non => .non
  | _, _, _, .bl b => .bl b
  | _, _, _, .int i => .int i
  | _, _, _, .str s => .str s
  | _, _, h, .tup e r => .tup (m.tup _ _ e) (RVs.moveP m (by simpa only [MV.pure] using h) r)
  | _, _, h, .lst _ _ _ => by simp [MV.pure] at h
  | _, _, _, .scr h => .scr (m.sqf h)
  | _, _, h, .fz e o r => .fz (m.fz _ _ e o).1 (m.fz _ _ e o).2 (RVs.moveP m (by simpa only [MV.pure] using h) r)
  | _, _, h, .ref e => by simp [MV.pure] at h
  | _, _, _, .fn e q => .fn e q
  | _, _, _, .edc h n => .edc (m.kp _ _ h nofun n).1 (m.kp _ _ h nofun n).2
  | _, _, _, .any v => .any v
  | _, _, h, .obj e h1 h2 n1 n2 r q => .obj e (m.kp _ _ h1 slO_nl n1).1 (m.kp _ _ h2 nofun n2).1 (m.kp _ _ h1 slO_nl n1).2 (m.kp _ _ h2 nofun n2).2 (RVs.moveP m (by simpa only [MV.pure] using h) r) q
theorem RVs.moveP (m : MvP g ρ H ρ' H') : ∀ {v : List MV} {x : List V}, pureL v = true → RVs g ρ H v x → RVs g ρ' H' v x
  | _, _, _, .nil => .nil
  | _, _, h, .cons r t => by
    simp only [pureL, Bool.and_eq_true] at h
    exact .cons (RV.moveP m h.1 r) (RVs.moveP m h.2 t)
end
/-- a slot is written -/
theorem Rel.put (R : Rel g ρ σm hm σ H) {v : MV} {x : V} (r : RV g ρ H v x) (hn : v.nol = true) (i : Nat) : Rel g ρ (σm.set i (some v)) hm (σ.set i (some x)) H := by
  refine ⟨R.len, R.nd, R.obj, R.pur, by simpa using R.slen, fun j u h => ?_, fun j u h => ?_, R.blk, R.tab⟩
  · by_cases hj : i = j
    · subst hj
      have hi : i < σm.length := by
        have := (List.getElem?_eq_some_iff.mp h).1
        simpa using this
      rw [List.getElem?_set_self hi] at h
      cases h
      exact ⟨x, by rw [List.getElem?_set_self (by rw [← R.slen]; exact hi)], r⟩
    · rw [List.getElem?_set_ne hj] at h
      rw [List.getElem?_set_ne hj]
      exact R.loc j u h
  · by_cases hj : i = j
    · subst hj
      have hi : i < σm.length := by
        have := (List.getElem?_eq_some_iff.mp h).1
        simpa using this
      rw [List.getElem?_set_self hi] at h
      cases h
      exact hn
    · rw [List.getElem?_set_ne hj] at h
      exact R.nol j u h
/-- the small heap takes a fresh list -/
def Rh.take (ρ : Rh) (a : Addr) : Rh := ⟨ρ.l ++ [a], ρ.b⟩
theorem mv_take {a : Addr} {us : List V} (ba : ρ.b a) (ha : H a = some (.lst us)) : MvP g ρ H (ρ.take a) H := ⟨fun _ _ h => h, fun c vs h o => ⟨h, fun m => by
  rcases List.mem_append.mp m with m | m
  · exact o.1 m
  · have e : c = a := by simpa using m
    subst e
    exact o.2 ba, o.2⟩, fun c o vs h n => ⟨h, fun m => by
  rcases List.mem_append.mp m with m | m
  · exact n m
  · have e : c = a := by simpa using m
    subst e
    rw [ha] at h; cases h⟩, fun c u h z n => ⟨h, fun m => by
  rcases List.mem_append.mp m with m | m
  · exact n m
  · have e : c = a := by simpa using m
    subst e
    rw [ha] at h; exact z _ (Option.some.inj h).symm⟩⟩
theorem ref_take {a : Addr} (n : Nat) (c : Addr) (h : ρ.l[n]? = some c) : (ρ.take a).l[n]? = some c := by
  show (ρ.l ++ [a])[n]? = some c
  rw [List.getElem?_append_left (List.getElem?_eq_some_iff.mp h).1]
  exact h
theorem Rel.adopt (R : Rel g ρ σm hm σ H) {xs : List MV} {a : Addr} {vs : List V} (ha : H a = some (.lst vs)) (na : a ∉ ρ.l) (ba : ρ.b a) (rs : RVs g ρ H xs vs) (hp : pureL xs = true) :
    Rel g (ρ.take a) σm (hm ++ [.lst xs]) σ H ∧ (ρ.take a).l[hm.length]? = some a := by
  have M := mv_take (g := g) (H := H) ba ha
  have hl : (ρ.take a).l[hm.length]? = some a := by
    show (ρ.l ++ [a])[hm.length]? = some a
    rw [← R.len, List.getElem?_concat_length]
  refine ⟨⟨?_, ?_, fun i o c h1 h2 => ?_, fun i ys h => ?_, R.slen, fun i v h => ?_, R.nol, R.blk, R.tab⟩, hl⟩
  · show (ρ.l ++ [a]).length = _
    rw [List.length_append, List.length_append, R.len] <;> rfl
  · show (ρ.l ++ [a]).Nodup
    rw [List.nodup_append]
    refine ⟨R.nd, by simp, fun x hx y hy e => ?_⟩
    have : y = a := by simpa using hy
    subst this
    subst e
    exact na hx
  · by_cases hi : i < hm.length
    · rw [List.getElem?_append_left hi] at h1
      have h2' : ρ.l[i]? = some c := by
        have h3 : (ρ.l ++ [a])[i]? = some c := h2
        rw [List.getElem?_append_left (by rw [R.len]; exact hi)] at h3
        exact h3
      have q := R.obj i o c h1 h2'
      cases o with
      | lst ys =>
        obtain ⟨ws, e, t⟩ := q
        exact ⟨ws, e, t.moveP M (R.pur i ys h1)⟩
      | scr ns => exact q
      | dct _ => exact q
    · have hi : hm.length ≤ i := by omega
      rw [List.getElem?_append_right hi] at h1
      have h0 : i - hm.length = 0 := by
        have := (List.getElem?_eq_some_iff.mp h1).1
        simp at this
        omega
      have hi : i = hm.length := by omega
      subst hi
      rw [h0] at h1
      cases h1
      rw [hl] at h2
      cases h2
      exact ⟨vs, ha, rs.moveP M hp⟩
  · by_cases hi : i < hm.length
    · rw [List.getElem?_append_left hi] at h
      exact R.pur i ys h
    · have hi : hm.length ≤ i := by omega
      rw [List.getElem?_append_right hi] at h
      have h0 : i - hm.length = 0 := by
        have := (List.getElem?_eq_some_iff.mp h).1
        simp at this
        omega
      rw [h0] at h
      cases h
      exact hp
  · obtain ⟨x, e, r⟩ := R.loc i v h
    exact ⟨x, e, r.move M ref_take (R.nol i v h)⟩
theorem Post.take {ρ0 : Rh} {H0 : Hp} {a : Addr} (p : Post ρ0 H0 ρ H) (n : Fr H0 a) : Post ρ0 H0 (ρ.take a) H := ⟨fun n c h => ref_take n c (p.ext n c h), fun c h => by
  rcases List.mem_append.mp h with m | m
  · exact p.new c m
  · have e : c = a := by simpa using m
    subst e
    exact .inr n, p.newb, p.keep, p.more, p.blk⟩
/-- a value is laid into the small heap -/
theorem Rel.lay (R : Rel g ρ σm hm σ H) {v w : MV} {x : V} {hm' : Hm} (r : RV g ρ H v x) (e : Mi.sto v hm = some (w, hm')) (hb : ∀ a, TV v x a → ρ.b a) :
    ∃ ρ', Rel g ρ' σm hm' σ H ∧ RV g ρ' H w x ∧ w.nol = true ∧ (∀ ρ0 H0, Post ρ0 H0 ρ H → (∀ a, TV v x a → Fr H0 a) → Post ρ0 H0 ρ' H) ∧
      ((ρ' = ρ) ∨ ∃ a, TV v x a ∧ ρ' = ρ.take a) := by
  by_cases nl : NL v
  · have e2 : v.nol = true ∧ (v, hm) = (w, hm') := by
      cases v with
      | lst xs => exact absurd rfl (nl xs)
      | _ =>
        simp only [Mi.sto] at e
        split at e
        · rename_i h
          cases e
          exact ⟨h, rfl⟩
        · cases e
    cases e2.2
    exact ⟨ρ, R, r, e2.1, fun _ _ p _ => p, .inl rfl⟩
  · cases r with
    | @lst xs a vs ha na rs =>
      simp only [Mi.sto] at e
      split at e
      · rename_i hp
        cases e
        obtain ⟨R1, hl⟩ := R.adopt ha na (hb a ⟨⟨xs, rfl⟩, rfl⟩) rs hp
        exact ⟨_, R1, .ref hl, rfl, fun ρ0 H0 p n => p.take (n a ⟨⟨xs, rfl⟩, rfl⟩), .inr ⟨a, ⟨⟨xs, rfl⟩, rfl⟩, rfl⟩⟩
      · cases e
    | _ => exact absurd (fun xs h => by cases h) nl
/-- .. and stored at a slot -/
theorem Rel.sto (R : Rel g ρ σm hm σ H) {v w : MV} {x : V} {hm' : Hm} (i : Nat) (r : RV g ρ H v x) (e : Mi.sto v hm = some (w, hm')) (hb : ∀ a, TV v x a → ρ.b a) :
    ∃ ρ', Rel g ρ' (σm.set i (some w)) hm' (σ.set i (some x)) H ∧ (∀ ρ0 H0, Post ρ0 H0 ρ H → (∀ a, TV v x a → Fr H0 a) → Post ρ0 H0 ρ' H) ∧
      ((ρ' = ρ) ∨ ∃ a, TV v x a ∧ ρ' = ρ.take a) := by
  obtain ⟨ρ', R', r', n, p, h⟩ := R.lay r e hb
  exact ⟨ρ', R'.put r' n i, p, h⟩
theorem sto_some {v : MV} {hm : Hm} {q : MV × Hm} (e : Mi.sto v hm = some q) : v.nol = true ∨ ∃ xs, v = .lst xs ∧ pureL xs = true := by
  cases v with
  | lst xs =>
    simp only [Mi.sto] at e
    split at e
    · exact .inr ⟨xs, rfl, by assumption⟩
    · cases e
  | _ =>
    simp only [Mi.sto] at e
    split at e
    · exact .inl (by assumption)
    · cases e
theorem RVs.takes {ρ : Rh} {H : Hp} {a : Addr} {us : List V} (ba : ρ.b a) (ha : H a = some (.lst us)) : ∀ {vs : List MV} {xs : List V}, RVs g ρ H vs xs → (∀ v ∈ vs, v.nol = true ∨ ∃ xs, v = .lst xs ∧ pureL xs = true) → ¬ TVs vs xs a → RVs g (ρ.take a) H vs xs
  | _, _, .nil, _, _ => .nil
  | _, _, .cons (x := x) (v := v) (xs := xs) (vs := vs) r t, h, n => by
    have M := mv_take (g := g) (H := H) ba ha
    refine .cons ?_ (RVs.takes ba ha t (fun w hw => h w (List.mem_cons_of_mem _ hw)) fun ⟨i, v, x, h1, h2, h3⟩ => n ⟨i + 1, v, x, by simpa using h1, by simpa using h2, h3⟩)
    rcases h x List.mem_cons_self with q | ⟨ys, rfl, q⟩
    · exact r.move M ref_take q
    · cases r with
      | @lst _ b ws hb nb rs =>
        refine .lst hb (fun m => ?_) (rs.moveP M q)
        rcases List.mem_append.mp m with m | m
        · exact nb m
        · have e : b = a := by simpa using m
          subst e
          exact n ⟨0, _, _, rfl, rfl, ⟨_, rfl⟩, rfl⟩
theorem stoL_some : ∀ {vs : List MV} {hm : Hm} {q : List MV × Hm}, stoL vs hm = some q → ∀ v ∈ vs, v.nol = true ∨ ∃ xs, v = .lst xs ∧ pureL xs = true
  | [], _, _, _, v, h => by simp at h
  | w :: vs, hm, q, e, v, h => by
    simp only [stoL] at e
    split at e
    · rename_i w' h1 e1
      split at e
      · rename_i ws h2 e2
        rcases List.mem_cons.mp h with z | z
        · subst z; exact sto_some e1
        · exact stoL_some e2 v z
      · cases e
    · cases e
theorem MvP.refl : MvP g ρ H ρ H := ⟨fun _ _ h => h, fun _ _ h o => ⟨h, o⟩, fun _ _ _ h o => ⟨h, o⟩, fun _ _ h _ o => ⟨h, o⟩⟩
theorem MvP.trans {ρ1 : Rh} (a : MvP g ρ H ρ1 H) (b : MvP g ρ1 H ρ' H) : MvP g ρ H ρ' H := ⟨fun c vs h => b.tup c vs (a.tup c vs h), fun c vs h o => b.fz c vs (a.fz c vs h o).1 (a.fz c vs h o).2, fun c q vs h o => b.frz c q vs (a.frz c q vs h o).1 (a.frz c q vs h o).2, fun c u h z o => b.kp c u (a.kp c u h z o).1 z (a.kp c u h z o).2⟩
/-- a def's arguments are laid -/
theorem stoL_ok {ρ0 : Rh} {H0 : Hp} {H : Hp} : ∀ {vs ws : List MV} {xs : List V} {ρ : Rh} {hm hm' : Hm}, Rel g ρ σm hm σ H → RVs g ρ H vs xs → Apart vs xs → (∀ a, TVs vs xs a → Fr H0 a ∧ ρ.b a) → Post ρ0 H0 ρ H →
    stoL vs hm = some (ws, hm') → ∃ ρ', Rel g ρ' σm hm' σ H ∧ Post ρ0 H0 ρ' H ∧ RVs g ρ' H ws xs ∧ nolL ws = true ∧ ws.length = vs.length ∧ MvP g ρ H ρ' H ∧ ∀ (n : Nat) (c : Addr), ρ.l[n]? = some c → ρ'.l[n]? = some c
  | [], ws, xs, ρ, hm, hm', R, rs, ap, fr, p0, e => by
    simp only [stoL] at e
    cases e
    cases rs
    exact ⟨ρ, R, p0, .nil, rfl, rfl, .refl, fun _ _ h => h⟩
  | v :: vs, ws, xs, ρ, hm, hm', R, rs, ap, fr, p0, e => by
    cases rs with
    | @cons _ x _ xs r t =>
      simp only [stoL] at e
      split at e
      · rename_i w h1 e1
        split at e
        · rename_i ws' h2 e2
          cases e
          have fr0 : ∀ a, TV v x a → Fr H0 a ∧ ρ.b a := fun a h => fr a ⟨0, v, x, rfl, rfl, h⟩
          have fr1 : ∀ a, TVs vs xs a → Fr H0 a ∧ ρ.b a := fun a ⟨i, v, x, h1, h2, h3⟩ => fr a ⟨i + 1, v, x, by simpa using h1, by simpa using h2, h3⟩
          obtain ⟨ρ1, R1, rw1, n1, p1, hh⟩ := R.lay r e1 fun a h => (fr0 a h).2
          have t1 : RVs g ρ1 H vs xs := by
            rcases hh with rfl | ⟨a, ta, rfl⟩
            · exact t
            · obtain ⟨us, hu⟩ := R.blk a (fr0 a ta).2
              exact t.takes (fr0 a ta).2 hu (stoL_some e2) (ap.1 a ta)
          have M1 : MvP g ρ H ρ1 H := by
            rcases hh with rfl | ⟨a, ta, rfl⟩
            · exact .refl
            · obtain ⟨us, hu⟩ := R.blk a (fr0 a ta).2
              exact mv_take (fr0 a ta).2 hu
          have k1 : ∀ (n : Nat) (c : Addr), ρ.l[n]? = some c → ρ1.l[n]? = some c := by
            rcases hh with rfl | ⟨a, ta, rfl⟩
            · exact fun _ _ h => h
            · exact ref_take
          obtain ⟨ρ2, R2, p2, rs2, n2, hl, M2, k2⟩ := stoL_ok R1 t1 ap.2 (fun a h => ⟨(fr1 a h).1, by rcases hh with rfl | ⟨_, _, rfl⟩ <;> exact (fr1 a h).2⟩) (p1 ρ0 H0 p0 fun a h => (fr0 a h).1) e2
          refine ⟨ρ2, R2, p2, .cons (rw1.move M2 k2 n1) rs2, ?_, by simp [hl], M1.trans M2, fun n c h => k2 n c (k1 n c h)⟩
          simp only [nolL, n1, n2]
          rfl
        · cases e
      · cases e
/-! ### targets -/
/-- a target's reading: what is stored, from (ρ0, H0) on -/
def LG (g : GE) (f : MV → Loc → Hm → Option (Loc × Hm)) (S : Nat → Prop) : TG := fun x σ H Q =>
  ∃ ρ0 H0 ρ σm hm v σm' hm', (∀ a, ρ0.b a → ¬ Fr H0 a) ∧ Post ρ0 H0 ρ H ∧ (∀ a, TV v x a → Fr H0 a ∧ ρ.b a) ∧ Rel g ρ σm hm σ H ∧ RV g ρ H v x ∧ f v σm hm = some (σm', hm') ∧
    ∀ ρ' σ' H', Post ρ0 H0 ρ' H' → Rel g ρ' σm' hm' σ' H' → σ'.length = σ.length → (∀ (i : Nat), ¬ S i → σ'[i]? = σ[i]?) → Q σ' H'
def LGs (g : GE) (n : Nat) (f : List MV → Loc → Hm → Option (Loc × Hm)) (S : Nat → Prop) : TGs := fun xs σ H Q =>
  ∃ ρ0 H0 ρ σm hm vs σm' hm', (∀ a, ρ0.b a → ¬ Fr H0 a) ∧ Post ρ0 H0 ρ H ∧ (vs.all nl = true ∧ vs.length = n) ∧ Rel g ρ σm hm σ H ∧ RVs g ρ H vs xs ∧ f vs σm hm = some (σm', hm') ∧
    ∀ ρ' σ' H', Post ρ0 H0 ρ' H' → Rel g ρ' σm' hm' σ' H' → σ'.length = σ.length → (∀ (i : Nat), ¬ S i → σ'[i]? = σ[i]?) → Q σ' H'
end
section
variable {G : CG} {g : GE} {P : List FnD} {d : Nat} {W : WX} {sc : Scope} {X : Cx}
theorem PG.imp {e : Expr} {t t' : TG} (h : PG X e t) (i : ∀ x σ H Q, t' x σ H Q → t x σ H Q) : PG X e t' := ⟨fun pins s σ H v u Q I r q => h.run pins s σ H v u Q I r (i v σ H Q q)⟩
theorem PGs.imp {e : List Expr} {t t' : TGs} (h : PGs X e t) (i : ∀ x σ H Q, t' x σ H Q → t x σ H Q) : PGs X e t' := ⟨fun pins s σ H v u Q I r q => h.run pins s σ H v u Q I r (i v σ H Q q)⟩
abbrev SG (g : GE) (P : List FnD) (d : Nat) (X : Cx) (e : Expr) (m : MT) (S : Nat → Prop) : Prop := PG X e (LG g (evalT (calls P d) m) S)
abbrev SGs (g : GE) (P : List FnD) (d : Nat) (X : Cx) (e : List Expr) (m : List MT) (S : Nat → Prop) : Prop := PGs X e (LGs g m.length (evalTs (calls P d) m) S)
theorem gname_imp {i : Nat} {S : Nat → Prop} (hS : S i) {x : V} {σ : L2.St} {H : Hp} {Q : L2.St → Hp → Prop} (h : LG g (evalT (calls P d) (.var i)) S x σ H Q) : gName i x σ H Q := by
  obtain ⟨ρ0, H0, ρ, σm, hm, v, σm', hm', lv, p0, fr, R, r, e, k⟩ := h
  simp only [evalT] at e
  split at e
  · rename_i w h1 e1
    cases e
    obtain ⟨ρ', R', p', _⟩ := R.sto i r e1 fun a t => (fr a t).2
    refine k ρ' _ H (p' ρ0 H0 p0 fun a t => (fr a t).1) R' (by simp) fun j hj => ?_
    rw [List.getElem?_set_ne fun e => hj (by subst e; exact hS)]
  · cases e
theorem sg_name {x : Str} {pos : Pos} {i : Nat} {S : Nat → Prop} (nd : X.N.Nodup) (hi : slot X.N x = some i) (hx : L2.Loc X.env.scope x) (hf : X.fn x = true ∨ X.env.scope.names.lookup x = some .local) (hS : S i) : SG g P d X (.Name x pos) (.var i) S :=
  PG.imp (pg_name nd (slot_get hi) hx hf) fun y σ H Q h => gname_imp hS h
theorem sgs_nil {S : Nat → Prop} : SGs g P d X [] [] S := by
  refine PGs.imp pgs_nil fun y σ H Q ⟨ρ0, H0, ρ, σm, hm, v, σm', hm', lv, p0, fr, R, r, e, k⟩ => ?_
  simp only [evalTs] at e
  cases e
  have h0 := fr.2
  cases r with
  | nil => exact ⟨rfl, k ρ σ H p0 R rfl fun _ _ => rfl⟩
  | cons _ _ => simp at h0
theorem sgs_cons {a : Expr} {r : List Expr} {x : MT} {xs : List MT} {S : Nat → Prop} (h1 : SG g P d X a x S) (h2 : SGs g P d X r xs S) (hs : (assignEach (a :: r) X.env).map (·.2) = assign a X.env :: (assignEach r X.env).map (·.2)) : SGs g P d X (a :: r) (x :: xs) S := by
  refine PGs.imp (pgs_cons h1 h2 hs) fun y σ H Q ⟨ρ0, H0, ρ, σm, hm, v, σm', hm', lv, p0, fr, R, r, e, k⟩ => ?_
  cases r with
  | nil => simp at fr
  | @cons v1 y1 vs ys r t =>
    simp only [evalTs] at e
    split at e
    · rename_i σ1 h1 e1
      have hall := fr.1
      rw [List.all_cons, Bool.and_eq_true] at hall
      have n1 := nl_of hall.1
      refine ⟨y1, ys, rfl, ρ, H, ρ, σm, hm, v1, σ1, h1, live_of R, .refl, fun a ⟨⟨xs, e⟩, _⟩ => absurd e (n1 xs), R, r, e1, fun ρ' σ' H' p' R' hl hs => ?_⟩
      refine ⟨ρ0, H0, ρ', σ1, h1, vs, σm', hm', lv, p0.trans p', ⟨hall.2, by simpa using fr.2⟩, R', t.post p' R.noT, e, fun ρ2 σ2 H2 p2 R2 hl2 hs2 => k ρ2 σ2 H2 p2 R2 (hl2.trans hl) fun i hi => (hs2 i hi).trans (hs i hi)⟩
    · cases e
theorem sg_tup (hK : g.K = X.K) {es : List Expr} {ms : List MT} {k : Nat} {pos : Pos} {S : Nat → Prop} (hc : X.calm = true) (h : SGs g P d X es ms S) (hn : (assignEach es X.env).length = ms.length) (hst : (assignEach es X.env).findIdx? (·.1) = none) : SG g P d X (.Tuple es k pos) (.tup ms) S := by
  refine PG.imp (pg_seq hc h hn hst) fun y σ H Q ⟨ρ0, H0, ρ, σm, hm, v, σm', hm', lv, p0, fr, R, r, e, kk⟩ => ?_
  simp only [evalT] at e
  split at e
  · rename_i xs hx
    split at e
    · rename_i hz
      obtain ⟨a, vs, rfl, ht, rs⟩ := R.seq r hx
      rw [hK] at ht
      exact ⟨a, vs, rfl, ht, by rw [← rs.length]; exact hz.1, ρ0, H0, ρ, σm, hm, xs, σm', hm', lv, p0, ⟨hz.2, hz.1⟩, R, rs, e, kk⟩
    · cases e
  · cases e
theorem unbL {ρ0 ρ1 : Rh} {H0 H1 : Hp} {σm : Loc} {hm : Hm} {σ : L2.St} (lv : ∀ a, ρ0.b a → ¬ Fr H0 a) (p : Post ρ0 H0 ρ1 H1) (R1 : Rel g ρ1 σm hm σ H1) {T : Addr → Prop} (fr : ∀ a, T a → Fr H0 a ∧ ρ1.b a) :
    ∃ b, (∀ a, b a → ρ1.b a) ∧ (∀ a, T a → ¬ b a) ∧ Post ρ0 H0 (ρ1.less b) H1 ∧ Rel g (ρ1.less b) σm hm σ H1 :=
  ⟨fun a => ρ1.b a ∧ ¬ T a, fun a h => h.1, fun a h q => q.2 h, ⟨p.ext, p.new, fun a h => p.newb a h.1, p.keep, p.more, fun a h => ⟨p.blk a h, fun q => lv a h (fr a q).1⟩⟩, R1.less fun a h => h.1⟩
theorem L.bndO {γ δ : Type} {K' : Kd γ δ} {σm : Loc} {hm hm1 : Hm} {σ : L2.St} {ρ : Rh} {H : Hp} {fa : Loc → Hm → RO γ} {v : γ} {Q' : δ → Hp → Prop} (hR : Rel g ρ σm hm σ H) (he : fa σm hm = some (.ok v hm1))
    (h : ∀ ρ1 H1 x, Post ρ H ρ1 H1 → Rel g ρ1 σm hm1 σ H1 → K'.R ρ1 H1 v x → (∀ a, K'.T v x a → Fr H a ∧ ρ1.b a) → Q' x H1) : L g W K' fa σ H Q' :=
  ⟨ρ, σm, hm, _, hR, he, h⟩
theorem Rel.setSub {ρ : Rh} {H : Hp} {σm : Loc} {hm h3 : Hm} {σ : L2.St} {vo vi v : MV} {x1 x2 z : V} (R : Rel g ρ σm hm σ H) (r1 : RV g ρ H vo x1) (r2 : RV g ρ H vi x2) (rz : RV g ρ H v z) (e3 : Mi.setSub vo vi v hm = some h3) :
    ∃ a ws kk j, x1 = .ref a ∧ x2 = .int kk ∧ H a = some (.lst ws) ∧ ixN ws.length kk = some j ∧ ∃ ρ', Post ρ H ρ' (upd H a (.lst (ws.set j z))) ∧ Rel g ρ' σm h3 σ (upd H a (.lst (ws.set j z))) := by
  unfold Mi.setSub at e3
  split at e3
  · split at e3
    · rename_i xs hx
      split at e3
      · rename_i j hj
        split at e3
        · rename_i hp
          cases e3
          cases r2
          cases r1 with
          | ref hn =>
            obtain ⟨ws, hw, rw'⟩ := R.obj _ _ _ hx hn
            obtain ⟨p5, R5⟩ := R.write hn hx hw (rw'.set j rz) (by
              have hpz := R.pur _ xs hx
              refine pureL_mem.mpr fun y hy => ?_
              rcases List.mem_or_eq_of_mem_set hy with q | q
              · exact pureL_mem.mp hpz y q
              · rw [q]; exact hp)
            exact ⟨_, ws, _, j, rfl, rfl, hw, by rw [← rw'.length]; exact hj, _, p5, R5⟩
        · cases e3
      · cases e3
    · cases e3
  · cases e3
theorem sg_sub {o i : Expr} {x y : ME} {pos : Pos} {S : Nat → Prop} (ho : SE g P d W X o x) (hi : SE g P d W X i y)
    (ha : ∀ v, assign (.Subscript o i pos) X.env v = (do
      let ov ← holding [v] (eval o X.env)
      let iv ← holding [v, ov] (eval i X.env)
      standAt pos
      holding [v, ov, iv] (setItem ov iv v)
      release [v, ov, iv] [])) : SG g P d X (.Subscript o i pos) (.sub x y) S := by
  refine PG.imp (pg_sub ho hi set_list ha) fun z σ H Q ⟨ρ0, H0, ρ, σm, hm, v, σm', hm', lv, p0, fr, R, r, e, k⟩ => ?_
  simp only [evalT] at e
  split at e
  · rename_i vo h1 e1
    split at e
    · rename_i vi h2 e2
      split at e
      · rename_i h3 e3
        cases e
        refine L.bndO R e1 fun ρ1 H1 x1 p1 R1 r1 _ => L.bndO R1 e2 fun ρ2 H2 x2 p2 R2 r2 _ => ?_
        have r' := (r.post p1 R.noT).post p2 R1.noT
        have p02 := p0.trans (p1.trans p2)
        obtain ⟨b, hb, hT, p4, R4⟩ := unbL lv p02 R2 (T := TV v z) fun a t => ⟨(fr a t).1, p2.blk a (p1.blk a (fr a t).2)⟩
        have rz := (r'.less hb).frz (fun a h e => hT a ⟨h, e⟩)
        have r1 := (r1.post p2 R1.noT).less hb
        obtain ⟨a, ws, kk, j, e1, e2, hw, hj, ρ5, p5, R5⟩ := R4.setSub r1 (RV.less hb r2) rz e3
        exact ⟨a, ws, kk, j, e1, e2, hw, hj, k _ σ _ (p4.trans p5) R5 rfl fun _ _ => rfl⟩
      · cases e
    · cases e
  · cases e
end
end Mi

/-! Mi8: what loops walk; comprehensions. -/
namespace Mi
open PySem PySem.Spec PyProof.Rows L2
section
variable {X : Cx} {tg : Expr}
/-- a list or a tuple, by value -/
def iSeq (K : PySem.W.Frag) (tl : TE) : TI := fun σ H R => tl σ H fun x H1 => ∃ a, x = .ref a ∧ ((∃ xs, SqL K H1 a xs) ∧ R (Itl K a) H1 ∨ (∃ xs, SqT K H1 a xs) ∧ R (Itt K a) H1)
theorem pi_seq {l : Expr} {tl : TE} (hl : PE X l tl) : PI X tg l (iSeq X.K tl) := by
  refine ⟨fun pins s σ H R I h => ?_⟩
  refine thn (hl.run pins s σ H _ I h) fun v s1 ⟨x, H1, I1, r1, q1⟩ => ?_
  obtain ⟨a, e, q1⟩ := q1
  subst e
  cases r1
  rcases q1 with ⟨⟨xs, hq⟩, q⟩ | ⟨⟨xs, hq⟩, q⟩
  · obtain ⟨its, rv, p, hz⟩ := I1.list hq
    refine wpAny_pyIter_list p.isList ?_
    refine ⟨s1.heap.objs.size, [s1.heap.objs.size], _, _, H1, rfl, I1.kept (t' := s1.toks) fun b o e => Heap.get?_push_of_some _ e, turn_list a _, ⟨_, Heap.get?_push_size _ rfl, rfl, rfl⟩, fun b hb => ?_, q⟩
    have e : b = s1.heap.objs.size := by simpa using hb
    subst e
    exact I1.fpOk (Nat.le_refl _) (I1.hok.fresh (Nat.le_refl _))
  · obtain ⟨its, rv, p, hz⟩ := I1.tuple hq
    refine wpAny_pyIter_tuple (show s1.heap.IsTuple a its.toArray from p) ?_
    refine ⟨s1.heap.objs.size, [s1.heap.objs.size], _, _, H1, rfl, I1.kept (t' := s1.toks) fun b o e => Heap.get?_push_of_some _ e, turn_tuple a _, ⟨_, Heap.get?_push_size _ rfl, rfl, rfl⟩, fun b hb => ?_, q⟩
    have e : b = s1.heap.objs.size := by simpa using hb
    subst e
    exact I1.fpOk (Nat.le_refl _) (I1.hok.fresh (Nat.le_refl _))
end

/-- an iterator walks what the small language walks -/
def ItOk (g : GE) (s : Src) (J : It) (ρ1 : Rh) (H1 : Hp) : Prop := ∀ (i : Nat) (ρ' : Rh) (hm' : Hm) (σm' : Loc) (σ' : L2.St) (H' : Hp), Post ρ1 H1 ρ' H' → Rel g ρ' σm' hm' σ' H' →
  (s.nth i hm' = some none → J.stop i H') ∧
  ∀ v, s.nth i hm' = some (some v) → J.go i H' ∧ NL v ∧ ∀ x H'', J.yld i H' x H'' → Post ρ' H' ρ' H'' ∧ Rel g ρ' σm' hm' σ' H'' ∧ RV g ρ' H'' v x
def kS (g : GE) : Kd Src It := ⟨fun ρ H s J => ItOk g s J ρ H, fun _ _ _ => False⟩
abbrev LI (g : GE) (W : WX) (f : Loc → Hm → RO Src) : TI := L g W (kS g) f
def CmpOk (g : GE) (Sq : Hp → Addr → List V → Prop) (c : Cmp) (a : Addr) (ρ1 : Rh) (H1 : Hp) : Prop := ∀ (i : Nat) (ρ' : Rh) (hm' : Hm) (σm' : Loc) (σ' : L2.St) (H' : Hp), Post ρ1 H1 ρ' H' → Rel g ρ' σm' hm' σ' H' →
  (c.nth i hm' = some none → ∃ xs, Sq H' a xs ∧ xs.length ≤ i) ∧
  (∀ v, c.nth i hm' = some (some v) → ∃ xs x, Sq H' a xs ∧ xs[i]? = some x ∧ RV g ρ' H' v x ∧ NL v)
section
variable {g : GE} {ρ ρ' : Rh} {H H' : Hp} {σm : Loc} {hm : Hm} {σ : L2.St}
theorem nthU_ok {xs : List MV} {vs : List V} {i : Nat} {Sq : List V → Prop} (rs : RVs g ρ H xs vs) (hs : Sq vs) :
    (nthU xs[i]? = some none → ∃ xs, Sq xs ∧ xs.length ≤ i) ∧ (∀ v, nthU xs[i]? = some (some v) → ∃ xs x, Sq xs ∧ xs[i]? = some x ∧ RV g ρ H v x ∧ NL v) := by
  constructor
  · intro e
    cases hx : xs[i]? with
    | none => exact ⟨vs, hs, rs.none_of hx⟩
    | some y =>
      rw [hx] at e
      unfold nthU at e
      obtain ⟨a, _, e2⟩ := Option.map_eq_some_iff.mp e
      cases e2
  · intro v e
    cases hx : xs[i]? with
    | none => rw [hx] at e; cases e
    | some y =>
      rw [hx] at e
      unfold nthU at e
      obtain ⟨a, e1, e2⟩ := Option.map_eq_some_iff.mp e
      cases e2
      obtain ⟨rfl, n⟩ := unl_of e1
      obtain ⟨x, h1, h2⟩ := rs.get hx
      exact ⟨vs, x, hs, h1, h2, n⟩
theorem cmp_ok (R : Rel g ρ σm hm σ H) {v : MV} {x : V} {c : Cmp} (r : RV g ρ H v x) (e : cmpOf v hm = some c) :
    ∃ a, x = .ref a ∧ ((c.isL = true ∧ (∃ xs, SqL g.K H a xs) ∧ CmpOk g (SqL g.K) c a ρ H) ∨ (c.isL = false ∧ (∃ xs, SqT g.K H a xs) ∧ CmpOk g (SqT g.K) c a ρ H)) := by
  cases r with
  | non => cases e
  | bl _ => cases e
  | int _ => cases e
  | str _ => cases e
  | fn _ _ => cases e
  | edc _ _ => cases e
  | any _ => cases e
  | obj _ _ _ _ _ _ _ => cases e
  | tup h t =>
    cases e
    refine ⟨_, rfl, .inr ⟨rfl, ⟨_, h⟩, fun i ρ' hm' σm' σ' H' p R' => ?_⟩⟩
    exact nthU_ok (Sq := fun xs => SqT g.K H' _ xs) (t.post p R.noT) (SqT.post h p R.noT)
  | lst h m t =>
    cases e
    refine ⟨_, rfl, .inl ⟨rfl, ⟨_, .of h⟩, fun i ρ' hm' σm' σ' H' p R' => ?_⟩⟩
    exact nthU_ok (Sq := fun xs => SqL g.K H' _ xs) (t.post p R.noT) (.of (p.keep _ _ h m nofun))
  | scr h =>
    cases e
    refine ⟨_, rfl, .inl ⟨rfl, ⟨_, h.sq⟩, fun i ρ' hm' σm' σ' H' p R' => ?_⟩⟩
    exact nthU_ok (Sq := fun xs => SqL g.K H' _ xs) RVs.ints (h.post p).sq
  | fz h m t =>
    cases e
    refine ⟨_, rfl, .inl ⟨rfl, ⟨_, .of h⟩, fun i ρ' hm' σm' σ' H' p R' => ?_⟩⟩
    exact nthU_ok (Sq := fun xs => SqL g.K H' _ xs) (t.post p R.noT) (.of (p.keep _ _ h m.1 nofun))
  | @ref n a h =>
    simp only [cmpOf] at e
    split at e
    · rename_i xs hx
      cases e
      obtain ⟨_, vs, e1, hs, _⟩ := R.items (.ref h) hx
      cases e1
      refine ⟨_, rfl, .inl ⟨rfl, ⟨_, hs⟩, fun i ρ' hm' σm' σ' H' p R' => ?_⟩⟩
      have r' : RV g ρ' H' (.ref n) (.ref a) := .ref (p.ext _ _ h)
      constructor
      · intro e
        simp only [Cmp.nth] at e
        split at e
        · rename_i ys hy
          obtain ⟨_, ws, e1, hs', rs⟩ := R'.items r' hy
          cases e1
          exact (nthU_ok (Sq := fun xs => SqL g.K H' _ xs) rs hs').1 e
        · cases e
      · intro v e
        simp only [Cmp.nth] at e
        split at e
        · rename_i ys hy
          obtain ⟨_, ws, e1, hs', rs⟩ := R'.items r' hy
          cases e1
          exact (nthU_ok (Sq := fun xs => SqL g.K H' _ xs) rs hs').2 v e
        · cases e
    · cases e
theorem it_l {c : Cmp} {a : Addr} (h : CmpOk g (SqL g.K) c a ρ H) : ItOk g (.one c) (Itl g.K a) ρ H := fun i ρ' hm' σm' σ' H' p R' => by
  obtain ⟨h1, h2⟩ := h i ρ' hm' σm' σ' H' p R'
  refine ⟨fun e => h1 e, fun v e => ?_⟩
  obtain ⟨xs, x, hs, hx, r, n⟩ := h2 v e
  refine ⟨⟨xs, x, hs, hx⟩, n, fun y H'' ⟨e1, e2⟩ => ?_⟩
  subst e1
  have := e2 xs hs
  rw [hx] at this
  cases this
  exact ⟨.refl, R', r⟩
theorem it_t {c : Cmp} {a : Addr} (h : CmpOk g (SqT g.K) c a ρ H) : ItOk g (.one c) (Itt g.K a) ρ H := fun i ρ' hm' σm' σ' H' p R' => by
  obtain ⟨h1, h2⟩ := h i ρ' hm' σm' σ' H' p R'
  refine ⟨fun e => h1 e, fun v e => ?_⟩
  obtain ⟨xs, x, hs, hx, r, n⟩ := h2 v e
  refine ⟨⟨xs, x, hs, hx⟩, n, fun y H'' ⟨e1, e2⟩ => ?_⟩
  subst e1
  have := e2 xs hs
  rw [hx] at this
  cases this
  exact ⟨.refl, R', r⟩
theorem it_e {c : Cmp} {a : Addr} (h : CmpOk g (SqL g.K) c a ρ H) : ItOk g (.enu c) (Ite g.K a) ρ H := fun i ρ' hm' σm' σ' H' p R' => by
  obtain ⟨h1, h2⟩ := h i ρ' hm' σm' σ' H' p R'
  constructor
  · intro e
    simp only [Src.nth] at e
    obtain ⟨o, e1, e2⟩ := Option.map_eq_some_iff.mp e
    cases o with
    | none => exact h1 e1
    | some _ => cases e2
  · intro v e
    simp only [Src.nth] at e
    obtain ⟨o, e1, e2⟩ := Option.map_eq_some_iff.mp e
    cases o with
    | none => cases e2
    | some w =>
      cases e2
      obtain ⟨xs, x, hs, hx, r, n⟩ := h2 w e1
      refine ⟨⟨xs, x, hs, hx⟩, (fun _ h => nomatch h), fun y H'' ⟨T, x', e1, hT, e2, e3⟩ => ?_⟩
      subst e1
      subst e2
      have := e3 xs hs
      rw [hx] at this
      cases this
      obtain ⟨P, R'', _⟩ := R'.laid (o := .tup [.int (i : Nat), x]) hT
      exact ⟨P, R'', .tup (.of upd_same) (.cons (.int _) (.cons (r.post P R'.noT) .nil))⟩
theorem it_eT {c : Cmp} {a : Addr} (h : CmpOk g (SqT g.K) c a ρ H) : ItOk g (.enu c) (IteT g.K a) ρ H := fun i ρ' hm' σm' σ' H' p R' => by
  obtain ⟨h1, h2⟩ := h i ρ' hm' σm' σ' H' p R'
  constructor
  · intro e
    simp only [Src.nth] at e
    obtain ⟨o, e1, e2⟩ := Option.map_eq_some_iff.mp e
    cases o with
    | none => exact h1 e1
    | some _ => cases e2
  · intro v e
    simp only [Src.nth] at e
    obtain ⟨o, e1, e2⟩ := Option.map_eq_some_iff.mp e
    cases o with
    | none => cases e2
    | some w =>
      cases e2
      obtain ⟨xs, x, hs, hx, r, n⟩ := h2 w e1
      refine ⟨⟨xs, x, hs, hx⟩, (fun _ h => nomatch h), fun y H'' ⟨T, x', e1, hT, e2, e3⟩ => ?_⟩
      subst e1
      subst e2
      have := e3 xs hs
      rw [hx] at this
      cases this
      obtain ⟨P, R'', _⟩ := R'.laid (o := .tup [.int (i : Nat), x]) hT
      exact ⟨P, R'', .tup (.of upd_same) (.cons (.int _) (.cons (r.post P R'.noT) .nil))⟩
theorem it_z {c d : Cmp} {a b : Addr} (h : CmpOk g (SqL g.K) c a ρ H) (k : CmpOk g (SqL g.K) d b ρ H) : ItOk g (.zip c d) (Itz g.K a b) ρ H := fun i ρ' hm' σm' σ' H' p R' => by
  obtain ⟨h1, h2⟩ := h i ρ' hm' σm' σ' H' p R'
  obtain ⟨k1, k2⟩ := k i ρ' hm' σm' σ' H' p R'
  have len : ∀ {c : Cmp} {a : Addr} {o : Option MV}, CmpOk g (SqL g.K) c a ρ H → c.nth i hm' = some o → ∃ xs, SqL g.K H' a xs := fun {c a o} h e => by
    obtain ⟨h1, h2⟩ := h i ρ' hm' σm' σ' H' p R'
    cases o with
    | none => obtain ⟨xs, hs, _⟩ := h1 e; exact ⟨xs, hs⟩
    | some v => obtain ⟨xs, _, hs, _⟩ := h2 v e; exact ⟨xs, hs⟩
  constructor
  · intro e
    simp only [Src.nth] at e
    split at e
    · cases e
    · rename_i o e1 e2
      obtain ⟨xs, hs, hl⟩ := h1 e1
      obtain ⟨ys, hs'⟩ := len k e2
      exact ⟨xs, ys, hs, hs', .inl hl⟩
    · rename_i o _ e1 e2
      obtain ⟨xs, hs, hl⟩ := k1 e2
      obtain ⟨ys, hs'⟩ := len h e1
      exact ⟨ys, xs, hs', hs, .inr hl⟩
    · cases e
  · intro v e
    simp only [Src.nth] at e
    split at e
    · rename_i x0 y0 e1 e2
      cases e
      obtain ⟨xs, x, hs, hx, r, n⟩ := h2 x0 e1
      obtain ⟨ys, y, hs', hy, r', n'⟩ := k2 y0 e2
      refine ⟨⟨xs, ys, x, y, hs, hs', hx, hy⟩, (fun _ h => nomatch h), fun z H'' ⟨T, x', y', e1, hT, e2, e3, e4⟩ => ?_⟩
      subst e1
      subst e2
      have := e3 xs hs
      rw [hx] at this
      cases this
      have := e4 ys hs'
      rw [hy] at this
      cases this
      obtain ⟨P, R'', _⟩ := R'.laid (o := .tup [x, y]) hT
      exact ⟨P, R'', .tup (.of upd_same) (.cons (r.post P R'.noT) (.cons (r'.post P R'.noT) .nil))⟩
    · cases e
    · cases e
    · cases e
theorem it_zT {c d : Cmp} {a b : Addr} (h : CmpOk g (SqT g.K) c a ρ H) (k : CmpOk g (SqT g.K) d b ρ H) : ItOk g (.zip c d) (RZ.ItzT g.K a b) ρ H := fun i ρ' hm' σm' σ' H' p R' => by
  obtain ⟨h1, h2⟩ := h i ρ' hm' σm' σ' H' p R'
  obtain ⟨k1, k2⟩ := k i ρ' hm' σm' σ' H' p R'
  have len : ∀ {c : Cmp} {a : Addr} {o : Option MV}, CmpOk g (SqT g.K) c a ρ H → c.nth i hm' = some o → ∃ xs, SqT g.K H' a xs := fun {c a o} h e => by
    obtain ⟨h1, h2⟩ := h i ρ' hm' σm' σ' H' p R'
    cases o with
    | none => obtain ⟨xs, hs, _⟩ := h1 e; exact ⟨xs, hs⟩
    | some v => obtain ⟨xs, _, hs, _⟩ := h2 v e; exact ⟨xs, hs⟩
  constructor
  · intro e
    simp only [Src.nth] at e
    split at e
    · cases e
    · rename_i o e1 e2
      obtain ⟨xs, hs, hl⟩ := h1 e1
      obtain ⟨ys, hs'⟩ := len k e2
      exact ⟨xs, ys, hs, hs', .inl hl⟩
    · rename_i o _ e1 e2
      obtain ⟨xs, hs, hl⟩ := k1 e2
      obtain ⟨ys, hs'⟩ := len h e1
      exact ⟨ys, xs, hs', hs, .inr hl⟩
    · cases e
  · intro v e
    simp only [Src.nth] at e
    split at e
    · rename_i x0 y0 e1 e2
      cases e
      obtain ⟨xs, x, hs, hx, r, n⟩ := h2 x0 e1
      obtain ⟨ys, y, hs', hy, r', n'⟩ := k2 y0 e2
      refine ⟨⟨xs, ys, x, y, hs, hs', hx, hy⟩, (fun _ h => nomatch h), fun z H'' ⟨T, x', y', e1, hT, e2, e3, e4⟩ => ?_⟩
      subst e1
      subst e2
      have := e3 xs hs
      rw [hx] at this
      cases this
      have := e4 ys hs'
      rw [hy] at this
      cases this
      obtain ⟨P, R'', _⟩ := R'.laid (o := .tup [x, y]) hT
      exact ⟨P, R'', .tup (.of upd_same) (.cons (r.post P R'.noT) (.cons (r'.post P R'.noT) .nil))⟩
    · cases e
    · cases e
    · cases e
theorem it_r {lo : Int} {n : Nat} : ItOk g (.rg (rng lo n)) (Itr lo n) ρ H := fun i ρ' hm' σm' σ' H' p R' => by
  have hl : (rng lo n).length = n := by simp [rng]
  by_cases hi : i < n
  · have hx : (rng lo n)[i]? = some (.int (lo + (i : Nat))) := by simp [rng, hi]
    refine ⟨fun e => ?_, fun v e => ?_⟩
    · simp only [Src.nth, hx] at e
      cases e
    · simp only [Src.nth, hx] at e
      cases e
      refine ⟨hi, (fun _ h => nomatch h), fun x H'' ⟨e1, e2⟩ => ?_⟩
      subst e1
      subst e2
      exact ⟨.refl, R', .int _⟩
  · have hx : (rng lo n)[i]? = none := List.getElem?_eq_none (by omega)
    refine ⟨fun e => ?_, fun v e => ?_⟩
    · show n ≤ i; omega
    · simp only [Src.nth, hx] at e
      cases e
theorem it_rc {lo c : Int} {n : Nat} : ItOk g (.rg (rngC lo c n)) (Itc lo c n) ρ H := fun i ρ' hm' σm' σ' H' p R' => by
  have hl : (rngC lo c n).length = n := by simp [rngC]
  by_cases hi : i < n
  · have hx : (rngC lo c n)[i]? = some (.int (lo + (i : Nat) * c)) := by simp [rngC, hi]
    refine ⟨fun e => ?_, fun v e => ?_⟩
    · simp only [Src.nth, hx] at e
      cases e
    · simp only [Src.nth, hx] at e
      cases e
      refine ⟨hi, (fun _ h => nomatch h), fun x H'' ⟨e1, e2⟩ => ?_⟩
      subst e1
      subst e2
      exact ⟨.refl, R', .int _⟩
  · have hx : (rngC lo c n)[i]? = none := List.getElem?_eq_none (by omega)
    refine ⟨fun e => ?_, fun v e => ?_⟩
    · show n ≤ i; omega
    · simp only [Src.nth, hx] at e
      cases e
end
section
variable {G : CG} {g : GE} {P : List FnD} {d : Nat} {W : WX} {sc : Scope} {X : Cx} {tg : Expr}
theorem PI.imp {e : Expr} {t t' : TI} (h : PI X tg e t) (i : ∀ σ H R, t' σ H R → t σ H R) : PI X tg e t' := ⟨fun pins s σ H R I q => h.run pins s σ H R I (i σ H R q)⟩
abbrev SI (g : GE) (P : List FnD) (d : Nat) (W : WX) (X : Cx) (tg e : Expr) (m : MI) : Prop := PI X tg e (LI g W (evalI (calls P d) m))
theorem Fin.okS {σm : Loc} {σ : L2.St} {ρ : Rh} {H : Hp} {h' : Hm} {s : Src} {J : It} {Q : It → Hp → Prop} (hF : Fin g W (kS g) σm σ ρ H (.ok s h') Q) (R0 : Rel g ρ σm h' σ H) (r : ItOk g s J ρ H) : Q J H :=
  hF ρ H J .refl R0 r fun a h => h.elim
theorem si_ex (ok : XOk G g P d W sc X) {a : Expr} {x : ME} (ha : SE g P d W X a x) : SI g P d W X tg a (.ex x) := by
  refine PI.imp (pi_seq ha) fun σ H Q ⟨ρ, σm, hm, r, R, e, F⟩ => ?_
  simp only [evalI] at e
  refine L.bnd R e F fun ρ1 H1 v hm1 x1 p1 R1 r1 fr1 e F => ?_
  cases hc : cmpOf v hm1 with
  | none => rw [hc] at e; cases e
  | some c =>
    rw [hc] at e
    cases e
    obtain ⟨a, rfl, hh⟩ := cmp_ok R1 r1 hc
    refine ⟨a, rfl, ?_⟩
    rw [← ok.go.hK]
    rcases hh with ⟨_, h1, h2⟩ | ⟨_, h1, h2⟩
    · exact .inl ⟨h1, F.okS R1 (it_l h2)⟩
    · exact .inr ⟨h1, F.okS R1 (it_t h2)⟩
theorem small_of {i : Int} (h : small i = true) : -(2 ^ 62) ≤ i ∧ i < 2 ^ 62 := by
  unfold small at h
  rw [Bool.and_eq_true, decide_eq_true_eq, decide_eq_true_eq] at h
  omega
theorem si_r1 (ok : XOk G g P d W sc X) {a : Expr} {x : ME} {p pos : Pos} (hg : isGl sc ("range" : Str) = true) (hs : noStar a = true) (ha : SE g P d W X a x) : SI g P d W X tg (.Call (.Name "range" p) [a] [] pos) (.r1 x) := by
  refine PI.imp (pi_range1 (ok.gl hg) (ok.go.blt _ (by decide +kernel)) (pa_cons ha pa_nil (star_cons hs)) (star_cons hs)) fun σ H Q ⟨ρ, σm, hm, r, R, e, F⟩ => ?_
  simp only [evalI] at e
  refine L.bnd R e F fun ρ1 H1 v hm1 x1 p1 R1 r1 fr1 e F => ?_
  split at e
  · split at e
    · rename_i hz
      cases e
      cases r1
      have := small_of hz
      exact ⟨_, rfl, this.1, this.2, F.okS R1 it_r⟩
    · cases e
  · cases e
theorem si_r2 (ok : XOk G g P d W sc X) {a b : Expr} {x y : ME} {p pos : Pos} (hg : isGl sc ("range" : Str) = true) (hs : noStar a = true) (hs2 : noStar b = true) (ha : SE g P d W X a x) (hb : SE g P d W X b y) : SI g P d W X tg (.Call (.Name "range" p) [a, b] [] pos) (.r2 x y) := by
  refine PI.imp (pi_range2 (ok.gl hg) (ok.go.blt _ (by decide +kernel)) (pa_cons ha (pa_cons hb pa_nil (star_cons hs2)) (star_cons hs)) (by rw [star_cons hs, star_cons hs2] <;> rfl) (star_cons hs2)) fun σ H Q ⟨ρ, σm, hm, r, R, e, F⟩ => ?_
  simp only [evalI] at e
  refine L.bnd R e F fun ρ1 H1 v hm1 x1 p1 R1 r1 fr1 e F => L.bnd R1 e F fun ρ2 H2 w hm2 y1 p2 R2 r2 fr2 e F => ?_
  split at e
  · split at e
    · rename_i hz
      cases e
      cases r1
      cases r2
      rw [Bool.and_eq_true] at hz
      have h1 := small_of hz.1
      have h2 := small_of hz.2
      exact ⟨_, _, rfl, ⟨h1.1, h1.2, h2.1, h2.2⟩, F.okS R2 it_r⟩
    · cases e
  · cases e
theorem si_r3 (ok : XOk G g P d W sc X) {a b c : Expr} {x y z : ME} {p pos : Pos} (hg : isGl sc ("range" : Str) = true) (hs : noStar a = true) (hs2 : noStar b = true) (hs3 : noStar c = true) (ha : SE g P d W X a x) (hb : SE g P d W X b y) (hc : SE g P d W X c z) : SI g P d W X tg (.Call (.Name "range" p) [a, b, c] [] pos) (.r3 x y z) := by
  refine PI.imp (pi_range3 (ok.gl hg) (ok.go.blt _ (by decide +kernel)) (pa_cons ha (pa_cons hb (pa_cons hc pa_nil (star_cons hs3)) (star_cons hs2)) (star_cons hs)) (star_cons hs) (star_any (by simp [hs2, hs3]))) fun σ H Q ⟨ρ, σm, hm, r, R, e, F⟩ => ?_
  simp only [evalI] at e
  refine L.bnd R e F fun ρ1 H1 v hm1 x1 p1 R1 r1 fr1 e F => L.bnd R1 e F fun ρ2 H2 w hm2 y1 p2 R2 r2 fr2 e F => L.bnd R2 e F fun ρ3 H3 u hm3 z1 p3 R3 r3 fr3 e F => ?_
  split at e
  · split at e
    · rename_i hz
      cases e
      cases r1
      cases r2
      cases r3
      simp only [Bool.and_eq_true, decide_eq_true_eq] at hz
      refine ⟨_, _, _, _, rfl, ⟨hz.1.1.1.2, hz.1.1.2, hz.1.2, ?_⟩, F.okS R3 it_rc⟩
      unfold rngN
      omega
    · cases e
  · cases e
theorem si_enu (ok : XOk G g P d W sc X) {a : Expr} {x : ME} {p pos tpos : Pos} {elts : List Expr} {kk : Nat} (hg : isGl sc ("enumerate" : Str) = true) (hs : noStar a = true) (ha : SE g P d W X a x) : SI g P d W X (.Tuple elts kk tpos) (.Call (.Name "enumerate" p) [a] [] pos) (.enu x) := by
  refine PI.imp (pi_enumA (ok.gl hg) (ok.go.blt _ (by decide +kernel)) (pa_cons ha pa_nil (star_cons hs)) (star_cons hs)) fun σ H Q ⟨ρ, σm, hm, r, R, e, F⟩ => ?_
  simp only [evalI] at e
  refine L.bnd R e F fun ρ1 H1 v hm1 x1 p1 R1 r1 fr1 e F => ?_
  cases hc : cmpOf v hm1 with
  | none => rw [hc] at e; cases e
  | some c =>
    rw [hc] at e
    cases e
    obtain ⟨a, rfl, hh⟩ := cmp_ok R1 r1 hc
    rw [← ok.go.hK]
    rcases hh with ⟨_, ⟨xs, h1⟩, h2⟩ | ⟨_, ⟨xs, h1⟩, h2⟩
    · exact ⟨a, xs, rfl, .inl ⟨h1, F.okS R1 (it_e h2)⟩⟩
    · exact ⟨a, xs, rfl, .inr ⟨h1, F.okS R1 (it_eT h2)⟩⟩
theorem CmpOk.post {Sq : Hp → Addr → List V → Prop} {c : Cmp} {a : Addr} {ρ ρ1 : Rh} {H H1 : Hp} (h : CmpOk g Sq c a ρ H) (p : Post ρ H ρ1 H1) : CmpOk g Sq c a ρ1 H1 := fun i ρ' hm' σm' σ' H' q R' => h i ρ' hm' σm' σ' H' (p.trans q) R'
theorem si_zip (ok : XOk G g P d W sc X) {a b : Expr} {x y : ME} {p pos tpos : Pos} {elts : List Expr} {kk : Nat} (hg : isGl sc ("zip" : Str) = true) (hs : noStar a = true) (hs2 : noStar b = true) (ha : SE g P d W X a x) (hb : SE g P d W X b y) : SI g P d W X (.Tuple elts kk tpos) (.Call (.Name "zip" p) [a, b] [] pos) (.zip x y) := by
  refine PI.imp (RZ.pi_zipA (ok.gl hg) (ok.go.blt _ (by decide +kernel)) (pa_cons ha (pa_cons hb pa_nil (star_cons hs2)) (star_cons hs)) (star_cons hs) (star_any (by simp [hs2]))) fun σ H Q ⟨ρ, σm, hm, r, R, e, F⟩ => ?_
  simp only [evalI] at e
  refine L.bnd R e F fun ρ1 H1 v hm1 x1 p1 R1 r1 fr1 e F => L.bnd R1 e F fun ρ2 H2 w hm2 y1 p2 R2 r2 fr2 e F => ?_
  have r1 := r1.post p2 R1.noT
  split at e
  · rename_i c d hc hd
    split at e
    · rename_i hl
      cases e
      obtain ⟨a1, rfl, h1⟩ := cmp_ok R2 r1 hc
      obtain ⟨a2, rfl, h2⟩ := cmp_ok R2 r2 hd
      rw [← ok.go.hK]
      rcases h1 with ⟨l1, ⟨xs, s1⟩, k1⟩ | ⟨l1, ⟨xs, s1⟩, k1⟩
      · rcases h2 with ⟨l2, ⟨ys, s2⟩, k2⟩ | ⟨l2, ⟨ys, s2⟩, k2⟩
        · exact ⟨_, _, xs, ys, rfl, .inl ⟨s1, s2, F.okS R2 (it_z k1 k2)⟩⟩
        · rw [l1, l2] at hl; cases hl
      · rcases h2 with ⟨l2, ⟨ys, s2⟩, k2⟩ | ⟨l2, ⟨ys, s2⟩, k2⟩
        · rw [l1, l2] at hl; cases hl
        · exact ⟨_, _, xs, ys, rfl, .inr ⟨s1, s2, F.okS R2 (it_zT k1 k2)⟩⟩
    · cases e
  · cases e
end
end Mi

/-! Mi9: comprehensions. -/
namespace Mi
open PySem PySem.Spec PyProof.Rows L2
section
theorem wipeL_get {σ : Loc} {i : Nat} : ∀ {vs : List Nat} {v : MV}, (wipeL σ vs)[i]? = some (some v) → σ[i]? = some (some v) ∧ i ∉ vs
  | [], v, h => ⟨h, by simp⟩
  | w :: vs, v, h => by
    unfold wipeL at h
    by_cases hi : w = i
    · subst hi
      by_cases hv : w < (wipeL σ vs).length
      · rw [List.getElem?_set_self hv] at h; cases h
      · rw [List.getElem?_eq_none (by simpa using hv)] at h; cases h
    · rw [List.getElem?_set_ne hi] at h
      obtain ⟨h1, h2⟩ := wipeL_get h
      exact ⟨h1, by simp only [List.mem_cons, not_or]; exact ⟨fun e => hi e.symm, h2⟩⟩
theorem wipeL_length (σ : Loc) : ∀ vs : List Nat, (wipeL σ vs).length = σ.length
  | [] => rfl
  | v :: vs => by unfold wipeL; rw [List.length_set, wipeL_length σ vs]
theorem wipe_out {σ : L2.St} {i : Nat} : ∀ {vs : List Nat}, i ∉ vs → (wipe σ vs)[i]? = σ[i]?
  | [], _ => rfl
  | w :: vs, h => by
    unfold wipe
    simp only [List.mem_cons, not_or] at h
    rw [List.getElem?_set_ne (Ne.symm h.1), wipe_out h.2]
theorem wipe_in {σ : L2.St} {i : Nat} (hi : i < σ.length) : ∀ {vs : List Nat}, i ∈ vs → (wipe σ vs)[i]? = some none
  | [], h => by simp at h
  | w :: vs, h => by
    unfold wipe
    by_cases e : w = i
    · subst e
      rw [List.getElem?_set_self (by rw [wipe_length]; exact hi)]
    · rw [List.getElem?_set_ne e]
      rcases List.mem_cons.mp h with q | q
      · exact absurd q.symm e
      · exact wipe_in hi q
theorem wipe_eq {σ σ' : L2.St} {vs : List Nat} (hl : σ'.length = (wipe σ vs).length) (h : ∀ (i : Nat), ¬ i ∈ vs → σ'[i]? = (wipe σ vs)[i]?) : wipe σ' vs = wipe σ vs := by
  apply List.ext_getElem?
  intro i
  by_cases hi : i ∈ vs
  · by_cases hlt : i < σ.length
    · rw [wipe_in hlt hi, wipe_in (by rw [hl, wipe_length]; exact hlt) hi]
    · rw [List.getElem?_eq_none (by rw [wipe_length, hl, wipe_length]; omega), List.getElem?_eq_none (by rw [wipe_length]; omega)]
  · rw [wipe_out hi, h i hi]
end
section
variable {g : GE} {ρ ρ' : Rh} {H H' : Hp} {σm : Loc} {hm : Hm} {σ : L2.St}
theorem Rel.wipe (R : Rel g ρ σm hm σ H) (vs : List Nat) : Rel g ρ (wipeL σm vs) hm (L2.wipe σ vs) H :=
  ⟨R.len, R.nd, R.obj, R.pur, by rw [wipeL_length, wipe_length]; exact R.slen, fun i v h => by
    obtain ⟨h1, h2⟩ := wipeL_get h
    obtain ⟨x, e, r⟩ := R.loc i v h1
    exact ⟨x, by rw [wipe_out h2]; exact e, r⟩, fun i v h => R.nol i v (wipeL_get h).1, R.blk, R.tab⟩
/-- an owned list is written -/
theorem mv_poke {D : Addr} {as bs : List V} (bD : ρ.b D) (hD : H D = some (.lst as)) : MvP g ρ H ρ (upd H D (.lst bs)) := ⟨fun a vs h => by
  rcases h with h | h
  · rcases h with h | ⟨o, h⟩
    · exact .inl (.inl (by rw [upd_ne (fun e => by subst e; rw [hD] at h; cases h)]; exact h))
    · exact .inl (.inr ⟨o, by rw [upd_ne (fun e => by subst e; rw [hD] at h; cases h)]; exact h⟩)
  · exact .inr h, fun a vs h o => ⟨by rw [upd_ne (fun e => by subst e; exact o.2 bD)]; exact h, o⟩, fun a o vs h n => ⟨by rw [upd_ne (fun e => by subst e; rw [hD] at h; cases h)]; exact h, n⟩, fun a o h z n => ⟨by rw [upd_ne (fun e => by subst e; rw [hD] at h; exact z _ (Option.some.inj h).symm)]; exact h, n⟩⟩
theorem Rel.poke {ρ1 : Rh} {H1 : Hp} {σ1 : L2.St} {σm1 σm2 : Loc} {hm1 : Hm} {σ2 : L2.St} {D : Addr} {as : List V} (bs : List V) (R : Rel g ρ σm2 hm σ2 H) (R1 : Rel g ρ1 σm1 hm1 σ1 H1) (p : Post ρ1 H1 ρ H) (nD : Fr H1 D) (bD : ρ.b D) (oD : D ∉ ρ.l) (hD : H D = some (.lst as)) :
    Post ρ1 H1 ρ (upd H D (.lst bs)) ∧ Rel g ρ σm1 hm σ1 (upd H D (.lst bs)) := by
  have M := mv_poke (g := g) (bs := bs) bD hD
  have P : Post ρ1 H1 ρ (upd H D (.lst bs)) := ⟨p.ext, p.new, p.newb, fun a o h m nt => by
    rw [upd_ne (fun e => by subst e; exact nD.no h nt)]
    exact p.keep a o h m nt, fun a h => by
    by_cases e : a = D
    · subst e; exact nD
    · exact p.more a fun o' q => h o' (by rw [upd_ne e]; exact q), p.blk⟩
  refine ⟨P, ⟨R.len, R.nd, fun i o a h1 h2 => ?_, R.pur, R1.slen, fun i v h => ?_, R1.nol, fun a h => ?_, tabs_lst hD R.tab⟩⟩
  · have na : a ≠ D := fun e => by subst e; exact oD (List.mem_of_getElem? h2)
    have q := R.obj i o a h1 h2
    cases o with
    | lst ys =>
      obtain ⟨ws, e, t⟩ := q
      exact ⟨ws, by rw [upd_ne na]; exact e, t.moveP M (R.pur i ys h1)⟩
    | scr ns =>
      obtain ⟨ob, e⟩ := q
      exact ⟨ob, by rw [upd_ne na]; exact e⟩
    | dct _ => exact q
  · obtain ⟨x, e, r⟩ := R1.loc i v h
    exact ⟨x, e, r.post P R1.noT⟩
  · by_cases e : a = D
    · subst e; exact ⟨bs, upd_same⟩
    · obtain ⟨xs, e2⟩ := R.blk a h
      exact ⟨xs, by rw [upd_ne e]; exact e2⟩
theorem nolL_append : ∀ {xs ys : List MV}, nolL (xs ++ ys) = (nolL xs && nolL ys)
  | [], _ => by simp [nolL]
  | x :: xs, ys => by
    rw [List.cons_append]
    simp only [nolL]
    rw [nolL_append, Bool.and_assoc]
end
section
variable {G : CG} {g : GE} {P : List FnD} {d : Nat} {W : WX} {sc : Scope} {X : Cx}
abbrev WF : WX := fun _ _ _ _ => False
theorem GOk.noMet {K : PySem.W.Frag} {mg : Str → Option Value} (h : GOk G g K mg) : GOk G.noMet g K mg := ⟨h.hK, h.ask, h.low, h.fn, h.cst, h.blt⟩
theorem PgOk.noMet {prog : Program} {K : PySem.W.Frag} {mg : Str → Option Value} (h : PgOk G g prog K mg) : PgOk G.noMet g prog K mg := ⟨h.top, h.cls, h.exm, h.low, (fun f hs nt e => nomatch e), h.obj⟩
theorem GOk.inner {K : PySem.W.Frag} {mg : Str → Option Value} (h : GOk G g K mg) : GOk G.inner g K mg := ⟨h.hK, h.ask, h.low, h.fn, h.cst, h.blt⟩
theorem PgOk.inner {prog : Program} {K : PySem.W.Frag} {mg : Str → Option Value} (h : PgOk G g prog K mg) : PgOk G.inner g prog K mg := ⟨h.top, h.cls, h.exm, h.low, (fun f hs nt e => nomatch e), h.obj⟩
theorem XOk.blk (ok : XOk G g P d W sc X) (s : Shared) (H : Hp) (scope : Scope) (C : Addr) (cl : List (Str × Addr)) (fp : List Addr) : XOk G.noMet g P d WF (relS scope sc) (X.blk s H scope (compEnvC scope cl C X.env) fp) :=
  ⟨ok.go.noMet, ok.nd, ok.calm, by show relS scope X.env.scope = _; rw [ok.sc], ok.room, ok.gd, ok.fn, takes0, ok.pg.noMet, fun h => absurd rfl h⟩
theorem noX_some {α : Type} {x : RO α} {r : Res α} (h : noX x = some r) : ∃ a h', x = some (.ok a h') ∧ r = .ok a h' := by
  unfold noX at h
  split at h
  · cases h; exact ⟨_, _, rfl, rfl⟩
  · cases h
theorem lc_imp {vs : List Nat} {t : MT} {i : MI} {c : Option ME} {m : ME} {σ : L2.St} {H : Hp} {Q : VK} (h : LE g W (evalE (calls P d) (.lc vs t i c m)) σ H Q) :
    tLc (LI g W (evalI (calls P d) i)) (LG g (evalT (calls P d) t) (fun i => i ∈ vs)) (LT g WF (evalC (calls P d) c)) (LE g WF (evalE (calls P d) m)) vs σ H Q := by
  obtain ⟨ρ, σm, hm, r, R, e, F0⟩ := h
  simp only [evalE] at e
  refine L.bnd R e F0 fun ρ1 H1 s hm1 J p1 R1 itok _ e F1 => ?_
  intro D nD
  obtain ⟨P2, R2, np⟩ := R1.laidL (vs := []) nD
  have nD0 : Fr H D := p1.more D (.of nD)
  have R1w := R1.wipe vs
  let tgf := fun v h => evalT (calls P d) t v (wipeL σm vs) h
  refine ⟨fun i m' H' => ∃ ρ' hm' acc as, Post ρ1 H1 ρ' H' ∧ Rel g ρ' (wipeL σm vs) hm' (wipe σ vs) H' ∧ D ∉ ρ'.l ∧ ρ'.b D ∧ H' D = some (.lst as) ∧ RVs g ρ' H' acc as ∧ nolL acc = true ∧
    bnd (iterC s tgf (fun σ h => evalC (calls P d) c σ h) (fun σ h => evalE (calls P d) m σ h) m' i acc hm') (fun acc h2 => some (.ok (.lst acc) h2)) = some r, ⟨_, ρ1.plus D, hm1, [], [], ?_, ?_, np, .inr rfl, upd_same, .nil, rfl, e⟩, ?_⟩
  · exact P2
  · obtain ⟨P2w, R2w, _⟩ := R1w.laidL (vs := []) nD
    exact R2w
  rintro i m' H' ⟨ρ', hm', acc, as, p', R', oD, bD, hD, ra, na, e⟩
  cases m' with
  | zero => simp only [iterC] at e; cases e
  | succ m' =>
    obtain ⟨k1, k2⟩ := itok i ρ' hm' _ _ H' p' R'
    simp only [iterC] at e
    split at e
    · rename_i hn
      refine .inl ⟨k1 hn, ?_⟩
      cases e
      have R3 : Rel g ρ' σm hm' σ H' := R.after (p1.trans p') R'.noLoc
      exact F0 ρ' H' _ (p1.trans p') R3 (.lst hD oD ra) fun a ⟨_, e⟩ => by cases e; exact ⟨nD0, bD⟩
    · rename_i v hn
      obtain ⟨go, nv, k3⟩ := k2 v hn
      split at e
      · rename_i σ1 h1 et
        refine .inr ⟨go, fun H'' => ∃ ρ' hm' acc as, Post ρ1 H1 ρ' H'' ∧ Rel g ρ' (wipeL σm vs) hm' (wipe σ vs) H'' ∧ D ∉ ρ'.l ∧ ρ'.b D ∧ H'' D = some (.lst as) ∧ RVs g ρ' H'' acc as ∧ nolL acc = true ∧
          bnd (iterC s tgf (fun σ h => evalC (calls P d) c σ h) (fun σ h => evalE (calls P d) m σ h) m' (i + 1) acc hm') (fun acc h2 => some (.ok (.lst acc) h2)) = some r, fun H'' w => ⟨m', Nat.lt_succ_self _, w⟩, fun x H'' yy => ?_⟩
        obtain ⟨p2, R2, rx⟩ := k3 x H'' yy
        refine ⟨ρ', H'', ρ', _, hm', v, σ1, h1, live_of R2, .refl, fun a ⟨⟨xs, e⟩, _⟩ => absurd e (nv xs), R2, rx, et, fun ρ2 σ2 H2 p3 R3 hl hs' => ⟨wipe_eq hl hs', ?_⟩⟩
        have p12 := p'.trans (p2.trans p3)
        cases hcx : noX (evalC (calls P d) c σ1 h1) with
        | none => rw [hcx] at e; cases e
        | some rc =>
          obtain ⟨k, h2, ec, rfl⟩ := noX_some hcx
          rw [hcx] at e
          simp only [bnd_ok] at e
          have hD2 : H'' D = some (.lst as) := p2.keep _ _ hD oD nofun
          have hD3 : H2 D = some (.lst as) := p3.keep _ _ hD2 oD nofun
          have oD2 : D ∉ ρ2.l := p3.outl hD2 oD
          refine L.bndO R3 ec fun ρ3 H3 b p4 R4 rb _ => ?_
          have rb : k = b := rb
          subst rb
          have hD4 : H3 D = some (.lst as) := p4.keep _ _ hD3 oD2 nofun
          have oD3 : D ∉ ρ3.l := p4.outl hD3 oD2
          have bD3 : ρ3.b D := p4.blk _ (p3.blk _ (p2.blk _ bD))
          have p13 := p12.trans p4
          have ra3 := (ra.post (p2.trans p3) R'.noT).post p4 R3.noT
          cases k with
          | false =>
            simp only [Bool.false_eq_true, if_false]
            exact ⟨ρ3, h2, acc, as, p13, R1w.after p13 R4.noLoc, oD3, bD3, hD4, ra3, na, e⟩
          | true =>
            simp only [if_true]
            cases hex : noX (evalE (calls P d) m σ1 h2) with
            | none => simp only [hex] at e; cases e
            | some re =>
              obtain ⟨y, h3, ee, rfl⟩ := noX_some hex
              simp only [hex, bnd_ok] at e
              refine L.bndO R4 ee fun ρ4 H4 yv p5 R5 ry fr => ?_
              split at e
              · rename_i hz
                obtain ⟨b, hb, hT, p6, R6⟩ := R4.unb p5 R5 fr
                have hD5 : H4 D = some (.lst as) := p5.keep _ _ hD4 oD3 nofun
                have oD5 : D ∉ (ρ4.less b).l := p5.outl hD4 oD3
                have bD5 : (ρ4.less b).b D := p6.blk _ bD3
                have rz : RV g (ρ4.less b) H4 (Mi.frz y) yv := (ry.less hb).frz fun a h e => hT a ⟨h, e⟩
                have ra5 := ra3.post p6 R4.noT
                refine ⟨as, hD5, by rw [← ra.length, ← sizeMax_eq]; exact hz.1, ?_⟩
                obtain ⟨p7, R7⟩ := R6.poke (as ++ [yv]) R1w (p13.trans p6) (.of nD) bD5 oD5 hD5
                have M := mv_poke (g := g) (bs := as ++ [yv]) bD5 hD5
                refine ⟨ρ4.less b, h3, acc ++ [Mi.frz y], as ++ [yv], p7, R7, oD5, bD5, upd_same, RVs.move M (fun _ _ h => h) ?_ (ra5.append (.cons rz .nil)), ?_, e⟩
                · rw [nolL_append, na]; simp only [nolL, hz.2]; rfl
                · rw [nolL_append, na]; simp only [nolL, hz.2]; rfl
              · cases e
      · cases e
    · cases e
theorem s_lc (ok : XOk G g P d W sc X) {elt tg iter : Expr} {ifs : List Expr} {scope : Scope} {own : List (Str × Nat)} {pos : Pos} {t : MT} {i : MI} {c : Option ME} {m : ME} (hi : SI g P d W X tg iter i) (hb : blkC X.N sc scope own = true)
    (hg : ∀ X', XOk G.noMet g P d WF (relS scope sc) X' → X'.N = X.N → (∀ x, scope.names.lookup x = some .cell → X'.fn x = true) → SG g P d X' tg t (fun i => i ∈ own.map (·.2)))
    (ht : ∀ X', XOk G.noMet g P d WF (relS scope sc) X' → X'.N = X.N → PTs X' ifs (LT g WF (evalC (calls P d) c)))
    (he : ∀ X', XOk G.noMet g P d WF (relS scope sc) X' → X'.N = X.N → SE g P d WF X' elt m) (hs : ∀ x, foldedSetIterable iter X.env x = pure x) :
    SE g P d W X (.ListComp elt [⟨tg, iter, ifs, 0⟩] scope pos) (.lc (own.map (·.2)) t i c m) := by
  have bo : BlkOk X.N X.env.scope scope own := by rw [ok.sc]; exact blkOk_by hb
  exact PE.imp (pe_lc ok.calm ok.nd hi bo (fun s H C cl fp => hg _ (ok.blk s H scope C cl fp) rfl fun x h => by show (scope.names.lookup x == some .cell) = true; rw [h]; rfl) (fun s H C cl fp => ht _ (ok.blk s H scope C cl fp) rfl) (fun s H C cl fp => he _ (ok.blk s H scope C cl fp) rfl) hs) fun σ H Q h => lc_imp h
end
end Mi

/-! Mi10: statements. -/
namespace Mi
open PySem PySem.Spec PyProof.Rows L2
/-- what is wanted behind a statement that ends as r -/
def SFin (g : GE) (W : WX) (ρ : Rh) (H : Hp) (r : SRes) (D : Ends) : Prop := match r with
  | .nx σm h => ∀ ρ' H' σ', Post ρ H ρ' H' → Rel g ρ' σm h σ' H' → D.nx σ' H'
  | .bk σm h => ∀ ρ' H' σ', Post ρ H ρ' H' → Rel g ρ' σm h σ' H' → D.bk σ' H'
  | .ct σm h => ∀ ρ' H' σ', Post ρ H ρ' H' → Rel g ρ' σm h σ' H' → D.ct σ' H'
  | .rt v h => ∀ ρ' H' x, Post ρ H ρ' H' → RelH g ρ' h H' → RV g ρ' H' v x → (∀ a, TV v x a → Fr H a ∧ ρ'.b a) → D.rt x H'
  | .ex e σm h => ∀ ρ' H' σ' c d, Post ρ H ρ' H' → Rel g ρ' σm h σ' H' → EXR g ρ' H' e c d → W c d σ' H'
def LS (g : GE) (W : WX) (f : Loc → Hm → Option SRes) : TS := fun D σ H => ∃ ρ σm hm r, Rel g ρ σm hm σ H ∧ f σm hm = some r ∧ SFin g W ρ H r D
section
variable {γ δ : Type} {g : GE} {W : WX} {K' : Kd γ δ} {σm : Loc} {hm : Hm} {σ : L2.St} {ρ ρ1 : Rh} {H H1 : Hp} {r : SRes} {D : Ends}
theorem SFin.post (p : Post ρ H ρ1 H1) (h : SFin g W ρ H r D) : SFin g W ρ1 H1 r D := by
  cases r with
  | nx σm h' => exact fun ρ' H' σ' q => h ρ' H' σ' (p.trans q)
  | bk σm h' => exact fun ρ' H' σ' q => h ρ' H' σ' (p.trans q)
  | ct σm h' => exact fun ρ' H' σ' q => h ρ' H' σ' (p.trans q)
  | rt v h' => exact fun ρ' H' x q R r fr => h ρ' H' x (p.trans q) R r fun a ha => ⟨p.more a (fr a ha).1, (fr a ha).2⟩
  | ex e σm h' => exact fun ρ' H' σ' c d q => h ρ' H' σ' c d (p.trans q)
theorem L.exS {fa : Loc → Hm → RO γ} {k : γ → Hm → Option SRes} {Q' : δ → Hp → Prop} (hR : Rel g ρ σm hm σ H) (he : Mi.exS σm (fa σm hm) k = some r) (hF : SFin g W ρ H r D)
    (h : ∀ ρ1 H1 v hm1 x, Post ρ H ρ1 H1 → Rel g ρ1 σm hm1 σ H1 → K'.R ρ1 H1 v x → (∀ a, K'.T v x a → Fr H a ∧ ρ1.b a) → k v hm1 = some r → SFin g W ρ1 H1 r D → Q' x H1) : L g W K' fa σ H Q' := by
  cases e : fa σm hm with
  | none => rw [e] at he; cases he
  | some q =>
    rw [e] at he
    cases q with
    | ok v hm1 => exact ⟨ρ, σm, hm, _, hR, e, fun ρ1 H1 x p R1 rv fr => h ρ1 H1 v hm1 x p R1 rv fr he (hF.post p)⟩
    | ex ex hm1 =>
      have he : some (SRes.ex ex σm hm1) = some r := he
      cases he
      exact ⟨ρ, σm, hm, _, hR, e, fun ρ' H' c d p R' x => hF ρ' H' σ c d p R' x⟩
end
section
variable {G : CG} {g : GE} {P : List FnD} {d : Nat} {W : WX} {sc : Scope} {X : Cx}
abbrev SS (g : GE) (P : List FnD) (d : Nat) (W : WX) (X : Cx) (e : Stmt) (m : MS) : Prop := PS X e (LS g W (execS (calls P d) m))
abbrev SSs (g : GE) (P : List FnD) (d : Nat) (W : WX) (X : Cx) (e : List Stmt) (m : List MS) : Prop := PSs X e (LS g W (execB (calls P d) m))
theorem PS.imp {e : Stmt} {t t' : TS} (h : PS X e t) (i : ∀ D σ H, t' D σ H → t D σ H) : PS X e t' := ⟨fun pins s σ H D I q => h.run pins s σ H D I (i D σ H q)⟩
theorem PSs.imp {e : List Stmt} {t t' : TS} (h : PSs X e t) (i : ∀ D σ H, t' D σ H → t D σ H) : PSs X e t' := ⟨fun pins s σ H D I q => h.run pins s σ H D I (i D σ H q)⟩
theorem ss_nil : SSs g P d W X [] [] := by
  refine PSs.imp pss_nil fun D σ H ⟨ρ, σm, hm, r, R, e, F⟩ => ?_
  simp only [execB] at e
  cases e
  exact F ρ H σ .refl R
theorem ss_cons {a : Stmt} {r : List Stmt} {x : MS} {xs : List MS} (ha : SS g P d W X a x) (hr : SSs g P d W X r xs) : SSs g P d W X (a :: r) (x :: xs) := by
  refine PSs.imp (pss_cons ha hr) fun D σ H ⟨ρ, σm, hm, r, R, e, F⟩ => ?_
  simp only [execB] at e
  cases h : execS (calls P d) x σm hm with
  | none => rw [h] at e; cases e
  | some q =>
    rw [h] at e
    refine ⟨ρ, σm, hm, q, R, h, ?_⟩
    cases q with
    | nx σ1 h1 => exact fun ρ' H' σ' p R' => ⟨ρ', σ1, h1, r, R', e, F.post p⟩
    | rt v h1 => cases e; exact F
    | bk σ1 h1 => cases e; exact F
    | ct σ1 h1 => cases e; exact F
    | ex e1 σ1 h1 => cases e; exact F
theorem ss_expr {e : Expr} {x : ME} {pos : Pos} (he : SE g P d W X e x) (hs : swapsWith e none pos.line X.env = pure false) : SS g P d W X (.Expr e pos) (.expr x) := by
  refine PS.imp (ps_expr he hs) fun D σ H ⟨ρ, σm, hm, r, R, e, F⟩ => ?_
  simp only [execS] at e
  refine L.exS R e F fun ρ1 H1 v hm1 x1 p1 R1 r1 fr1 e F => ?_
  cases e
  exact F ρ1 H1 σ .refl R1
theorem ss_doc {x j pos pos'} : SS g P d W X (.Expr (.Constant (.str x) j pos) pos') .pass := by
  refine PS.imp ps_doc fun D σ H ⟨ρ, σm, hm, r, R, e, F⟩ => ?_
  simp only [execS] at e
  cases e
  exact F ρ H σ .refl R
theorem ss_ret {e : Expr} {x : ME} {pos : Pos} (he : SE g P d W X e x) : SS g P d W X (.Return (some e) pos) (.ret x) := by
  refine PS.imp (ps_ret he) fun D σ H ⟨ρ, σm, hm, r, R, e, F⟩ => ?_
  simp only [execS] at e
  refine L.exS R e F fun ρ1 H1 v hm1 x1 p1 R1 r1 fr1 e _ => ?_
  cases e
  exact F ρ1 H1 x1 p1 R1.noLoc r1 fr1
theorem ss_retN {pos : Pos} : SS g P d W X (.Return none pos) .retN := by
  refine PS.imp ps_retN fun D σ H ⟨ρ, σm, hm, r, R, e, F⟩ => ?_
  simp only [execS] at e
  cases e
  exact F ρ H .non .refl R.noLoc .non fun a ⟨⟨xs, e⟩, _⟩ => nomatch e
theorem ss_pass {pos : Pos} : SS g P d W X (.Pass pos) .pass := by
  refine PS.imp ps_pass fun D σ H ⟨ρ, σm, hm, r, R, e, F⟩ => ?_
  simp only [execS] at e
  cases e
  exact F ρ H σ .refl R
theorem ss_brk {pos : Pos} : SS g P d W X (.Break pos) .brk := by
  refine PS.imp ps_break fun D σ H ⟨ρ, σm, hm, r, R, e, F⟩ => ?_
  simp only [execS] at e
  cases e
  exact F ρ H σ .refl R
theorem ss_cnt {pos : Pos} : SS g P d W X (.Continue pos) .cnt := by
  refine PS.imp ps_continue fun D σ H ⟨ρ, σm, hm, r, R, e, F⟩ => ?_
  simp only [execS] at e
  cases e
  exact F ρ H σ .refl R
theorem exS_C {x : ME} {σm : Loc} {hm : Hm} {k : Bool → Hm → Option SRes} :
    Mi.exS σm (evalC (calls P d) (some x) σm hm) k = Mi.exS σm (evalE (calls P d) x σm hm) fun v h => match truth h v with
      | some b => k b h
      | none => none := by
  simp only [evalC]
  cases evalE (calls P d) x σm hm with
  | none => rfl
  | some q =>
    cases q with
    | ex e h => rfl
    | ok v h =>
      simp only [bnd_ok, exS_ok]
      cases truth h v <;> rfl
theorem ss_if {c : Expr} {a b : List Stmt} {x : ME} {y z : List MS} {pos : Pos} (hc : ST g P d W X c x) (ha : SSs g P d W X a y) (hb : SSs g P d W X b z) : SS g P d W X (.If c a b pos) (.ife x y z) := by
  refine PS.imp (ps_if hc ha hb) fun D σ H ⟨ρ, σm, hm, r, R, e, F⟩ => ?_
  simp only [execS] at e
  have e : Mi.exS σm (evalC (calls P d) (some x) σm hm) (fun b h => match b with
      | true => execB (calls P d) y σm h
      | false => execB (calls P d) z σm h) = some r := by
    rw [← e, exS_C]
    congr 1
    funext v h
    cases truth h v with
    | none => rfl
    | some b => cases b <;> rfl
  refine L.exS R e F fun ρ1 H1 v hm1 x1 p1 R1 r1 fr1 e F => ?_
  have r1 : v = x1 := r1
  subst r1
  cases v with
  | true => rw [if_pos rfl]; exact ⟨ρ1, σm, hm1, r, R1, e, F⟩
  | false => rw [if_neg Bool.false_ne_true]; exact ⟨ρ1, σm, hm1, r, R1, e, F⟩

/-! ### assignments -/
theorem asg_core {te : TE} {G' : TG} {D : Ends} {σ : L2.St} {H : Hp} {t : MT} {x : ME} {S : Nat → Prop} (h : LS g W (execS (calls P d) (.asg t x)) D σ H) :
    LE g W (evalE (calls P d) x) σ H fun v H1 => LG g (evalT (calls P d) t) S v σ H1 D.nx := by
  obtain ⟨ρ, σm, hm, r, R, e, F⟩ := h
  simp only [execS] at e
  refine L.exS R e F fun ρ1 H1 v hm1 x1 p1 R1 r1 fr1 e _ => ?_
  split at e
  · rename_i σ1 h2 e1
    cases e
    exact ⟨ρ, H, ρ1, σm, hm1, v, σ1, h2, live_of R, p1, fr1, R1, r1, e1, fun ρ' σ' H' p' R' _ _ => F ρ' H' σ' p' R'⟩
  · cases e
theorem ss_asg {tg e : Expr} {t : MT} {x : ME} {pos : Pos} (he : SE g P d W X e x) (hg : SG g P d X tg t (fun _ => True)) (hs : swapsWithSole [tg] e pos.line X.env = pure false) (hw : swappedStores [tg] e X.env = pure none)
    (h1 : (assignEach [tg] X.env).map (·.2) = [assign tg X.env]) : SS g P d W X (.Assign [tg] e pos) (.asg t x) :=
  PS.imp (ps_asg he hg hs hw h1) fun D σ H h => asg_core (te := LE g W (evalE (calls P d) x)) (G' := LG g (evalT (calls P d) t) fun _ => True) h
theorem stoAll_some : ∀ {is : List Nat} {vs : List MV} {σm : Loc} {hm : Hm} {q : Loc × Hm}, stoAll is vs σm hm = some q → ∀ v ∈ vs, v.nol = true ∨ ∃ xs, v = .lst xs ∧ pureL xs = true
  | [], [], _, _, _, _, v, h => by simp at h
  | [], _ :: _, _, _, _, e, _, _ => by simp only [stoAll] at e; cases e
  | _ :: _, [], _, _, _, e, _, _ => by simp only [stoAll] at e; cases e
  | i :: is, w :: vs, σm, hm, q, e, v, h => by
    simp only [stoAll] at e
    split at e
    · rename_i w' h1 e1
      rcases List.mem_cons.mp h with z | z
      · subst z; exact sto_some e1
      · exact stoAll_some e v z
    · cases e
theorem ss_setLc (ok : XOk G g P d W sc X) {j : Nat} {y : Str} {py : Pos} {elt tg iter : Expr} {ifs : List Expr} {scope : Scope} {own : List (Str × Nat)} {pos spos : Pos} {t : MT} {i : MI} {c : Option ME} {m : ME} (hy : slot X.N y = some j) (hyl : X.env.scope.names.lookup y = some .local)
    (hsw : swapsWith (.ListComp elt [⟨tg, iter, ifs, 0⟩] scope pos) (some (.Name y py)) spos.line X.env = pure true) (hi : SI g P d W X tg iter i) (hb : blkC X.N sc scope own = true)
    (hg : ∀ X', XOk G.noMet g P d WF (relS scope sc) X' → X'.N = X.N → (∀ x, scope.names.lookup x = some .cell → X'.fn x = true) → SG g P d X' tg t (fun i => i ∈ own.map (·.2)))
    (ht : ∀ X', XOk G.noMet g P d WF (relS scope sc) X' → X'.N = X.N → PTs X' ifs (LT g WF (evalC (calls P d) c)))
    (he : ∀ X', XOk G.noMet g P d WF (relS scope sc) X' → X'.N = X.N → SE g P d WF X' elt m) (hs : ∀ x, foldedSetIterable iter X.env x = pure x) :
    SS g P d W X (.Assign [.Name y py] (.ListComp elt [⟨tg, iter, ifs, 0⟩] scope pos) spos) (.asg (.var j) (.lc (own.map (·.2)) t i c m)) := by
  have bo : BlkOk X.N X.env.scope scope own := by rw [ok.sc]; exact blkOk_by hb
  refine PS.imp (ps_setLc ok.calm ok.nd (slot_get hy) hyl hsw hi bo (fun s H C cl fp => hg _ (ok.blk s H scope C cl fp) rfl fun x h => by show (scope.names.lookup x == some .cell) = true; rw [h]; rfl) (fun s H C cl fp => ht _ (ok.blk s H scope C cl fp) rfl) (fun s H C cl fp => he _ (ok.blk s H scope C cl fp) rfl) hs) fun D σ H h => ?_
  have h2 := asg_core (S := fun _ => True) (te := LE g W (evalE (calls P d) (.lc (own.map (·.2)) t i c m))) (G' := LG g (evalT (calls P d) (.var j)) fun _ => True) h
  obtain ⟨ρ, σm, hm, r, R, e, F⟩ := h2
  refine lc_imp ⟨ρ, σm, hm, r, R, e, ?_⟩
  cases r with
  | ok v h' => exact fun ρ' H' x p R' rv fr => gname_imp trivial (F ρ' H' x p R' rv fr)
  | ex e h' => exact F
/-- several values laid and stored -/
theorem stoAll_ok {ρ0 : Rh} {H0 : Hp} {H : Hp} : ∀ {is : List Nat} {vs : List MV} {xs : List V} {ρ : Rh} {σm σm' : Loc} {hm hm' : Hm} {σ : L2.St}, Rel g ρ σm hm σ H → RVs g ρ H vs xs → Apart vs xs → (∀ a, TVs vs xs a → Fr H0 a ∧ ρ.b a) → Post ρ0 H0 ρ H →
    stoAll is vs σm hm = some (σm', hm') → ∃ ρ', Rel g ρ' σm' hm' ((is.zip xs).foldl (fun s (p : Nat × V) => s.set p.1 (some p.2)) σ) H ∧ Post ρ0 H0 ρ' H ∧ is.length = xs.length
  | [], vs, xs, ρ, σm, σm', hm, hm', σ, R, rs, ap, fr, p0, e => by
    cases vs with
    | nil =>
      simp only [stoAll] at e
      cases e
      cases rs
      exact ⟨ρ, R, p0, rfl⟩
    | cons _ _ => simp only [stoAll] at e; cases e
  | i :: is, vs, xs, ρ, σm, σm', hm, hm', σ, R, rs, ap, fr, p0, e => by
    cases rs with
    | nil => simp only [stoAll] at e; cases e
    | @cons v x vs xs r t =>
      simp only [stoAll] at e
      split at e
      · rename_i w h1 e1
        have fr0 : ∀ a, TV v x a → Fr H0 a ∧ ρ.b a := fun a h => fr a ⟨0, v, x, rfl, rfl, h⟩
        have fr1 : ∀ a, TVs vs xs a → Fr H0 a ∧ ρ.b a := fun a ⟨i, v, x, h1, h2, h3⟩ => fr a ⟨i + 1, v, x, by simpa using h1, by simpa using h2, h3⟩
        obtain ⟨ρ1, R1, p1, hh⟩ := R.sto i r e1 fun a h => (fr0 a h).2
        have t1 : RVs g ρ1 H vs xs := by
          rcases hh with rfl | ⟨a, ta, rfl⟩
          · exact t
          · obtain ⟨us, hu⟩ := R.blk a (fr0 a ta).2
            exact t.takes (fr0 a ta).2 hu (stoAll_some e) (ap.1 a ta)
        obtain ⟨ρ2, R2, p2, hl⟩ := stoAll_ok R1 t1 ap.2 (fun a h => ⟨(fr1 a h).1, by rcases hh with rfl | ⟨_, _, rfl⟩ <;> exact (fr1 a h).2⟩) (p1 ρ0 H0 p0 fun a h => (fr0 a h).1) e
        exact ⟨ρ2, R2, p2, by simp [hl]⟩
      · cases e
theorem ss_par2 (ok : XOk G g P d W sc X) {i j : Nat} {x y : Str} {a b : Expr} {es : List ME} {px py pt pos : Pos} {kt k2 pt2} (hi : slot X.N x = some i) (hj : slot X.N y = some j) (hij : i ≠ j)
    (hx : X.env.scope.names.lookup x = some .local) (hy : X.env.scope.names.lookup y = some .local) (ha : SA g P d W X [a, b] es)
    (hw : swappedStores [.Tuple [.Name x px, .Name y py] kt pt] (.Tuple [a, b] k2 pt2) X.env = pure (some [x, y])) :
    SS g P d W X (.Assign [.Tuple [.Name x px, .Name y py] kt pt] (.Tuple [a, b] k2 pt2) pos) (.par [i, j] es) := by
  refine PS.imp (ps_par ok.calm ok.nd (slot_get hi) (slot_get hj) hij hx hy ha hw) fun D σ H ⟨ρ, σm, hm, r, R, e, F⟩ => ?_
  simp only [execS] at e
  refine L.exS R e F fun ρ1 H1 vs hm1 xs p1 R1 r1 fr1 e _ => ?_
  split at e
  · rename_i σ1 h2 e1
    cases e
    obtain ⟨ρ2, R2, p2, hl⟩ := stoAll_ok R1 r1.1 r1.2 fr1 p1 e1
    match xs, hl with
    | [v, w], _ => exact ⟨v, w, rfl, F ρ2 H1 _ p2 R2⟩
  · cases e
theorem ss_par3 (ok : XOk G g P d W sc X) {i j l : Nat} {x y z : Str} {a b c : Expr} {es : List ME} {px py pz pt pos : Pos} {kt k2 pt2} (hi : slot X.N x = some i) (hj : slot X.N y = some j) (hl : slot X.N z = some l) (hij : i ≠ j) (hil : i ≠ l) (hjl : j ≠ l)
    (hx : X.env.scope.names.lookup x = some .local) (hy : X.env.scope.names.lookup y = some .local) (hz : X.env.scope.names.lookup z = some .local) (ha : SA g P d W X [a, b, c] es)
    (hw : swappedStores [.Tuple [.Name x px, .Name y py, .Name z pz] kt pt] (.Tuple [a, b, c] k2 pt2) X.env = pure (some [x, y, z])) :
    SS g P d W X (.Assign [.Tuple [.Name x px, .Name y py, .Name z pz] kt pt] (.Tuple [a, b, c] k2 pt2) pos) (.par [i, j, l] es) := by
  refine PS.imp (ps_par3 ok.calm ok.nd (slot_get hi) (slot_get hj) (slot_get hl) hij hil hjl hx hy hz ha hw) fun D σ H ⟨ρ, σm, hm, r, R, e, F⟩ => ?_
  simp only [execS] at e
  refine L.exS R e F fun ρ1 H1 vs hm1 xs p1 R1 r1 fr1 e _ => ?_
  split at e
  · rename_i σ1 h2 e1
    cases e
    obtain ⟨ρ2, R2, p2, hl⟩ := stoAll_ok R1 r1.1 r1.2 fr1 p1 e1
    match xs, hl with
    | [u, v, w], _ => exact ⟨u, v, w, rfl, F ρ2 H1 _ p2 R2⟩
  · cases e

/-! ### name op= e -/
def rIp (g : GE) (op : BO) : TIp := rBin g (augV op)
theorem ip_mi {o : Operator} {bo : BO} (ho : boOf o = some bo) : PIp X o (rIp g bo) := by
  intro pins s σ0 H x y v0 u0 Q I rx ry h
  obtain ⟨ρ, σm, hm, σ, v, w, z, R, rv, rw', e, dn⟩ := h
  unfold augV at e
  split at e
  · rename_i i j
    split at e
    · rename_i hz
      cases rv
      cases rw'
      cases bo with
      | add =>
        have ho' : o = .Add := by cases o <;> first | rfl | cases ho
        subst ho'
        simp only [bop] at e
        cases e
        exact iop_add pins s σ0 H _ _ v0 u0 Q I rx ry ⟨_, _, rfl, rfl, dn.now R (.int _)⟩
      | sub =>
        have ho' : o = .Sub := by cases o <;> first | rfl | cases ho
        subst ho'
        simp only [bop] at e
        cases e
        exact iop_sub pins s σ0 H _ _ v0 u0 Q I rx ry ⟨_, _, rfl, rfl, dn.now R (.int _)⟩
      | mul =>
        have ho' : o = .Mult := by cases o <;> first | rfl | cases ho
        subst ho'
        simp only [bop] at e
        split at e
        · rename_i hm'
          cases e
          have hmul : IntMulOk i j := by
            unfold mulOk at hm'
            simp only [Bool.or_eq_true, decide_eq_true_eq] at hm'
            rcases hm' with (hz | hz) | hz
            · exact CMul.ok (.inl ⟨by omega, by omega⟩)
            · exact CMul.ok (.inr ⟨by omega, by omega⟩)
            · exact CMulW.ok hz
          obtain ⟨t, rfl⟩ := rx
          obtain ⟨t', rfl⟩ := ry
          exact imul_int ⟨.int _, H, I.tok _, ⟨_, rfl⟩, dn.now R (.int _)⟩ hmul
        · cases e
      | fdv =>
        have ho' : o = .FloorDiv := by cases o <;> first | rfl | cases ho
        subst ho'
        simp only [bop] at e
        split at e
        · cases e
          simp only [augOk, Bool.and_eq_true, decide_eq_true_eq] at hz
          obtain ⟨t, rfl⟩ := rx
          obtain ⟨t', rfl⟩ := ry
          exact ifloordiv_int (by omega) ⟨.int _, H, I.tok _, ⟨_, rfl⟩, dn.now R (.int _)⟩ (.inl (PyProof.noPylong_of_log2 hz.2))
        · cases e
      | mod =>
        have ho' : o = .Mod := by cases o <;> first | rfl | cases ho
        subst ho'
        simp only [bop] at e
        split at e
        · cases e
          simp only [augOk, decide_eq_true_eq] at hz
          refine iop_mod pins s σ0 H _ _ v0 u0 Q I rx ry ⟨_, _, rfl, rfl, hz, ?_⟩
          show Q (V.int (i % j)) H
          rw [← Int.fmod_eq_emod_of_nonneg i (by omega : 0 ≤ j)]
          exact dn.now R (.int _)
        · cases e
      | pow => simp only [augOk] at hz; cases hz
    · cases e
  · cases e
theorem augV_int {bo : BO} {x y z : MV} {h : Hm} (e : augV bo x y h = some z) : ∃ i, z = .int i := by
  unfold augV at e
  split at e
  · split at e
    · cases bo <;> simp only [bop] at e <;> (try split at e) <;> first | (cases e; done) | (cases e; exact ⟨_, rfl⟩)
    · cases e
  · cases e
theorem ss_aug {x : Str} {e : Expr} {m : ME} {i : Nat} {o : Operator} {bo : BO} {pos pos' : Pos} (nd : X.N.Nodup) (ho : boOf o = some bo) (hi : slot X.N x = some i) (hx : L2.Loc X.env.scope x) (hf : X.fn x = true ∨ X.env.scope.names.lookup x = some .local) (he : SE g P d W X e m) : SS g P d W X (.AugAssign (.Name x pos') o e pos) (.aug i bo m) := by
  refine PS.imp (ps_aug nd (slot_get hi) hx he (ip_mi (g := g) ho) hf) fun D σ H ⟨ρ, σm, hm, r, R, e, F⟩ => ?_
  simp only [execS] at e
  split at e
  · rename_i v hv
    obtain ⟨x1, h1, r0⟩ := R.loc _ _ hv
    refine ⟨x1, h1, L.exS R e F fun ρ1 H1 w hm1 y1 p1 R1 r1 fr1 e F => ?_⟩
    split at e
    · rename_i z hz
      cases e
      refine ⟨ρ1, σm, hm1, σ, v, w, z, R1, r0.post p1 R.noT, r1, hz, fun ρ2 H2 u p2 R2 ru _ => ?_⟩
      obtain ⟨k, rfl⟩ := augV_int hz
      exact F ρ2 H2 _ p2 (R2.put ru rfl i)
    · cases e
  · cases e
theorem pget_l : PGet X (rIxL X.K) := by
  intro pins s σ H x y v u Q I rx ry h
  obtain ⟨p, xs, i, z, rfl, rfl, hq, he, q⟩ := h
  cases rx
  obtain ⟨t, rfl⟩ := ry
  obtain ⟨its, r, pl, hz⟩ := I.list hq
  obtain ⟨j, h1, h2, h3, h4, h5⟩ := atI_get he
  obtain ⟨w, ew, rw'⟩ := r.get h2
  have hl := r.length
  have hn := line63
  have fin : EP X pins σ Q w s := ⟨z, H, I, rw', q⟩
  by_cases h0 : 0 ≤ i
  · have hj : i.toNat = j := by
      rw [seqIndex_of h0 h5] at h1
      exact Option.some.inj h1
    exact wpAny_getItem_list pl.isList h0 (by omega) (by rw [hj]; simpa using ew) fin
  · have hj : (i + (its.toArray.size : Int)).toNat = j := by
      rw [seqIndex_neg (by omega) h4] at h1
      rw [List.size_toArray, ← hl]
      exact Option.some.inj h1
    exact wpAny_getItem_list_neg pl.isList (by omega) (by rw [List.size_toArray] <;> omega) (by omega) (by rw [hj]; simpa using ew) fin
theorem ss_augS (ok : XOk G g P d W sc X) {o i e : Expr} {x y m : ME} {op : Operator} {bo : BO} {tpos pos : Pos} (hop : boOf op = some bo) (ho : SE g P d W X o x) (hi : SE g P d W X i y) (he : SE g P d W X e m)
    (ha : ∀ ov iv new, augStore i ov iv new = (do holding [new, ov, iv] (setItem ov iv new); release [new, ov, iv] []; pure .next)) : SS g P d W X (.AugAssign (.Subscript o i tpos) op e pos) (.augS x y bo m) := by
  refine PS.imp (ps_augS ho hi pget_l he (ip_mi (g := g) hop) set_list ha) fun D σ H ⟨ρ, σm, hm, r, R, e, F⟩ => ?_
  simp only [execS] at e
  refine L.exS R e F fun ρ1 H1 v hm1 x1 p1 R1 r1 fr1 e F => L.exS R1 e F fun ρ2 H2 w hm2 y1 p2 R2 r2 fr2 e F => ?_
  split at e
  · rename_i u hu
    have hg : ∃ a ws kk x, x1 = .ref a ∧ y1 = .int kk ∧ SqL X.K H2 a ws ∧ atI ws kk = some x ∧ RV g ρ2 H2 u x := by
      unfold getSub at hu
      split at hu
      · split at hu
        · rename_i xs hx
          obtain ⟨z0, e8, e7⟩ := Option.bind_eq_some_iff.mp hu
          obtain ⟨rfl, nz⟩ := unl_of e7
          cases r2
          cases r1 with
          | ref hn =>
            obtain ⟨ws, hw, rw'⟩ := R2.obj _ _ _ hx (p2.ext _ _ hn)
            have lv := rw'.length
            unfold atI at e8
            cases hj : ixN xs.length _ with
            | none => rw [hj] at e8; cases e8
            | some j =>
              rw [hj] at e8
              obtain ⟨y1, g1, g2⟩ := rw'.get (i := j) (x := z0) e8
              refine ⟨_, ws, _, y1, rfl, rfl, .of hw, ?_, g2⟩
              unfold atI
              rw [← lv, hj]
              exact g1
        · cases hu
      · cases hu
    obtain ⟨a, ws, kk, x0, e1, e2, hs, hat, r0⟩ := hg
    refine ⟨a, ws, kk, x0, e1, e2, hs, hat, L.exS R2 e F fun ρ3 H3 z hm3 z1 p3 R3 r3 fr3 e F => ?_⟩
    split at e
    · rename_i zz hz
      refine ⟨ρ3, σm, hm3, σ, u, z, zz, R3, r0.post p3 R2.noT, r3, hz, fun ρ4 H4 q p4 R4 rq _ => ?_⟩
      split at e
      · rename_i h4 e4
        cases e
        obtain ⟨a, ws, kk, j, e1, e2, hw, hj, ρ5, p5, R5⟩ := R4.setSub (((r1.post p2 R1.noT).post p3 R2.noT).post p4 R3.noT) ((r2.post p3 R2.noT).post p4 R3.noT) rq e4
        exact ⟨a, ws, kk, j, e1, e2, hw, hj, F ρ5 _ σ (p4.trans p5) R5⟩
      · cases e
    · cases e
  · cases e
/-! ### while, for -/
/-- a loop's body -/
theorem ss_while {c : Expr} {body : List Stmt} {x : ME} {b : List MS} {pos : Pos} (hp : PassesOwn (model X.prog X.w) X.A X.env X.xe) (hc : ST g P d W X c x) (hb : SSs g P d W X body b) : SS g P d W X (.While c body [] pos) (.whl x b) := by
  refine PS.imp (ps_while hp hc hb) fun D σ H ⟨ρ, σm, hm, r, R, e, F⟩ => ?_
  simp only [execS] at e
  refine ⟨fun m σ H => ∃ ρ σm hm, Rel g ρ σm hm σ H ∧ iterW (fun σ h => evalC (calls P d) (some x) σ h) (fun σ h => execB (calls P d) b σ h) m σm hm = some r ∧ SFin g W ρ H r D, ⟨_, ρ, σm, hm, R, e, F⟩, ?_⟩
  clear e F R
  rintro m σ H ⟨ρ, σm, hm, R, e, F⟩
  cases m with
  | zero => simp only [iterW] at e; cases e
  | succ m =>
    simp only [iterW] at e
    have e : Mi.exS σm (evalC (calls P d) (some x) σm hm) (fun k h1 => match k with
        | true => match execB (calls P d) b σm h1 with
          | some (.nx σ2 h2) => iterW (fun σ h => evalC (calls P d) (some x) σ h) (fun σ h => execB (calls P d) b σ h) m σ2 h2
          | some (.ct σ2 h2) => iterW (fun σ h => evalC (calls P d) (some x) σ h) (fun σ h => execB (calls P d) b σ h) m σ2 h2
          | some (.bk σ2 h2) => some (.nx σ2 h2)
          | r => r
        | false => some (.nx σm h1)) = some r := by
      rw [← e]
      cases evalC (calls P d) (some x) σm hm with
      | none => rfl
      | some q =>
        cases q with
        | ex _ _ => rfl
        | ok k h1 => cases k <;> rfl
    refine L.exS R e F fun ρ1 H1 k hm1 k1 p1 R1 r1 fr1 e F => ?_
    have r1 : k = k1 := r1
    subst r1
    cases k with
    | false =>
      rw [if_neg Bool.false_ne_true]
      cases e
      exact F ρ1 H1 σ .refl R1
    | true =>
      rw [if_pos rfl]
      refine ⟨fun σ H => ∃ ρ σm hm, Rel g ρ σm hm σ H ∧ iterW (fun σ h => evalC (calls P d) (some x) σ h) (fun σ h => execB (calls P d) b σ h) m σm hm = some r ∧ SFin g W ρ H r D, fun σ' H' w => ⟨m, Nat.lt_succ_self _, w⟩, ?_⟩
      cases hb : execB (calls P d) b σm hm1 with
      | none => simp only [hb] at e; cases e
      | some q =>
        simp only [hb] at e
        refine ⟨ρ1, σm, hm1, q, R1, hb, ?_⟩
        cases q with
        | nx σ2 h2 => exact fun ρ' H' σ' p R' => ⟨ρ', σ2, h2, R', e, F.post p⟩
        | ct σ2 h2 => exact fun ρ' H' σ' p R' => ⟨ρ', σ2, h2, R', e, F.post p⟩
        | bk σ2 h2 =>
          simp only at e
          cases e
          exact F
        | rt v h2 =>
          simp only at e
          cases e
          exact F
        | ex e1 σ2 h2 =>
          simp only at e
          cases e
          exact F
theorem ss_for (hc : X.calm = true) {tg iter : Expr} {body : List Stmt} {t : MT} {i : MI} {b : List MS} {pos : Pos} (hp : PassesOwn (model X.prog X.w) X.A X.env X.xe) (hi : SI g P d W X tg iter i) (hg : SG g P d X tg t (fun _ => True)) (hb : SSs g P d W X body b)
    (hs : ∀ x, foldedSetIterable iter X.env x = pure x) : SS g P d W X (.For tg iter body [] pos) (.forr t i b) := by
  refine PS.imp (ps_for hp hc hi hg hb hs) fun D σ H ⟨ρ, σm, hm, r, R, e, F⟩ => ?_
  simp only [execS] at e
  refine L.exS R e F fun ρ1 H1 s hm1 J p1 R1 itok _ e F => ?_
  let tgf := fun v σ h => evalT (calls P d) t v σ h
  let bf := fun σ h => execB (calls P d) b σ h
  refine ⟨fun i m σ H => ∃ ρ σm hm, Post ρ1 H1 ρ H ∧ Rel g ρ σm hm σ H ∧ iterF s tgf bf m i σm hm = some r ∧ SFin g W ρ H r D, ⟨_, ρ1, σm, hm1, .refl, R1, e, F⟩, ?_⟩
  have itok : ItOk g s J ρ1 H1 := itok
  clear e F R p1
  rintro i m σ H ⟨ρ, σm, hm, p, R, e, F⟩
  cases m with
  | zero => simp only [iterF] at e; cases e
  | succ m =>
    obtain ⟨k1, k2⟩ := itok i ρ hm _ _ H p R
    simp only [iterF] at e
    split at e
    · rename_i hn
      cases e
      exact .inl ⟨k1 hn, F ρ H σ .refl R⟩
    · rename_i v hn
      obtain ⟨go, nv, k3⟩ := k2 v hn
      refine .inr ⟨go, fun σ H => ∃ ρ σm hm, Post ρ1 H1 ρ H ∧ Rel g ρ σm hm σ H ∧ iterF s tgf bf m (i + 1) σm hm = some r ∧ SFin g W ρ H r D, fun σ' H' w => ⟨m, Nat.lt_succ_self _, w⟩, fun x H' yy => ?_⟩
      obtain ⟨p2, R2, rx⟩ := k3 x H' yy
      split at e
      · rename_i σ1 h1 et
        refine ⟨ρ, H', ρ, _, hm, v, σ1, h1, live_of R2, .refl, fun a ⟨⟨xs, e⟩, _⟩ => absurd e (nv xs), R2, rx, et, fun ρ2 σ2 H2 p3 R3 _ _ => ?_⟩
        have p12 := p.trans (p2.trans p3)
        have F := F.post (p2.trans p3)
        cases hb : execB (calls P d) b σ1 h1 with
        | none => simp only [bf, hb] at e; cases e
        | some q =>
          simp only [bf, hb] at e
          refine ⟨ρ2, σ1, h1, q, R3, hb, ?_⟩
          cases q with
          | nx σ2 h2 => exact fun ρ' H' σ' p R' => ⟨ρ', σ2, h2, p12.trans p, R', e, F.post p⟩
          | ct σ2 h2 => exact fun ρ' H' σ' p R' => ⟨ρ', σ2, h2, p12.trans p, R', e, F.post p⟩
          | bk σ2 h2 =>
            simp only at e
            cases e
            exact F
          | rt v h2 =>
            simp only at e
            cases e
            exact F
          | ex e1 σ2 h2 =>
            simp only at e
            cases e
            exact F
      · cases e
    · cases e
end
end Mi

/-! MiG: raising, and defs that tell what a call raises. -/
namespace Mi
open PySem PySem.Spec PyProof.Rows L2
section
variable {G : CG} {g : GE} {P : List FnD} {d : Nat} {W : WX} {sc : Scope} {X : Cx}
theorem ClsOk.raises {prog : Program} {c : CE} {C : Addr} (h : ClsOk prog X.K X.mg c C) : Raises X (.ref C) := raises_own h.exB h.ty
theorem cls_get {x : Str} {i : Nat} (h : clsNum G x = some i) : ∃ c, G.cls[i]? = some c ∧ c.x = x := by
  unfold clsNum at h
  obtain ⟨hi, e, _⟩ := List.findIdx?_eq_some_iff_getElem.mp h
  exact ⟨_, List.getElem?_eq_getElem hi, eq_of_beq e⟩
/-- raise X('..') -/
theorem ss_rse0 (ok : XOk G g P d W sc X) {x m : Str} {j c : Nat} {k : CE} {p p2 pos rpos : Pos} (hx : clsNum G x = some c) (hk : G.cls[c]? = some k) (hf : k.f = none) (hg : isGl sc x = true) (ho : okName x = true) :
    SS g P d W X (.Raise (some (.Call (.Name x p) [.Constant (.str m) j p2] [] pos)) none rpos) (.rse c none) := by
  obtain ⟨k', hk', ex⟩ := cls_get hx
  rw [hk] at hk'
  cases hk'
  obtain ⟨C, hC, cl⟩ := ok.pg.cls c k hk
  have mk := cl.made
  rw [hf] at mk hC
  obtain ⟨B, newId, initId, bmB, F, q⟩ := mk
  have gl := cl.glo
  rw [ex] at gl
  refine PS.imp (ps_raise ok.calm ok.tk (pmk_own F q gl cl.kp cl.raises (ok.gl hg) (okName_d ho))) fun D σ H ⟨ρ, σm, hm, r, R, e, F⟩ => ?_
  simp only [execS] at e
  cases e
  exact F ρ H σ _ _ .refl R ⟨C, _, hC, rfl, rfl⟩
/-- raise X(e), the exception keeps the argument -/
theorem ss_rse1 (ok : XOk G g P d W sc X) {x f : Str} {c : Nat} {k : CE} {a : Expr} {m : ME} {p pos rpos : Pos} (hx : clsNum G x = some c) (hk : G.cls[c]? = some k) (hf : k.f = some f) (hg : isGl sc x = true) (ho : okName x = true) (hs : noStar a = true) (h1 : Room 1 X.A)
    (ha : SE g P d W X a m) : SS g P d W X (.Raise (some (.Call (.Name x p) [a] [] pos)) none rpos) (.rse c (some m)) := by
  obtain ⟨k', hk', ex⟩ := cls_get hx
  rw [hk] at hk'
  cases hk'
  obtain ⟨C, hC, cl⟩ := ok.pg.cls c k hk
  have mk := cl.made
  rw [hf] at mk hC
  obtain ⟨_, B, i, newId, bmB, S, KF, FB, hps, hob⟩ := mk
  have gl := cl.glo
  rw [ex] at gl
  refine PS.imp (ps_raise ok.calm ok.tk (MiE.pmk_sup S KF FB hps hob (ok.go.blt _ (by decide +kernel)) ok.pg.top h1 (ok.gl hg) gl ha (okName_d ho) (star_cons hs) (star_any rfl))) fun D σ H ⟨ρ, σm, hm, r, R, e, F0⟩ => ?_
  simp only [execS] at e
  refine L.exS R e F0 fun ρ1 H1 v hm1 x1 p1 R1 r1 fr1 e _ => ?_
  cases e
  intro dx n
  obtain ⟨b, hb, hT, p2, R2⟩ := R.unb p1 R1 fr1
  have r2 := (RV.less hb r1).frz fun a h e => hT a ⟨h, e⟩
  obtain ⟨p3, R3, o3⟩ := R2.laid (o := .xd [(f, x1)]) n
  exact F0 (ρ1.less b) _ σ _ _ (p2.trans p3) R3 ⟨C, f, hC, rfl, dx, x1, rfl, upd_same, o3.1, r2.post p3 R2.noT⟩

/-! ### what a call raises -/
/-- what the clauses wish: the classes' addresses, the clauses; to: what is wanted of the text -/
def wMet (K : PySem.W.Frag) (to : Str → Hp → Prop) : List (Addr × Str × Option Str) → WX
  | [] => fun _ _ _ _ => False
  | (C, t, of) :: r => fun cls dd σ H => ∃ b, PySem.W.exmOne K cls (.ref C) = some b ∧ (b = true → match of with
    | none => to t H
    | some f => cls = .ref C ∧ ∃ (p : Addr) (v : V) (pd : PyData) (s : Str), dd = some p ∧ H p = some (.xd [(f, v)]) ∧ Dp K H v pd ∧ reprD pd = some s ∧ t.length + s.length ≤ sizeLine ∧ to (t ++ s) H) ∧ (b = false → wMet K to r cls dd σ H)
/-- x(lambda: ..): the lambda's reading tl; behind it the last text -/
def TMet (K : PySem.W.Frag) (l : List (Addr × Str × Option Str)) (nt : Str) : (XK → Hp → VK → Prop) → Hp → VK → Prop := fun tl H Q =>
  tl (fun cls dd H' => wMet K (fun t H'' => Q (.str t) H'') l cls dd [] H') H fun _ H' => Q (.str nt) H'
/-- the clauses' addresses -/
inductive Adr (G : CG) (g : GE) : List (Nat × Hd) → List (Addr × Str × Option Str) → Prop
  | nil : Adr G g [] []
  | plain {j : Nat} {hd : Hd} {C : Addr} {f0 : Str} {r : List (Nat × Hd)} {l : List (Addr × Str × Option Str)} (h : g.ca j = some (C, f0)) (ha : hd.arg = false) (hcs : hd.cs = takenBy G j) (q : Adr G g r l) : Adr G g ((j, hd) :: r) ((C, hd.txt, none) :: l)
  | named {j : Nat} {hd : Hd} {C : Addr} {f : Str} {r : List (Nat × Hd)} {l : List (Addr × Str × Option Str)} (h : g.ca j = some (C, f)) (ha : hd.arg = true) (hcs : hd.cs = [j]) (ht : takenBy G j = [j]) (q : Adr G g r l) : Adr G g ((j, hd) :: r) ((C, hd.txt, some f) :: l)
theorem hds_ok {Z : Cx} {sg : Scope} {n : Str} {g : GE} (pg : PgOk G g Z.prog Z.K Z.mg) (hsc : Z.env.scope = sg) (hN : Z.N.Nodup) (hn : Z.N[1]? = some n) (hnl : isLoc sg n = true) (hno : okName n = true) (hgd : Z.A.guards = some []) (hu : Z.A.units + 64 < cLine) (hms : Z.mg "repr" = none)
    : ∀ {hs : List ExceptHandler} {l : List (Nat × Hd)}, hdsOf G sg n hs = some l → ∃ (al : List (Addr × Str × Option Str)) (cl : List MiF.Cl), Adr G g l al ∧ MiF.ClsOk Z hs cl ∧ ∀ (D : Ends) (cls : Value) (dd : Option Addr) (σ : L2.St) (H : Hp),
      wMet Z.K (fun t H' => D.rt (.str t) H') al cls dd [] H → MiF.wMix Z.K (fun _ _ _ _ => False) D cl cls dd σ H
  | [], l, h => by
    simp only [hdsOf] at h
    cases h
    exact ⟨[], [], .nil, .nil, fun D cls dd σ H w => w.elim⟩
  | hd :: hs, l, h => by
    simp only [hdsOf] at h
    split at h
    · rename_i x xs h1 h2
      cases h
      obtain ⟨al, cl, a1, a2, a3⟩ := hds_ok pg hsc hN hn hnl hno hgd hu hms h2
      have glx : ∀ {y : Str}, isGl sg y = true → Gl Z y := fun {y} q => by
        show Z.env.scope.names.lookup y = _
        rw [hsc]
        exact isGl_of q
      unfold hdOf at h1
      split at h1
      · -- no name
        rename_i cx cp t jj kp rp hp
        split at h1
        · rename_i j hj
          split at h1
          · rename_i hz
            cases h1
            rw [Bool.and_eq_true] at hz
            obtain ⟨c, hc, ex⟩ := cls_get hj
            obtain ⟨C, hC, ck⟩ := pg.cls j c hc
            have gl := ck.glo
            rw [ex] at gl
            refine ⟨(C, t, none) :: al, ⟨.ref C, none, fun a cls d => fun D σ H => D.rt (.str t) H⟩ :: cl, .plain hC rfl rfl a1, .plain ⟨glx hz.1, okName_d hz.2, .inl gl⟩ (fun a oe cls d pn _ _ => pss_one (ps_ret pe_str)) a2, fun D cls dd σ H w => ?_⟩
            obtain ⟨b, h1, h2, h3⟩ := w
            exact ⟨b, h1, fun hb a _ => h2 hb, fun hb => a3 D cls dd σ H (h3 hb)⟩
          · cases h1
        · cases h1
      · -- with a name
        rename_i cx cp m t jj kp r rp m2 mp f ap lp bp retp hp
        split at h1
        · rename_i j hj
          split at h1
          · rename_i c hc
            split at h1
            · rename_i hz
              cases h1
              obtain ⟨hz1, rfl, rfl, rfl, hcf, htk⟩ := hz
              simp only [Bool.and_eq_true] at hz1
              obtain ⟨c', hc', ex⟩ := cls_get hj
              rw [hc] at hc'
              cases hc'
              obtain ⟨C, hC, ck⟩ := pg.cls j c hc
              have mk := ck.made
              rw [hcf] at mk hC
              have hC : g.ca j = some (C, f) := hC
              have gl := ck.glo
              rw [ex] at gl
              have hkind : Z.env.kindOf m2 = some .local := by
                show Z.env.scope.names.lookup m2 = _
                rw [hsc]
                exact isLoc_of hnl
              refine ⟨(C, t, some f) :: al, ⟨.ref C, some 1, fun a cls d => fun D σ H => (∃ σ0 : L2.St, σ = σ0.set 1 (some (.ref a))) ∧ cls = .ref C ∧ ∃ (p : Addr) (v : V) (pd : PyData) (s : Str), d = some p ∧ H p = some (.xd [(f, v)]) ∧ Dp Z.K H v pd ∧ reprD pd = some s ∧ t.length + s.length ≤ sizeLine ∧ D.rt (.str (t ++ s)) H⟩ :: cl,
                .named hC rfl rfl htk a1, .named hN hn hkind ⟨glx hz1.1.1, okName_d hz1.1.2, .inl gl⟩ (fun a oe cls d pn hzc hfl => ?_) a2, fun D cls dd σ H w => ?_⟩
              · have hv : Vis (Z.suite a ((a, oe) :: pn)).env.scope m2 := .inl hkind
                have e1 : PE (Z.suite a ((a, oe) :: pn)) (.Attribute (.Name m2 mp) f ap) (tXf a cls d C f (tVar 1)) := pe_xf ck.xf mk.1 hzc hfl (pe_var hn hv (okName_d hno) (okName_c hno)) rfl
                have e2 := pe_callB (X := Z.suite a ((a, oe) :: pn)) (pos := lp) (p := rp) (cr_reprD (X := Z.suite a ((a, oe) :: pn)) hgd hu) (glx hz1.2) hms (by decide +kernel) (pa_cons e1 pa_nil)
                refine ⟨fun pins s0 σ H D I h => (pss_one (ps_ret (pe_op op_add_str pe_str e2))).run pins s0 σ H D I ?_⟩
                obtain ⟨⟨σ0, rfl⟩, rfl, p, v, pd, s, rfl, hp1, hdp, hr, hz2, hq⟩ := h
                have hln := I.len
                rw [List.length_set] at hln
                have hs1 : (σ0.set 1 (some (.ref a)))[1]? = some (some (V.ref a)) := by
                  have := (List.getElem?_eq_some_iff.mp hn).1
                  rw [List.getElem?_set_self (by rw [hln]; exact this)]
                exact ⟨.ref a, hs1, rfl, rfl, p, [(f, v)], v, rfl, hp1, by rw [List.lookup_cons]; simp, v, pd, s, rfl, hdp, hr, t, s, rfl, rfl, hz2, hq⟩
              · obtain ⟨b, h1, h2, h3⟩ := w
                refine ⟨b, h1, fun hb a _ => ?_, fun hb => a3 D cls dd σ H (h3 hb)⟩
                obtain ⟨e1, rest⟩ := h2 hb
                exact ⟨⟨σ, rfl⟩, e1, rest⟩
            · cases h1
          · cases h1
        · cases h1
      · cases h1
    · cases h
def adrOf (g : GE) (l : List (Nat × Hd)) : List (Addr × Str × Option Str) := l.map fun p => match g.ca p.1 with
  | some (C, f) => (C, p.2.txt, if p.2.arg then some f else none)
  | none => (0, p.2.txt, none)
theorem Adr.eq {l : List (Nat × Hd)} {al : List (Addr × Str × Option Str)} (h : Adr G g l al) : al = adrOf g l := by
  induction h with
  | nil => rfl
  | plain h ha hcs q ih => rw [ih]; unfold adrOf; rw [List.map_cons]; simp only [h, ha]; rfl
  | named h ha hcs ht q ih => rw [ih]; unfold adrOf; rw [List.map_cons]; simp only [h, ha]; rfl
theorem hds_adr {prog : Program} {K : PySem.W.Frag} {mg : Str → Option Value} {sg : Scope} {n : Str} (pg : PgOk G g prog K mg) : ∀ {hs : List ExceptHandler} {l : List (Nat × Hd)}, hdsOf G sg n hs = some l → Adr G g l (adrOf g l)
  | [], l, h => by
    simp only [hdsOf] at h
    cases h
    exact .nil
  | hd :: hs, l, h => by
    simp only [hdsOf] at h
    split at h
    · rename_i x xs h1 h2
      cases h
      have ih := hds_adr pg h2
      have key : ∃ al, Adr G g (x :: xs) al := by
        unfold hdOf at h1
        split at h1
        · split at h1
          · rename_i j hj
            split at h1
            · cases h1
              obtain ⟨c, hc, ex⟩ := cls_get hj
              obtain ⟨C, hC, ck⟩ := pg.cls j c hc
              exact ⟨_, .plain hC rfl rfl ih⟩
            · cases h1
          · cases h1
        · split at h1
          · rename_i j hj
            split at h1
            · rename_i c hc
              split at h1
              · rename_i hz
                cases h1
                obtain ⟨C, hC, ck⟩ := pg.cls j c hc
                exact ⟨_, .named hC rfl rfl hz.2.2.2.2.2 ih⟩
              · cases h1
            · cases h1
          · cases h1
        · cases h1
      obtain ⟨al, h⟩ := key
      rw [← h.eq]
      exact h
    · cases h
theorem met_gives {a n x q nt : Str} {sg : Scope} {gA : Addr} {cdg : Value} {body : List Stmt} {l : List (Nat × Hd)} (pg : PgOk G g X.prog X.K X.mg) (hm : metOf G sg a n body = some (l, nt)) (S : FnScope [a, n] [a] sg) (hgd : X.A.guards = some []) (hr : Room 2 X.A)
    (hms : X.mg "repr" = none) : Adr G g l (adrOf g l) ∧ okName a = true ∧ isLoc sg a = true ∧ LamX.GivesTo X [a, n] x sg gA cdg body a q (TMet X.K (adrOf g l) nt) := by
  unfold metOf at hm
  split at hm
  · rename_i y py cp ep h hs tp t jj kp rp
    split at hm
    · rename_i hz
      obtain ⟨rfl, hz⟩ := hz
      simp only [Bool.and_eq_true, Bool.not_eq_true'] at hz
      obtain ⟨⟨⟨⟨la, ln⟩, oa⟩, on⟩, nab⟩ := hz
      split at hm
      · rename_i l' hl
        cases hm
        refine ⟨hds_adr pg hl, oa, la, ?_⟩
        intro f c' s H Q tl act hc h
        obtain ⟨al, cl, a1, a2, a3⟩ := hds_ok (Z := (cxOf C8.CX0 X.prog X.w X.K X.mg X.base [y, n] x sg gA cdg X.A X.stack s H C8.E0).nox) (n := n) pg rfl S.nd rfl ln on hgd (by have := hr.un; show X.A.units + 3 + 64 < cLine; omega) hms hl
        have ea := a1.eq
        subst ea
        refine ⟨_, pss_cons (MiF.ps_try_mix (X := (cxOf C8.CX0 X.prog X.w X.K X.mg X.base [y, n] x sg gA cdg X.A X.stack s H C8.E0).nox)
          (tb := fun W D σ H => ∃ Ech : XK, (∀ cls d σ' H', Ech cls d H' → W cls d σ' H') ∧ σ[0]? = some (some (.ref f)) ∧ H c' = some (LamX.CodeO c' q) ∧ tl Ech H fun _ H' => D.nx σ H')
          rfl rfl LamX.takes0 (fun W pn xe tk _ => ?_) a2) (pss_one (ps_ret pe_str)), ?_⟩
        · refine ⟨fun pins s' σ H' D I h' => ?_⟩
          obtain ⟨Ech, hW, h1, h2, h3⟩ := h'
          have hp := act W pn xe Ech py cp tk hW
          have hq := pss_one (ps_expr (pos := ep) hp)
          exact hq.run pins s' σ H' D I ⟨h1, h2, h3⟩
        · exact ⟨_, fun cls d σ' H' w => a3 _ cls d σ' H' w, rfl, hc, h⟩
      · cases hm
    · cases hm
  · cases hm
theorem Rel.extN {ρ : Rh} {H H1 : Hp} {σm : Loc} {hm : Hm} {σ : L2.St} (R : Rel g ρ σm hm σ H) (eN : LamX.ExtN H H1) (T1 : LamX.Tabs g.tabs H1) : Post ρ H ρ H1 ∧ Rel g ρ σm hm σ H1 := by
  have P1 : Post ρ H ρ H1 := ⟨fun _ _ h => h, fun _ h => .inl h, fun _ h => .inl h, fun a o h _ nt => eN a o h nt, fun a h o e => by
    by_cases q : ∃ ps, o = .tbl ps
    · exact q
    · exact h o (eN a o e fun ps z => q ⟨ps, z⟩), fun _ h => h⟩
  refine ⟨P1, R.len, R.nd, fun i o a h1 h2 => ?_, R.pur, R.slen, fun i v h => ?_, R.nol, fun a h => ?_, T1⟩
  · have q := R.obj i o a h1 h2
    cases o with
    | lst ys => obtain ⟨vs, e, t⟩ := q; exact ⟨vs, eN _ _ e nofun, t.post P1 R.noT⟩
    | scr ns => obtain ⟨ob, e⟩ := q; exact ⟨ob, eN _ _ e nofun⟩
    | dct _ => exact q
  · obtain ⟨x, e, r⟩ := R.loc i v h
    exact ⟨x, e, r.post P1 R.noT⟩
  · obtain ⟨xs, e⟩ := R.blk a h
    exact ⟨xs, eN _ _ e nofun⟩
theorem taken_in {j i : Nat} {c : CE} (h : G.cls[i]? = some c) : (takenBy G j).contains i = c.sup.contains j := by
  have hi := (List.getElem?_eq_some_iff.mp h).1
  unfold takenBy
  cases q : c.sup.contains j with
  | true =>
    rw [List.contains_iff_mem, List.mem_filter]
    exact ⟨List.mem_range.mpr hi, by rw [h]; exact q⟩
  | false =>
    cases q2 : ((List.range G.cls.length).filter fun i => match G.cls[i]? with
      | some c => c.sup.contains j
      | none => false).contains i with
    | false => rfl
    | true =>
      rw [List.contains_iff_mem, List.mem_filter] at q2
      have := q2.2
      rw [h] at this
      simp only at this
      rw [q] at this
      cases this
theorem met_wish {prog : Program} {K : PySem.W.Frag} {mg : Str → Option Value} (pg : PgOk G g prog K mg) (hK : g.K = K) {ρ : Rh} {H : Hp} {σm : Loc} {hm : Hm} {σ σ' : L2.St} (R : Rel g ρ σm hm σ H) {x : MEx} {c : Value} {dd : Option Addr} (ex : EXR g ρ H x c dd) {z : MV} {to : Str → Hp → Prop}
    (hq : ∀ t, z = .str t → to t H) : ∀ {l : List (Nat × Hd)} {al : List (Addr × Str × Option Str)}, Adr G g l al → metV (l.map (·.2)) x hm = some z → wMet K to al c dd σ' H
  | [], _, .nil, h => by
    simp only [metV, List.map_nil, List.find?_nil] at h
    cases h
  | _, _, .plain (j := j) (hd := hd) (C := C) (r := r) (l := l) h ha hcs q, e => by
    obtain ⟨Cx, fx, h2, rfl, h4⟩ := ex
    obtain ⟨cx, hcx⟩ := pg.low _ _ _ h2
    have em := pg.exm _ _ cx _ _ _ _ hcx h2 h
    have ct := taken_in (j := j) hcx
    rw [← hcs] at ct
    refine ⟨_, em, fun hb => ?_, fun hb => ?_⟩
    · rw [hb] at ct
      simp only [metV, List.map_cons, List.find?_cons, ct, ha] at e
      cases e
      exact hq _ rfl
    · rw [hb] at ct
      refine met_wish pg hK R ⟨Cx, fx, h2, rfl, h4⟩ hq q ?_
      simp only [metV, List.map_cons, List.find?_cons, ct] at e
      exact e
  | _, _, .named (j := j) (hd := hd) (C := C) (f := f) (r := r) (l := l) h ha hcs htk q, e => by
    obtain ⟨Cx, fx, h2, rfl, h4⟩ := ex
    obtain ⟨cx, hcx⟩ := pg.low _ _ _ h2
    have em := pg.exm _ _ cx _ _ _ _ hcx h2 h
    have ct := taken_in (j := j) hcx
    rw [htk, ← hcs] at ct
    refine ⟨_, em, fun hb => ?_, fun hb => ?_⟩
    · rw [hb] at ct
      have hj : x.cls = j := by
        rw [hcs] at ct
        simpa using ct
      simp only [metV, List.map_cons, List.find?_cons, ct, ha] at e
      rw [hj] at h2
      rw [h] at h2
      cases h2
      refine ⟨rfl, ?_⟩
      cases hx : x.arg with
      | none => rw [hx] at e; simp only at e; cases e
      | some v =>
        rw [hx] at e h4
        simp only at e h4
        obtain ⟨p, y, rfl, hp, _, rv⟩ := h4
        cases hs : reprV hm v with
        | none => rw [hs] at e; simp only at e; cases e
        | some s =>
          rw [hs] at e
          simp only [bop] at e
          split at e
          · rename_i hl
            cases e
            unfold reprV at hs
            split at hs
            · rename_i pd hpd
              rw [sizeMax_eq] at hl
              have := R.dp rv hpd
              rw [hK] at this
              exact ⟨p, y, pd, s, rfl, hp, this, hs, hl, hq _ rfl⟩
            · cases hs
          · cases e
    · rw [hb] at ct
      refine met_wish pg hK R ⟨Cx, fx, h2, rfl, h4⟩ hq q ?_
      simp only [metV, List.map_cons, List.find?_cons, ct] at e
      exact e
theorem noPar_eq {params : Arguments} (h : noPar params = true) : params = ⟨[], [], none, [], [], none, []⟩ := by
  unfold noPar at h
  split at h
  · rfl
  · cases h
/-- x(lambda: body), x tells what the body raises -/
theorem s_met (ok : XOk G g P d W sc X) {x : Str} {hs : List Hd} {nt : Str} {params : Arguments} {body : Expr} {scope : Scope} {m : ME} {p lpos pos : Pos} (hm : G.mets.lookup x = some (hs, nt)) (hgd : G.gd = true) (hg : isGl sc x = true) (ho : okName x = true) (hp : noPar params = true)
    (hL : LamX.lamSB sc scope = true) (ih : ∀ (W' : WX) (X' : Cx), XOk G.inner g P d W' scope X' → X'.N = X.N → SE g P d W' X' body m) : SE g P d W X (.Call (.Name x p) [.Lambda params body scope lpos] [] pos) (.met hs nt m) := by
  have hne : G.mets ≠ [] := fun q => by rw [q] at hm; cases hm
  obtain ⟨rm, c, Pt, hcode, TB, hmT, hu⟩ := ok.lam hne
  obtain ⟨st, fa, a, n, l, oc, od, dV, kV, doc, pm, an, cdv, ct, osl, h1, h2, h3, h4, h5, h6, h7, h8⟩ := (ok.pg.met x hs nt hm).ex
  have gd := ok.gd hgd
  obtain ⟨A1, oa, la, GT⟩ := met_gives (q := X.env.qual ++ "<lambda>") (x := x) (gA := fa) (cdg := cdv) ok.pg h7 h6 gd (rm.mono (by omega)) (ok.go.blt _ (by decide +kernel))
  have L : LamX.LamS X.env.scope scope := LamX.lamS_by (by rw [ok.sc]; exact hL)
  have ep := noPar_eq hp
  subst ep
  refine PE.imp (LamX.pe_lamcall (t := fun E => LE g (fun cls dd _ H => E cls dd H) (evalE (calls P d) m)) (k := 3 * d) (ok.gl hg) h1 h2 h3 h4 h5 h6 rfl (.inl (isLoc_of la)) GT TB hcode hmT hu rm L (by rfl) (fun _ _ _ _ _ => by rfl) (fun A outer s H E f c' hr => ?_) (okName_d ho) (okName_d oa) (okName_c oa)) fun σ H Q ⟨ρ, σm, hm, r, R, e, F⟩ => ?_
  · exact ih _ _ ⟨ok.go.inner, ok.nd, rfl, rfl, hr, (fun q => nomatch q), ok.fn, takes_of rfl rfl rfl rfl, ok.pg.inner, fun q => absurd rfl q⟩ rfl
  · refine ⟨R.tab, fun H1 eN T1 => ?_⟩
    obtain ⟨P1, R1⟩ := R.extN eN T1
    simp only [evalE] at e
    cases hr : evalE (calls P d) m σm hm with
    | none => rw [hr] at e; cases e
    | some q =>
      rw [hr] at e
      refine ⟨ρ, σm, hm, q, R1, hr, ?_⟩
      cases q with
      | ok v h' =>
        cases e
        exact fun ρ' H' x p R' rv fr => F ρ' H' _ (P1.trans p) R' (.str nt) fun a ⟨⟨xs, e⟩, _⟩ => nomatch e
      | ex x h' =>
        simp only at e
        cases hz : metV hs x h' with
        | none => rw [hz] at e; cases e
        | some z =>
          rw [hz] at e
          cases e
          intro ρ' H' c dd p R' ex
          rw [← h8] at hz
          refine met_wish ok.pg ok.go.hK R' ex (fun t ht => ?_) A1 hz
          subst ht
          exact F ρ' H' _ (P1.trans p) R' (.str t) fun a ⟨⟨xs, e⟩, _⟩ => nomatch e
end
end Mi

/-! MiP: instances that never change: made, their slots and properties read; a lambda as a value. -/
namespace Mi
open PySem PySem.Spec PyProof.Rows L2
section
variable {G : CG} {g : GE} {P : List FnD} {d : Nat} {W : WX} {sc : Scope} {X : Cx}
/-- nothing that stands is lost -/
theorem Rel.extA {ρ : Rh} {H H1 : Hp} {σm : Loc} {hm : Hm} {σ : L2.St} (R : Rel g ρ σm hm σ H) (e : ∀ b o, H b = some o → H1 b = some o) : Post ρ H ρ H1 ∧ Rel g ρ σm hm σ H1 := R.extN (LamX.ExtN.of e) (R.tab.ext e)
theorem noDef_ok {params : Arguments} (h : noDef params = true) (env : Env) : defaultsOf params env = ([], []) := by
  unfold noDef at h
  split at h
  · rfl
  · cases h
theorem freeB_ok {scope : Scope} (h : freeB sc scope = true) : ∀ y ∈ scope.names, y.2 = .free → sc.names.lookup y.1 = some .cell ∨ sc.names.lookup y.1 = some .free := fun y hy e => by
  unfold freeB at h
  have := List.all_eq_true.mp h y hy
  simp only [Bool.or_eq_true, Bool.not_eq_true', beq_iff_eq] at this
  rcases this with (q | q) | q
  · rw [e] at q
    cases q
  · exact .inl q
  · exact .inr q
theorem s_lam (ok : XOk G g P d W sc X) {params : Arguments} {body : Expr} {scope : Scope} {pos : Pos} (hne : G.mets ≠ []) (hd : noDef params = true) (hf : freeB sc scope = true) : SE g P d W X (.Lambda params body scope pos) .lam := by
  obtain ⟨rm, c, Pt, hcode, TB, hmT, hu⟩ := ok.lam hne
  refine PE.imp (MiO.pe_lamv (T := g.tabs) TB hcode hmT hu (noDef_ok hd _) (by rw [ok.sc]; exact freeB_ok hf)) fun σ H Q ⟨ρ, σm, hm, r, R, e, F⟩ => ?_
  simp only [evalE] at e
  cases e
  refine ⟨R.tab, fun f H1 eN T1 hfn => ?_⟩
  obtain ⟨P1, R1⟩ := R.extN eN T1
  exact F ρ _ _ P1 R1 (.any _) fun a ⟨⟨xs, e⟩, _⟩ => nomatch e
theorem abase_ok {e : Expr} (h : notSup e = true) (f : Str) (env : Env) (w : Sem Value) : attributeBase e f env w = w := by
  unfold notSup at h
  split at h
  · cases h
  · rename_i hn
    unfold attributeBase
    split
    · rename_i id p pos
      exact absurd rfl (hn id p pos)
    · rfl
theorem fldIn_ok : ∀ {os : List OE} {c0 : Nat} {f : Str} {c i : Nat} {p : Bool}, fldIn os c0 f = some (c, i, p) → ∃ k oe, c = c0 + k ∧ os[k]? = some oe ∧ (if p then oe.props.lookup f = some i else oe.slots.lookup f = some i)
  | [], c0, f, c, i, p, h => by cases h
  | o :: r, c0, f, c, i, p, h => by
    simp only [fldIn] at h
    split at h
    · rename_i j hj
      cases h
      exact ⟨0, o, rfl, rfl, hj⟩
    · split at h
      · rename_i j hj
        cases h
        exact ⟨0, o, rfl, rfl, hj⟩
      · obtain ⟨k, oe, h1, h2, h3⟩ := fldIn_ok h
        exact ⟨k + 1, oe, by omega, by simpa using h2, h3⟩
/-- what an instance's slot holds -/
theorem obj_slot {ρ : Rh} {H : Hp} {v z : MV} {x : V} {c i : Nat} {C : Addr} (hc : g.oc c = some C) (r : RV g ρ H v x) (h : fldV i c v = some z) : ∃ a dx vs w, x = .ref a ∧ SlX.Slt H a C dx vs ∧ vs[i]? = some (some w) ∧ RV g ρ H z w ∧ NL z := by
  unfold fldV at h
  split at h
  · rename_i c' xs
    split at h
    · rename_i e
      subst e
      obtain ⟨y, hy, hu⟩ := Option.bind_eq_some_iff.mp h
      obtain ⟨e1, nl⟩ := unl_of hu
      subst e1
      cases r with
      | obj e h1 h2 m1 m2 rs q =>
        rw [hc] at e
        cases e
        obtain ⟨w, hw, rw'⟩ := rs.get hy
        exact ⟨_, _, _, w, rfl, .inr ⟨h1, h2⟩, q _ _ hw, rw', nl⟩
    · cases h
  · cases h
theorem s_fld (ok : XOk G g P d W sc X) {e : Expr} {f : Str} {pos : Pos} {m : ME} {c i : Nat} {oe : OE} (he : SE g P d W X e m) (hn : notSup e = true) (ho : G.objs[c]? = some oe) (hs : oe.slots.lookup f = some i) : SE g P d W X (.Attribute e f pos) (.fld m i c) := by
  obtain ⟨C, O⟩ := ok.pg.obj c oe ho
  obtain ⟨p, sl⟩ := O.slots f i hs
  refine PE.imp (SlX.pe_sl he (abase_ok hn _ _ _)) fun σ H Q ⟨ρ, σm, hm, r, R, e, F⟩ => ?_
  simp only [evalE] at e
  refine L.bnd R e F fun ρ1 H1 v hm1 x1 p1 R1 r1 fr1 e F => ?_
  cases hz : fldV i c v with
  | none => rw [hz] at e; cases e
  | some z =>
    rw [hz] at e
    cases e
    obtain ⟨a, dx, vs, w, rfl, h1, h2, h3, nl⟩ := obj_slot O.oc r1 hz
    exact ⟨a, C, dx, p, vs, i, w, rfl, h1, O.fc.cls, sl, h2, F.okE R1 h3 nl⟩
/-- isinstance(x, T): x an instance with slots, or another value -/
def rI2 (K : PySem.W.Frag) (u : Value) : List V → Hp → VK → Prop := fun xs H Q => rIsi K xs H Q ∨ SlX.rIsiSl K u xs H Q
theorem call_isi2 (u : Value) : CallR X (.builtin "isinstance") (rI2 X.K u) := by
  intro pins s σ H xs us Q I r h
  rcases h with h | h
  · exact call_isi pins s σ H xs us Q I r h
  · exact SlX.call_isiSl u pins s σ H xs us Q I r h
theorem tyName_kit (t : TyN) : tyName t ∈ (["NoneType", "int", "bool", "str", "tuple", "list", "dict"] : List String) := by cases t <;> decide
theorem s_isf (ok : XOk G g P d W sc X) {t : Str} {k : Nat} {oe : OE} {p p2 pos : Pos} {a : Expr} {x : ME} (hg : isGl sc ("isinstance" : Str) = true) (hgt : isGl sc t = true) (hot : okName t = true) (ho : G.objs[k]? = some oe) (hx : oe.x = t) (hst : noStar a = true)
    (ha : SE g P d W X a x) : SE g P d W X (.Call (.Name "isinstance" p) [a, .Name t p2] [] pos) (.isf x k) := by
  obtain ⟨C, O⟩ := ok.pg.obj k oe ho
  subst hx
  have hb : PE X (.Name oe.x p2) (tC (.ref C)) := pe_glob (ok.gl hgt) O.mg (show RelV (.ref C) (Value.ref C) from rfl) (okName_d hot)
  refine PE.imp (pe_callB (call_isi2 (.ref C)) (ok.gl hg) (ok.go.blt _ (by decide +kernel)) boot_isinstance (pa_cons ha (pa_cons hb pa_nil) (star_cons hst)) (by decide) (by decide) (star_cons hst) (star_any rfl)) fun σ H Q ⟨ρ, σm, hm, r, R, e, F⟩ => ?_
  simp only [evalE] at e
  refine L.bnd R e F fun ρ1 H1 v hm1 x1 p1 R1 r1 fr1 e F => ?_
  cases hv : isfV k v hm1 with
  | none => rw [hv] at e; cases e
  | some b =>
    rw [hv] at e
    have e : some (Res.ok (MV.bl b) hm1) = some r := e
    cases e
    have q := F.okE R1 (RV.bl b)
    unfold isfV at hv
    split at hv
    · split at hv
      · rename_i e
        subst e
        cases hv
        cases r1 with
        | obj e h1 h2 m1 m2 rs qq =>
          rw [O.oc] at e
          cases e
          exact .inr ⟨_, C, _, _, .ref C, true, rfl, rfl, fun w h => h, .inr ⟨h1, h2⟩, O.fc.cls, O.isi, O.self, q⟩
      · cases hv
    · cases hv
      cases r1
      exact .inl ⟨_, .ref C, _, .ref C, false, rfl, .own C, .base .non, O.kit _ (by simp), q⟩
    · obtain ⟨ty, hty, rfl⟩ := Option.map_eq_some_iff.mp hv
      exact .inl ⟨_, .ref C, _, .ref C, false, rfl, .own C, R1.tyX ok.go.hK r1 hty, O.kit _ (tyName_kit ty), q⟩
theorem s_prp (ok : XOk G g P d W sc X) {e : Expr} {f : Str} {pos : Pos} {m : ME} {c i : Nat} {oe : OE} (hne : G.mets ≠ []) (he : SE g P d W X e m) (hn : notSup e = true) (ho : G.objs[c]? = some oe) (hs : oe.props.lookup f = some i) : SE g P d W X (.Attribute e f pos) (.fld m i c) := by
  obtain ⟨C, O⟩ := ok.pg.obj c oe ho
  obtain ⟨p, ga, h1, h2, h3, h4, f', name, qual, p', params, body, scope, kV, doc, pm, cdv, ct, oc, an, od, osl, lk, hcd, S, hb, sl, hB⟩ := O.props f i hs
  obtain ⟨rm, _⟩ := ok.lam hne
  have F0 := (MiO.fn_getSl (CX := C8.CX0) (P := X.prog) (w := X.w) (mg := X.mg) (base := X.base) (k := 0) lk hcd S rfl hb O.fc.cls sl).raw hB (dvs := []) .nil
  refine PE.imp (SlX.pe_propSl (E := C8.E0) he O.fc.cls h1 h2 h3 h4 F0 (rm.mono (by omega)) (fun _ _ _ _ z => z) (abase_ok hn _ _ _)) fun σ H Q ⟨ρ, σm, hm, r, R, e, F⟩ => ?_
  simp only [evalE] at e
  refine L.bnd R e F fun ρ1 H1 v hm1 x1 p1 R1 r1 fr1 e F => ?_
  cases hz : fldV i c v with
  | none => rw [hz] at e; cases e
  | some z =>
    rw [hz] at e
    cases e
    obtain ⟨a, dx, vs, w, rfl, h1, h2, h3, nl⟩ := obj_slot O.oc r1 hz
    exact ⟨a, dx, vs, rfl, h1, a, dx, vs, w, rfl, h1, h2, F.okE R1 h3 nl⟩
theorem RVs.c4 {ρ : Rh} {H : Hp} {a b c e : MV} {xs : List V} (r : RVs g ρ H [a, b, c, e] xs) : ∃ w x y z, xs = [w, x, y, z] ∧ RV g ρ H a w ∧ RV g ρ H b x ∧ RV g ρ H c y ∧ RV g ρ H e z := by
  cases r with
  | cons r1 r =>
    cases r with
    | cons r2 r =>
      cases r with
      | cons r3 r =>
        cases r with
        | cons r4 r =>
          cases r
          exact ⟨_, _, _, _, rfl, r1, r2, r3, r4⟩
theorem RV.t2 {ρ : Rh} {H : Hp} {a b : MV} {x : V} (r : RV g ρ H (.tup [a, b]) x) : ∃ c u v, x = .ref c ∧ SqT g.K H c [u, v] ∧ RV g ρ H a u ∧ RV g ρ H b v := by
  cases r with
  | tup h r =>
    cases r with
    | cons r1 r =>
      cases r with
      | cons r2 r =>
        cases r
        exact ⟨_, _, _, rfl, h, r1, r2⟩
theorem objNum_ok {x : Str} {c : Nat} (h : objNum G x = some c) : ∃ oe, G.objs[c]? = some oe ∧ oe.x = x := by
  unfold objNum at h
  obtain ⟨hi, e, _⟩ := List.findIdx?_eq_some_iff_getElem.mp h
  exact ⟨_, List.getElem?_eq_getElem hi, by simpa using e⟩
theorem s_mk (ok : XOk G g P d W sc X) {x : Str} {p pos : Pos} {a b c e : Expr} {ms : List ME} {k : Nat} (hne : G.mets ≠ []) (hk : objNum G x = some k) (hg : isGl sc x = true) (hd : okName x = true) (ha : SA g P d W X [a, b, c, e] ms) (hs : [a, b, c, e].all noStar = true) :
    SE g P d W X (.Call (.Name x p) [a, b, c, e] [] pos) (.mk k ms) := by
  obtain ⟨oe, ho, hx⟩ := objNum_ok hk
  subst hx
  rw [List.all_cons, Bool.and_eq_true] at hs
  have hst : starEach [a, b, c, e] X.env = (false, eval a X.env) :: starEach [b, c, e] X.env := star_cons hs.1
  have hpl : (backTo pos (starEach [b, c, e] X.env)).any (·.1) = false := star_any hs.2
  obtain ⟨C, O⟩ := ok.pg.obj k oe ho
  obtain ⟨fa, fd, M, name, qual, params, body, scope, kV, doc, pm, cdv, ct, oc, an, od, osl, efd, lk, hcd, S, hb, hB⟩ := O.ini
  subst efd
  obtain ⟨rm, _⟩ := ok.lam hne
  have F0 := MiO.fn_fm (CX := C8.CX0) (P := X.prog) (w := X.w) (mg := X.mg) (base := X.base) (k := 0) lk hcd S hb O.fc
  refine PE.imp (pe_make (E := C8.E0) (dvs := []) M F0 (rm.mono (by omega)) (ok.gl hg) O.mg hB .nil C8.pass0 ha (okName_d hd) hst hpl) fun σ H Q ⟨ρ, σm, hm, r, R, e, F⟩ => ?_
  simp only [evalE] at e
  refine L.bnd R e F fun ρ1 H1 vs hm1 xs p1 R1 r1 fr1 e F => ?_
  cases hz : mkV k vs with
  | none => rw [hz] at e; cases e
  | some z =>
    rw [hz] at e
    cases e
    unfold mkV at hz
    split at hz
    · rename_i w l s m q
      split at hz
      · rename_i hp
        cases hz
        obtain ⟨xw, xl, xc, xq, rfl, rw', rl, rc, rq⟩ := r1.1.c4
        obtain ⟨ct, xs, xm, rfl, hT, rS, rM⟩ := rc.t2
        intro y dx hy hdx ne
        obtain ⟨P1, R2, o1⟩ := R1.laid (o := .own y) hdx
        have hy2 : (upd H1 dx (.own y)) y = none := by rw [upd_ne (Ne.symm ne)]; exact hy
        obtain ⟨P2, R3, o2⟩ := R2.laid (o := .ins C dx []) hy2
        refine ⟨y, dx, xw, xl, xq, ct, xs, xm, rfl, upd_same, by rw [upd_ne ne]; exact upd_same, ne, ok.go.hK ▸ Mi.SqT.post (Mi.SqT.post hT P1 R1.noT) P2 R2.noT, fun H' ws keep back ha' hd' hk0 h1 h2 h3 h4 h5 => ⟨rfl, ?_⟩⟩
        have ext : ∀ b o, H1 b = some o → H' b = some o := fun b o hb => by
          have b1 : b ≠ y := ne_of_none hb hy
          have b2 : b ≠ dx := ne_of_none hb hdx
          exact keep b o (by rw [upd_ne b1, upd_ne b2]; exact hb) b1 b2
        obtain ⟨P4, R4⟩ := R1.extA ext
        obtain ⟨kn, hkn⟩ := hk0
        refine F ρ1 H' _ P4 R4 (.obj (ws := [kn, xl, xq, xm, xs, xw]) O.oc ha' hd' (fun z => o2.1 z) (fun z => o1.1 z) (.cons (.any _) (.cons (rl.post P4 R1.noT) (.cons (rq.post P4 R1.noT) (.cons (rM.post P4 R1.noT) (.cons (rS.post P4 R1.noT) (.cons (rw'.post P4 R1.noT) .nil)))))) fun j u hj => ?_) fun a ⟨⟨xs, e⟩, _⟩ => nomatch e
        match j, hj with
        | 0, hj => cases hj; exact hkn
        | 1, hj => cases hj; exact h1
        | 2, hj => cases hj; exact h2
        | 3, hj => cases hj; exact h3
        | 4, hj => cases hj; exact h4
        | 5, hj => cases hj; exact h5
        | n + 6, hj => cases hj
      · cases hz
    · cases hz
end
end Mi

/-! Mi11: what compiles is computed. -/
namespace Mi
open PySem PySem.Spec PyProof.Rows L2
section
variable {G : CG} {g : GE} {P : List FnD} {d : Nat} {N : List Str}

def plainT : Expr → Bool
  | .UnaryOp .Not _ _ => false
  | .BoolOp _ _ _ => false
  | .IfExp _ _ _ _ => false
  | .Compare _ _ _ _ => false
  | _ => true
theorem assign_sub {o i : Expr} {pos : Pos} {env : Env} (h : isSlice i = false) (v : Value) : assign (.Subscript o i pos) env v = (do
      let ov ← holding [v] (eval o env)
      let iv ← holding [v, ov] (eval i env)
      standAt pos
      holding [v, ov, iv] (setItem ov iv v)
      release [v, ov, iv] []) := by
  cases i <;> first | rfl | cases h
theorem aug_sub {i : Expr} (h : isSlice i = false) (ov iv new : Value) : augStore i ov iv new = (do holding [new, ov, iv] (setItem ov iv new); release [new, ov, iv] []; pure .next) := by
  cases i <;> first | rfl | cases h
theorem isTrue_val {e : Expr} {env : Env} (h : plainT e = true) : ∀ whole, isTrue e env whole = (do let v ← whole; standAt e.pos; holding [v] (truthy v)) := by
  intro whole
  cases e with
  | UnaryOp op x p => cases op <;> first | rfl | cases h
  | BoolOp => cases h
  | IfExp => cases h
  | Compare => cases h
  | _ => rfl
theorem attrBase {x : Str} {p : Pos} {m : Str} {env : Env} {w : Sem Value} : attributeBase (.Name x p) m env w = w := rfl
theorem plainIx {b : Expr} (h : isSlice b = false) : PlainIx b := by
  intro o i
  cases b <;> first | rfl | cases h
theorem marks_of {op : CmpOp} {b : Expr} {n : Nat} {sc : Scope} {m : ME} (h : compE G N n sc b = some m) : behindInMarks op b = false := by
  cases b <;> first | rfl | skip
  cases n with
  | zero => simp only [compE] at h; cases h
  | succ n => simp only [compE] at h; cases h
theorem slice_of {b : Expr} {n : Nat} {sc : Scope} {m : ME} (h : compE G N n sc b = some m) : isSlice b = false := by
  cases b <;> first | rfl | skip
  cases n with
  | zero => simp only [compE] at h; cases h
  | succ n => simp only [compE] at h; cases h
theorem star_of {b : Expr} {n : Nat} {sc : Scope} {m : ME} (h : compE G N n sc b = some m) : noStar b = true := by
  cases b <;> first | rfl | skip
  cases n with
  | zero => simp only [compE] at h; cases h
  | succ n => simp only [compE] at h; cases h
theorem set_of {it : Expr} {n : Nat} {sc : Scope} {tup : Bool} {m : MI} {env : Env} (h : compI G N n sc tup it = some m) : ∀ x, foldedSetIterable it env x = pure x := by
  intro x
  cases it <;> first | rfl | skip
  cases n with
  | zero => simp only [compI] at h; cases h
  | succ n => simp only [compI] at h; cases h
theorem tstar_of {b : Expr} {n : Nat} {sc : Scope} {top : Option Scope} {m : MT} (h : compT G N n top sc b = some m) : noStar b = true := by
  cases b <;> first | rfl | skip
  cases n with
  | zero => simp only [compT] at h; cases h
  | succ n => simp only [compT] at h; cases h
theorem assignEach_cons {a : Expr} {r : List Expr} {env : Env} (h : noStar a = true) : assignEach (a :: r) env = (false, assign a env) :: assignEach r env := by
  cases a <;> first | rfl | exact absurd h Bool.false_ne_true
theorem compTs_star : ∀ {es : List Expr} {n : Nat} {sc : Scope} {top : Option Scope} {ms : List MT} {env : Env}, compTs G N n top sc es = some ms → (assignEach es env).length = ms.length ∧ (assignEach es env).findIdx? (·.1) = none
  | [], n, sc, top, ms, env, h => by
    cases n with
    | zero => simp only [compTs] at h; cases h
    | succ n => simp only [compTs] at h; cases h; exact ⟨rfl, rfl⟩
  | e :: r, n, sc, top, ms, env, h => by
    cases n with
    | zero => simp only [compTs] at h; cases h
    | succ n =>
      simp only [compTs] at h
      split at h
      · rename_i x xs h1 h2
        cases h
        obtain ⟨k1, k2⟩ := compTs_star (env := env) h2
        rw [assignEach_cons (tstar_of h1)]
        refine ⟨by simp [k1], ?_⟩
        simp only [List.findIdx?_cons, k2]
        rfl
      · cases h
/-- at which names a target may stand -/
abbrev Tops (top : Option Scope) (X : Cx) : Prop := ∀ x, topB top x = true → X.env.scope.names.lookup x = some .cell → X.fn x = true

structure Sound (G : CG) (g : GE) (P : List FnD) (d : Nat) (n : Nat) : Prop where
  e : ∀ {W : WX} {X : Cx} {sc : Scope} {e : Expr} {m : ME}, XOk G g P d W sc X → compE G X.N n sc e = some m → SE g P d W X e m ∧ ST g P d W X e m
  b : ∀ {W : WX} {X : Cx} {sc : Scope} {op : BoolOp} {vs : List Expr} {pos : Pos} {m : ME}, XOk G g P d W sc X → compB G X.N n sc op vs = some m → SE g P d W X (.BoolOp op vs pos) m ∧ SW g P d W X (.BoolOp op vs pos) m
  es : ∀ {W : WX} {X : Cx} {sc : Scope} {es : List Expr} {ms : List ME}, XOk G g P d W sc X → compEs G X.N n sc es = some ms → SA g P d W X es ms
  o : ∀ {W : WX} {X : Cx} {sc : Scope} {o : Option Expr} {m : Option ME}, XOk G g P d W sc X → compO G X.N n sc o = some m → SO g P d W X o m
  c : ∀ {W : WX} {X : Cx} {sc : Scope} {ifs : List Expr} {m : Option ME}, XOk G g P d W sc X → compC G X.N n sc ifs = some m → PTs X ifs (LT g W (evalC (calls P d) m))
  t : ∀ {W : WX} {X : Cx} {sc : Scope} {top : Option Scope} {e : Expr} {m : MT} {S : Nat → Prop}, XOk G g P d W sc X → Tops top X → compT G X.N n top sc e = some m → (∃ own k, tgIn own k m = true ∧ ∀ i ∈ own, S i) ∨ (∀ i, S i) → SG g P d X e m S
  ts : ∀ {W : WX} {X : Cx} {sc : Scope} {top : Option Scope} {es : List Expr} {ms : List MT} {S : Nat → Prop}, XOk G g P d W sc X → Tops top X → compTs G X.N n top sc es = some ms → (∃ own k, ms.all (tgIn own k) = true ∧ ∀ i ∈ own, S i) ∨ (∀ i, S i) → SGs g P d X es ms S
  i : ∀ {W : WX} {X : Cx} {sc : Scope} {tg it : Expr} {m : MI}, XOk G g P d W sc X → compI G X.N n sc (isTupleE tg) it = some m → SI g P d W X tg it m
theorem XOk.loc {W : WX} {X : Cx} {sc : Scope} (ok : XOk G g P d W sc X) {x : Str} {k : NameKind} (h : sc.names.lookup x = some k) : X.env.scope.names.lookup x = some k := by rw [ok.sc]; exact h
theorem both {W : WX} {X : Cx} {sc : Scope} (ok : XOk G g P d W sc X) {e : Expr} {m : ME} (h : SE g P d W X e m) (p : plainT e = true) : SE g P d W X e m ∧ ST g P d W X e m := ⟨h, st_truth ok h (isTrue_val p)⟩
theorem sound_b {n : Nat} (ih : Sound G g P d n) {W : WX} {X : Cx} {sc : Scope} {op : BoolOp} {vs : List Expr} {pos : Pos} {m : ME} (ok : XOk G g P d W sc X) (h : compB G X.N (n + 1) sc op vs = some m) : SE g P d W X (.BoolOp op vs pos) m ∧ SW g P d W X (.BoolOp op vs pos) m := by
  simp only [compB] at h
  split at h
  · cases h
  · obtain ⟨h1, h2⟩ := ih.e ok h
    refine ⟨pe_one h1, ?_⟩
    cases op with
    | And => exact pw_and1 h2
    | Or => exact pw_or1 h2
  · rename_i e r hne
    split at h
    · rename_i x y hx hy
      obtain ⟨h1, h2⟩ := ih.e ok hx
      obtain ⟨h3, h4⟩ := ih.b (pos := pos) ok hy
      cases r with
      | nil => exact absurd rfl hne
      | cons b r =>
        cases op with
        | And =>
          cases h
          exact ⟨s_and ok h1 h3, sw_and h2 h4⟩
        | Or =>
          cases h
          exact ⟨s_or ok h1 h3, sw_or h2 h4⟩
    · cases h
theorem sound_es {n : Nat} (ih : Sound G g P d n) {W : WX} {X : Cx} {sc : Scope} {es : List Expr} {ms : List ME} (ok : XOk G g P d W sc X) (h : compEs G X.N (n + 1) sc es = some ms) : SA g P d W X es ms := by
  simp only [compEs] at h
  split at h
  · cases h; exact sa_nil
  · split at h
    · rename_i hs
      split at h
      · rename_i x xs h1 h2
        cases h
        exact sa_cons hs (ih.e ok h1).1 (ih.es ok h2)
      · cases h
    · cases h
theorem sound_o {n : Nat} (ih : Sound G g P d n) {W : WX} {X : Cx} {sc : Scope} {o : Option Expr} {m : Option ME} (ok : XOk G g P d W sc X) (h : compO G X.N (n + 1) sc o = some m) : SO g P d W X o m := by
  simp only [compO] at h
  split at h
  · cases h; exact so_none
  · obtain ⟨x, hx, rfl⟩ := Option.map_eq_some_iff.mp h
    exact so_some (ih.e ok hx).1
theorem PTs.imp {X : Cx} {ifs : List Expr} {t t' : TT} (h : PTs X ifs t) (i : ∀ σ H Q, t' σ H Q → t σ H Q) : PTs X ifs t' := ⟨fun pins s σ H Q I q => h.run pins s σ H Q I (i σ H Q q)⟩
theorem sound_c {n : Nat} (ih : Sound G g P d n) {W : WX} {X : Cx} {sc : Scope} {ifs : List Expr} {m : Option ME} (ok : XOk G g P d W sc X) (h : compC G X.N (n + 1) sc ifs = some m) : PTs X ifs (LT g W (evalC (calls P d) m)) := by
  simp only [compC] at h
  split at h
  · cases h
    refine PTs.imp pts_nil fun σ H Q ⟨ρ, σm, hm, r, R, e, F⟩ => ?_
    simp only [evalC] at e
    cases e
    exact F.okB R
  · obtain ⟨x, hx, rfl⟩ := Option.map_eq_some_iff.mp h
    exact pts_one (ih.e ok hx).2
  · cases h
theorem sound_t {n : Nat} (ih : Sound G g P d n) {W : WX} {X : Cx} {sc : Scope} {top : Option Scope} {e : Expr} {m : MT} {S : Nat → Prop} (ok : XOk G g P d W sc X) (tp : Tops top X) (h : compT G X.N (n + 1) top sc e = some m) (hS : (∃ own k, tgIn own k m = true ∧ ∀ i ∈ own, S i) ∨ (∀ i, S i)) : SG g P d X e m S := by
  simp only [compT] at h
  split at h
  · split at h
    · rename_i x p hz
      obtain ⟨i, hi, rfl⟩ := Option.map_eq_some_iff.mp h
      rw [Bool.and_eq_true, Bool.or_eq_true, Bool.and_eq_true] at hz
      have hSi : S i := by
        rcases hS with ⟨own, k, h1, h2⟩ | h1
        · cases k with
          | zero => simp only [tgIn] at h1; cases h1
          | succ k =>
            simp only [tgIn] at h1
            exact h2 i (by simpa using h1)
        · exact h1 i
      rcases hz.1 with q | ⟨q1, q2⟩
      · have := ok.loc (isLoc_of q)
        exact sg_name ok.nd hi (.inl this) (.inr this) hSi
      · have := ok.loc (isCell_of q2)
        exact sg_name ok.nd hi (.inr this) (.inl (tp _ q1 this)) hSi
    · cases h
  · obtain ⟨ts, hts, rfl⟩ := Option.map_eq_some_iff.mp h
    have := compTs_star (env := X.env) hts
    refine sg_tup ok.go.hK ok.calm (ih.ts ok tp hts ?_) this.1 this.2
    rcases hS with ⟨own, k, h1, h2⟩ | h1
    · cases k with
      | zero => simp only [tgIn] at h1; cases h1
      | succ k =>
        simp only [tgIn] at h1
        exact .inl ⟨own, k, h1, h2⟩
    · exact .inr h1
  · split at h
    · cases h
    · rename_i hns
      split at h
      · rename_i x y hx hy
        cases h
        exact sg_sub (ih.e ok hx).1 (ih.e ok hy).1 (assign_sub (slice_of hy))
      · cases h
  · cases h
theorem sound_ts {n : Nat} (ih : Sound G g P d n) {W : WX} {X : Cx} {sc : Scope} {top : Option Scope} {es : List Expr} {ms : List MT} {S : Nat → Prop} (ok : XOk G g P d W sc X) (tp : Tops top X) (h : compTs G X.N (n + 1) top sc es = some ms) (hS : (∃ own k, ms.all (tgIn own k) = true ∧ ∀ i ∈ own, S i) ∨ (∀ i, S i)) : SGs g P d X es ms S := by
  simp only [compTs] at h
  split at h
  · cases h; exact sgs_nil
  · split at h
    · rename_i x xs h1 h2
      cases h
      refine sgs_cons (ih.t ok tp h1 ?_) (ih.ts ok tp h2 ?_) (by rw [assignEach_cons (tstar_of h1)] <;> rfl)
      · rcases hS with ⟨own, k, h1, h2⟩ | h1
        · rw [List.all_cons, Bool.and_eq_true] at h1
          exact .inl ⟨own, k, h1.1, h2⟩
        · exact .inr h1
      · rcases hS with ⟨own, k, h1, h2⟩ | h1
        · rw [List.all_cons, Bool.and_eq_true] at h1
          exact .inl ⟨own, k, h1.2, h2⟩
        · exact .inr h1
    · cases h
theorem isBlt_of {sc : Scope} {x : Str} (h : isBlt G sc x = true) : isGl sc x = true ∧ okName x = true := by
  unfold isBlt at h
  simp only [Bool.and_eq_true] at h
  exact ⟨h.1.1.1, h.2⟩
theorem sound_i {n : Nat} (ih : Sound G g P d n) {W : WX} {X : Cx} {sc : Scope} {tg it : Expr} {m : MI} (ok : XOk G g P d W sc X) (h : compI G X.N (n + 1) sc (isTupleE tg) it = some m) : SI g P d W X tg it m := by
  have gen : ∀ {e : Expr}, (compE G X.N n sc e).map MI.ex = some m → SI g P d W X tg e m := fun {e} h => by
    obtain ⟨x, hx, rfl⟩ := Option.map_eq_some_iff.mp h
    exact si_ex ok (ih.e ok hx).1
  simp only [compI] at h
  split at h
  · split at h
    · rename_i hb
      rw [Bool.and_eq_true] at hb
      obtain ⟨hg, ho⟩ := isBlt_of hb.1
      split at h
      · split at h
        · rename_i hf
          subst hf
          obtain ⟨x, hx, rfl⟩ := Option.map_eq_some_iff.mp h
          exact si_r1 ok hg (star_of hx) (ih.e ok hx).1
        · split at h
          · rename_i hf
            subst hf
            split at h
            · rename_i ht
              obtain ⟨x, hx, rfl⟩ := Option.map_eq_some_iff.mp h
              cases tg <;> first | (cases ht; done) | skip
              exact si_enu ok hg (star_of hx) (ih.e ok hx).1
            · cases h
          · exact gen h
      · split at h
        · rename_i hf
          subst hf
          split at h
          · rename_i x y hx hy
            cases h
            exact si_r2 ok hg (star_of hx) (star_of hy) (ih.e ok hx).1 (ih.e ok hy).1
          · cases h
        · split at h
          · rename_i hf
            subst hf
            split at h
            · rename_i ht
              split at h
              · rename_i x y hx hy
                cases h
                cases tg <;> first | (cases ht; done) | skip
                exact si_zip ok hg (star_of hx) (star_of hy) (ih.e ok hx).1 (ih.e ok hy).1
              · cases h
            · cases h
          · exact gen h
      · split at h
        · rename_i hf
          subst hf
          split at h
          · rename_i x y z hx hy hz
            cases h
            exact si_r3 ok hg (star_of hx) (star_of hy) (star_of hz) (ih.e ok hx).1 (ih.e ok hy).1 (ih.e ok hz).1
          · cases h
        · cases h
      · cases h
    · exact gen h
  · cases h
  · exact gen h
theorem sound_e {n : Nat} (ihA : ∀ G' : CG, Sound G' g P d n) {W : WX} {X : Cx} {sc : Scope} {e : Expr} {m : ME} (ok : XOk G g P d W sc X) (h : compE G X.N (n + 1) sc e = some m) : SE g P d W X e m ∧ ST g P d W X e m := by
  have nl : ∀ {v : MV}, (∀ xs, v ≠ .lst xs) → NL v := fun h => h
  have ih := ihA G
  simp only [compE] at h
  split at h
  · -- Name
    refine both ok ?_ rfl
    split at h
    · rename_i hz
      rw [Bool.and_eq_true] at hz
      obtain ⟨i, hi, rfl⟩ := Option.map_eq_some_iff.mp h
      exact s_var ok hz.1 hz.2 hi
    · split at h
      · rename_i hz
        rw [Bool.and_eq_true] at hz
        split at h
        · rename_i v hv
          cases h
          exact s_glob ok hz.1 hz.2 hv
        · split at h
          · rename_i i hi
            split at h
            · cases h
            · rename_i hq
              cases h
              exact s_fn ok hz.1 hz.2 hi (by simpa using hq)
          · cases h
      · cases h
  · cases h
    exact both ok s_edc rfl
  · cases h; exact both ok (s_cst pe_int (nl fun _ h => nomatch h) fun _ _ => .int _) rfl
  · cases h; exact both ok (s_cst pe_bl (nl fun _ h => nomatch h) fun _ _ => .bl _) rfl
  · cases h; exact both ok (s_cst pe_non (nl fun _ h => nomatch h) fun _ _ => .non) rfl
  · cases h; exact both ok (s_cst pe_str (nl fun _ h => nomatch h) fun _ _ => .str _) rfl
  · -- BinOp
    split at h
    · rename_i o x y h1 h2 h3
      cases h
      exact both ok (s_bin ok h1 (ih.e ok h2).1 (ih.e ok h3).1) rfl
    · cases h
  · obtain ⟨x, hx, rfl⟩ := Option.map_eq_some_iff.mp h
    exact both ok (s_neg (ih.e ok hx).1) rfl
  · obtain ⟨x, hx, rfl⟩ := Option.map_eq_some_iff.mp h
    exact ⟨s_not ok (ih.e ok hx).1, st_not (ih.e ok hx).2⟩
  · obtain ⟨h1, h2⟩ := ih.b ok h
    exact ⟨h1, h2.pt⟩
  · split at h
    · rename_i x y z h1 h2 h3
      cases h
      exact ⟨s_ite (ih.e ok h1).2 (ih.e ok h2).1 (ih.e ok h3).1, st_ite (ih.e ok h1).2 (ih.e ok h2).2 (ih.e ok h3).2⟩
    · cases h
  · split at h
    · rename_i o x y h1 h2 h3
      cases h
      exact ⟨s_cmp ok h1 (marks_of h3) (ih.e ok h2).1 (ih.e ok h3).1, st_cmp ok h1 (marks_of h3) (ih.e ok h2).1 (ih.e ok h3).1⟩
    · cases h
  · split at h
    · rename_i p q x y z h1 h2 h3 h4 h5
      cases h
      exact ⟨s_chn ok h1 h2 (marks_of h5) (ih.e ok h3).1 (ih.e ok h4).1 (ih.e ok h5).1, st_chn ok h1 h2 (marks_of h5) (ih.e ok h3).1 (ih.e ok h4).1 (ih.e ok h5).1⟩
    · cases h
  · split at h
    · rename_i p q r x y z u h1 h2 h3 h4 h5 h6 h7
      cases h
      exact ⟨s_chn3 ok h1 h2 h3 (marks_of h7) (ih.e ok h4).1 (ih.e ok h5).1 (ih.e ok h6).1 (ih.e ok h7).1, st_chn3 ok h1 h2 h3 (marks_of h7) (ih.e ok h4).1 (ih.e ok h5).1 (ih.e ok h6).1 (ih.e ok h7).1⟩
    · cases h
  · split at h
    · rename_i hz
      obtain ⟨x, hx, rfl⟩ := Option.map_eq_some_iff.mp h
      exact both ok (s_tup (ih.es ok hx) (by rw [SA.len hx]; exact hz)) rfl
    · cases h
  · split at h
    · rename_i hz
      obtain ⟨x, hx, rfl⟩ := Option.map_eq_some_iff.mp h
      exact both ok (s_lst (ih.es ok hx) (by rw [SA.len hx]; exact hz)) rfl
    · cases h
  · -- slices
    split at h
    · split at h
      · rename_i x l u h1 h2 h3
        cases h
        exact both ok (s_sl ok (ih.e ok h1).1 (ih.o ok h2) (ih.o ok h3)) rfl
      · cases h
    · split at h
      · rename_i hz
        obtain ⟨x, hx, rfl⟩ := Option.map_eq_some_iff.mp h
        obtain ⟨rfl, h1, h2⟩ := hz
        rw [Option.isNone_iff_eq_none] at h1 h2
        subst h1
        subst h2
        exact both ok (s_rev ok (ih.e ok hx).1) rfl
      · cases h
    · split at h
      · rename_i hz
        obtain ⟨h1, h2⟩ := hz
        rw [Option.isNone_iff_eq_none] at h1 h2
        subst h1
        subst h2
        split at h
        · rename_i x y h1 h2
          cases h
          exact both ok (s_slst ok (ih.e ok h1).1 (ih.e ok h2).1) rfl
        · cases h
      · cases h
    · cases h
  · split at h
    · rename_i x y h1 h2
      cases h
      exact both ok (s_ix ok (plainIx (slice_of h2)) (ih.e ok h1).1 (ih.e ok h2).1) rfl
    · cases h
  · -- what a call raises
    split at h
    · rename_i hs nt hm
      split at h
      · rename_i hz
        simp only [Bool.and_eq_true] at hz
        obtain ⟨x, hx, rfl⟩ := Option.map_eq_some_iff.mp h
        exact both ok (s_met ok hm hz.1.1.1.1 hz.1.1.1.2 hz.1.1.2 hz.1.2 hz.2 fun W' X' ok' hN => ((ihA G.inner).e ok' (by rw [hN]; exact hx)).1) rfl
      · cases h
    · cases h
  · -- a lambda as a value
    split at h
    · rename_i hz
      cases h
      simp only [Bool.and_eq_true, Bool.not_eq_true'] at hz
      exact both ok (s_lam ok (fun q => by rw [q] at hz; exact absurd hz.2 (by decide)) hz.1.1 hz.1.2) rfl
    · cases h
  · -- slots and properties
    split at h
    · rename_i c i p hf
      split at h
      · rename_i hz
        simp only [Bool.and_eq_true, Bool.or_eq_true, Bool.not_eq_true'] at hz
        obtain ⟨x, hx, rfl⟩ := Option.map_eq_some_iff.mp h
        obtain ⟨k, oe, hk, ho, hs⟩ := fldIn_ok hf
        rw [Nat.zero_add] at hk
        subst hk
        cases p with
        | false => exact both ok (s_fld ok (ih.e ok hx).1 hz.1 ho hs) rfl
        | true => exact both ok (s_prp ok (fun q => by rw [q] at hz; exact absurd hz.2 (by decide)) (ih.e ok hx).1 hz.1 ho hs) rfl
      · cases h
    · cases h
  · -- a new instance
    split at h
    · rename_i k hk
      split at h
      · rename_i hz
        simp only [Bool.and_eq_true, Bool.not_eq_true'] at hz
        obtain ⟨xs, hx, rfl⟩ := Option.map_eq_some_iff.mp h
        exact both ok (s_mk ok (fun q => by rw [q] at hz; exact absurd hz.2 (by decide)) hk hz.1.1 hz.1.2 (ih.es ok hx) (compEs_star hx)) rfl
      · cases h
    · cases h
  · -- calls
    rename_i f p args pos _ _
    refine both ok ?_ rfl
    split at h
    · rename_i hb
      obtain ⟨hg, ho⟩ := isBlt_of hb
      split at h
      · split at h
        · rename_i hz
          rw [Bool.and_eq_true, Bool.and_eq_true] at hz
          obtain ⟨⟨hf, hb2⟩, _⟩ := hz
          have hf := of_decide_eq_true hf
          subst hf
          obtain ⟨hg2, ho2⟩ := isBlt_of hb2
          split at h
          · rename_i x ty h1 h2
            cases h
            exact s_isi ok hg hg2 ho2 h2 (star_of h1) (ih.e ok h1).1
          · cases h
        · split at h
          · rename_i hf
            subst hf
            split at h
            · rename_i k hk
              split at h
              · rename_i hz
                rw [Bool.and_eq_true] at hz
                obtain ⟨x, hx, rfl⟩ := Option.map_eq_some_iff.mp h
                obtain ⟨oe, ho, he⟩ := objNum_ok hk
                exact s_isf ok hg hz.1 hz.2 ho he (star_of hx) (ih.e ok hx).1
              · cases h
            · cases h
          split at h
          · rename_i b xs h1 h2
            cases h
            exact s_bi ok h1 hg ho (compEs_star h2) (ih.es ok h2)
          · cases h
      · -- list(range(..))
        split at h
        · rename_i hz
          simp only [Bool.and_eq_true, decide_eq_true_eq] at hz
          obtain ⟨⟨hf, hr⟩, hb2⟩ := hz
          subst hf hr
          obtain ⟨hg2, _⟩ := isBlt_of hb2
          split at h
          · obtain ⟨y, hy, rfl⟩ := Option.map_eq_some_iff.mp h
            exact s_lrg1 ok hg hg2 (star_of hy) (ih.e ok hy).1
          · split at h
            · rename_i x y hx hy
              cases h
              exact s_lrg2 ok hg hg2 (star_of hx) (star_of hy) (ih.e ok hx).1 (ih.e ok hy).1
            · cases h
          · cases h
        · split at h
          · rename_i b xs h1 h2
            cases h
            exact s_bi ok h1 hg ho (compEs_star h2) (ih.es ok h2)
          · cases h
      · cases h1 : biOfG G f args.length with
        | none => rw [h1] at h; cases h
        | some b =>
          cases h2 : compEs G X.N n sc args with
          | none => rw [h1, h2] at h; cases h
          | some xs =>
            rw [h1, h2] at h
            cases h
            cases args with
            | nil =>
              have e0 : biOfG G f 0 = none := by
                unfold biOfG biOf
                simp
              rw [show ([] : List Expr).length = 0 from rfl, e0] at h1
              cases h1
            | cons a r => exact s_bi ok h1 hg ho (compEs_star h2) (ih.es ok h2)
    · split at h
      · rename_i hz
        simp only [Bool.and_eq_true] at hz
        obtain ⟨⟨hg, ho⟩, hne⟩ := hz
        split at h
        · rename_i i xs h1 h2
          split at h
          · cases h
          · rename_i hq
            cases h
            cases args with
            | nil => cases hne
            | cons a r => exact s_call ok hg ho h1 (by simpa using hq) (compEs_star h2) (ih.es ok h2)
        · cases h
      · split at h
        · rename_i hz
          simp only [Bool.and_eq_true] at hz
          obtain ⟨⟨hv, ho⟩, hne⟩ := hz
          split at h
          · rename_i i xs h1 h2
            cases h
            cases args with
            | nil => cases hne
            | cons a r => exact s_callv ok hv ho h1 (compEs_star h2) (ih.es ok h2)
          · cases h
        · cases h
  · -- methods
    rename_i o mn ap args pos
    refine both ok ?_ rfl
    split at h
    · rename_i x xs h1 h2
      split at h
      · cases h
      · rename_i hz
        simp only [Bool.not_eq_true', Bool.not_eq_false, Bool.and_eq_true] at hz
        obtain ⟨hn, hl⟩ := hz
        have ho := (ih.e ok h1).1
        have ha := ih.es ok h2
        have hst := compEs_star h2
        have hlen := SA.len h2
        cases o <;> first | (cases hn; done) | skip
        split at h
        · rename_i hm
          cases h
          obtain ⟨rfl, hm2⟩ := hm
          match args, hm2 with
          | [a], _ => exact s_append attrBase hl (by simpa using hst) ho ha hlen
        · split at h
          · rename_i hm
            cases h
            obtain ⟨rfl, hm2⟩ := hm
            match args, hm2 with
            | [], _ =>
              have : xs = [] := List.length_eq_zero_iff.mp hlen
              subst this
              exact s_pop0 attrBase hl ho
          · split at h
            · rename_i hm
              cases h
              obtain ⟨rfl, hm2⟩ := hm
              match args, hm2 with
              | [a], _ => exact s_pop1 attrBase hl (by simpa using hst) ho ha
            · cases h
    · cases h
  · -- comprehensions
    rename_i elt tg iter ifs scope pos
    refine both ok ?_ rfl
    split at h
    · rename_i hb
      split at h
      · rename_i t i c x h1 h2 h3 h4
        split at h
        · rename_i ht
          cases h
          have ih' := ihA G.noMet
          refine s_lc ok (ih.i ok h2) hb (fun X' ok' hN hfn => ?_) (fun X' ok' hN => ?_) (fun X' ok' hN => ?_) (set_of h2)
          · exact ih'.t (top := some scope) ok' (fun x h _ => hfn x (by simpa [topB] using h)) (by rw [hN]; exact h1) (.inl ⟨_, _, ht, fun i hi => hi⟩)
          · exact ih'.c ok' (by rw [hN]; exact h3)
          · exact (ih'.e ok' (by rw [hN]; exact h4)).1
        · cases h
      · cases h
    · cases h
  · cases h
theorem sound : ∀ (n : Nat) (G : CG), Sound G g P d n
  | 0, G => by
    constructor
    all_goals intros
    all_goals first
      | (rename_i h; simp only [compE] at h; cases h; done) | (rename_i h; simp only [compB] at h; cases h; done) | (rename_i h; simp only [compEs] at h; cases h; done) | (rename_i h; simp only [compO] at h; cases h; done)
      | (rename_i h; simp only [compC] at h; cases h; done) | (rename_i h; simp only [compI] at h; cases h; done) | (rename_i h _; simp only [compT] at h; cases h; done) | (rename_i h _; simp only [compTs] at h; cases h; done)
  | n + 1, G => ⟨fun ok h => sound_e (sound n) ok h, fun ok h => sound_b (sound n G) ok h, fun ok h => sound_es (sound n G) ok h, fun ok h => sound_o (sound n G) ok h, fun ok h => sound_c (sound n G) ok h,
    fun ok tp h => sound_t (sound n G) ok tp h, fun ok tp h => sound_ts (sound n G) ok tp h, fun ok h => sound_i (sound n G) ok h⟩
end
end Mi

/-! Mi12: statements sound. -/
namespace Mi
open PySem PySem.Spec PyProof.Rows L2
section
variable {G : CG} {g : GE} {P : List FnD} {d : Nat} {N : List Str}
theorem bkind {env : Env} (hk : env.scope.kind = .function) : env.blockKind = .function := by unfold Env.blockKind; rw [hk]; rfl
theorem sw_noLc {e : Expr} {t : Option Expr} {l : Nat} {env : Env} (h : noLc e = true) : swapsWith e t l env = pure false := by
  cases e <;> first | rfl | cases h
theorem sw_lc {elt : Expr} {gs : List Comprehension} {s : Scope} {p pos : Pos} {t : Str} {l : Nat} {env : Env} (hk : env.scope.kind = .function) :
    swapsWith (.ListComp elt gs s p) (some (.Name t pos)) l env = pure (swB env.scope (.ListComp elt gs s p) (.Name t pos)) := by
  have hb := bkind hk
  unfold swapsWith swB isLoc Env.kindOf
  simp only [hb, Expr.pos]
  cases env.scope.names.lookup t with
  | none => rfl
  | some k => cases k <;> rfl
theorem sw_any {e tg : Expr} {l : Nat} {env : Env} {n : Nat} {sc : Scope} {m : ME} (hc : compE G N n sc e = some m) (hk : env.scope.kind = .function) : swapsWith e (some tg) l env = pure (swB env.scope e tg) := by
  cases e
  case ListComp elt gs s p =>
    cases tg
    case Name => exact sw_lc hk
    all_goals rfl
  case SetComp =>
    cases n with
    | zero => simp only [compE] at hc; cases hc
    | succ n => simp only [compE] at hc; cases hc
  case DictComp =>
    cases n with
    | zero => simp only [compE] at hc; cases hc
    | succ n => simp only [compE] at hc; cases hc
  all_goals rfl
theorem ss_none {tg e : Expr} {env : Env} (h : (∃ ts k p vs k2 p2, tg = .Tuple ts k p ∧ e = .Tuple vs k2 p2) → False) (hl : ∀ ts p, tg ≠ .List ts p) : swappedStores [tg] e env = pure none := by
  cases tg
  case Tuple ts k p =>
    cases e
    case Tuple vs k2 p2 => exact absurd ⟨ts, k, p, vs, k2, p2, rfl, rfl⟩ h
    all_goals rfl
  case List ts p => exact absurd rfl (hl ts p)
  all_goals rfl
theorem ss_tup {ts vs : List Expr} {k k2 : Nat} {p p2 : Pos} {env : Env} {o : Option (List Str)} (hk : env.scope.kind = .function) (h : swP env.scope ts vs = some o) : swappedStores [.Tuple ts k p] (.Tuple vs k2 p2) env = pure o := by
  have hb := bkind hk
  have hbb : (env.blockKind != .function) = false := by rw [hb]; rfl
  unfold swP at h
  unfold swappedStores Env.kindOf
  simp only [hbb, Bool.or_false, pure_bind]
  by_cases q : (!(ts.length == 2 || ts.length == 3) || vs.length != ts.length) = true
  · rw [if_pos q] at h
    cases h
    exact if_pos q
  · rw [if_neg q] at h
    refine (if_neg q).trans ?_
    by_cases q2 : vs.any isStar = true
    · rw [if_pos q2] at h
      cases h
      exact if_pos q2
    · rw [if_neg q2] at h
      refine (if_neg q2).trans ?_
      by_cases q3 : nmB (nmS env.scope ts) ts.length = true
      · rw [if_pos q3] at h
        cases h
        exact if_pos q3
      · rw [if_neg q3] at h
        refine (if_neg q3).trans ?_
        by_cases q4 : vs.all (foldedForSure 8) = true
        · rw [if_pos q4] at h
          cases h
          exact if_pos q4
        · rw [if_neg q4] at h
          refine (if_neg q4).trans ?_
          by_cases q5 : vs.all (constantsAlone 8) = true
          · rw [if_pos q5] at h
            cases h
          · rw [if_neg q5] at h
            cases h
            exact if_neg q5
structure SOk (G : CG) (g : GE) (P : List FnD) (d : Nat) (W : WX) (sc₀ : Scope) (X : Cx) : Prop extends XOk G g P d W sc₀ X where
  tops : Tops none X
  po : PassesOwn (model X.prog X.w) X.A X.env X.xe
  kind : sc₀.kind = .function
  room1 : Room 1 X.A
structure SoundS (G : CG) (g : GE) (P : List FnD) (d : Nat) (n : Nat) : Prop where
  s : ∀ {W : WX} {X : Cx} {sc : Scope} {s : Stmt} {m : MS}, SOk G g P d W sc X → compS G X.N n sc s = some m → SS g P d W X s m
  ss : ∀ {W : WX} {X : Cx} {sc : Scope} {s : List Stmt} {m : List MS}, SOk G g P d W sc X → compSs G X.N n sc s = some m → SSs g P d W X s m
theorem SOk.ek {W : WX} {X : Cx} {sc : Scope} (ok : SOk G g P d W sc X) : X.env.scope.kind = .function := by rw [ok.sc]; exact ok.kind
theorem assign1 {tg : Expr} {env : Env} {n : Nat} {sc : Scope} {top : Option Scope} {m : MT} (h : compT G N n top sc tg = some m) : (assignEach [tg] env).map (·.2) = [assign tg env] := by
  rw [assignEach_cons (tstar_of h)] <;> rfl
theorem notList {tg : Expr} {n : Nat} {sc : Scope} {top : Option Scope} {m : MT} (h : compT G N n top sc tg = some m) : ∀ ts p, tg ≠ .List ts p := fun ts p e => by
  subst e
  cases n with
  | zero => simp only [compT] at h; cases h
  | succ n => simp only [compT] at h; cases h
theorem swSole {tg e : Expr} {l : Nat} {env : Env} : swapsWithSole [tg] e l env = swapsWith e (some tg) l env := rfl
/-- an assignment that is not stored from the right -/
theorem ss_plain {n : Nat} {W : WX} {X : Cx} {sc : Scope} {tg e : Expr} {pos : Pos} {t : MT} {x : ME} (ok : SOk G g P d W sc X) (ht : compT G X.N n none sc tg = some t) (hx : compE G X.N n sc e = some x) (hw : swappedStores [tg] e X.env = pure none) : SS g P d W X (.Assign [tg] e pos) (.asg t x) := by
  have S := sound (g := g) (P := P) (d := d) n G
  have hs : swapsWithSole [tg] e pos.line X.env = pure (swB X.env.scope e tg) := by rw [swSole]; exact sw_any hx ok.ek
  cases hb : swB X.env.scope e tg with
  | false =>
    rw [hb] at hs
    exact ss_asg (S.e ok.toXOk hx).1 (S.t ok.toXOk ok.tops ht (.inr fun _ => trivial)) hs hw (assign1 ht)
  | true =>
    rw [hb] at hs
    cases e <;> first | (simp only [swB] at hb; cases hb; done) | skip
    cases tg <;> first | (simp only [swB] at hb; cases hb; done) | skip
    rename_i elt gs s p y py
    have hy : X.env.scope.names.lookup y = some .local := by
      simp only [swB, Bool.and_eq_true] at hb
      exact isLoc_of hb.1.1
    cases n with
    | zero => simp only [compE] at hx; cases hx
    | succ n =>
      simp only [compT] at ht
      split at ht
      · obtain ⟨j, hj, rfl⟩ := Option.map_eq_some_iff.mp ht
        have S := sound (g := g) (P := P) (d := d) n G
        have S' := sound (g := g) (P := P) (d := d) n G.noMet
        simp only [compE] at hx
        split at hx <;> first | (cases hx; done) | skip
        all_goals try (rename_i hq; cases hq; done)
        rename_i elt0 tg0 iter0 ifs0 scope0 pos0 heq
        cases heq
        split at hx
        · rename_i hb0
          split at hx
          · rename_i t i c x h1 h2 h3 h4
            split at hx
            · rename_i htg
              cases hx
              refine ss_setLc ok.toXOk hj hy hs (S.i ok.toXOk h2) hb0 (fun X' ok' hN hfn => ?_) (fun X' ok' hN => ?_) (fun X' ok' hN => ?_) (set_of h2)
              · exact S'.t (top := some _) ok' (fun x h _ => hfn x (by simpa [topB] using h)) (by rw [hN]; exact h1) (.inl ⟨_, _, htg, fun i hi => hi⟩)
              · exact S'.c ok' (by rw [hN]; exact h3)
              · exact (S'.e ok' (by rw [hN]; exact h4)).1
            · cases hx
          · cases hx
        · cases hx
      · cases ht
theorem ss_nev {W : WX} {X : Cx} {s : Stmt} : SS g P d W X s .nev := PS.imp ps_never fun D σ H ⟨ρ, σm, hm, r, R, e, F⟩ => by
  simp only [execS] at e
  cases e
theorem sound_ss {n : Nat} (ih : SoundS G g P d n) {W : WX} {X : Cx} {sc : Scope} {s : List Stmt} {m : List MS} (ok : SOk G g P d W sc X) (h : compSs G X.N (n + 1) sc s = some m) : SSs g P d W X s m := by
  simp only [compSs] at h
  split at h
  · cases h; exact ss_nil
  · rename_i s0 r
    split at h
    · rename_i xs h2
      cases h
      cases h1 : compS G X.N n sc s0 with
      | none => exact ss_cons ss_nev (ih.ss ok h2)
      | some x => exact ss_cons (ih.s ok h1) (ih.ss ok h2)
    · cases h
theorem sound_s {n : Nat} (ih : SoundS G g P d n) {W : WX} {X : Cx} {sc : Scope} {s : Stmt} {m : MS} (ok : SOk G g P d W sc X) (h : compS G X.N (n + 1) sc s = some m) : SS g P d W X s m := by
  have S := sound (g := g) (P := P) (d := d) n G
  have O := ok.toXOk
  simp only [compS] at h
  split at h
  · cases h; exact ss_doc
  · -- raise
    split at h
    · rename_i c hc
      split at h
      · rename_i hz
        simp only [Bool.and_eq_true] at hz
        split at h
        · rename_i k hk
          split at h
          · rename_i hf
            split at h
            · cases h
              exact ss_rse0 O hc hk hf hz.1.1 hz.1.2
            · cases h
          · rename_i f hf
            obtain ⟨m, hm, rfl⟩ := Option.map_eq_some_iff.mp h
            exact ss_rse1 O hc hk hf hz.1.1 hz.1.2 hz.2 ok.room1 (S.e O hm).1
        · cases h
      · cases h
    · cases h
  · split at h
    · rename_i hl
      obtain ⟨x, hx, rfl⟩ := Option.map_eq_some_iff.mp h
      exact ss_expr (S.e O hx).1 (sw_noLc hl)
    · cases h
  · obtain ⟨x, hx, rfl⟩ := Option.map_eq_some_iff.mp h
    exact ss_ret (S.e O hx).1
  · cases h; exact ss_retN
  · cases h; exact ss_pass
  · cases h; exact ss_brk
  · cases h; exact ss_cnt
  · split at h
    · rename_i x y z h1 h2 h3
      cases h
      exact ss_if (S.e O h1).2 (ih.ss ok h2) (ih.ss ok h3)
    · cases h
  · split at h
    · rename_i x y h1 h2
      cases h
      exact ss_while ok.po (S.e O h1).2 (ih.ss ok h2)
    · cases h
  · split at h
    · rename_i t i y h1 h2 h3
      cases h
      exact ss_for O.calm ok.po (S.i O h2) (S.t O ok.tops h1 (.inr fun _ => trivial)) (ih.ss ok h3) (set_of h2)
    · cases h
  · -- assignments
    split at h
    · rename_i tg0 e0 ts k p vs k2 p2
      split at h
      · cases h
      · rename_i hsw
        split at h
        · rename_i t x h1 h2
          cases h
          exact ss_plain ok h1 h2 (ss_tup ok.ek (by rw [O.sc]; exact hsw))
        · cases h
      · split at h
        · rename_i hsw _ _ x px y py a b
          split at h
          · rename_i i j es h1 h2 h3
            split at h
            · rename_i hz
              simp only [Bool.and_eq_true, decide_eq_true_eq] at hz
              cases h
              exact ss_par2 O h1 h2 hz.1.2 (O.loc (isLoc_of hz.1.1.1)) (O.loc (isLoc_of hz.1.1.2)) (S.es O h3) (ss_tup ok.ek (by rw [O.sc]; exact hz.2))
            · cases h
          · cases h
        · rename_i hsw _ _ x px y py z pz a b c
          split at h
          · rename_i i j l es h1 h2 h3 h4
            split at h
            · rename_i hz
              simp only [Bool.and_eq_true, decide_eq_true_eq] at hz
              cases h
              exact ss_par3 O h1 h2 h3 hz.1.1.1.2 hz.1.1.2 hz.1.2 (O.loc (isLoc_of hz.1.1.1.1.1.1)) (O.loc (isLoc_of hz.1.1.1.1.1.2)) (O.loc (isLoc_of hz.1.1.1.1.2)) (S.es O h4) (ss_tup ok.ek (by rw [O.sc]; exact hz.2))
            · cases h
          · cases h
        · cases h
    · rename_i hne
      split at h
      · rename_i t x h1 h2
        cases h
        exact ss_plain ok h1 h2 (ss_none (fun ⟨ts, k, p, vs, k2, p2, e1, e2⟩ => hne _ _ _ _ _ _ e1 e2) (notList h1))
      · cases h
  · split at h
    · rename_i hz
      rw [Bool.and_eq_true, Bool.or_eq_true] at hz
      split at h
      · rename_i i o m h1 h2 h3
        cases h
        rcases hz.1 with q | q
        · have := O.loc (isLoc_of q)
          exact ss_aug O.nd h2 h1 (.inl this) (.inr this) (S.e O h3).1
        · have := O.loc (isCell_of q)
          exact ss_aug O.nd h2 h1 (.inr this) (.inl (ok.tops _ rfl this)) (S.e O h3).1
      · cases h
    · cases h
  · split at h
    · cases h
    · rename_i hns
      split at h
      · rename_i x y o m h1 h2 h3 h4
        cases h
        exact ss_augS O h3 (S.e O h1).1 (S.e O h2).1 (S.e O h4).1 (aug_sub (slice_of h2))
      · cases h
  · cases h
theorem soundS : ∀ n : Nat, SoundS G g P d n
  | 0 => ⟨fun _ h => (by simp only [compS] at h; cases h), fun _ h => (by simp only [compSs] at h; cases h)⟩
  | n + 1 => ⟨fun ok h => sound_s (soundS n) ok h, fun ok h => sound_ss (soundS n) ok h⟩
end
end Mi

/-! Mi13: defs. -/
namespace Mi
open PySem PySem.Spec PyProof.Rows L2
section
variable {g : GE} {ρ ρ' : Rh} {H H' : Hp}
/-- which addresses are kept apart behind a def -/
structure BkOk (ρ0 : Rh) (H0 : Hp) (ρ' : Rh) (H' : Hp) (b : Addr → Prop) : Prop where
  old : ∀ a, ρ0.b a → b a
  new : ∀ a, b a → ρ0.b a ∨ Fr H0 a
  lst : ∀ a, b a → ∃ xs, H' a = some (.lst xs)
  in_ : ∀ a, b a → ρ'.b a ∨ a ∈ ρ'.l
/-- a def's way from (ρ0, H0), where its arguments began, by (ρ, H), where it is entered, to (ρ', H') -/
structure Way (ρ0 : Rh) (H0 : Hp) (ρ : Rh) (ρ' : Rh) (H' : Hp) : Prop where
  lv : ∀ a, ρ0.b a → ¬ Fr H0 a
  e0 : ∀ (n : Nat) (a : Addr), ρ0.l[n]? = some a → ρ.l[n]? = some a
  n0 : ∀ a, a ∈ ρ.l → a ∈ ρ0.l ∨ Fr H0 a
  p : Post ρ0 H0 ρ' H'
  pre : ∀ (n : Nat) (a : Addr), ρ.l[n]? = some a → ρ'.l[n]? = some a
section
variable {ρ0 : Rh} {H0 : Hp}
theorem Way.sub (w : Way ρ0 H0 ρ ρ' H') {a : Addr} (h : a ∈ ρ.l) : a ∈ ρ'.l := by
  obtain ⟨i, hi, e⟩ := List.mem_iff_getElem.mp h
  have : ρ.l[i]? = some a := by rw [List.getElem?_eq_getElem hi, e]
  exact List.mem_of_getElem? (w.pre i a this)
theorem Way.le (w : Way ρ0 H0 ρ ρ' H') : ρ.l.length ≤ ρ'.l.length := by
  by_cases h : ρ.l.length = 0
  · omega
  · have h1 : ρ.l.length - 1 < ρ.l.length := by omega
    have := (List.getElem?_eq_some_iff.mp (w.pre _ _ (List.getElem?_eq_getElem h1))).1
    omega
theorem Way.low (w : Way ρ0 H0 ρ ρ' H') {k : Nat} {a : Addr} (hk : k < ρ.l.length) (h : ρ'.l[k]? = some a) : ρ.l[k]? = some a := by
  have := w.pre k _ (List.getElem?_eq_getElem hk)
  rw [h] at this
  cases this
  exact List.getElem?_eq_getElem hk
theorem mv_back {b : Addr → Prop} (w : Way ρ0 H0 ρ ρ' H') (B : BkOk ρ0 H0 ρ' H' b) : MvP g ρ' H' ⟨ρ.l, b⟩ H' := ⟨fun _ _ h => h, fun a vs h o => ⟨h, fun m => o.1 (w.sub m), fun m => by
  rcases B.in_ a m with q | q
  · exact o.2 q
  · exact o.1 q⟩, fun a o vs h n => ⟨h, fun m => n (w.sub m)⟩, fun a o h _ n => ⟨h, fun m => n (w.sub m)⟩⟩
theorem Rel.back {hm h1 : Hm} {σ1 σ2 : L2.St} {σm1 σm2 : Loc} {b : Addr → Prop} (R : Rel g ρ σm1 hm σ1 H) (R' : Rel g ρ' σm2 h1 σ2 H') (w : Way ρ0 H0 ρ ρ' H') (B : BkOk ρ0 H0 ρ' H' b) : RelH g ⟨ρ.l, b⟩ (h1.take hm.length) H' ∧ Post ρ0 H0 ⟨ρ.l, b⟩ H' := by
  have M := mv_back (g := g) w B
  have le := w.le
  rw [R.len, R'.len] at le
  refine ⟨⟨?_, R.nd, fun i o a h1' h2 => ?_, fun i xs h => ?_, rfl, fun i v h => by simp at h, fun i v h => by simp at h, B.lst, R'.tab⟩, ⟨w.e0, w.n0, B.new, w.p.keep, w.p.more, B.old⟩⟩
  · show ρ.l.length = _
    rw [List.length_take, R.len]
    omega
  · have hi : i < hm.length := by rw [← R.len]; exact (List.getElem?_eq_some_iff.mp h2).1
    rw [List.getElem?_take_of_lt hi] at h1'
    have q := R'.obj i o a h1' (w.pre i a h2)
    cases o with
    | lst ys =>
      obtain ⟨ws, e, t⟩ := q
      exact ⟨ws, e, t.moveP M (R'.pur i ys h1')⟩
    | scr ns => exact q
    | dct _ => exact q
  · by_cases hi : i < hm.length
    · rw [List.getElem?_take_of_lt hi] at h
      exact R'.pur i xs h
    · rw [List.getElem?_take_eq_none (by omega)] at h
      cases h
theorem new_none {σm1 : Loc} {hm : Hm} {σ1 : L2.St} (R : Rel g ρ σm1 hm σ1 H) {σm2 : Loc} {h1 : Hm} {σ2 : L2.St} (R' : Rel g ρ' σm2 h1 σ2 H') (w : Way ρ0 H0 ρ ρ' H') {k : Nat} {a : Addr} (hk : hm.length ≤ k) (h : ρ'.l[k]? = some a) : a ∉ ρ.l ∧ Fr H0 a := by
  have na : a ∉ ρ.l := fun m => by
    obtain ⟨i, hi, e2⟩ := List.mem_iff_getElem.mp m
    have q : ρ.l[i]? = some a := by rw [List.getElem?_eq_getElem hi, e2]
    have := nodup_get R'.nd (w.pre i a q) h
    have hi' : i < ρ.l.length := hi
    rw [R.len] at hi'
    omega
  refine ⟨na, ?_⟩
  rcases w.p.new a (List.mem_of_getElem? h) with q | q
  · obtain ⟨i, hi, e2⟩ := List.mem_iff_getElem.mp q
    have q : ρ0.l[i]? = some a := by rw [List.getElem?_eq_getElem hi, e2]
    exact absurd (List.mem_of_getElem? (w.e0 i a q)) na
  · exact q
mutual
theorem froz_ok {hm h1 : Hm} {σm1 σm2 : Loc} {σ1 σ2 : L2.St} {b : Addr → Prop} (R : Rel g ρ σm1 hm σ1 H) (R' : Rel g ρ' σm2 h1 σ2 H') (p : Way ρ0 H0 ρ ρ' H') (B : BkOk ρ0 H0 ρ' H' b) (hb : ∀ (k : Nat) (a : Addr), hm.length ≤ k → ρ'.l[k]? = some a → ¬ b a) :
    ∀ {v w : MV} {x : V}, RV g ρ' H' v x → froz hm.length h1 v = some w → RV g ⟨ρ.l, b⟩ H' w x
  | _, _, _, .non, e => by simp only [froz] at e; cases e; exact .non
  | _, _, _, .bl _, e => by simp only [froz] at e; cases e; exact .bl _
  | _, _, _, .int _, e => by simp only [froz] at e; cases e; exact .int _
  | _, _, _, .str _, e => by simp only [froz] at e; cases e; exact .str _
  | _, _, _, .fn h q, e => by simp only [froz] at e; cases e; exact .fn h q
  | _, _, _, .edc h m, e => by simp only [froz] at e; cases e; exact .edc h (fun q => m (p.sub q))
  | _, _, _, .any v, e => by simp only [froz] at e; cases e; exact .any v
  | _, _, _, .obj e1 h1 h2 n1 n2 r q, e => by
    simp only [froz] at e
    obtain ⟨ys, z1, rfl⟩ := Option.map_eq_some_iff.mp e
    exact .obj e1 h1 h2 (fun q => n1 (p.sub q)) (fun q => n2 (p.sub q)) (frozL_ok R R' p B hb r z1) q
  | _, _, _, .scr h, e => by simp only [froz] at e; cases e; exact .scr ((mv_back (g := g) p B).sqf h)
  | _, _, _, .tup h r, e => by
    simp only [froz] at e
    obtain ⟨ys, h1, rfl⟩ := Option.map_eq_some_iff.mp e
    exact .tup h (frozL_ok R R' p B hb r h1)
  | _, _, _, .fz h m r, e => by
    simp only [froz] at e
    obtain ⟨ys, h1, rfl⟩ := Option.map_eq_some_iff.mp e
    exact .fz h ((mv_back (g := g) p B).fz _ _ h m).2 (frozL_ok R R' p B hb r h1)
  | _, _, _, .lst h m r, e => by
    simp only [froz] at e
    obtain ⟨ys, h1, rfl⟩ := Option.map_eq_some_iff.mp e
    exact .lst h (fun q => m (p.sub q)) (frozL_ok R R' p B hb r h1)
  | _, _, _, @RV.ref _ _ _ n a h, e => by
    simp only [froz] at e
    split at e
    · rename_i hk
      cases e
      exact .ref (p.low (by rw [R.len]; exact hk) h)
    · rename_i hk
      split at e
      · rename_i xs hx
        cases e
        obtain ⟨vs, e1, t⟩ := R'.obj n _ a hx h
        exact .fz e1 ⟨(new_none R R' p (by omega) h).1, hb n a (by omega) h⟩ (t.moveP (mv_back (g := g) p B) (R'.pur n xs hx))
      · cases e
theorem frozL_ok {hm h1 : Hm} {σm1 σm2 : Loc} {σ1 σ2 : L2.St} {b : Addr → Prop} (R : Rel g ρ σm1 hm σ1 H) (R' : Rel g ρ' σm2 h1 σ2 H') (p : Way ρ0 H0 ρ ρ' H') (B : BkOk ρ0 H0 ρ' H' b) (hb : ∀ (k : Nat) (a : Addr), hm.length ≤ k → ρ'.l[k]? = some a → ¬ b a) :
    ∀ {v w : List MV} {x : List V}, RVs g ρ' H' v x → frozL hm.length h1 v = some w → RVs g ⟨ρ.l, b⟩ H' w x
  | _, _, _, .nil, e => by simp only [frozL] at e; cases e; exact .nil
  | _, _, _, .cons r t, e => by
    simp only [frozL] at e
    split at e
    · rename_i y ys h1 h2
      cases e
      exact .cons (froz_ok R R' p B hb r h1) (frozL_ok R R' p B hb t h2)
    · cases e
end
theorem froz_lst {n : Nat} {h : Hm} {v w : MV} (e : froz n h v = some w) (hw : ∃ xs, w = .lst xs) : ∃ xs, v = .lst xs := by
  obtain ⟨xs, rfl⟩ := hw
  cases v with
  | lst xs => exact ⟨xs, rfl⟩
  | ref k =>
    simp only [froz] at e
    split at e
    · cases e
    · split at e <;> cases e
  | tup xs => simp only [froz] at e; obtain ⟨_, _, q⟩ := Option.map_eq_some_iff.mp e; cases q
  | fz xs => simp only [froz] at e; obtain ⟨_, _, q⟩ := Option.map_eq_some_iff.mp e; cases q
  | obj c xs => simp only [froz] at e; obtain ⟨_, _, q⟩ := Option.map_eq_some_iff.mp e; cases q
  | _ => simp only [froz] at e; cases e
theorem bk_old {σm2 : Loc} {h1 : Hm} {σ2 : L2.St} (R' : Rel g ρ' σm2 h1 σ2 H') (w : Way ρ0 H0 ρ ρ' H') : BkOk ρ0 H0 ρ' H' ρ0.b :=
  ⟨fun _ h => h, fun _ h => .inl h, fun a h => R'.blk a (w.p.blk a h), fun a h => .inl (w.p.blk a h)⟩
/-- a def's value handed back -/
theorem back_ok {σm1 : Loc} {hm h1 : Hm} {σ1 : L2.St} (R : Rel g ρ σm1 hm σ1 H) {σm2 : Loc} {σ2 : L2.St} (R' : Rel g ρ' σm2 h1 σ2 H') (p : Way ρ0 H0 ρ ρ' H') {v : MV} {x : V} (rv : RV g ρ' H' v x) (fr : ∀ a, TV v x a → Fr H0 a ∧ ρ'.b a) {r : Res MV} (e : handBack hm.length v h1 = some r) :
    ∃ (w : MV) (b : Addr → Prop), r = .ok w (h1.take hm.length) ∧ Post ρ0 H0 ⟨ρ.l, b⟩ H' ∧ RelH g ⟨ρ.l, b⟩ (h1.take hm.length) H' ∧ RV g ⟨ρ.l, b⟩ H' w x ∧ ∀ a, TV w x a → Fr H0 a ∧ b a := by
  have gen : ∀ w, froz hm.length h1 v = some w → r = .ok w (h1.take hm.length) → ∃ (w : MV) (b : Addr → Prop), r = .ok w (h1.take hm.length) ∧ Post ρ0 H0 ⟨ρ.l, b⟩ H' ∧ RelH g ⟨ρ.l, b⟩ (h1.take hm.length) H' ∧ RV g ⟨ρ.l, b⟩ H' w x ∧ ∀ a, TV w x a → Fr H0 a ∧ b a := fun w hw hr => by
    have B : BkOk ρ0 H0 ρ' H' (fun a => ρ0.b a ∨ TV v x a) := ⟨fun a h => .inl h, fun a h => h.elim .inl fun h => .inr (fr a h).1, fun a h => h.elim (fun h => R'.blk a (p.p.blk a h)) fun h => R'.blk a (fr a h).2, fun a h => .inl (h.elim (p.p.blk a) fun h => (fr a h).2)⟩
    obtain ⟨R2, p2⟩ := R.back R' p B
    refine ⟨w, _, hr, p2, R2, froz_ok R R' p B (fun k a hk ha h => ?_) rv hw, fun a ⟨h1, h2⟩ => ?_⟩
    · obtain ⟨na, nn⟩ := new_none R R' p hk ha
      rcases h with h | ⟨⟨xs, e⟩, h2⟩
      · exact p.lv a h nn
      · subst e
        subst h2
        cases rv with
        | lst _ m _ => exact m (List.mem_of_getElem? ha)
    · have t : TV v x a := ⟨froz_lst hw h1, h2⟩
      exact ⟨(fr a t).1, .inr t⟩
  cases v with
  | ref k =>
    simp only [handBack] at e
    split at e
    · rename_i hk
      cases e
      exact gen (.ref k) (by simp only [froz]; rw [if_pos hk]) rfl
    · rename_i hk
      split at e
      · rename_i xs hx
        cases e
        cases rv with
        | @ref _ a ha =>
          obtain ⟨na, nn⟩ := new_none R R' p (by omega) ha
          obtain ⟨vs, e1, t⟩ := R'.obj k _ a hx ha
          have B : BkOk ρ0 H0 ρ' H' (fun c => ρ0.b c ∨ c = a) := ⟨fun c h => .inl h, fun c h => h.elim .inl fun h => .inr (h ▸ nn), fun c h => h.elim (fun h => R'.blk c (p.p.blk c h)) fun h => ⟨vs, h ▸ e1⟩, fun c h => h.elim (fun h => .inl (p.p.blk c h)) fun h => .inr (h ▸ List.mem_of_getElem? ha)⟩
          obtain ⟨R2, p2⟩ := R.back R' p B
          exact ⟨.lst xs, _, rfl, p2, R2, .lst e1 na (t.moveP (mv_back (g := g) p B) (R'.pur k xs hx)), fun c ⟨_, h2⟩ => by cases h2; exact ⟨nn, .inr rfl⟩⟩
      · cases e
  | _ =>
    simp only [handBack] at e
    split at e
    · rename_i w hw
      cases e
      exact gen w hw rfl
    · cases e
end
end

/-! ### a table of defs -/
structure FE where
  x : Str
  st : Stmt
  N : List Str
  ps : List Str
  lam : Bool := false
  ask : Bool := false
  nm : Str := x
def scopeOk (f : FE) : Bool :=
  (match (defScope f.st).kind with | .function => true | _ => false) && !(defScope f.st).isCoroutine && !(defScope f.st).isGenerator && decide f.N.Nodup && decide (f.N.take f.ps.length = f.ps) &&
    (f.ps.all fun x => match (defScope f.st).names.lookup x with | some .local => true | some .cell => true | _ => false) && ((defScope f.st).names.all fun y => !(y.2 == .free))
theorem scope_of {f : FE} (h : scopeOk f = true) : FnScope f.N f.ps (defScope f.st) := by
  unfold scopeOk at h
  simp only [Bool.and_eq_true, List.all_eq_true, decide_eq_true_eq, Bool.not_eq_true'] at h
  obtain ⟨⟨⟨⟨⟨⟨h1, h2⟩, h3⟩, h4⟩, h5⟩, h6⟩, h7⟩ := h
  refine ⟨?_, h2, h3, h4, h5, fun x hx => ?_, fun y hy e => ?_⟩
  · split at h1
    · assumption
    · cases h1
  · have := h6 x hx
    split at this
    · exact .inl (by assumption)
    · exact .inr (by assumption)
    · cases this
  · have := h7 y hy
    rw [e] at this
    cases this
def compF (G : CG) (f : FE) : Option FnD := (compSs (G.at f.lam f.ask) f.N 1000 (defScope f.st) (defBody f.st)).map fun b => ⟨f.ps.length, f.N.length, b⟩
/-- the defs and their meanings -/
structure Tbl (G : CG) (P : List FnD) (fs : List FE) : Prop where
  names : G.fns = fs.map (·.x)
  asks : G.gfn = fs.map (·.ask)
  sc : ∀ f ∈ fs, scopeOk f = true
  comp : ∀ (i : Nat) (f : FE), fs[i]? = some f → ∃ D, P[i]? = some D ∧ compF G f = some D
section
variable {G : CG} {g : GE} {P : List FnD} {fs : List FE} {Pg : Program} {w : World} {K : PySem.W.Frag} {mg : Str → Option Value} {base : Heap}
theorem start_rel {ρ : Rh} {H : Hp} {hm : Hm} {xs : List MV} {vs : List V} {N : List Str} {np : Nat} (R : RelH g ρ hm H) (rs : RVs g ρ H xs vs) (hn : nolL xs = true) (hl : xs.length = np) : Rel g ρ (xs.map some ++ List.replicate (N.length - np) none) hm (L2.start N vs) H := by
  have l := rs.length
  subst hl
  unfold L2.start
  refine ⟨R.len, R.nd, R.obj, R.pur, by simp [l], fun i v h => ?_, fun i v h => ?_, R.blk, R.tab⟩
  · by_cases hi : i < xs.length
    · rw [List.getElem?_append_left (by simpa using hi), List.getElem?_map] at h
      rw [List.getElem?_append_left (by simpa [← l] using hi), List.getElem?_map]
      cases hx : xs[i]? with
      | none => rw [hx] at h; cases h
      | some y =>
        rw [hx] at h
        cases h
        obtain ⟨x, h1, h2⟩ := rs.get hx
        exact ⟨x, by rw [h1]; rfl, h2⟩
    · rw [List.getElem?_append_right (by simpa using hi)] at h
      rw [List.getElem?_replicate] at h
      split at h <;> cases h
  · by_cases hi : i < xs.length
    · rw [List.getElem?_append_left (by simpa using hi), List.getElem?_map] at h
      cases hx : xs[i]? with
      | none => rw [hx] at h; cases h
      | some y =>
        rw [hx] at h
        cases h
        have : ∀ {xs : List MV}, nolL xs = true → ∀ x ∈ xs, x.nol = true := fun {xs} => by
          induction xs with
          | nil => intro _ x h; simp at h
          | cons a r ih =>
            intro h x hx
            simp only [nolL, Bool.and_eq_true] at h
            rcases List.mem_cons.mp hx with q | q
            · rw [q]; exact h.1
            · exact ih h.2 x q
        exact this hn _ (List.mem_of_getElem? hx)
    · rw [List.getElem?_append_right (by simpa using hi)] at h
      rw [List.getElem?_replicate] at h
      split at h <;> cases h
/-- what a body's end is for its def -/
theorem fin_body {ρ0 ρ ρ1 : Rh} {H0 H : Hp} {hm : Hm} {rb : SRes} {r : Res MV} {Q : VK} {E : XK} (lv : ∀ a, ρ0.b a → ¬ Fr H0 a) (p0 : Post ρ0 H0 ρ H) (p1 : Post ρ0 H0 ρ1 H) (k1 : ∀ (n : Nat) (c : Addr), ρ.l[n]? = some c → ρ1.l[n]? = some c) (R : RelH g ρ hm H) (F : FinC g ρ0 H0 r Q E)
    (e : endFn hm.length (some rb) = some r) : SFin g (fun cls d _ H => E cls d H) ρ1 H rb { nx := fun _ H' => Q .non H', rt := Q } := by
  have way : ∀ {ρ' H'}, Post ρ1 H ρ' H' → Way ρ0 H0 ρ ρ' H' := fun p => ⟨lv, p0.ext, p0.new, p1.trans p, fun n a h => p.ext n a (k1 n a h)⟩
  cases rb with
  | bk σ h => cases e
  | ct σ h => cases e
  | nx σm h1 =>
    cases e
    intro ρ' H' σ' p R'
    have w := way p
    obtain ⟨R2, p2⟩ := R.back R' w (bk_old R' w)
    exact F _ H' .non p2 R2 .non fun a ⟨⟨xs, e⟩, _⟩ => nomatch e
  | rt v h1 =>
    intro ρ' H' x p R' rv fr
    obtain ⟨w, b, rfl, p2, R2, r2, fr2⟩ := back_ok R R' (way p) rv (fun a h => ⟨p1.more a (fr a h).1, (fr a h).2⟩) e
    exact F _ H' x p2 R2 r2 fr2
  | ex e0 σm h1 =>
    intro ρ' H' σ' c d p R' ⟨C, f, h2, h3, h4⟩
    have w := way p
    have B := bk_old R' w
    obtain ⟨R2, p2⟩ := R.back R' w B
    have hb : ∀ (k : Nat) (a : Addr), hm.length ≤ k → ρ'.l[k]? = some a → ¬ ρ0.b a := fun k a hk ha h => lv a h (new_none R R' w hk ha).2
    cases ha : e0.arg with
    | none =>
      simp only [endFn, ha] at e h4
      cases e
      exact F _ H' c d p2 R2 ⟨C, f, h2, h3, by simp only [ha]; exact h4⟩
    | some v =>
      simp only [endFn, ha] at e h4
      split at e
      · rename_i w' hw
        cases e
        obtain ⟨q, x, h5, h6, h7, h8⟩ := h4
        exact F _ H' c d p2 R2 ⟨C, f, h2, h3, q, x, h5, h6, fun m => h7 (w.sub m), froz_ok R R' w B hb h8 hw⟩
      · cases e
theorem GOk.at (h : GOk G g K mg) (l a : Bool) : GOk (G.at l a) g K mg := ⟨h.hK, h.ask, h.low, h.fn, h.cst, h.blt⟩
theorem clsNum_at {l a : Bool} : takenBy (G.at l a) = takenBy G := rfl
theorem hdOf_at {l a : Bool} {sc : Scope} {n : Str} (h : ExceptHandler) : hdOf (G.at l a) sc n h = hdOf G sc n h := rfl
theorem hdsOf_at {l a : Bool} {sc : Scope} {n : Str} : ∀ hs : List ExceptHandler, hdsOf (G.at l a) sc n hs = hdsOf G sc n hs
  | [] => rfl
  | h :: hs => by
    simp only [hdsOf]
    rw [hdOf_at, hdsOf_at hs]
theorem metOf_at {l a : Bool} {sc : Scope} {x n : Str} (b : List Stmt) : metOf (G.at l a) sc x n b = metOf G sc x n b := by
  unfold metOf
  split
  · split
    · rw [hdsOf_at]
    · rfl
  · rfl
theorem PgOk.at {prog : Program} (h : PgOk G g prog K mg) (l a : Bool) : PgOk (G.at l a) g prog K mg := ⟨h.top, h.cls, h.exm, h.low, (fun f hs nt e => by
  cases l with
  | false => cases e
  | true =>
    obtain ⟨st, fa, a', n, l', oc, od, dV, kV, doc, pm, an, cdv, ct, osl, h1, h2, h3, h4, h5, h6, h7, h8⟩ := (h.met f hs nt e).ex
    exact ⟨st, fa, a', n, l', oc, od, dV, kV, doc, pm, an, cdv, ct, osl, h1, h2, h3, h4, h5, h6, by rw [metOf_at]; exact h7, h8⟩), h.obj⟩
/-- what is known of the code object of a def that has lambdas -/
def LamFact (g : GE) (mg : Str → Option Value) (base : Heap) (x : Str) (cdv : Value) : Prop := ∃ c Pt : Addr, cdv = .ref c ∧ LamX.TabB base mg c Pt ∧ (Pt, (envOfC x default 0 0 cdv).qual ++ "<lambda>") ∈ g.tabs ∧ ∀ p ∈ g.tabs, p.1 = Pt → p.2 = (envOfC x default 0 0 cdv).qual ++ "<lambda>"
theorem body_ok (T : Tbl G P fs) (go : GOk G g K mg) (pg : PgOk G g Pg K mg) {d i : Nat} {f : FE} (hi : fs[i]? = some f)
    (fn : ∀ (i : Nat) (x : Str) (a : Addr), G.fns[i]? = some x → g.fa i = some a → ∃ fd ps, FnG (G.asks i) Pg w K mg base (L2.CX Pg w) (3 * d) a fd ps (spM g P d i) ∧ Binds K fd ps [])
    {fa : Addr} {cdv : Value} (hlam : f.lam = true → LamFact g mg base f.nm cdv) {A : Around} {outer : List Env} {s : Shared} {H : Hp} {vs : List V} {Q : VK} {E : XK} (hgd : f.ask = true → A.guards = some []) (hr : Room (3 * d + 2) (A.deeper (envOfC f.nm (defScope f.st) s.heap.objs.size fa cdv))) (h : spM g P (d + 1) i vs H Q E) :
    ∃ t, PSs (cxOf (L2.CX Pg w) Pg w K mg base f.N f.nm (defScope f.st) fa cdv A outer s H E) (defBody f.st) t ∧ t { nx := fun _ H' => Q .non H', rt := Q } (L2.start f.N vs) H := by
  have S := scope_of (T.sc f (List.mem_of_getElem? hi))
  obtain ⟨D, hD, hc⟩ := T.comp i f hi
  obtain ⟨b, hb, rfl⟩ := Option.map_eq_some_iff.mp hc
  obtain ⟨ρ0, H0, ρ, hm, xs, r, lv, p0, R, rs, ap, fr, e, F⟩ := h
  simp only [calls, hD] at e
  unfold runFn at e
  split at e
  · rename_i hz
    split at e
    · rename_i ws h1 e1
      obtain ⟨ρ1, R1, p1, rs1, n1, hl, _, k1⟩ := stoL_ok R rs ap fr p0 e1
      refine ⟨_, (soundS (G := G.at f.lam f.ask) (g := g) (P := P) (d := d) 1000).ss (W := fun cls d _ H => E cls d H) (X := cxOf (L2.CX Pg w) Pg w K mg base f.N f.nm (defScope f.st) fa cdv A outer s H E) (sc := defScope f.st) ?_ hb, ?_⟩
      · refine ⟨⟨go.at _ _, S.nd, rfl, rfl, hr.mono (by omega), hgd, fn, takes_of rfl rfl rfl rfl, pg.at _ _, fun hne => ⟨hr, ?_⟩⟩, fun _ _ _ => rfl, passes_of (K := fun e s'' => L2.CX Pg w outer H s E e s'') rfl, S.kind, hr.mono (by omega)⟩
        have hl : f.lam = true := by
          cases q : f.lam with
          | true => rfl
          | false =>
            rw [q] at hne
            exact absurd rfl hne
        obtain ⟨c, Pt, e1, e2, e3, e4⟩ := hlam hl
        exact ⟨c, Pt, e1, e2, e3, e4⟩
      · cases hx : execB (calls P d) b (ws.map some ++ List.replicate (f.N.length - f.ps.length) none) h1 with
        | none => simp only [hx] at e; cases e
        | some rb =>
          simp only [hx] at e
          exact ⟨ρ1, _, h1, rb, start_rel R1 rs1 n1 (hl.trans hz), hx, fin_body lv p0 p1 k1 R F e⟩
    · cases e
  · cases e
/-- a def's promise by its body, where it is known what is under way -/
theorem fnG_of {γ : Bool} {x qual : Str} {params : Arguments} {body : List Stmt} {scope : Scope} {f : Addr} {fd : FuncData} {N ps : List Str} {k : Nat} {sp : Sp} (F : FunD K x qual params body scope [] [] f fd) (S : FnScope N ps scope) (len : ∀ vs H Q E, sp vs H Q E → vs.length = ps.length)
    (hbody : ∀ (oc : Value) (od : Option Addr) (osl : Array (Option Value)) (cdv : Value), K.lookup f = some ⟨oc, od, .func fd, osl⟩ → fd.code = cdv → ∀ (A : Around) (outer : List Env) (s : Shared) (H : Hp) (vs : List V) (Q : VK) (E : XK), (γ = true → A.guards = some []) → Room k (A.deeper (envOfC qual scope s.heap.objs.size f cdv)) → sp vs H Q E →
      ∃ t, PSs (cxOf (L2.CX Pg w) Pg w K mg base N qual scope f cdv A outer s H E) body t ∧ t { nx := fun _ H' => Q .non H', rt := Q } (L2.start N vs) H) : FnG γ Pg w K mg base (L2.CX Pg w) (k + 1) f fd ps sp := by
  obtain ⟨oc, od, dV, kV, doc, pm, an, cdv, ct, osl, rfl, lk, hcd, _, _⟩ := F.ex
  exact ⟨len, fun A outer s H args us vs Q E hg hr e0 hb r hs => LamX.run_ofS lk hcd S hr e0 hb r (len _ _ _ _ hs) fun hr' => hbody oc od osl cdv lk rfl A outer s H vs Q E hg hr' hs⟩
theorem fns_ok (T : Tbl G P fs) (go : GOk G g K mg) (pg : PgOk G g Pg K mg) {fdf : Nat → FuncData}
    (F : ∀ (i : Nat) (f : FE) (a : Addr), fs[i]? = some f → g.fa i = some a → FunD K f.nm f.nm (defArgs f.st) (defBody f.st) (defScope f.st) [] [] a (fdf i) ∧ Binds K (fdf i) f.ps [])
    (LF : ∀ (i : Nat) (f : FE) (a : Addr), fs[i]? = some f → g.fa i = some a → f.lam = true → ∀ (oc : Value) (od : Option Addr) (osl : Array (Option Value)), K.lookup a = some ⟨oc, od, .func (fdf i), osl⟩ → LamFact g mg base f.nm (fdf i).code) :
    ∀ (d i : Nat) (f : FE) (a : Addr), fs[i]? = some f → g.fa i = some a → FnG f.ask Pg w K mg base (L2.CX Pg w) (3 * d) a (fdf i) f.ps (spM g P d i) ∧ Binds K (fdf i) f.ps []
  | 0, i, f, a, hf, ha => by
    obtain ⟨Fd, B⟩ := F i f a hf ha
    refine ⟨⟨fun vs H Q E ⟨_, _, _, _, _, _, _, _, _, _, _, _, e, _⟩ => ?_, fun A outer s H args us vs Q E _ _ _ _ _ ⟨_, _, _, _, _, _, _, _, _, _, _, _, e, _⟩ => ?_⟩, B⟩
    · simp only [calls] at e; cases e
    · simp only [calls] at e; cases e
  | d + 1, i, f, a, hf, ha => by
    have ih := fns_ok T go pg F LF d
    have ih' : ∀ (i : Nat) (x : Str) (a : Addr), G.fns[i]? = some x → g.fa i = some a → ∃ fd ps, FnG (G.asks i) Pg w K mg base (L2.CX Pg w) (3 * d) a fd ps (spM g P d i) ∧ Binds K fd ps [] := fun i x a hx ha => by
      rw [T.names, List.getElem?_map] at hx
      obtain ⟨f, hf, rfl⟩ := Option.map_eq_some_iff.mp hx
      have e : G.asks i = f.ask := by
        unfold CG.asks
        rw [T.asks, List.getD_eq_getElem?_getD, List.getElem?_map, hf]
        rfl
      rw [e]
      exact ⟨_, _, ih i f a hf ha⟩
    obtain ⟨Fd, B⟩ := F i f a hf ha
    refine ⟨fnG_of Fd (scope_of (T.sc f (List.mem_of_getElem? hf))) (fun vs H Q E h => ?_) (fun oc od osl cdv lk ec A outer s H vs Q E hg hr h => ?_), B⟩
    · obtain ⟨ρ0, H0, ρ, hm, xs, r, lv, p0, R, rs, ap, fr, e, _⟩ := h
      obtain ⟨D, hD, hc⟩ := T.comp i f hf
      obtain ⟨b, hb, rfl⟩ := Option.map_eq_some_iff.mp hc
      simp only [calls, hD] at e
      unfold runFn at e
      split at e
      · rename_i hz
        rw [← rs.length]
        exact hz
      · cases e
    · subst ec
      exact body_ok T go pg hf ih' (fun hl => LF i f a hf ha hl oc od osl lk) hg hr h
end
end Mi

/-! MiH: a law's call from the outside, where no repr is under way, with tables of code objects. -/
namespace Mi
open PySem PySem.Spec PyProof.Rows L2
/-- what is tracked ahead of the law's call: the tables, the script where it is no part of the text -/
def topH (K : PySem.W.Frag) (ts : List Addr) (a : Addr) (os : Obj) (ns : List Int) : Hp := fun b =>
  if b ∈ ts then some (.tbl #[]) else if b = a ∧ K.lookup a = none then some (.frz os (.lst (ns.map V.int))) else none
section
variable {K : PySem.W.Frag} {ts : List Addr} {a : Addr} {os : Obj} {ns : List Int}
theorem topH_tab {b : Addr} (h : b ∈ ts) : topH K ts a os ns b = some (.tbl #[]) := if_pos h
theorem topH_scr (h : a ∉ ts) (k : K.lookup a = none) : topH K ts a os ns a = some (.frz os (.lst (ns.map V.int))) := (if_neg h).trans (if_pos ⟨rfl, k⟩)
theorem topH_out {b : Addr} (h : b ∉ ts) (n : ¬ (b = a ∧ K.lookup a = none)) : topH K ts a os ns b = none := (if_neg h).trans (if_neg n)
theorem topH_some {b : Addr} {u : HO} (h : topH K ts a os ns b = some u) : (b ∈ ts ∧ u = .tbl #[]) ∨ (b ∉ ts ∧ b = a ∧ K.lookup a = none ∧ u = .frz os (.lst (ns.map V.int))) := by
  unfold topH at h
  split at h
  · rename_i m
    exact .inl ⟨m, (Option.some.inj h).symm⟩
  · rename_i m
    split at h
    · rename_i q
      exact .inr ⟨m, q.1, q.2, (Option.some.inj h).symm⟩
    · cases h
end
/-- the place behind the top, as a law's call finds it -/
structure TopOk (K : PySem.W.Frag) (mg mb : Str → Option Value) (cs : List (Addr × Addr)) (s : Shared) (a : Addr) (vs : List Value) (ns : List Int) : Prop where
  kin : K.In s.heap
  glob : s.heap.Ns mainGlobals mg
  bns : s.heap.Ns builtinsNs mb
  boot : ∀ x : Str, x ≠ "__name__" → mb x = bootBuiltins x
  lim : s.heap.NoLimit
  gens : s.gens = #[]
  tab : ∀ p ∈ cs, s.heap.get? p.2 = some { cls := .none, data := .fields #[] }
  out : ∀ p ∈ cs, K.lookup p.2 = none
  code : ∀ p ∈ cs, PySem.W.CodeHd s.heap p.1 p.2
  bm : ∃ (bm : Addr) (ob : Obj), mg "__builtins__" = some (.ref bm) ∧ bm ≠ builtinsNs ∧ s.heap.get? bm = some ob ∧ ob.cls = .type "module" ∧ ob.dict = some builtinsNs ∧ ob.data = .plain
  scr : s.heap.get? a = some { cls := .type "list", data := .seq vs.toArray }
  scrI : IntsAre vs ns
  few : ns.length ≤ sizeLine
section
variable {P : Program} {w : World} {K : PySem.W.Frag} {mg mb : Str → Option Value} {cs : List (Addr × Addr)} {s : Shared} {a : Addr} {vs : List Value} {ns : List Int}
abbrev scrO (vs : List Value) : Obj := { cls := .type "list", data := .seq vs.toArray }
abbrev tbs (cs : List (Addr × Addr)) : List Addr := cs.map (·.2)
theorem TopOk.isTab (T : TopOk K mg mb cs s a vs ns) {b : Addr} (h : b ∈ tbs cs) : s.heap.get? b = some { cls := .none, data := .fields #[] } := by
  obtain ⟨p, hp, e⟩ := List.mem_map.mp h
  exact e ▸ T.tab p hp
theorem TopOk.aOut (T : TopOk K mg mb cs s a vs ns) : a ∉ tbs cs := fun h => by
  have q := (T.isTab h).symm.trans T.scr
  have d : Data.fields #[] = Data.seq vs.toArray _ := congrArg Obj.data (Option.some.inj q)
  cases d
/-- which objects are not tracked -/
theorem TopOk.free (T : TopOk K mg mb cs s a vs ns) {b : Addr} {o : Obj} (e : s.heap.get? b = some o) (h1 : ∀ us n, o.data ≠ .seq us n) (h2 : o.data ≠ .fields #[]) : topH K (tbs cs) a (scrO vs) ns b = none := by
  refine topH_out (fun h => ?_) fun ⟨h, _⟩ => ?_
  · have q := (T.isTab h).symm.trans e
    exact h2 (congrArg Obj.data (Option.some.inj q)).symm
  · rw [h] at e
    have q := T.scr.symm.trans e
    exact h1 _ _ (congrArg Obj.data (Option.some.inj q)).symm
theorem TopOk.inK (T : TopOk K mg mb cs s a vs ns) {b : Addr} {o : Obj} (e : K.lookup b = some o) : topH K (tbs cs) a (scrO vs) ns b = none := by
  refine topH_out (fun h => ?_) fun ⟨h, k⟩ => ?_
  · obtain ⟨p, hp, ep⟩ := List.mem_map.mp h
    rw [← ep, T.out p hp] at e
    cases e
  · rw [h, k] at e
    cases e
theorem TopOk.hok (T : TopOk K mg mb cs s a vs ns) : HOk P w (topH K (tbs cs) a (scrO vs) ns) s.heap := fun b u h => by
  rcases topH_some h with ⟨m, rfl⟩ | ⟨_, rfl, k, rfl⟩
  · exact T.isTab m
  · exact ⟨T.scr, by rw [List.length_map]; exact T.few, vs, _, vals_ints T.scrI, T.scr⟩
theorem TopOk.scrL (T : TopOk K mg mb cs s a vs ns) : SqF K ⟨[], fun _ => False⟩ (topH K (tbs cs) a (scrO vs) ns) a (ns.map V.int) := by
  cases k : K.lookup a with
  | none => exact .inl ⟨_, topH_scr T.aOut k, by simp⟩
  | some o =>
    have q := (T.kin a o k).symm.trans T.scr
    cases q
    exact .inr ⟨_, vs.toArray, _, k, rfl, rfl, rfl, by rw [List.size_toArray, T.scrI.length]; exact T.few, by simpa using vals_ints T.scrI⟩
theorem TopOk.nsp (T : TopOk K mg mb cs s a vs ns) {b : Addr} {m : Str → Option Value} (h : s.heap.Ns b m) : (hidT s.heap (topH K (tbs cs) a (scrO vs) ns)).Ns b m := by
  obtain ⟨o, es, ep, e, d, r⟩ := h
  refine ⟨o, es, ep, hidT_get e (T.free e (fun us n z => ?_) fun z => ?_), d, r⟩
  · rw [d] at z
    cases z
  · rw [d] at z
    cases z
theorem TopOk.mod (T : TopOk K mg mb cs s a vs ns) : L2.Mod K mg (hidT s.heap (topH K (tbs cs) a (scrO vs) ns)) := by
  obtain ⟨ml, l1, l2⟩ := T.lim
  exact ⟨fun b o e => hidT_get (T.kin b o e) (T.inK e), T.nsp T.glob, ⟨mb, T.nsp T.bns, T.boot⟩, ⟨ml, T.nsp l1, l2⟩⟩
theorem TopOk.tabB (T : TopOk K mg mb cs s a vs ns) {p : Addr × Addr} (hp : p ∈ cs) : LamX.TabB (hidT s.heap (topH K (tbs cs) a (scrO vs) ns)) mg p.1 p.2 := by
  have t := T.tab p hp
  refine ⟨?_, ?_, fun z => ?_⟩
  · obtain ⟨o, us, file, tf, fl, tg, inF, tx, tt, e, c1, c2, c3, c4⟩ := T.code p hp
    refine ⟨o, us, file, tf, fl, tg, inF, tx, tt, hidT_get e (T.free e (fun vs n z => ?_) fun z => ?_), c1, c2, c3, c4⟩
    · rw [c2] at z
      cases z
    · rw [c2] at z
      cases z
      simp at c3
  · obtain ⟨bm, ob, q1, q2, q3, q4, q5, q6⟩ := T.bm
    have n1 : bm ≠ mainGlobals := fun z => by
      obtain ⟨o, es, ep, e, d, _⟩ := T.glob
      rw [z, e] at q3
      cases q3
      rw [d] at q6
      cases q6
    have n2 : bm ≠ p.2 := fun z => by
      rw [z, t] at q3
      cases q3
      cases q6
    refine ⟨bm, ob, q1, q2, n1, n2, hidT_get q3 (T.free q3 (fun us n z => ?_) fun z => ?_), q4, q5, q6⟩
    · rw [q6] at z
      cases z
    · rw [q6] at z
      cases z
  · obtain ⟨o, es, ep, e, d, _⟩ := T.glob
    rw [z, t] at e
    cases e
    cases d
/-- the law's call -/
theorem call_top {γ : Bool} {k : Nat} {fa : Addr} {fd : FuncData} {x : Str} {sp : Sp} (T : TopOk K mg mb cs s a vs ns) (hr : Room k callerA)
    (F : ∀ base : Heap, K.In base → base.Ns mainGlobals mg → (∀ p ∈ cs, LamX.TabB base mg p.1 p.2) → FnG γ P w K mg base (L2.CX P w) k fa fd [x] sp) (hb : ∀ (s : Shared) (u : Value), BindsTo s fd ⟨[u], []⟩ [(x, u)])
    (hsp : ∀ H : Hp, (∀ p ∈ cs, H p.2 = some (.tbl #[])) → SqF K ⟨[], fun _ => False⟩ H a (ns.map V.int) → sp [.ref a] H (fun v _ => v = .bl true) fun _ _ _ => False) :
    codeAny (model P w) callerA (.call (.ref fa) ⟨[.ref a], []⟩) (fun r s' => r = .ok (.ret (.bool true)) ∧ OldK s.heap s'.heap ∧ s'.os = s.os ∧ AllBare s'.gens) s := by
  have M := T.mod
  have e0 : Env0 P w K mg (hidT s.heap (topH K (tbs cs) a (scrO vs) ns)) callerA [] s (topH K (tbs cs) a (scrO vs) ns) :=
    ⟨rfl, M, fun b o e => of_hidT e, Nat.le_of_eq (hidT_size _ _), trivial, fun b hb => absurd (show b ∈ ([] : List Addr) from hb) (by simp), T.hok, .of_eq T.gens⟩
  have htab : ∀ p ∈ cs, topH K (tbs cs) a (scrO vs) ns p.2 = some (.tbl #[]) := fun p hp => topH_tab (List.mem_map.mpr ⟨p, hp, rfl⟩)
  refine codeAny_mono ((F _ M.kin M.glob fun p hp => T.tabB hp).run callerA [] s (topH K (tbs cs) a (scrO vs) ns) ⟨[.ref a], []⟩ [.ref a] [.ref a] _ _ (fun _ => rfl) hr e0 (hb s (.ref a)) (.cons rfl .nil) (hsp _ htab T.scrL)) fun r s' h => ?_
  cases r with
  | error e =>
    obtain ⟨_, _, _, _, _, _, _, _, _, _, _, _, z⟩ := h
    exact z.elim
  | ok fl =>
    cases fl with
    | next => exact False.elim h
    | brk => exact False.elim h
    | cont => exact False.elim h
    | ret u =>
      obtain ⟨v, H', eos, bare, un, ok', rv, q⟩ := h
      have q : v = .bl true := q
      rw [q] at rv
      obtain rfl : u = Value.bool true := rv
      have kept : ∀ b o, b ∉ tbs cs → s.heap.get? b = some o → s'.heap.get? b = some o := fun b o nb e => by
        by_cases hs : b = a ∧ K.lookup a = none
        · obtain ⟨rfl, k⟩ := hs
          have f := topH_scr (os := scrO vs) (ns := ns) T.aOut k
          have e1 := (ok' _ _ (un.frzs _ _ _ f)).1
          rw [T.scr] at e
          cases e
          exact e1
        · exact un.keep b o e (topH_out nb hs) (by intro z; exact absurd (show b ∈ ([] : List Addr) from z) (by simp)) (by simp)
      have more : ∀ p ∈ cs, ∃ us : Array Value, s'.heap.get? p.2 = some { cls := .none, data := .fields us } := fun p hp => by
        obtain ⟨us, z⟩ := un.tbls p.2 #[] (htab p hp)
        exact ⟨_, ok' p.2 _ z⟩
      refine ⟨rfl, ⟨fun b o e => ?_, fun b o e => ?_⟩, eos, bare⟩
      · by_cases hb : b ∈ tbs cs
        · obtain ⟨p, hp, rfl⟩ := List.mem_map.mp hb
          obtain ⟨us, hu⟩ := more p hp
          have t := T.tab p hp
          rw [t] at e
          cases e
          exact .inr (.inl ⟨((T.code p hp).tab t).isCodeTable, rfl, #[], us, rfl, by rw [Array.empty_append]; exact hu⟩)
        · exact .inl (kept b o hb e)
      · by_cases hb : b ∈ tbs cs
        · obtain ⟨p, hp, rfl⟩ := List.mem_map.mp hb
          obtain ⟨us, hu⟩ := more p hp
          exact ⟨_, hu⟩
        · exact ⟨o, kept b o hb e⟩
end
end Mi

/-! MiI: what the top says of classes of exceptions, and a law's end by it. -/
namespace Mi
open PySem PySem.Spec PyProof.Rows L2
/-! ### an __init__ that hands its argument on and keeps it -/
structure ID where
  f : Str
  a : Str
  st : Stmt
  B : String
  i : String
  newId : String
  bmB : List Value
/-- a class of exceptions: what the small language knows of it, its __init__ -/
structure CD where
  c : CE
  ini : Option ID
/-- the class's __init__, from the class's text -/
def iniOf : Stmt → Stmt
  | .ClassDef _ _ _ body _ _ _ _ _ _ _ => (body.find? fun
    | .FunctionDef .. => true
    | _ => false).getD default
  | s => s
def inBody (a f : Str) : List Stmt → Bool
  | [.Expr (.Call (.Attribute (.Call (.Name s _) [] [] _) m p2) [.Name a1 _] [] p4) _, .Assign [.Attribute (.Name s2 _) f1 _] (.Name a2 _) _] => s == ("super" : Str) && m == ("__init__" : Str) && a1 == a && s2 == ("self" : Str) && f1 == f && a2 == a && (p2.endLine == p4.line)
  | _ => false
theorem inBody_ok {a f : Str} {b : List Stmt} (h : inBody a f b = true) : ∃ (p0 p1 p2 p3 p4 p5 q0 q1 q2 q3 : Pos), b = MiE.initBody a f p0 p1 p2 p3 p4 p5 q0 q1 q2 q3 ∧ (p2.endLine == p4.line) = true := by
  unfold inBody at h
  split at h
  · simp only [Bool.and_eq_true] at h
    obtain ⟨⟨⟨⟨⟨⟨h1, h2⟩, h3⟩, h4⟩, h5⟩, h6⟩, h7⟩ := h
    have h1 := eq_of_beq h1
    have h2 := eq_of_beq h2
    have h3 := eq_of_beq h3
    have h4 := eq_of_beq h4
    have h5 := eq_of_beq h5
    have h6 := eq_of_beq h6
    subst h1 h2 h3 h4 h5 h6
    exact ⟨_, _, _, _, _, _, _, _, _, _, rfl, h7⟩
  · cases h
def inPar (a : Str) : Arguments → Bool
  | ⟨[], [r1, r2], none, [], [], none, []⟩ => r1.arg == ("self" : Str) && r2.arg == a
  | _ => false
def inSB (d : ID) : Bool := inBody d.a d.f (defBody d.st) && inPar d.a (defArgs d.st) && decide ((defScope d.st).names.lookup ("super" : Str) = some .globalImplicit) && decide ((defScope d.st).names.lookup ("__class__" : Str) = some .free) &&
  decide ((defScope d.st).names.lookup ("self" : Str) = some .local) && decide ((defScope d.st).names.lookup d.a = some .local) && ((defScope d.st).names.all fun x => x.2 != .cell) && decide ((defScope d.st).kind = .function) && !(defScope d.st).isCoroutine && !(defScope d.st).isGenerator &&
  !(d.a == ("self" : Str)) && !(d.a == ("__debug__" : Str))
/-- what is looked at of such an __init__ -/
abbrev InV := Option (Str × Str × Arguments × FuncBody × Scope × Addr × List Str × Addr)
def obsAt (K : PySem.W.Frag) (a : Addr) : InV := match K.lookup a with
  | some ⟨_, _, .func fd, _⟩ => some (fd.name, fd.qualname, fd.params, fd.body, fd.scope, fd.globals, fd.closure.map (·.1), fd.builtins)
  | _ => none
def inObs (K : PySem.W.Frag) (x : Str) : InV := obsAt K (He.ma K (He.ga K x) "__init__")
/-- a function that is looked at: where it lies, what is found -/
structure LookF where
  loc : PySem.W.Frag → Addr
  v : InV
def ID.val (x : Str) (d : ID) : InV := some ("__init__", x ++ ".__init__", defArgs d.st, .stmts (defBody d.st), defScope d.st, mainGlobals, ["__class__"], builtinsNs)
def supFn (K : PySem.W.Frag) (file : Str) (C : Addr) : Bool := match K.lookup (He.ma K C "__init__") with
  | some ⟨_, _, .func fd, _⟩ => (match fd.closure with
    | [(_, cc)] => (match K.lookup cc with
      | some ⟨_, _, .cell (some v), _⟩ => decide (v = .ref C)
      | _ => false)
    | _ => false) && (match fd.code with
    | .ref cda => PySem.W.codeIn K (.ref cda) fd.qualname && (match K.lookup cda with
      | some ⟨_, _, .fields vs, _⟩ => (match (vs[2]? : Option Value) with
        | some (.str fl _) => (file == fl)
        | _ => false)
      | _ => false)
    | _ => false) && (match fd.defaults with
    | .none => true
    | _ => false)
  | _ => false
def supCl (K : PySem.W.Frag) (C : Addr) (d : ID) : Bool := match PySem.W.clsIn K C with
  | some cd => decide (PySem.W.mroIn K C (.ref C) = some true) && PySem.W.excTail d.bmB cd.mro && cd.hasDict && He.eqO (PySem.W.alongIn K "__init__" ((cd.mro.dropWhile (· != .ref C)).drop 1)) (some (some (.builtin d.i)))
  | none => false
def supB (K : PySem.W.Frag) (file : Str) (C : Addr) (d : ID) : Bool := supFn K file C && supCl K C d && He.eqO (PySem.W.findIn K (.ref C) "__init__") (some (some (.ref (He.ma K C "__init__")))) && decide (PySem.W.typeIn K (.ref (He.ma K C "__init__")) = some (.type "function")) &&
  He.eqO (PySem.W.nsIn K cStatics "thirdparty.any") (some none) && decide (PySem.W.subIn K (.ref C) (.type d.B) = some true) && PySem.W.excInitIn K C d.bmB d.newId && He.eqO (PySem.W.findIn K (.ref C) "__setattr__") (some (some (.builtin "object.__setattr__"))) &&
  He.eqO (PySem.W.findIn K (.ref C) d.f) (some none)
def clsB (K : PySem.W.Frag) (file : Str) (c : CD) : Bool := PySem.W.keepIn K (.ref (He.ga K c.c.x)) && decide (PySem.W.subIn K (.ref (He.ga K c.c.x)) (.type "BaseException") = some true) && decide (PySem.W.typeIn K (.ref (He.ga K c.c.x)) = some (.type "type")) && xfB K (He.ga K c.c.x) &&
  (match c.ini with
  | none => PySem.W.excIn K (He.ga K c.c.x) He.veBase "ValueError.__new__"
  | some d => supB K file (He.ga K c.c.x) d)
def exmB (K : PySem.W.Frag) (cs : List CD) : Bool := cs.all fun c => (List.range cs.length).all fun j => match cs[j]? with
  | some e => decide (PySem.W.exmOne K (.ref (He.ga K c.c.x)) (.ref (He.ga K e.c.x)) = some (c.c.sup.contains j))
  | none => false
/-- how its arguments are bound -/
def BindIni (d : ID) : Prop := ∀ (q : Str) (cl : List (Str × Addr)) (kV doc pm cdv ct : Value) (an : Option Addr) (u v : Value), bindArgs (PySem.W.fnX "__init__" q (defArgs d.st) (defBody d.st) (defScope d.st) cl .none kV doc pm an cdv ct) ⟨[u, v], []⟩ = pure [(("self" : Str), u), (d.a, v)]
/-- what is asked of a class's description, apart from the top -/
structure CDOk (c : CD) : Prop where
  f : c.c.f = c.ini.map (·.f)
  ini : ∀ d, c.ini = some d → inSB d = true ∧ BindIni d ∧ PySem.W.KxsFacts d.B d.i ∧ ExcBaseFacts d.B d.newId d.i d.bmB ∧ (∀ self, refuseLoop self "__setattr__" d.bmB = pure ()) ∧ d.bmB.contains (.type "object") = true
section
variable {K : PySem.W.Frag} {h : Heap} {mg : Str → Option Value}
theorem supC_of {prog : Program} {x : Str} {d : ID} (hs : inSB d = true) (hbi : BindIni d) (ob : inObs K x = d.val x) (hx : PySem.W.subIn K (.ref (He.ga K x)) (.type "BaseException") = some true) (ht : PySem.W.typeIn K (.ref (He.ga K x)) = some (.type "type")) (hk : PySem.W.keepIn K (.ref (He.ga K x)) = true)
    (h : supB K prog.main.file (He.ga K x) d = true) : MiE.SupC prog K (He.ga K x) d.f d.B d.i d.newId d.bmB := by
  unfold supB at h
  simp only [Bool.and_eq_true, decide_eq_true_eq] at h
  obtain ⟨⟨⟨⟨⟨⟨⟨⟨h1, h2⟩, h3⟩, h4⟩, h5⟩, h6⟩, h7⟩, h8⟩, h9⟩ := h
  have h3 := He.eqO_ok h3
  have h5 := He.eqO_ok h5
  have h8 := He.eqO_ok h8
  have h9 := He.eqO_ok h9
  refine ⟨?_, h5, h6, h7, hx, ht, h8, h9, hk⟩
  unfold inSB at hs
  simp only [Bool.and_eq_true, decide_eq_true_eq, Bool.not_eq_true'] at hs
  obtain ⟨⟨⟨⟨⟨⟨⟨⟨⟨⟨⟨s1, s2⟩, s3⟩, s4⟩, s5⟩, s6⟩, s7⟩, s8⟩, s9⟩, s10⟩, s11⟩, s12⟩ := hs
  obtain ⟨p0, p1, p2, p3, p4, p5, q0, q1, q2, q3, eb, el⟩ := inBody_ok s1
  unfold supFn at h1
  unfold inObs obsAt ID.val at ob
  cases q : K.lookup (He.ma K (He.ga K x) "__init__") with
  | none => rw [q] at h1; cases h1
  | some o =>
    obtain ⟨oc, od, dt, osl⟩ := o
    rw [q] at h1 ob
    cases dt with
    | func fd =>
      obtain ⟨n1, n2, n3, n4, n5, n6, n7, n8, n9, n10, n11, n12, n13, n14, n15⟩ := fd
      simp only [Option.some.injEq, Prod.mk.injEq] at ob
      obtain ⟨e1, e2, e3, e4, e5, e6, e7, e8⟩ := ob
      subst e1 e2 e3 e4 e5 e6 e8
      simp only [Bool.and_eq_true] at h1
      obtain ⟨⟨g1, g2⟩, g3⟩ := h1
      have g3 : n8 = .none := by
        cases n8 <;> first | rfl | cases g3
      subst g3
      match n7, e7, g1 with
      | [(y, cc)], e7, g1 =>
        have ey : y = ("__class__" : Str) := by
          simp only [List.map_cons, List.map_nil, List.cons.injEq, and_true] at e7
          exact e7
        subst ey
        simp only at g1
        cases qc : K.lookup cc with
        | none => rw [qc] at g1; cases g1
        | some oc2 =>
          obtain ⟨c1, c2, c3, c4⟩ := oc2
          rw [qc] at g1
          cases c3 with
          | cell ov =>
            cases ov with
            | none => cases g1
            | some v =>
              have ev : v = .ref (He.ga K x) := of_decide_eq_true g1
              subst ev
              cases n13 with
              | ref cda =>
                simp only [Bool.and_eq_true] at g2
                obtain ⟨k1, k2⟩ := g2
                cases qd : K.lookup cda with
                | none => rw [qd] at k2; cases k2
                | some od2 =>
                  obtain ⟨d1, d2, d3, d4⟩ := od2
                  rw [qd] at k2
                  cases d3 with
                  | fields vs =>
                    simp only at k2
                    cases qv : vs[2]? with
                    | none => rw [qv] at k2; cases k2
                    | some v2 =>
                      rw [qv] at k2
                      cases v2 with
                      | str fl tf =>
                        unfold supCl at h2
                        cases qk : PySem.W.clsIn K (He.ga K x) with
                        | none => rw [qk] at h2; cases h2
                        | some cd =>
                          rw [qk] at h2
                          simp only [Bool.and_eq_true, decide_eq_true_eq] at h2
                          obtain ⟨⟨⟨m1, m2⟩, m3⟩, m4⟩ := h2
                          have m4 := He.eqO_ok m4
                          obtain ⟨ar, ha1, ha2⟩ : ∃ ar : Arg, ((defArgs d.st).posonlyargs ++ (defArgs d.st).args).head? = some ar ∧ ar.arg = "self" := by
                            have s2' := s2
                            unfold inPar at s2'
                            split at s2'
                            · rename_i r1 r2 ee
                              rw [Bool.and_eq_true] at s2'
                              rw [ee]
                              exact ⟨r1, rfl, eq_of_beq s2'.1⟩
                            · cases s2'
                          refine ⟨He.ma K (He.ga K x) "__init__", cc, cda, d.a, x ++ ".__init__", fl, p0, p1, p2, p3, p4, p5, q0, q1, q2, q3, defArgs d.st, defScope d.st, .none, n9, n10, n11, n14, oc, d1, c1, n12, od, d2, c2, osl, d4, c4, vs, tf, cd, ar, ?_, k1, qd, qv, k2, qc, rfl, m1, m2, m3, m4, ha1, ha2, s3, s4, s5, s6, s7, s8, s9, s10, ?_, s12, el, ?_, h3, h4⟩
                          · rw [← eb]
                            exact q
                          · intro e
                            rw [e] at s11
                            simp at s11
                          · intro u v
                            rw [← eb]
                            exact hbi _ _ _ _ _ _ _ _ u v
                      | _ => cases k2
                  | _ => cases k2
              | _ => cases g2
          | _ => cases g1
    | _ => cases h1
/-- what a class's facts are -/
theorem clsOk_of {prog : Program} (X : K.In h) (G : h.Ns mainGlobals mg) {c : CD} (cok : CDOk c) (hg : (He.Fa.glo c.c.x).ok K = true) (hb : clsB K prog.main.file c = true) (ob : ∀ d, c.ini = some d → inObs K c.c.x = d.val c.c.x) : ClsOk prog K mg c.c (He.ga K c.c.x) := by
  unfold clsB at hb
  simp only [Bool.and_eq_true, decide_eq_true_eq] at hb
  obtain ⟨⟨⟨⟨h1, h2⟩, h3⟩, h4⟩, h5⟩ := hb
  refine ⟨He.glo_ok X G hg, h1, h2, h3, xfB_ok h4, ?_⟩
  cases hi : c.ini with
  | none =>
    rw [hi] at h5
    have : c.c.f = none := by rw [cok.f, hi]; rfl
    rw [this]
    exact ⟨_, _, _, _, PySem.F.excBase_ValueError, h5⟩
  | some d =>
    rw [hi] at h5
    have : c.c.f = some d.f := by rw [cok.f, hi]; rfl
    rw [this]
    obtain ⟨i1, ib, i2, i3, i4, i5⟩ := cok.ini d hi
    have S := supC_of i1 ib (ob d hi) h2 h3 h1 h5
    exact ⟨S.noat, _, _, _, _, S, i2, i3, i4, i5⟩
end
/-! ### the Hook -/
/-- modules are not gone into, nor what the statics name -/
def growM (g : Addr → Option Obj) (as : List Addr) : List Addr := (as ++ as.flatMap fun a => if a = cStatics then [] else match g a with
  | some o => match o.cls with
    | .type "module" => []
    | .type "code" => []
    | _ => He.refsD o
  | none => []).eraseDups
def asM (g : Addr → Option Obj) : Nat → List Addr
  | 0 => [mainGlobals, cStatics]
  | n + 1 => growM g (asM g n)
abbrev AlM := (He.AlD × Bool) × List InV
/-- the classes' __init__s -/
def inisOf (cs : List CD) : List LookF := cs.filterMap fun c => c.ini.map fun d => ⟨fun K => He.ma K (He.ga K c.c.x) "__init__", d.val c.c.x⟩
def obsK (fa : List He.Fa) (fn : List He.DefD) (tf : List He.Defn) (ex : PySem.W.Frag → Bool) (is : List LookF) (g : Addr → Option Obj) (K : PySem.W.Frag) : AlM := ((He.obsD fa fn K, ex K && He.tabsB g tf K), is.map fun d => obsAt K (d.loc K))
def obsM (n : Nat) (fa : List He.Fa) (fn : List He.DefD) (tf : List He.Defn) (ex : PySem.W.Frag → Bool) (is : List LookF) (g : Addr → Option Obj) : AlM := obsK fa fn tf ex is g (He.frT g (asM g n))
def valM (fn : List He.DefD) (is : List LookF) : AlM := ((He.valD fn, true), is.map fun d => d.v)
structure SaysM (fa : List He.Fa) (fn : List He.DefD) (tf : List He.Defn) (ex : PySem.W.Frag → Bool) (is : List LookF) (h : Heap) (K : PySem.W.Frag) : Prop where
  t : He.SaysD fa fn K
  more : ex K = true
  hd : ∀ p ∈ tf, PySem.W.codeHdIn K (He.cT K p).1 (He.cT K p).2 = true
  out : ∀ p ∈ tf, K.lookup (He.cT K p).2 = none
  empty : ∀ p ∈ tf, h.get? (He.cT K p).2 = some { cls := .none, data := .fields #[] }
  ini : ∀ d ∈ is, obsAt K (d.loc K) = d.v
theorem map_eq {α β : Type} {f g : α → β} : ∀ {l : List α}, l.map f = l.map g → ∀ x ∈ l, f x = g x
  | [], _, x, h => by simp at h
  | a :: l, e, x, h => by
    simp only [List.map_cons, List.cons.injEq] at e
    rcases List.mem_cons.mp h with q | q
    · rw [q]; exact e.1
    · exact map_eq e.2 x q
theorem saysM_of {n : Nat} {fa : List He.Fa} {fn : List He.DefD} {tf : List He.Defn} {ex : PySem.W.Frag → Bool} {is : List LookF} {h : Heap} (e : obsM n fa fn tf ex is h.get? = valM fn is) : SaysM fa fn tf ex is h (He.frT h.get? (asM h.get? n)) := by
  have e1 : He.obsD fa fn (He.frT h.get? (asM h.get? n)) = He.valD fn := congrArg (fun z : AlM => z.1.1) e
  have e2 : (ex (He.frT h.get? (asM h.get? n)) && He.tabsB h.get? tf (He.frT h.get? (asM h.get? n))) = true := congrArg (fun z : AlM => z.1.2) e
  have e3 : is.map (fun d => obsAt (He.frT h.get? (asM h.get? n)) (d.loc (He.frT h.get? (asM h.get? n)))) = is.map fun d => d.v := congrArg (fun z : AlM => z.2) e
  rw [Bool.and_eq_true] at e2
  have key : ∀ p ∈ tf, PySem.W.codeHdIn (He.frT h.get? (asM h.get? n)) (He.cT (He.frT h.get? (asM h.get? n)) p).1 (He.cT (He.frT h.get? (asM h.get? n)) p).2 = true ∧ ∃ o, h.get? (He.cT (He.frT h.get? (asM h.get? n)) p).2 = some o ∧ He.emptyTab o = true := fun p hp => by
    have h3 := List.all_eq_true.mp e2.2 p hp
    rw [Bool.and_eq_true] at h3
    refine ⟨h3.1, ?_⟩
    cases q : h.get? (He.cT (He.frT h.get? (asM h.get? n)) p).2 with
    | none =>
      have h4 := h3.2
      rw [q] at h4
      cases h4
    | some o =>
      have h4 := h3.2
      rw [q] at h4
      exact ⟨o, rfl, h4⟩
  exact ⟨e1, e2.1, fun p hp => (key p hp).1, fun p hp => let ⟨_, o, q, z⟩ := key p hp; He.frT_none q z, fun p hp => let ⟨_, o, q, z⟩ := key p hp; by rw [q, He.emptyTab_eq z], map_eq e3⟩
def hookM (n : Nat) (fa : List He.Fa) (fn : List He.DefD) (tf : List He.Defn) (ex : PySem.W.Frag → Bool) (is : List LookF) : PySem.W.Hook where
  α := AlM
  obs := fun s => obsM n fa fn tf ex is s.heap.get?
  val := fun _ => valM fn is
  says := fun _ h => ∃ K : PySem.W.Frag, K.In h ∧ SaysM fa fn tf ex is h K
  of := fun _ _ e => ⟨_, He.frT_in, saysM_of e⟩
  keeps := fun _ _ _ ⟨K, hK, c⟩ k => ⟨K, PySem.W.Frag.In.keeps hK k, ⟨c.t, c.more, c.hd, c.out, fun p hp => k _ _ (c.empty p hp), c.ini⟩⟩
theorem obsM_eq {n : Nat} {fa : List He.Fa} {fn : List He.DefD} {tf : List He.Defn} {ex : PySem.W.Frag → Bool} {is : List LookF} {g : Addr → Option Obj} {s : Shared} (h : ∀ a, g a = s.heap.get? a) : obsM n fa fn tf ex is g = (hookM n fa fn tf ex is).obs s := by
  have e : g = s.heap.get? := funext h
  rw [e] <;> rfl
end Mi

/-! Mi14: a law's end. -/
namespace Mi
open PySem PySem.Spec PyProof.Rows L2
def defD (f : FE) : He.DefD := ⟨(f.x, none), f.nm, f.nm, defArgs f.st, defBody f.st, defScope f.st, [], []⟩
def fnL (fs : List FE) : List He.DefD := fs.map defD

/-- the defs that have lambdas -/
def tfOf (fs : List FE) : List He.Defn := (fs.filter (·.lam)).map fun f => (f.x, none)
def tabsOf (K : PySem.W.Frag) (fs : List FE) : List (Addr × Str) := (fs.filter (·.lam)).map fun f => ((He.cT K (f.x, none)).2, (envOfC f.nm default 0 0 .none).qual ++ "<lambda>")
/-! ### classes of instances with slots -/
/-- such a class: what the small language knows of it, its __init__, its properties' getters (property, slot, def) -/
structure OD where
  o : OE
  ini : Stmt
  gets : List (Str × Str × Stmt)
/-- a def of a class, by its name -/
def methOf (x : Str) : Stmt → Stmt
  | .ClassDef _ _ _ body _ _ _ _ _ _ _ => (body.find? fun
    | .FunctionDef y .. => y == x
    | _ => false).getD default
  | s => s
def gaO (K : PySem.W.Frag) (C : Addr) (f : Str) : Addr := match PySem.W.recIn K (He.ma K C f) "property" with
  | some (.ref a :: _) => a
  | _ => 0
def stVal (nm q : Str) (st : Stmt) : InV := some (nm, q, defArgs st, .stmts (defBody st), defScope st, mainGlobals, [], builtinsNs)
def ios1 (od : OD) : List LookF := ⟨fun K => He.ma K (He.ga K od.o.x) "__init__", stVal "__init__" (od.o.x ++ ".__init__") od.ini⟩ ::
  od.gets.map fun q => ⟨fun K => gaO K (He.ga K od.o.x) q.1, stVal q.1 (od.o.x ++ "." ++ q.1) q.2.2⟩
def iosOf (os : List OD) : List LookF := os.flatMap ios1
def fnB (K : PySem.W.Frag) (a : Addr) : Bool := match K.lookup a with
  | some ⟨_, _, .func fd, _⟩ => PySem.W.codeIn K fd.code fd.qualname && (match fd.defaults with
    | .none => true
    | _ => false)
  | _ => false
theorem fnB_ok {K : PySem.W.Frag} {a : Addr} {nm q : Str} {st : Stmt} (h : fnB K a = true) (ob : obsAt K a = stVal nm q st) : ∃ (kV doc pm cdv ct oc : Value) (an od : Option Addr) (osl : Array (Option Value)),
    K.lookup a = some ⟨oc, od, .func (PySem.W.fnOf nm q (defArgs st) (defBody st) (defScope st) .none kV doc pm an cdv ct), osl⟩ ∧ PySem.W.codeIn K cdv q = true := by
  unfold fnB at h
  unfold obsAt stVal at ob
  cases e : K.lookup a with
  | none => rw [e] at h; cases h
  | some o =>
    obtain ⟨oc, od, dt, osl⟩ := o
    rw [e] at h ob
    cases dt with
    | func fd =>
      obtain ⟨n1, n2, n3, n4, n5, n6, n7, n8, n9, n10, n11, n12, n13, n14, n15⟩ := fd
      simp only [Option.some.injEq, Prod.mk.injEq] at ob
      obtain ⟨e1, e2, e3, e4, e5, e6, e7, e8⟩ := ob
      subst e1 e2 e3 e4 e5 e6 e8
      have e7 : n7 = [] := by
        cases n7 with
        | nil => rfl
        | cons x r => simp at e7
      subst e7
      simp only [Bool.and_eq_true] at h
      have g3 : n8 = .none := by
        cases n8 <;> first | rfl | cases h.2
      subst g3
      exact ⟨n9, n10, n11, n13, n14, oc, n12, od, osl, rfl, h.1⟩
    | _ => cases h
def slB (K : PySem.W.Frag) (C : Addr) (f : Str) (i : Nat) : Bool := He.eqO (PySem.W.findIn K (.ref C) f) (some (some (.ref (He.ma K C f)))) && He.eqO (PySem.W.specialIn K (.ref (He.ma K C f)) "__get__") (some (some (.builtin "member_descriptor.__get__"))) &&
  decide (PySem.W.takesIn K (.ref (He.ma K C f)) = some true) && decide (PySem.W.typeIn K (.ref (He.ma K C f)) = some (.type "member_descriptor")) && decide (PySem.W.slotIn K (He.ma K C f) C = some i) && decide (i < 1000)
theorem slB_ok {K : PySem.W.Frag} {C : Addr} {f : Str} {i : Nat} (h : slB K C f i = true) : SlX.Slot1 K C f (He.ma K C f) i := by
  unfold slB at h
  simp only [Bool.and_eq_true, decide_eq_true_eq] at h
  obtain ⟨⟨⟨⟨⟨h1, h2⟩, h3⟩, h4⟩, h5⟩, h6⟩ := h
  exact ⟨He.eqO_ok h1, He.eqO_ok h2, h3, h4, h5, h6⟩
def prB (K : PySem.W.Frag) (C : Addr) (gs : List (Str × Str × Stmt)) (p : Str × Nat) : Bool := match gs.lookup p.1 with
  | some q => He.eqO (PySem.W.findIn K (.ref C) p.1) (some (some (.ref (He.ma K C p.1)))) && He.eqO (PySem.W.specialIn K (.ref (He.ma K C p.1)) "__get__") (some (some (.builtin "property.__get__"))) && decide (PySem.W.takesIn K (.ref (He.ma K C p.1)) = some true) &&
    (match PySem.W.recIn K (He.ma K C p.1) "property" with
    | some (.ref _ :: _) => true
    | _ => false) && fnB K (gaO K C p.1) && slB K C q.1 p.2
  | none => false
def fmC (K : PySem.W.Frag) (C : Addr) : Bool := PySem.W.plainGet K C Str.empty && PySem.W.isClsIn K C && PySem.W.plainOver K C && He.eqO (PySem.W.findIn K (.ref C) "__setattr__") (some (some (.builtin "object.__setattr__"))) &&
  slB K C "own_known" 0 && slB K C "own_level" 1 && slB K C "own_maker" 2 && slB K C "own_modulus" 3 && slB K C "own_sign" 4 && slB K C "own_weight" 5
theorem fmC_ok {K : PySem.W.Frag} {C : Addr} (h : fmC K C = true) : MiO.FmCls K C := by
  unfold fmC at h
  simp only [Bool.and_eq_true] at h
  obtain ⟨⟨⟨⟨⟨⟨⟨⟨⟨h1, h2⟩, h3⟩, h4⟩, s0⟩, s1⟩, s2⟩, s3⟩, s4⟩, s5⟩ := h
  exact ⟨⟨h1, h2, h3, He.eqO_ok h4⟩, ⟨_, slB_ok s0⟩, ⟨_, slB_ok s1⟩, ⟨_, slB_ok s2⟩, ⟨_, slB_ok s3⟩, ⟨_, slB_ok s4⟩, ⟨_, slB_ok s5⟩⟩
def isiB (K : PySem.W.Frag) (C : Addr) : Bool := He.eqO (PySem.W.findIn K (.ref C) "__class__") (some (some (.builtin "object.__class__"))) && He.eqO (PySem.W.specialIn K (.builtin "object.__class__") "__get__") (some (some (.builtin "getset_descriptor.__get__"))) &&
  decide (PySem.W.takesIn K (.builtin "object.__class__") = some true) && decide (PySem.W.mroIn K C (.type "object") = some true) && decide (PySem.W.kitOne K (.ref C) (.ref C) = some true) &&
  (["NoneType", "int", "bool", "str", "tuple", "list", "dict"] : List String).all fun t => decide (PySem.W.kitOne K (.type t) (.ref C) = some false)
def objB (K : PySem.W.Frag) (od : OD) : Bool := isiB K (He.ga K od.o.x) && (fmC K (He.ga K od.o.x) && PySem.W.makesIn K (He.ga K od.o.x) && He.eqO (PySem.W.findIn K (.ref (He.ga K od.o.x)) "__init__") (some (some (.ref (He.ma K (He.ga K od.o.x) "__init__")))) &&
  PySem.W.isFn K (.ref (He.ma K (He.ga K od.o.x) "__init__")) && PySem.W.keepIn K (.ref (He.ga K od.o.x)) && fnB K (He.ma K (He.ga K od.o.x) "__init__") && (od.o.slots.all fun p => slB K (He.ga K od.o.x) p.1 p.2) && od.o.props.all (prB K (He.ga K od.o.x) od.gets))
def BindSt (nm q : Str) (st : Stmt) (ps : List Str) : Prop := ∀ (kV doc pm : Value) (an : Option Addr) (cdv ct : Value) (us : List Value), us.length = ps.length → bindArgs (PySem.W.fnOf nm q (defArgs st) (defBody st) (defScope st) .none kV doc pm an cdv ct) ⟨us, []⟩ = pure (ps.zip us)
def AllG (x : Str) : List (Str × Str × Stmt) → Prop
  | [] => True
  | q :: r => BindSt q.1 (x ++ "." ++ q.1) q.2.2 ["self"] ∧ AllG x r
theorem allG_of {x : Str} : ∀ {l : List (Str × Str × Stmt)}, AllG x l → ∀ q ∈ l, BindSt q.1 (x ++ "." ++ q.1) q.2.2 ["self"]
  | [], _, q, h => by simp at h
  | a :: r, h, q, hq => by
    rcases List.mem_cons.mp hq with e | e
    · subst e; exact h.1
    · exact allG_of h.2 q e
def odS (od : OD) : Bool := MiO.fmB (defBody od.ini) && scopeOk { x := od.o.x, st := od.ini, N := MiO.fmN, ps := MiO.fmN } && od.gets.all fun q => MiO.gtB q.2.1 (defBody q.2.2) && scopeOk { x := q.1, st := q.2.2, N := ["self"], ps := ["self"] }
structure ODOk (od : OD) : Prop where
  st : odS od = true
  bi : BindSt "__init__" (od.o.x ++ ".__init__") od.ini MiO.fmN
  bg : AllG od.o.x od.gets
def AllO : List OD → Prop
  | [] => True
  | f :: r => ODOk f ∧ AllO r
theorem allO_of : ∀ {l : List OD}, AllO l → ∀ f ∈ l, ODOk f
  | [], _, f, h => by simp at h
  | a :: r, h, f, hf => by
    rcases List.mem_cons.mp hf with q | q
    · subst q; exact h.1
    · exact allO_of h.2 f q
theorem mem_lookupS {α : Type} {x : Str} {v : α} : ∀ {l : List (Str × α)}, l.lookup x = some v → (x, v) ∈ l
  | [], h => by simp at h
  | (y, u) :: r, h => by
    rw [List.lookup_cons] at h
    cases e : x == y with
    | true =>
      rw [e] at h
      cases h
      have := eq_of_beq e
      subst this
      exact List.mem_cons_self
    | false =>
      rw [e] at h
      exact List.mem_cons_of_mem _ (mem_lookupS h)
theorem binds_st {K : PySem.W.Frag} {nm q : Str} {st : Stmt} {ps : List Str} {kV doc pm cdv ct : Value} {an : Option Addr} (h : BindSt nm q st ps) : Binds K (PySem.W.fnOf nm q (defArgs st) (defBody st) (defScope st) .none kV doc pm an cdv ct) ps [] := .all fun us hl => h _ _ _ _ _ _ us hl
theorem objOk_of {g : GE} {K : PySem.W.Frag} {mg : Str → Option Value} {c : Nat} {od : OD} (hoc : g.oc c = some (He.ga K od.o.x)) (hg : mg od.o.x = some (.ref (He.ga K od.o.x))) (ok : ODOk od) (h : objB K od = true) (ob : ∀ i ∈ ios1 od, obsAt K (i.loc K) = i.v) : ObjOk g K mg c od.o (He.ga K od.o.x) := by
  unfold objB at h
  rw [Bool.and_eq_true] at h
  obtain ⟨hi, h⟩ := h
  unfold isiB at hi
  simp only [Bool.and_eq_true, decide_eq_true_eq] at hi
  obtain ⟨⟨⟨⟨⟨i1, i2⟩, i3⟩, i4⟩, i5⟩, i6⟩ := hi
  simp only [Bool.and_eq_true] at h
  obtain ⟨⟨⟨⟨⟨⟨⟨h1, h2⟩, h3⟩, h4⟩, h5⟩, h6⟩, h7⟩, h8⟩ := h
  have hs := ok.st
  unfold odS at hs
  simp only [Bool.and_eq_true] at hs
  obtain ⟨⟨s1, s2⟩, s3⟩ := hs
  have oi := ob ⟨fun K => He.ma K (He.ga K od.o.x) "__init__", stVal "__init__" (od.o.x ++ ".__init__") od.ini⟩ List.mem_cons_self
  obtain ⟨kV, doc, pm, cdv, ct, oc, an, oa, osl, l1, l2⟩ := fnB_ok h6 oi
  refine ⟨hoc, hg, fmC_ok h1, ⟨He.eqO_ok i1, He.eqO_ok i2, i3, i4⟩, i5, fun t ht => of_decide_eq_true (List.all_eq_true.mp i6 t ht), ⟨_, _, ⟨h2, He.eqO_ok h3, h4, h5⟩, _, _, _, _, _, kV, doc, pm, cdv, ct, oc, an, oa, osl, rfl, l1, l2, scope_of s2, s1, binds_st ok.bi⟩, fun f i hf => ⟨_, slB_ok (List.all_eq_true.mp h7 _ (mem_lookupS hf))⟩, fun f i hf => ?_⟩
  have hp := List.all_eq_true.mp h8 _ (mem_lookupS hf)
  unfold prB at hp
  split at hp
  · rename_i q hq
    have mq := mem_lookupS hq
    simp only [Bool.and_eq_true, decide_eq_true_eq] at hp
    obtain ⟨⟨⟨⟨⟨p1, p2⟩, p3⟩, p4⟩, p5⟩, p6⟩ := hp
    have og := ob ⟨fun K => gaO K (He.ga K od.o.x) f, stVal f (od.o.x ++ "." ++ f) q.2⟩ (List.mem_cons_of_mem _ (List.mem_map.mpr ⟨_, mq, rfl⟩))
    obtain ⟨kV, doc, pm, cdv, ct, oc, an, oa, osl, l1, l2⟩ := fnB_ok p5 og
    have sg := List.all_eq_true.mp s3 _ mq
    rw [Bool.and_eq_true] at sg
    refine ⟨_, gaO K (He.ga K od.o.x) f, He.eqO_ok p1, He.eqO_ok p2, p3, ?_, q.1, _, _, _, _, _, _, kV, doc, pm, cdv, ct, oc, an, oa, osl, l1, l2, scope_of sg.2, sg.1, slB_ok p6, binds_st (allG_of ok.bg _ mq)⟩
    unfold gaO
    split at p4
    · rename_i a rest e
      rw [e]
      exact ⟨rest, rfl⟩
    · cases p4
  · cases hp
def faL (fs : List FE) (cd : List CD) (os : List OD) : List He.Fa := fs.map (fun f => .glo f.x) ++ (BN.map .free ++ ((cd.map fun c => .glo c.c.x) ++ os.map fun o => .glo o.o.x))
/-! ### constants of the module -/
mutual
def cvB (K : PySem.W.Frag) : MV → Value → Bool
  | .non, .none => true
  | .bl b, .bool c => b == c
  | .int i, .int j _ => decide (i = j)
  | .str s, .str y _ => decide (s = y)
  | .tup xs, .ref a => match K.lookup a with
    | some ⟨.type c, _, .seq its _, _⟩ => decide (c = "tuple") && decide (its.size ≤ sizeLine) && cvsB K xs its.toList
    | _ => false
  | _, _ => false
def cvsB (K : PySem.W.Frag) : List MV → List Value → Bool
  | [], [] => true
  | x :: xs, v :: vs => cvB K x v && cvsB K xs vs
  | _, _ => false
end
mutual
theorem cv_ok {g : GE} : ∀ (x : MV) (v : Value), cvB g.K x v = true → ∃ w, RelV w v ∧ NL x ∧ ∀ ρ H, RV g ρ H x w
  | .non, v, h => by
    cases v <;> first | (simp only [cvB] at h; cases h; done) | skip
    exact ⟨.non, rfl, (fun _ e => nomatch e), fun _ _ => .non⟩
  | .bl b, v, h => by
    cases v <;> first | (simp only [cvB] at h; cases h; done) | skip
    simp only [cvB] at h
    have := eq_of_beq h
    subst this
    exact ⟨.bl b, rfl, (fun _ e => nomatch e), fun _ _ => .bl b⟩
  | .int i, v, h => by
    cases v <;> first | (simp only [cvB] at h; cases h; done) | skip
    simp only [cvB, decide_eq_true_eq] at h
    subst h
    exact ⟨.int i, ⟨_, rfl⟩, (fun _ e => nomatch e), fun _ _ => .int i⟩
  | .str s, v, h => by
    cases v <;> first | (simp only [cvB] at h; cases h; done) | skip
    simp only [cvB, decide_eq_true_eq] at h
    subst h
    exact ⟨.str s, ⟨_, rfl⟩, (fun _ e => nomatch e), fun _ _ => .str s⟩
  | .tup xs, v, h => by
    cases v <;> first | (simp only [cvB] at h; cases h; done) | skip
    rename_i a
    simp only [cvB] at h
    split at h
    · rename_i c dd its n sl q
      simp only [Bool.and_eq_true, decide_eq_true_eq] at h
      obtain ⟨⟨h1, h2⟩, h3⟩ := h
      obtain ⟨ws, r1, r2⟩ := cvs_ok xs its.toList h3
      exact ⟨.ref a, rfl, (fun _ e => nomatch e), fun ρ H => .tup (.inr ⟨_, its, n, q, congrArg Value.type h1, rfl, h2, r1⟩) (r2 ρ H)⟩
    · cases h
  | .lst _, v, h => by cases v <;> (simp only [cvB] at h; cases h)
  | .fz _, v, h => by cases v <;> (simp only [cvB] at h; cases h)
  | .scr _, v, h => by cases v <;> (simp only [cvB] at h; cases h)
  | .ref _, v, h => by cases v <;> (simp only [cvB] at h; cases h)
  | .fn _, v, h => by cases v <;> (simp only [cvB] at h; cases h)
  | .edc, v, h => by cases v <;> (simp only [cvB] at h; cases h)
theorem cvs_ok {g : GE} : ∀ (xs : List MV) (vs : List Value), cvsB g.K xs vs = true → ∃ ws, Vals ws vs ∧ ∀ ρ H, RVs g ρ H xs ws
  | [], [], _ => ⟨[], .nil, fun _ _ => .nil⟩
  | [], _ :: _, h => by simp only [cvsB] at h; cases h
  | _ :: _, [], h => by simp only [cvsB] at h; cases h
  | x :: xs, v :: vs, h => by
    simp only [cvsB, Bool.and_eq_true] at h
    obtain ⟨w, r1, _, r2⟩ := cv_ok x v h.1
    obtain ⟨ws, q1, q2⟩ := cvs_ok xs vs h.2
    exact ⟨w :: ws, .cons r1 q1, fun ρ H => .cons (r2 ρ H) (q2 ρ H)⟩
end
def cstB (K : PySem.W.Frag) (c : Str × MV) : Bool := match PySem.W.nsIn K mainGlobals c.1 with
  | some (some v) => cvB K c.2 v
  | _ => false
theorem cst_ok {g : GE} {h : Heap} {mg : Str → Option Value} (X : g.K.In h) (G : h.Ns mainGlobals mg) {c : Str × MV} (e : cstB g.K c = true) : ∃ u w, mg c.1 = some u ∧ RelV w u ∧ NL c.2 ∧ ∀ ρ H, RV g ρ H c.2 w := by
  unfold cstB at e
  split at e
  · rename_i v q
    obtain ⟨w, h1, h2, h3⟩ := cv_ok c.2 v e
    exact ⟨v, w, PySem.W.mg_of X G q, h1, h2, h3⟩
  · cases e
def exOf (file : Str) (cs : List (Str × MV)) (cd : List CD) (os : List OD) (fs : List FE) (K : PySem.W.Frag) : Bool := os.all (objB K) && (cs.all (cstB K) && cd.all (clsB K file) && exmB K cd && decide ((((tfOf fs).map fun p => (He.cT K p).2)).Nodup))
def geOf (K : PySem.W.Frag) (fs : List FE) (cd : List CD) (os : List OD) : GE := ⟨K, fun i => (fs[i]?).map fun f => He.ga K f.x, fun i => (cd[i]?).map fun c => (He.ga K c.c.x, c.c.f.getD Str.empty), tabsOf K fs, fun i => (fs.map (·.ask)).getD i false, fun i => (os[i]?).map fun o => He.ga K o.o.x⟩
def cg0 (fs : List FE) (cs : List (Str × MV)) (cd : List CD) (os : List OD) : CG := { fns := fs.map (·.x), cst := cs, cls := cd.map (·.c), gfn := fs.map (·.ask), objs := os.map (·.o) }
/-- the defs that tell what a call raises -/
def metsOf (G : CG) (fs : List FE) : List (Str × List Hd × Str) := fs.filterMap fun f => match f.N, f.ps with
  | [a, n], [b] => if a = b ∧ f.nm = f.x then (metOf G (defScope f.st) a n (defBody f.st)).map fun q => (f.x, q.1.map (·.2), q.2) else none
  | _, _ => none
def cgOf (fs : List FE) (cs : List (Str × MV)) (cd : List CD) (os : List OD) : CG := { cg0 fs cs cd os with mets := metsOf (cg0 fs cs cd os) fs }
def BindOk (f : FE) : Prop := ∀ (kV doc pm : Value) (an : Option Addr) (cdv ct : Value) (us : List Value), us.length = f.ps.length → bindArgs (PySem.W.fnOf f.nm f.nm (defArgs f.st) (defBody f.st) (defScope f.st) .none kV doc pm an cdv ct) ⟨us, []⟩ = pure (f.ps.zip us)
section
variable {fs : List FE} {cs : List (Str × MV)} {cd : List CD} {os : List OD} {P : List FnD} {K : PySem.W.Frag} {h : Heap} {mg : Str → Option Value}
theorem fact_of (c : He.SaysD (faL fs cd os) (fnL fs) K) {f : He.Fa} (h : f ∈ faL fs cd os) : f.ok K = true := by
  obtain ⟨i, hi⟩ := List.getElem?_of_mem h
  exact c.fact i hi
theorem glo_of (X : K.In h) (G : h.Ns mainGlobals mg) (c : He.SaysD (faL fs cd os) (fnL fs) K) {f : FE} (hf : f ∈ fs) : mg f.x = some (.ref (He.ga K f.x)) :=
  He.glo_ok X G (fact_of c (List.mem_append_left _ (List.mem_map_of_mem hf)))
theorem def_of (c : He.SaysD (faL fs cd os) (fnL fs) K) {i : Nat} {f : FE} (hf : fs[i]? = some f) : ∃ fd, FunD K f.nm f.nm (defArgs f.st) (defBody f.st) (defScope f.st) [] [] (He.ga K f.x) fd :=
  c.def_ i (d := defD f) (by unfold fnL; rw [List.getElem?_map, hf]; rfl)
theorem go_of (X : K.In h) (G : h.Ns mainGlobals mg) (c : He.SaysD (faL fs cd os) (fnL fs) K) (hcs : cs.all (cstB K) = true) : GOk (cgOf fs cs cd os) (geOf K fs cd os) K mg := by
  refine ⟨rfl, fun i => rfl, fun i a ha => ?_, fun i x hx => ?_, fun x v hx => ?_, fun x hx => ?_⟩
  · have ha : (fs[i]?).map (fun f => He.ga K f.x) = some a := ha
    obtain ⟨f, hf, _⟩ := Option.map_eq_some_iff.mp ha
    exact ⟨f.x, by show (fs.map (·.x))[i]? = _; rw [List.getElem?_map, hf]; rfl⟩
  · have hx : (fs.map (·.x))[i]? = some x := hx
    rw [List.getElem?_map] at hx
    obtain ⟨f, hf, rfl⟩ := Option.map_eq_some_iff.mp hx
    obtain ⟨fd, F⟩ := def_of c hf
    exact ⟨He.ga K f.x, by show (fs[i]?).map _ = _; rw [hf]; rfl, glo_of X G c (List.mem_of_getElem? hf), F.kp⟩
  · exact cst_ok (g := geOf K fs cd os) X G (List.all_eq_true.mp hcs _ (mem_lookupS hx))
  · exact He.free_ok X G (fact_of c (List.mem_append_right _ (List.mem_append_left _ (List.mem_map_of_mem hx))))
theorem metOf_mets {G : CG} {m : List (Str × List Hd × Str)} {sc : Scope} {a n : Str} (b : List Stmt) : metOf { G with mets := m } sc a n b = metOf G sc a n b := by
  have hh : ∀ hs : List ExceptHandler, hdsOf { G with mets := m } sc n hs = hdsOf G sc n hs := fun hs => by
    induction hs with
    | nil => rfl
    | cons h hs ih =>
      simp only [hdsOf]
      rw [show hdOf { G with mets := m } sc n h = hdOf G sc n h from rfl, ih]
  unfold metOf
  split
  · split
    · rw [hh]
    · rfl
  · rfl
theorem pg_of {Pg : Program} {is : List LookF} (T : Tbl (cgOf fs cs cd os) P fs) (hB : ∀ f ∈ fs, BindOk f) (hC : ∀ c ∈ cd, CDOk c) (hO : ∀ o ∈ os, ODOk o) (hn : is = inisOf cd ++ iosOf os) (top : (Pg.main.scope.names.lookup ("super" : Str)).isSome = false) (X : K.In h) (G : h.Ns mainGlobals mg)
    (c : SaysM (faL fs cd os) (fnL fs) (tfOf fs) (exOf Pg.main.file cs cd os fs) is h K) : PgOk (cgOf fs cs cd os) (geOf K fs cd os) Pg K mg := by
  have ex := c.more
  unfold exOf at ex
  rw [Bool.and_eq_true, Bool.and_eq_true, Bool.and_eq_true, Bool.and_eq_true] at ex
  obtain ⟨xo, ⟨⟨x0, x1⟩, x2⟩, x3⟩ := ex
  have caOf : ∀ {i : Nat} {C : Addr} {f : Str}, (geOf K fs cd os).ca i = some (C, f) → ∃ k, cd[i]? = some k ∧ C = He.ga K k.c.x := fun {i C f} h => by
    have h : (cd[i]?).map (fun c => (He.ga K c.c.x, c.c.f.getD Str.empty)) = some (C, f) := h
    obtain ⟨k, hk, e⟩ := Option.map_eq_some_iff.mp h
    cases e
    exact ⟨k, hk, rfl⟩
  refine ⟨top, fun i k hk => ?_, fun i j k C D f f' hk hC1 hD1 => ?_, fun i C f hi => ?_, fun f hs nt hm => ?_, fun i oe hi => ?_⟩
  · have hk : (cd.map (·.c))[i]? = some k := hk
    rw [List.getElem?_map] at hk
    obtain ⟨e, he, rfl⟩ := Option.map_eq_some_iff.mp hk
    have hm := List.mem_of_getElem? he
    refine ⟨He.ga K e.c.x, by show (cd[i]?).map _ = _; rw [he]; rfl, clsOk_of X G (hC e hm) (fact_of c.t (List.mem_append_right _ (List.mem_append_right _ (List.mem_append_left _ (List.mem_map_of_mem hm))))) (List.all_eq_true.mp x1 e hm) fun d hd => ?_⟩
    exact c.ini ⟨fun K => He.ma K (He.ga K e.c.x) "__init__", d.val e.c.x⟩ (by rw [hn]; exact List.mem_append_left _ (List.mem_filterMap.mpr ⟨e, hm, by rw [hd]; rfl⟩))
  · have hk : (cd.map (·.c))[i]? = some k := hk
    rw [List.getElem?_map] at hk
    obtain ⟨e, he, rfl⟩ := Option.map_eq_some_iff.mp hk
    obtain ⟨k1, hk1, rfl⟩ := caOf hC1
    obtain ⟨k2, hk2, rfl⟩ := caOf hD1
    rw [he] at hk1
    cases hk1
    have q := List.all_eq_true.mp (List.all_eq_true.mp x2 e (List.mem_of_getElem? he)) j (List.mem_range.mpr (List.getElem?_eq_some_iff.mp hk2).1)
    rw [hk2] at q
    exact of_decide_eq_true q
  · obtain ⟨k, hk, _⟩ := caOf hi
    exact ⟨k.c, by show (cd.map (·.c))[i]? = _; rw [List.getElem?_map, hk]; rfl⟩
  · have hm : (metsOf (cg0 fs cs cd os) fs).lookup f = some (hs, nt) := hm
    obtain ⟨f1, hf1, e⟩ := List.mem_filterMap.mp (mem_lookupS hm)
    split at e
    · rename_i a n b hN hps
      split at e
      · rename_i hab
        obtain ⟨hab, hnm⟩ := hab
        subst hab
        obtain ⟨⟨l, t⟩, hl, e⟩ := Option.map_eq_some_iff.mp e
        cases e
        obtain ⟨i, hi⟩ := List.getElem?_of_mem hf1
        obtain ⟨fd, F⟩ := def_of c.t hi
        have B := FunD.bindsN F (hB f1 hf1)
        have S := scope_of (T.sc f1 hf1)
        rw [hN, hps] at S
        rw [hps] at B
        rw [hnm] at F
        obtain ⟨oc, od, dV, kV, doc, pm, an, cdv, ct, osl, rfl, lk, hcd, _, _⟩ := F.ex
        exact ⟨f1.st, He.ga K f1.x, a, n, l, oc, od, dV, kV, doc, pm, an, cdv, ct, osl, glo_of X G c.t hf1, F.kp, lk, hcd, B, S, (metOf_mets _).trans hl, rfl⟩
      · cases e
    · cases e
  · have hi : (os.map (·.o))[i]? = some oe := hi
    rw [List.getElem?_map] at hi
    obtain ⟨od, hod, rfl⟩ := Option.map_eq_some_iff.mp hi
    have hm := List.mem_of_getElem? hod
    refine ⟨He.ga K od.o.x, objOk_of (by show (os[i]?).map _ = _; rw [hod]; rfl) (He.glo_ok X G (fact_of c.t (List.mem_append_right _ (List.mem_append_right _ (List.mem_append_right _ (List.mem_map_of_mem (f := fun o : OD => He.Fa.glo o.o.x) hm)))))) (hO od hm) (List.all_eq_true.mp xo od hm) fun j hj => c.ini j (by
      rw [hn]
      refine List.mem_append_right _ ?_
      exact List.mem_flatMap.mpr ⟨od, hm, hj⟩)⟩
theorem nodup_inj {α β : Type} {f : α → β} : ∀ {l : List α}, (l.map f).Nodup → ∀ x ∈ l, ∀ y ∈ l, f x = f y → x = y
  | [], _, x, h, _, _, _ => by simp at h
  | a :: l, n, x, hx, y, hy, e => by
    rw [List.map_cons, List.nodup_cons] at n
    rcases List.mem_cons.mp hx with ex | mx
    · rcases List.mem_cons.mp hy with ey | my
      · rw [ex, ey]
      · rw [ex] at e
        exact absurd (e ▸ List.mem_map_of_mem my) n.1
    · rcases List.mem_cons.mp hy with ey | my
      · rw [ey] at e
        exact absurd (e ▸ List.mem_map_of_mem mx) n.1
      · exact nodup_inj n.2 x mx y my e
/-- what the law's end wants -/
theorem law_facts {Pg : Program} {w : World} {i d n : Nat} {f : FE} {x : Str} {fa : Addr} {is : List LookF} (T : Tbl (cgOf fs cs cd os) P fs) (hB : ∀ f ∈ fs, BindOk f) (hC : ∀ c ∈ cd, CDOk c) (hO : ∀ o ∈ os, ODOk o) (hn : is = inisOf cd ++ iosOf os) (top : (Pg.main.scope.names.lookup ("super" : Str)).isSome = false) (hf : fs[i]? = some f) (hp : f.ps = [x])
    (hr : ∀ ns : List Int, ns.length ≤ n → (∀ z ∈ ns, Builtin.Int.intBits z ≤ 1048576) → ∃ h, calls P d i [.scr ns] [] = some (.ok (.bl true) h))
    (X : K.In h) (G : h.Ns mainGlobals mg) (c : SaysM (faL fs cd os) (fnL fs) (tfOf fs) (exOf Pg.main.file cs cd os fs) is h K) (hfa : mg f.x = some (.ref fa)) :
    ∃ (fd : FuncData) (sp : Sp), (∀ (s : Shared) (u : Value), BindsTo s fd ⟨[u], []⟩ [(x, u)]) ∧
        (∀ (H : Hp) (a : Addr) (ns : List Int), ns.length ≤ n → (∀ z ∈ ns, Builtin.Int.intBits z ≤ 1048576) → (∀ p ∈ (tfOf fs).map (He.cT K), H p.2 = some (.tbl #[])) → SqF K ⟨[], fun _ => False⟩ H a (ns.map V.int) → sp [.ref a] H (fun v _ => v = .bl true) fun _ _ _ => False) ∧
        ∀ base : Heap, K.In base → base.Ns mainGlobals mg → (∀ p ∈ (tfOf fs).map (He.cT K), LamX.TabB base mg p.1 p.2) → FnG f.ask Pg w K mg base (L2.CX Pg w) (3 * d) fa fd [x] sp := by
  have go := go_of X G c.t (cs := cs) (by
    have ex := c.more
    unfold exOf at ex
    rw [Bool.and_eq_true, Bool.and_eq_true, Bool.and_eq_true, Bool.and_eq_true] at ex
    exact ex.2.1.1.1)
  have pg := pg_of T hB hC hO hn top X G c
  have ea := hfa.symm.trans (glo_of X G c.t (List.mem_of_getElem? hf))
  cases ea
  have ex : ∀ i : Nat, ∃ fd : FuncData, ∀ f, fs[i]? = some f → FunD K f.nm f.nm (defArgs f.st) (defBody f.st) (defScope f.st) [] [] (He.ga K f.x) fd := fun i => by
    cases h : fs[i]? with
    | none =>
      obtain ⟨fd, _⟩ := def_of c.t hf
      exact ⟨fd, fun f e => nomatch e⟩
    | some f0 =>
      obtain ⟨fd, F⟩ := def_of c.t h
      exact ⟨fd, fun f e => by cases e; exact F⟩
  let fdf : Nat → FuncData := fun i => Classical.choose (ex i)
  have hF : ∀ (i : Nat) (f : FE), fs[i]? = some f → FunD K f.nm f.nm (defArgs f.st) (defBody f.st) (defScope f.st) [] [] (He.ga K f.x) (fdf i) := fun i f h => Classical.choose_spec (ex i) f h
  refine ⟨fdf i, spM (geOf K fs cd os) P d i, fun s u => ?_, fun H a ns hl hbits hT hS => ?_, fun base _ _ hTB => ?_⟩
  · have b := FunD.bindsA (hF i f hf) (hB f (List.mem_of_getElem? hf)) s [u] (by rw [hp]; rfl)
    rw [hp] at b
    exact b
  · obtain ⟨hm, e⟩ := hr ns hl hbits
    refine ⟨⟨[], fun _ => False⟩, H, ⟨[], fun _ => False⟩, [], [.scr ns], _, (fun _ h => h.elim), .refl, ⟨rfl, .nil, fun i o a h => by simp at h, fun i xs h => by simp at h, rfl, fun i v h => by simp at h, fun i v h => by simp at h, (fun a h => h.elim), fun p hp => ?_⟩, .cons (.scr hS) .nil, ⟨(fun a ⟨⟨xs, e⟩, _⟩ => nomatch e), trivial⟩, fun a ⟨i, v, x, h1, h2, h3⟩ => ?_, e, fun ρ' H' x p R' r fr => ?_⟩
    · obtain ⟨f1, hf1, rfl⟩ := List.mem_map.mp hp
      exact LamX.TabS.nil (hT (He.cT K (f1.x, none)) (List.mem_map.mpr ⟨(f1.x, none), List.mem_map.mpr ⟨f1, hf1, rfl⟩, rfl⟩))
    · obtain ⟨⟨xs, e⟩, _⟩ := h3
      subst e
      cases i with
      | zero => simp at h1
      | succ i => simp at h1
    · cases r
      rfl
  · have := (fns_ok (Pg := Pg) (w := w) (base := base) T go pg (fdf := fdf) (fun i f a hf ha => by
      have ha : (fs[i]?).map (fun f => He.ga K f.x) = some a := ha
      rw [hf] at ha
      cases ha
      exact ⟨hF i f hf, FunD.bindsN (hF i f hf) (hB f (List.mem_of_getElem? hf))⟩) (fun i f a hf ha hl oc od osl lk => by
      have ha : (fs[i]?).map (fun f => He.ga K f.x) = some a := ha
      rw [hf] at ha
      cases ha
      have hm : f ∈ fs.filter (·.lam) := List.mem_filter.mpr ⟨List.mem_of_getElem? hf, hl⟩
      have hmt : ((f.x, none) : He.Defn) ∈ tfOf fs := List.mem_map.mpr ⟨f, hm, rfl⟩
      obtain ⟨oc', od', dV, kV, doc, pm, an, cdv, ct, osl', e1, lk', hcd, _, _⟩ := (hF i f hf).ex
      obtain ⟨cc, ecc⟩ := He.codeIn_ref hcd
      have ec : He.codeOf K (f.x, none) = cc := He.codeOf_eq (p := (f.x, none)) lk (by rw [e1]; exact ecc)
      refine ⟨cc, (He.cT K (f.x, none)).2, by rw [e1]; exact ecc, ?_, ?_, fun p hp e => ?_⟩
      · have := hTB (He.cT K (f.x, none)) (List.mem_map.mpr ⟨_, hmt, rfl⟩)
        rw [show (He.cT K (f.x, none)).1 = cc from ec] at this
        exact this
      · exact List.mem_map.mpr ⟨f, hm, rfl⟩
      · obtain ⟨f1, hf1, rfl⟩ := List.mem_map.mp hp
        have ex := c.more
        unfold exOf at ex
        rw [Bool.and_eq_true, Bool.and_eq_true] at ex
        have nd := of_decide_eq_true ex.2.2
        unfold tfOf at nd
        rw [List.map_map] at nd
        have e2 := nodup_inj nd f1 hf1 f hm e
        rw [e2]
        rfl) d i f (He.ga K f.x) hf (by show (fs[i]?).map _ = _; rw [hf]; rfl)).1
    rw [hp] at this
    exact this
end
theorem tbl_of {fs : List FE} {cs : List (Str × MV)} {cd : List CD} {os : List OD} {P : List FnD} (h1 : fs.all scopeOk = true) (h2 : fs.map (compF (cgOf fs cs cd os)) = P.map some) : Tbl (cgOf fs cs cd os) P fs := by
  refine ⟨rfl, rfl, fun f hf => List.all_eq_true.mp h1 f hf, fun i f hf => ?_⟩
  have e : (fs.map (compF (cgOf fs cs cd os)))[i]? = (P.map some)[i]? := by rw [h2]
  rw [List.getElem?_map, List.getElem?_map, hf] at e
  cases h : P[i]? with
  | none => rw [h] at e; cases e
  | some D =>
    rw [h] at e
    exact ⟨D, rfl, Option.some.inj e⟩
def AllB : List FE → Prop
  | [] => True
  | f :: r => BindOk f ∧ AllB r
theorem allB_of : ∀ {fs : List FE}, AllB fs → ∀ f ∈ fs, BindOk f
  | [], _, f, h => by simp at h
  | a :: r, h, f, hf => by
    rcases List.mem_cons.mp hf with q | q
    · subst q; exact h.1
    · exact allB_of h.2 f q
def AllC : List CD → Prop
  | [] => True
  | f :: r => CDOk f ∧ AllC r
theorem allC_of : ∀ {fs : List CD}, AllC fs → ∀ f ∈ fs, CDOk f
  | [], _, f, h => by simp at h
  | a :: r, h, f, hf => by
    rcases List.mem_cons.mp hf with q | q
    · subst q; exact h.1
    · exact allC_of h.2 f q
/-- a law walked over the layer -/
theorem walk_w {l : PySem.W.OpenLaw} {n k : Nat} {γ : Bool} {q : Program} {loose : List Str} {XP : (Str → Option Value) → Heap → Prop} {YP : World → Heap → Prop} {d : DefRec} {x : Str}
    (hn : l.most = some n) (hn2 : n ≤ sizeLine) (hdf : d.params.defaults = []) (hr : Room k callerA)
    (F : ∀ (w : World) (mg : Str → Option Value) (fa : Addr) (h : Heap), YP w h → h.Ns mainGlobals mg → mg d.name = some (.ref fa) →
      ∃ (K : PySem.W.Frag) (cs : List (Addr × Addr)), K.In h ∧ (∀ p ∈ cs, h.get? p.2 = some { cls := .none, data := .fields #[] }) ∧ (∀ p ∈ cs, K.lookup p.2 = none) ∧ (∀ p ∈ cs, PySem.W.CodeHd h p.1 p.2) ∧
        ∃ (fd : FuncData) (sp : Sp), (∀ (s : Shared) (u : Value), BindsTo s fd ⟨[u], []⟩ [(x, u)]) ∧
        (∀ (H : Hp) (a : Addr) (ns : List Int), ns.length ≤ n → (∀ z ∈ ns, Builtin.Int.intBits z ≤ 1048576) → (∀ p ∈ cs, H p.2 = some (.tbl #[])) → SqF K ⟨[], fun _ => False⟩ H a (ns.map V.int) → sp [.ref a] H (fun v _ => v = .bl true) fun _ _ _ => False) ∧
        ∀ base : Heap, K.In base → base.Ns mainGlobals mg → (∀ p ∈ cs, LamX.TabB base mg p.1 p.2) → FnG γ l.prog w K mg base (L2.CX l.prog w) k fa fd [x] sp) :
    PySem.W.WalkO q loose XP YP l.row.toRowW d [] (fun f vs => PySem.call f vs) := by
  refine Att.attach_callB hn hdf fun w s₀ s₁ mg mb fa o pm cd doc a vs ns G Y ho hd hcd hmg hobj hints hlen hbits hg => ?_
  obtain ⟨K, cs, KX, hT, nT, C, fd, sp, hb, hsp, hF⟩ := F w mg fa _ Y G.T.g hmg
  exact call_top ⟨KX, G.T.g, G.T.b, G.T.builtins, G.T.nolimit, hg, hT, nT, C, G.T.bmain, hobj, hints, Nat.le_trans hlen hn2⟩ hr hF hb fun H hH hS => hsp H a ns hlen hbits hH hS
/-- all that walk_w asks for -/
theorem law_pack {fs : List FE} {cs : List (Str × MV)} {cd : List CD} {os : List OD} {P : List FnD} {K : PySem.W.Frag} {h : Heap} {mg : Str → Option Value} {Pg : Program} {w : World} {i d n : Nat} {f : FE} {x : Str} {fa : Addr} (T : Tbl (cgOf fs cs cd os) P fs) (hB : ∀ f ∈ fs, BindOk f) (hC : ∀ c ∈ cd, CDOk c) (hO : ∀ o ∈ os, ODOk o)
    (top : (Pg.main.scope.names.lookup ("super" : Str)).isSome = false) (hf : fs[i]? = some f) (hp : f.ps = [x]) (hr : ∀ ns : List Int, ns.length ≤ n → (∀ z ∈ ns, Builtin.Int.intBits z ≤ 1048576) → ∃ h, calls P d i [.scr ns] [] = some (.ok (.bl true) h))
    (X : K.In h) (G : h.Ns mainGlobals mg) (c : SaysM (faL fs cd os) (fnL fs) (tfOf fs) (exOf Pg.main.file cs cd os fs) (inisOf cd ++ iosOf os) h K) (hfa : mg f.x = some (.ref fa)) :
    ∃ (K : PySem.W.Frag) (cs : List (Addr × Addr)), K.In h ∧ (∀ p ∈ cs, h.get? p.2 = some { cls := .none, data := .fields #[] }) ∧ (∀ p ∈ cs, K.lookup p.2 = none) ∧ (∀ p ∈ cs, PySem.W.CodeHd h p.1 p.2) ∧
        ∃ (fd : FuncData) (sp : Sp), (∀ (s : Shared) (u : Value), BindsTo s fd ⟨[u], []⟩ [(x, u)]) ∧
        (∀ (H : Hp) (a : Addr) (ns : List Int), ns.length ≤ n → (∀ z ∈ ns, Builtin.Int.intBits z ≤ 1048576) → (∀ p ∈ cs, H p.2 = some (.tbl #[])) → SqF K ⟨[], fun _ => False⟩ H a (ns.map V.int) → sp [.ref a] H (fun v _ => v = .bl true) fun _ _ _ => False) ∧
        ∀ base : Heap, K.In base → base.Ns mainGlobals mg → (∀ p ∈ cs, LamX.TabB base mg p.1 p.2) → FnG f.ask Pg w K mg base (L2.CX Pg w) (3 * d) fa fd [x] sp := by
  have key : ∀ p ∈ (tfOf fs).map (He.cT K), ∃ q ∈ tfOf fs, p = He.cT K q := fun p hp => by
    obtain ⟨q, hq, rfl⟩ := List.mem_map.mp hp
    exact ⟨q, hq, rfl⟩
  refine ⟨K, (tfOf fs).map (He.cT K), X, fun p hp => ?_, fun p hp => ?_, fun p hp => ?_, law_facts T hB hC hO rfl top hf hp hr X G c hfa⟩
  · obtain ⟨q, hq, rfl⟩ := key p hp
    exact c.empty q hq
  · obtain ⟨q, hq, rfl⟩ := key p hp
    exact c.out q hq
  · obtain ⟨q, hq, rfl⟩ := key p hp
    exact PySem.W.codeHd_of_K X (c.hd q hq)
end Mi

/-! Mi16: plain tools about the small language. -/
namespace Mi
open PySem
abbrev tI (xs : List Int) : MV := .tup (xs.map .int)
@[simp] theorem nolL_ints (xs : List Int) : nolL (xs.map .int) = true := by
  induction xs with
  | nil => rfl
  | cons a r ih => simp only [List.map_cons, nolL, ih]; rfl
@[simp] theorem pureL_ints (xs : List Int) : pureL (xs.map .int) = true := by
  induction xs with
  | nil => rfl
  | cons a r ih => simp only [List.map_cons, pureL, ih]; rfl
@[simp] theorem frozL_ints (n : Nat) (h : Hm) (xs : List Int) : frozL n h (xs.map .int) = some (xs.map .int) := by
  induction xs with
  | nil => rfl
  | cons a r ih => simp only [List.map_cons, frozL, ih, froz]
@[simp] theorem intsOf_ints (xs : List Int) : intsOf (xs.map .int) = some xs := by
  induction xs with
  | nil => rfl
  | cons a r ih => simp only [List.map_cons, intsOf, ih]; rfl
@[simp] theorem frz_ints (xs : List Int) : (xs.map MV.int).map frz = xs.map .int := by
  rw [List.map_map]; rfl
@[simp] theorem toDs_ints (h : Hm) (xs : List Int) : toDs h (xs.map .int) = some (xs.map .int) := by
  induction xs with
  | nil => rfl
  | cons a r ih => simp only [List.map_cons, toDs, toD, ih]
@[simp] theorem allnl_ints (xs : List Int) : (xs.map MV.int).all nl = true := by
  induction xs with
  | nil => rfl
  | cons a r ih => simp only [List.map_cons, List.all_cons, ih]; rfl
theorem cut_map {α β : Type} (f : α → β) (xs : List α) (lo hi : Option Int) : cut (xs.map f) lo hi = (cut xs lo hi).map f := by
  unfold cut
  rw [List.length_map, List.map_take, List.map_drop]
theorem atI_map {α β : Type} (f : α → β) (xs : List α) (i : Int) : L2.atI (xs.map f) i = (L2.atI xs i).map f := by
  unfold L2.atI
  rw [List.length_map]
  cases L2.ixN xs.length i with
  | none => rfl
  | some j => simp
/-- loops -/
theorem iterC_inv {s : Src} {g : MV → Hm → Option (Loc × Hm)} {c : Loc → Hm → RO Bool} {e : Loc → Hm → RO MV} (n : Nat) (I : Nat → List MV → Hm → Prop)
    (hend : ∀ acc h, I n acc h → s.nth n h = some none)
    (hstep : ∀ i acc h, i < n → I i acc h → ∃ v σ1 h1 h2, s.nth i h = some (some v) ∧ g v h = some (σ1, h1) ∧ ((c σ1 h1 = some (.ok false h2) ∧ I (i + 1) acc h2) ∨
      ∃ y h3, c σ1 h1 = some (.ok true h2) ∧ e σ1 h2 = some (.ok y h3) ∧ acc.length < sizeMax ∧ (frz y).nol = true ∧ I (i + 1) (acc ++ [frz y]) h3)) :
    ∀ (m i : Nat) (acc : List MV) (h : Hm), I i acc h → i ≤ n → n - i < m → ∃ acc' h', iterC s g c e m i acc h = some (.ok acc' h') ∧ I n acc' h'
  | 0, i, acc, h, _, _, hm => by omega
  | m + 1, i, acc, h, hI, hi, hm => by
    by_cases hin : i = n
    · subst hin
      refine ⟨acc, h, ?_, hI⟩
      simp only [iterC, hend acc h hI]
    · obtain ⟨v, σ1, h1, h2, e1, e2, e3⟩ := hstep i acc h (by omega) hI
      simp only [iterC, e1, e2]
      rcases e3 with ⟨e3, hI2⟩ | ⟨y, h3, e3, e4, e5, e6, hI2⟩
      · obtain ⟨acc', h', e, hI'⟩ := iterC_inv n I hend hstep m (i + 1) acc h2 hI2 (by omega) (by omega)
        refine ⟨acc', h', ?_, hI'⟩
        simp only [e3, noX_ok, bnd_ok]
        exact e
      · obtain ⟨acc', h', e, hI'⟩ := iterC_inv n I hend hstep m (i + 1) _ h3 hI2 (by omega) (by omega)
        refine ⟨acc', h', ?_, hI'⟩
        simp only [e3, e4, noX_ok, bnd_ok, e5, e6, and_self, if_true]
        exact e
theorem iterF_inv {s : Src} {g : MV → Loc → Hm → Option (Loc × Hm)} {b : Loc → Hm → Option SRes} (n : Nat) (I : Nat → Loc → Hm → Prop)
    (hend : ∀ σ h, I n σ h → s.nth n h = some none)
    (hstep : ∀ i σ h, i < n → I i σ h → ∃ v σ1 h1 σ2 h2, s.nth i h = some (some v) ∧ g v σ h = some (σ1, h1) ∧ b σ1 h1 = some (.nx σ2 h2) ∧ I (i + 1) σ2 h2) :
    ∀ (m i : Nat) (σ : Loc) (h : Hm), I i σ h → i ≤ n → n - i < m → ∃ σ' h', iterF s g b m i σ h = some (.nx σ' h') ∧ I n σ' h'
  | 0, i, σ, h, _, _, hm => by omega
  | m + 1, i, σ, h, hI, hi, hm => by
    by_cases hin : i = n
    · subst hin
      refine ⟨σ, h, ?_, hI⟩
      simp only [iterF, hend σ h hI]
    · obtain ⟨v, σ1, h1, σ2, h2, e1, e2, e3, hI2⟩ := hstep i σ h (by omega) hI
      obtain ⟨σ', h', e, hI'⟩ := iterF_inv n I hend hstep m (i + 1) σ2 h2 hI2 (by omega) (by omega)
      refine ⟨σ', h', ?_, hI'⟩
      simp only [iterF, e1, e2, e3]
      exact e
theorem iterW_inv {c : Loc → Hm → RO Bool} {b : Loc → Hm → Option SRes} (I : Nat → Loc → Hm → Prop) (E : Loc → Hm → Prop)
    (hstep : ∀ m σ h, I m σ h → (c σ h = some (.ok false h) ∧ E σ h) ∨ ∃ h1 m' σ2 h2, c σ h = some (.ok true h1) ∧ b σ h1 = some (.nx σ2 h2) ∧ m' < m ∧ I m' σ2 h2) :
    ∀ (fuel m : Nat) (σ : Loc) (h : Hm), m < fuel → I m σ h → ∃ σ' h', iterW c b fuel σ h = some (.nx σ' h') ∧ E σ' h'
  | 0, m, σ, h, hm, _ => by omega
  | fuel + 1, m, σ, h, hm, hI => by
    rcases hstep m σ h hI with ⟨e1, hE⟩ | ⟨h1, m', σ2, h2, e1, e2, hlt, hI2⟩
    · exact ⟨σ, h, by simp only [iterW, e1], hE⟩
    · obtain ⟨σ', h', e, hE⟩ := iterW_inv I E hstep fuel m' σ2 h2 (by omega) hI2
      exact ⟨σ', h', by simp only [iterW, e1, e2]; exact e, hE⟩
/-- where a list's items stand -/
theorem nth_rg {vs : List MV} {i : Nat} {h : Hm} : (Src.rg vs).nth i h = nthU vs[i]? := rfl
theorem nth_rng {lo : Int} {n i : Nat} {h : Hm} : (Src.rg (rng lo n)).nth i h = if i < n then some (some (.int (lo + (i : Nat)))) else some none := by
  show nthU (rng lo n)[i]? = _
  by_cases hi : i < n
  · rw [if_pos hi]
    simp [rng, hi, nthU, unl]
  · rw [if_neg hi]
    simp [rng, hi, nthU]
/-! ### what a text does, without loops -/
theorem e_var (F : Calls) (i : Nat) (σ : Loc) (h : Hm) : evalE F (.var i) σ h = match σ[i]? with
    | some (some v) => some (.ok v h)
    | _ => none := by
  first | (simp only [evalE]; done) | (simp only [evalE] <;> rfl)
theorem e_cst (F : Calls) (v : MV) (σ : Loc) (h : Hm) : evalE F (.cst v) σ h = some (.ok v h) := by
  first | (simp only [evalE]; done) | (simp only [evalE] <;> rfl)
theorem e_bin (F : Calls) (op : BO) (a : ME) (b : ME) (σ : Loc) (h : Hm) : evalE F (.bin op a b) σ h = bnd (evalE F a σ h) fun x h1 => bnd (evalE F b σ h1) fun y h2 => lift (bop op x y h2) h2 := by
  first | (simp only [evalE]; done) | (simp only [evalE] <;> rfl)
theorem e_neg (F : Calls) (a : ME) (σ : Loc) (h : Hm) : evalE F (.neg a) σ h = bnd (evalE F a σ h) fun x h1 => match x with
    | .int i => some (.ok (.int (-i)) h1)
    | _ => none := by
  first | (simp only [evalE]; done) | (simp only [evalE] <;> rfl)
theorem e_not (F : Calls) (a : ME) (σ : Loc) (h : Hm) : evalE F (.not a) σ h = bnd (evalE F a σ h) fun x h1 => match truth h1 x with
    | some b => some (.ok (.bl (!b)) h1)
    | none => none := by
  first | (simp only [evalE]; done) | (simp only [evalE] <;> rfl)
theorem e_and (F : Calls) (a : ME) (b : ME) (σ : Loc) (h : Hm) : evalE F (.and a b) σ h = bnd (evalE F a σ h) fun x h1 => match truth h1 x with
    | some true => evalE F b σ h1
    | some false => some (.ok x h1)
    | none => none := by
  first | (simp only [evalE]; done) | (simp only [evalE] <;> rfl)
theorem e_or (F : Calls) (a : ME) (b : ME) (σ : Loc) (h : Hm) : evalE F (.or a b) σ h = bnd (evalE F a σ h) fun x h1 => match truth h1 x with
    | some true => some (.ok x h1)
    | some false => evalE F b σ h1
    | none => none := by
  first | (simp only [evalE]; done) | (simp only [evalE] <;> rfl)
theorem e_ite (F : Calls) (c : ME) (a : ME) (b : ME) (σ : Loc) (h : Hm) : evalE F (.ite c a b) σ h = bnd (evalE F c σ h) fun x h1 => match truth h1 x with
    | some true => evalE F a σ h1
    | some false => evalE F b σ h1
    | none => none := by
  first | (simp only [evalE]; done) | (simp only [evalE] <;> rfl)
theorem e_cmp (F : Calls) (op : CO) (a : ME) (b : ME) (σ : Loc) (h : Hm) : evalE F (.cmp op a b) σ h = bnd (evalE F a σ h) fun x h1 => bnd (evalE F b σ h1) fun y h2 => lift ((cop op x y h2).map .bl) h2 := by
  first | (simp only [evalE]; done) | (simp only [evalE] <;> rfl)
theorem e_chn (F : Calls) (o1 : CO) (o2 : CO) (a : ME) (b : ME) (c : ME) (σ : Loc) (h : Hm) : evalE F (.chn o1 o2 a b c) σ h = bnd (evalE F a σ h) fun x h1 => bnd (evalE F b σ h1) fun y h2 => match cop o1 x y h2 with
    | some true => bnd (evalE F c σ h2) fun z h3 => lift ((cop o2 y z h3).map .bl) h3
    | some false => some (.ok (.bl false) h2)
    | none => none := by
  first | (simp only [evalE]; done) | (simp only [evalE] <;> rfl)
theorem e_tup (F : Calls) (es : List ME) (σ : Loc) (h : Hm) : evalE F (.tup es) σ h = bnd (evalEs F es σ h) fun vs h1 => some (.ok (.tup (vs.map frz)) h1) := by
  first | (simp only [evalE]; done) | (simp only [evalE] <;> rfl)
theorem e_lst (F : Calls) (es : List ME) (σ : Loc) (h : Hm) : evalE F (.lst es) σ h = bnd (evalEs F es σ h) fun vs h1 => some (.ok (.lst (vs.map frz)) h1) := by
  first | (simp only [evalE]; done) | (simp only [evalE] <;> rfl)
theorem e_ix (F : Calls) (a : ME) (b : ME) (σ : Loc) (h : Hm) : evalE F (.ix a b) σ h = bnd (evalE F a σ h) fun x h1 => bnd (evalE F b σ h1) fun y h2 => lift (ixV x y h2) h2 := by
  first | (simp only [evalE]; done) | (simp only [evalE] <;> rfl)
theorem e_sl (F : Calls) (a : ME) (lo : Option ME) (hi : Option ME) (σ : Loc) (h : Hm) : evalE F (.sl a lo hi) σ h = bnd (evalE F a σ h) fun x h1 => bnd (evalO F lo σ h1) fun i h2 => bnd (evalO F hi σ h2) fun j h3 => lift (slV x i j h3) h3 := by
  first | (simp only [evalE]; done) | (simp only [evalE] <;> rfl)
theorem e_rev (F : Calls) (a : ME) (σ : Loc) (h : Hm) : evalE F (.rev a) σ h = bnd (evalE F a σ h) fun x h1 => match items h1 x with
    | some xs => some (.ok (.lst xs.reverse) h1)
    | none => none := by
  first | (simp only [evalE]; done) | (simp only [evalE] <;> rfl)
theorem e_call (F : Calls) (f : Nat) (es : List ME) (σ : Loc) (h : Hm) : evalE F (.call f es) σ h = bnd (evalEs F es σ h) fun vs h1 => F f vs h1 := by
  first | (simp only [evalE]; done) | (simp only [evalE] <;> rfl)
theorem e_bi (F : Calls) (b : BI) (es : List ME) (σ : Loc) (h : Hm) : evalE F (.bi b es) σ h = bnd (evalEs F es σ h) fun vs h1 => lift (biV b vs h1) h1 := by
  first | (simp only [evalE]; done) | (simp only [evalE] <;> rfl)
theorem e_isi (F : Calls) (a : ME) (ts : List TyN) (σ : Loc) (h : Hm) : evalE F (.isi a ts) σ h = bnd (evalE F a σ h) fun x h1 => match ts.mapM (isTy h1 x) with
    | some bs => some (.ok (.bl (bs.any id)) h1)
    | none => none := by
  first | (simp only [evalE]; done) | (simp only [evalE] <;> rfl)
theorem e_meth (F : Calls) (m : LM) (o : ME) (es : List ME) (σ : Loc) (h : Hm) : evalE F (.meth m o es) σ h = bnd (evalE F o σ h) fun x h1 => match itemsL h1 x with
    | some _ => bnd (evalEs F es σ h1) fun vs h2 => match methV m x vs h2 with
      | some (v, h3) => some (.ok v h3)
      | none => none
    | none => none := by
  first | (simp only [evalE]; done) | (simp only [evalE] <;> rfl)
theorem s_asg0 (F : Calls) (t : MT) (e : ME) (σ : Loc) (h : Hm) : execS F (.asg t e) σ h = exS σ (evalE F e σ h) fun v h1 => match evalT F t v σ h1 with
    | some (σ1, h2) => some (.nx σ1 h2)
    | none => none := by
  first | (simp only [execS]; done) | (simp only [execS] <;> rfl)
theorem s_par0 (F : Calls) (is : List Nat) (es : List ME) (σ : Loc) (h : Hm) : execS F (.par is es) σ h = exS σ (evalEs F es σ h) fun vs h1 => match stoAll is vs σ h1 with
    | some (σ1, h2) => some (.nx σ1 h2)
    | none => none := by
  first | (simp only [execS]; done) | (simp only [execS] <;> rfl)
theorem s_aug0 (F : Calls) (i : Nat) (op : BO) (e : ME) (σ : Loc) (h : Hm) : execS F (.aug i op e) σ h = match σ[i]? with
    | some (some x) => exS σ (evalE F e σ h) fun y h1 => match augV op x y h1 with
      | some v => some (.nx (σ.set i (some v)) h1)
      | none => none
    | _ => none := by
  first | (simp only [execS]; done) | (simp only [execS] <;> rfl)
theorem s_augS0 (F : Calls) (a : ME) (i : ME) (op : BO) (e : ME) (σ : Loc) (h : Hm) : execS F (.augS a i op e) σ h = exS σ (evalE F a σ h) fun o h1 => exS σ (evalE F i σ h1) fun k h2 => match getSub o k h2 with
    | some x => exS σ (evalE F e σ h2) fun y h3 => match augV op x y h3 with
      | some v => match setSub o k v h3 with
        | some h4 => some (.nx σ h4)
        | none => none
      | none => none
    | none => none := by
  first | (simp only [execS]; done) | (simp only [execS] <;> rfl)
theorem s_expr0 (F : Calls) (e : ME) (σ : Loc) (h : Hm) : execS F (.expr e) σ h = exS σ (evalE F e σ h) fun _ h1 => some (.nx σ h1) := by
  first | (simp only [execS]; done) | (simp only [execS] <;> rfl)
theorem s_ret0 (F : Calls) (e : ME) (σ : Loc) (h : Hm) : execS F (.ret e) σ h = exS σ (evalE F e σ h) fun v h1 => some (.rt v h1) := by
  first | (simp only [execS]; done) | (simp only [execS] <;> rfl)
theorem s_retN0 (F : Calls)  (σ : Loc) (h : Hm) : execS F (.retN ) σ h = some (.rt .non h) := by
  first | (simp only [execS]; done) | (simp only [execS] <;> rfl)
theorem s_ife0 (F : Calls) (c : ME) (a : List MS) (b : List MS) (σ : Loc) (h : Hm) : execS F (.ife c a b) σ h = exS σ (evalE F c σ h) fun x h1 => match truth h1 x with
    | some true => execB F a σ h1
    | some false => execB F b σ h1
    | none => none := by
  first | (simp only [execS]; done) | (simp only [execS] <;> rfl)
theorem s_pass0 (F : Calls)  (σ : Loc) (h : Hm) : execS F (.pass ) σ h = some (.nx σ h) := by
  first | (simp only [execS]; done) | (simp only [execS] <;> rfl)
theorem s_brk0 (F : Calls)  (σ : Loc) (h : Hm) : execS F (.brk ) σ h = some (.bk σ h) := by
  first | (simp only [execS]; done) | (simp only [execS] <;> rfl)
theorem s_cnt0 (F : Calls)  (σ : Loc) (h : Hm) : execS F (.cnt ) σ h = some (.ct σ h) := by
  first | (simp only [execS]; done) | (simp only [execS] <;> rfl)
theorem es_nil (F : Calls) (σ : Loc) (h : Hm) : evalEs F [] σ h = some (.ok [] h) := by
  first | (simp only [evalEs]; done) | (simp only [evalEs] <;> rfl)
theorem es_cons (F : Calls) (e : ME) (es : List ME) (σ : Loc) (h : Hm) : evalEs F (e :: es) σ h = bnd (evalE F e σ h) fun v h1 => bnd (evalEs F es σ h1) fun vs h2 => some (.ok (v :: vs) h2) := by
  first | (simp only [evalEs]; done) | (simp only [evalEs] <;> rfl)
theorem eo_none (F : Calls) (σ : Loc) (h : Hm) : evalO F none σ h = some (.ok none h) := by
  first | (simp only [evalO]; done) | (simp only [evalO] <;> rfl)
theorem eo_some (F : Calls) (e : ME) (σ : Loc) (h : Hm) : evalO F (some e) σ h = bnd (evalE F e σ h) fun v h1 => match v with
    | .int i => some (.ok (some i) h1)
    | _ => none := by
  first | (simp only [evalO]; done) | (simp only [evalO] <;> rfl)
theorem ec_none (F : Calls) (σ : Loc) (h : Hm) : evalC F none σ h = some (.ok true h) := by
  first | (simp only [evalC]; done) | (simp only [evalC] <;> rfl)
theorem ec_some (F : Calls) (e : ME) (σ : Loc) (h : Hm) : evalC F (some e) σ h = bnd (evalE F e σ h) fun v h1 => lift (truth h1 v) h1 := by
  first | (simp only [evalC]; done) | (simp only [evalC] <;> rfl)
theorem et_var (F : Calls) (i : Nat) (v : MV) (σ : Loc) (h : Hm) : evalT F (.var i) v σ h = match sto v h with
    | some (w, h1) => some (σ.set i (some w), h1)
    | none => none := by
  first | (simp only [evalT]; done) | (simp only [evalT] <;> rfl)
theorem et_tup (F : Calls) (ts : List MT) (v : MV) (σ : Loc) (h : Hm) : evalT F (.tup ts) v σ h = match seq h v with
    | some xs => if xs.length = ts.length ∧ xs.all nl = true then evalTs F ts xs σ h else none
    | none => none := by
  first | (simp only [evalT]; done) | (simp only [evalT] <;> rfl)
theorem et_sub (F : Calls) (a i : ME) (v : MV) (σ : Loc) (h : Hm) : evalT F (.sub a i) v σ h = match evalE F a σ h with
    | some (.ok x h1) => match evalE F i σ h1 with
      | some (.ok y h2) => match setSub x y (frz v) h2 with
        | some h3 => some (σ, h3)
        | none => none
      | _ => none
    | _ => none := by
  first | (simp only [evalT]; done) | (simp only [evalT] <;> rfl)
theorem ets_nil (F : Calls) (xs : List MV) (σ : Loc) (h : Hm) : evalTs F [] xs σ h = some (σ, h) := by
  first | (simp only [evalTs]; done) | (simp only [evalTs] <;> rfl)
theorem ets_cons (F : Calls) (t : MT) (ts : List MT) (x : MV) (xs : List MV) (σ : Loc) (h : Hm) : evalTs F (t :: ts) (x :: xs) σ h = match evalT F t x σ h with
    | some (σ1, h1) => evalTs F ts xs σ1 h1
    | none => none := by
  first | (simp only [evalTs]; done) | (simp only [evalTs] <;> rfl)
theorem eb_nil (F : Calls) (σ : Loc) (h : Hm) : execB F [] σ h = some (.nx σ h) := by
  first | (simp only [execB]; done) | (simp only [execB] <;> rfl)
theorem eb_cons (F : Calls) (s : MS) (r : List MS) (σ : Loc) (h : Hm) : execB F (s :: r) σ h = thenS (execS F s σ h) fun σ1 h1 => execB F r σ1 h1 := by
  first | (simp only [execB]; done) | (simp only [execB] <;> rfl)
theorem e_lc {F : Calls} {own : List Nat} {tg : MT} {it : MI} {c : Option ME} {elt : ME} {σ : Loc} {h h1 h2 : Hm} {s : Src} {acc : List MV} (hi : evalI F it σ h = some (.ok s h1))
    (hc : iterC s (fun v h => evalT F tg v (wipeL σ own) h) (fun σ h => evalC F c σ h) (fun σ h => evalE F elt σ h) (s.len h1 + 1) 0 [] h1 = some (.ok acc h2)) : evalE F (.lc own tg it c elt) σ h = some (.ok (.lst acc) h2) := by
  simp only [evalE, hi, bnd_ok, hc]
theorem s_for0 {F : Calls} {t : MT} {it : MI} {b : List MS} {σ : Loc} {h h1 : Hm} {s : Src} {r : SRes} (hi : evalI F it σ h = some (.ok s h1))
    (hf : iterF s (fun v σ h => evalT F t v σ h) (fun σ h => execB F b σ h) (s.len h1 + 1) 0 σ h1 = some r) : execS F (.forr t it b) σ h = some r := by
  simp only [execS, hi, exS_ok, hf]
theorem s_whl0 {F : Calls} {c : ME} {b : List MS} {σ : Loc} {h : Hm} {r : SRes}
    (hf : iterW (fun σ h => evalC F (some c) σ h) (fun σ h => execB F b σ h) iterMax σ h = some r) : execS F (.whl c b) σ h = some r := by
  simp only [execS, hf]
/-- a comprehension without a test whose heap stays -/
theorem iterC_pure {s : Src} {g : MV → Hm → Option (Loc × Hm)} {c : Loc → Hm → RO Bool} {e : Loc → Hm → RO MV} {h : Hm} (ys : List MV) (hend : s.nth ys.length h = some none) (hz : ys.length ≤ sizeMax)
    (hs : ∀ i y, ys[i]? = some y → ∃ v σ1 z, s.nth i h = some (some v) ∧ g v h = some (σ1, h) ∧ c σ1 h = some (.ok true h) ∧ e σ1 h = some (.ok z h) ∧ frz z = y ∧ y.nol = true) (m : Nat) (hm : ys.length < m) : iterC s g c e m 0 [] h = some (.ok ys h) := by
  obtain ⟨acc', h', e1, rfl, rfl⟩ := iterC_inv (s := s) (g := g) (c := c) (e := e) ys.length (fun i acc h' => acc = ys.take i ∧ h' = h) (fun acc h' hI => by rw [hI.2]; exact hend) (fun i acc h' hi hI => by
    obtain ⟨rfl, rfl⟩ := hI
    obtain ⟨v, σ1, z, e1, e2, e3, e4, e5, e6⟩ := hs i ys[i] (List.getElem?_eq_getElem hi)
    refine ⟨v, σ1, h', h', e1, e2, .inr ⟨z, h', e3, e4, ?_, ?_, ?_, rfl⟩⟩
    · rw [List.length_take]; omega
    · rw [e5]; exact e6
    · rw [e5, List.take_append_getElem hi]) m 0 [] h ⟨by simp, rfl⟩ (Nat.zero_le _) (by omega)
  rw [e1, List.take_length]
theorem nth_zipI (xs ys : List Int) (i : Nat) (h : Hm) : (Src.zip (.tv (xs.map .int)) (.tv (ys.map .int))).nth i h = some ((List.zipWith (fun x y => MV.tup [.int x, .int y]) xs ys)[i]?) := by
  simp only [Src.nth, Cmp.nth, nthU, List.getElem?_map, List.getElem?_zipWith]
  cases xs[i]? <;> cases ys[i]? <;> rfl
theorem nth_tI (xs : List Int) (i : Nat) (h : Hm) : (Src.one (.tv (xs.map .int))).nth i h = some (xs[i]?.map .int) := by
  simp only [Src.nth, Cmp.nth, nthU, List.getElem?_map]
  cases xs[i]? <;> rfl
theorem nth_enI (xs : List Int) (i : Nat) (h : Hm) : (Src.enu (.tv (xs.map .int))).nth i h = some (xs[i]?.map fun x => .tup [.int i, .int x]) := by
  simp only [Src.nth, Cmp.nth, nthU, List.getElem?_map]
  cases xs[i]? <;> rfl
theorem cut_take {α : Type} (xs : List α) (n : Nat) : cut xs none (some (n : Int)) = xs.take n := by
  unfold cut
  rw [HT.sIx_none, HT.sIx_nat, List.drop_zero, Nat.sub_zero]
  by_cases h : n ≤ xs.length
  · rw [Nat.min_eq_left h]
  · rw [Nat.min_eq_right (by omega), List.take_of_length_le (Nat.le_refl _), List.take_of_length_le (by omega)]
theorem cut_drop {α : Type} (xs : List α) (n : Nat) : cut xs (some (n : Int)) none = xs.drop n := by
  unfold cut
  rw [HT.sIx_none, HT.sIx_nat]
  by_cases h : n ≤ xs.length
  · rw [Nat.min_eq_left h, List.take_of_length_le]
    rw [List.length_drop]; omega
  · rw [Nat.min_eq_right (by omega), Nat.sub_self, List.take_zero, List.drop_of_length_le (by omega)]
theorem hl_get (h : Hm) (o : MO) : (h ++ [o])[h.length]? = some o := by simp
theorem hl_set (h : Hm) (o o' : MO) : (h ++ [o]).set h.length o' = h ++ [o'] := by simp
theorem hl_take (h : Hm) (o : MO) : (h ++ [o]).take h.length = h := by simp
theorem ixN_nat (n i : Nat) : L2.ixN n (i : Int) = if i < n then some i else none := by
  unfold L2.ixN
  rw [if_pos (by omega)]
  by_cases h : i < n
  · rw [if_pos h, if_pos (by omega), Int.toNat_natCast]
  · rw [if_neg h, if_neg (by omega)]
theorem atI_nat {α : Type} (xs : List α) (i : Nat) : L2.atI xs (i : Int) = xs[i]? := by
  unfold L2.atI
  rw [ixN_nat]
  by_cases h : i < xs.length
  · rw [if_pos h]; rfl
  · rw [if_neg h, List.getElem?_eq_none (by omega)]; rfl
theorem min2_nat (a b : Nat) : (if (b : Int) < (a : Int) then (b : Int) else (a : Int)) = ((min a b : Nat) : Int) := by
  by_cases h : b < a
  · rw [if_pos (by omega), Nat.min_eq_right (by omega)]
  · rw [if_neg (by omega), Nat.min_eq_left (by omega)]
theorem rep_lst (xs : List MV) (n : Nat) (h : Hm) (hn : n ≤ 1000000) (hz : xs.length * n ≤ 1000000) : bop .mul (.lst xs) (.int n) h = some (.lst (List.replicate n xs).flatten) := by
  have h1 : xs.length * n ≤ sizeMax := Nat.le_trans hz (by decide)
  simp only [bop, itemsL]
  rw [if_pos ⟨by omega, by omega, by rw [Int.toNat_natCast]; exact h1⟩, Int.toNat_natCast]
theorem rep_tup (xs : List MV) (n : Nat) (h : Hm) (hn : n ≤ 1000000) (hz : xs.length * n ≤ 1000000) : bop .mul (.tup xs) (.int n) h = some (.tup (List.replicate n xs).flatten) := by
  have h1 : xs.length * n ≤ sizeMax := Nat.le_trans hz (by decide)
  simp only [bop]
  rw [if_pos ⟨by omega, by omega, by rw [Int.toNat_natCast]; exact h1⟩, Int.toNat_natCast]
theorem cat_tup (xs ys : List MV) (h : Hm) (hz : xs.length + ys.length ≤ 1000000) : bop .add (.tup xs) (.tup ys) h = some (.tup (xs ++ ys)) := by
  have h1 : xs.length + ys.length ≤ sizeMax := Nat.le_trans hz (by decide)
  simp only [bop]
  rw [if_pos h1]
end Mi

/-! Mi17: rows of numbers, their products (plain). -/
namespace Mi
/-- the sum of f 0 .. f (n - 1) -/
def S (n : Nat) (f : Nat → Int) : Int := ((List.range n).map f).sum
theorem S_zero (f : Nat → Int) : S 0 f = 0 := rfl
theorem S_succ (n : Nat) (f : Nat → Int) : S (n + 1) f = S n f + f n := by
  unfold S
  rw [List.range_succ, List.map_append, List.sum_append]
  simp
theorem S_congr {n : Nat} {f g : Nat → Int} (h : ∀ i, i < n → f i = g i) : S n f = S n g := by
  induction n with
  | zero => rfl
  | succ n ih => rw [S_succ, S_succ, ih fun i hi => h i (by omega), h n (by omega)]
theorem S_add (n : Nat) (f g : Nat → Int) : S n (fun i => f i + g i) = S n f + S n g := by
  induction n with
  | zero => rfl
  | succ n ih => rw [S_succ, S_succ, S_succ, ih]; omega
theorem S_mul_left (n : Nat) (c : Int) (f : Nat → Int) : S n (fun i => c * f i) = c * S n f := by
  induction n with
  | zero => simp [S]
  | succ n ih => rw [S_succ, S_succ, ih, Int.mul_add]
theorem S_mul_right (n : Nat) (c : Int) (f : Nat → Int) : S n (fun i => f i * c) = S n f * c := by
  induction n with
  | zero => simp [S]
  | succ n ih => rw [S_succ, S_succ, ih, Int.add_mul]
theorem S_zeros {n : Nat} {f : Nat → Int} (h : ∀ i, i < n → f i = 0) : S n f = 0 := by
  induction n with
  | zero => rfl
  | succ n ih => rw [S_succ, ih fun i hi => h i (by omega), h n (by omega)]; rfl
theorem S_first (n : Nat) (f : Nat → Int) : S (n + 1) f = f 0 + S n (fun i => f (i + 1)) := by
  induction n with
  | zero => rw [S_succ, S_zero, S_zero]; omega
  | succ n ih => rw [S_succ, ih, S_succ]; omega
theorem S_rev (n : Nat) (f : Nat → Int) : S n f = S n (fun i => f (n - 1 - i)) := by
  induction n with
  | zero => rfl
  | succ n ih =>
    rw [S_first n (fun i => f (n + 1 - 1 - i)), S_succ, ih, Int.add_comm]
    congr 1
    · apply S_congr
      intro i hi
      congr 1
      omega
theorem S_tri (n : Nat) (F : Nat → Nat → Int) : S n (fun i => S (i + 1) (fun j => F i j)) = S n (fun j => S (n - j) (fun m => F (j + m) j)) := by
  induction n with
  | zero => rfl
  | succ n ih =>
    rw [S_succ, ih, S_succ n (fun j => S (n + 1 - j) fun m => F (j + m) j), S_succ n (fun j => F n j)]
    have e1 : S n (fun j => S (n + 1 - j) fun m => F (j + m) j) = S n (fun j => S (n - j) (fun m => F (j + m) j) + F n j) := by
      apply S_congr
      intro j hj
      rw [show n + 1 - j = (n - j) + 1 by omega, S_succ, show j + (n - j) = n by omega]
    rw [e1, S_add, show n + 1 - n = 0 + 1 by omega, S_succ, S_zero]
    rw [Nat.add_zero]
    simp only [Int.zero_add, Int.add_assoc]
/-! ### products of functions -/
def cf (f g : Nat → Int) (k : Nat) : Int := S (k + 1) fun i => f i * g (k - i)
theorem cf_congr {f f' g g' : Nat → Int} {k : Nat} (h : ∀ i, i ≤ k → f i = f' i) (h' : ∀ i, i ≤ k → g i = g' i) : cf f g k = cf f' g' k := by
  unfold cf
  apply S_congr
  intro i hi
  rw [h i (by omega), h' (k - i) (by omega)]
theorem cf_comm (f g : Nat → Int) (k : Nat) : cf f g k = cf g f k := by
  unfold cf
  rw [S_rev]
  apply S_congr
  intro i hi
  rw [Int.mul_comm, show k - (k + 1 - 1 - i) = i by omega, show k + 1 - 1 - i = k - i by omega]
theorem cf_assoc (f g h : Nat → Int) (k : Nat) : cf (cf f g) h k = cf f (cf g h) k := by
  have e1 : cf (cf f g) h k = S (k + 1) (fun i => S (i + 1) (fun j => f j * g (i - j) * h (k - i))) := by
    show S (k + 1) (fun i => S (i + 1) (fun j => f j * g (i - j)) * h (k - i)) = _
    apply S_congr
    intro i _
    rw [← S_mul_right]
  rw [e1, S_tri (k + 1) (fun i j => f j * g (i - j) * h (k - i))]
  show _ = S (k + 1) (fun j => f j * S (k - j + 1) (fun m => g m * h (k - j - m)))
  apply S_congr
  intro j hj
  rw [← S_mul_left, show k + 1 - j = k - j + 1 by omega]
  apply S_congr
  intro m hm
  rw [show j + m - j = m by omega, show k - (j + m) = k - j - m by omega, Int.mul_assoc]
theorem cf_add (f g h : Nat → Int) (k : Nat) : cf f (fun i => g i + h i) k = cf f g k + cf f h k := by
  unfold cf
  rw [← S_add]
  apply S_congr
  intro i _
  rw [Int.mul_add]
def onef (k : Nat) : Int := if k = 0 then 1 else 0
theorem cf_one (f : Nat → Int) (k : Nat) : cf onef f k = f k := by
  unfold cf
  rw [S_first, S_zeros (fun i _ => by simp [onef])]
  simp [onef]

/-! ### rows -/
def at_ (a : List Int) (k : Nat) : Int := a.getD k 0
/-- the k-th number of a product -/
def cv (a b : List Int) (k : Nat) : Int := ((List.range (k + 1)).map fun i => a.getD i 0 * b.getD (k - i) 0).sum
def mul (a b : List Int) : List Int := (List.range (min a.length b.length)).map (cv a b)
theorem cv_cf (a b : List Int) (k : Nat) : cv a b k = cf (at_ a) (at_ b) k := rfl
theorem mul_len (a b : List Int) : (mul a b).length = min a.length b.length := by simp [mul]
theorem mul_at (a b : List Int) {k : Nat} (h : k < min a.length b.length) : at_ (mul a b) k = cf (at_ a) (at_ b) k := by
  unfold at_ mul
  rw [List.getD_eq_getElem?_getD, List.getElem?_map, List.getElem?_range h]
  rfl
theorem row_ext {a b : List Int} (hl : a.length = b.length) (h : ∀ k, k < a.length → at_ a k = at_ b k) : a = b := by
  apply List.ext_getElem hl
  intro k h1 h2
  have := h k h1
  unfold at_ at this
  rw [List.getD_eq_getElem?_getD, List.getD_eq_getElem?_getD, List.getElem?_eq_getElem h1, List.getElem?_eq_getElem h2] at this
  exact this
theorem mul_comm' (a b : List Int) : mul a b = mul b a := by
  refine row_ext (by rw [mul_len, mul_len, Nat.min_comm]) fun k hk => ?_
  rw [mul_len] at hk
  rw [mul_at _ _ hk, mul_at _ _ (by omega), cf_comm]
theorem mul_assoc' (a b c : List Int) : mul (mul a b) c = mul a (mul b c) := by
  refine row_ext (by simp only [mul_len]; omega) fun k hk => ?_
  simp only [mul_len] at hk
  rw [mul_at _ _ (by rw [mul_len]; omega), mul_at _ _ (by rw [mul_len]; omega)]
  rw [cf_congr (f' := cf (at_ a) (at_ b)) (g' := at_ c) (fun i hi => mul_at _ _ (by omega)) (fun _ _ => rfl), cf_assoc]
  exact (cf_congr (fun _ _ => rfl) (fun i hi => mul_at _ _ (by omega))).symm
def add (a b : List Int) : List Int := a.zipWith (· + ·) b
theorem add_len (a b : List Int) : (add a b).length = min a.length b.length := by simp [add]
theorem add_at (a b : List Int) {k : Nat} (h : k < min a.length b.length) : at_ (add a b) k = at_ a k + at_ b k := by
  unfold at_ add
  simp only [List.getD_eq_getElem?_getD, List.getElem?_zipWith]
  rw [List.getElem?_eq_getElem (show k < a.length by omega), List.getElem?_eq_getElem (show k < b.length by omega)]
  rfl
theorem mul_add' (a b c : List Int) : mul a (add b c) = add (mul a b) (mul a c) := by
  refine row_ext (by simp only [mul_len, add_len]; omega) fun k hk => ?_
  simp only [mul_len, add_len] at hk
  rw [mul_at _ _ (by rw [add_len]; omega), add_at _ _ (by rw [mul_len, mul_len]; omega), mul_at _ _ (by omega), mul_at _ _ (by omega), ← cf_add]
  exact cf_congr (fun _ _ => rfl) (fun i hi => add_at _ _ (by omega))
/-- 1, 0, .. -/
def one (n : Nat) : List Int := 1 :: List.replicate (n - 1) 0
theorem one_len {n : Nat} (h : 1 ≤ n) : (one n).length = n := by simp [one]; omega
theorem one_at {n k : Nat} : at_ (one n) k = onef k := by
  unfold at_ one onef
  cases k with
  | zero => rfl
  | succ k =>
    rw [List.getD_cons_succ, if_neg (by omega), List.getD_eq_getElem?_getD, List.getElem?_replicate]
    split <;> rfl
theorem one_mul' (a : List Int) {n : Nat} (h1 : 1 ≤ n) (h : a.length ≤ n) : mul (one n) a = a := by
  refine row_ext (by rw [mul_len, one_len h1]; omega) fun k hk => ?_
  rw [mul_len, one_len h1] at hk
  rw [mul_at _ _ (by rw [one_len h1]; exact hk), cf_congr (f' := onef) (g' := at_ a) (fun i _ => one_at) (fun _ _ => rfl), cf_one]
theorem mul_one' (a : List Int) {n : Nat} (h1 : 1 ≤ n) (h : a.length ≤ n) : mul a (one n) = a := by rw [mul_comm', one_mul' a h1 h]
/-- powers -/
def pw (a : List Int) : Nat → List Int
  | 0 => one a.length
  | m + 1 => mul (pw a m) a
theorem pw_len {a : List Int} (h : 1 ≤ a.length) : ∀ m, (pw a m).length = a.length
  | 0 => one_len h
  | m + 1 => by unfold pw; rw [mul_len, pw_len h m]; omega
theorem pw_add {a : List Int} (h : 1 ≤ a.length) (m : Nat) : ∀ n, mul (pw a m) (pw a n) = pw a (m + n)
  | 0 => by
    show mul (pw a m) (one a.length) = _
    rw [mul_one' _ h (by rw [pw_len h]; omega)]
    rfl
  | n + 1 => by
    show mul (pw a m) (mul (pw a n) a) = mul (pw a (m + n)) a
    rw [← mul_assoc', pw_add h m n]
theorem pw_one {a : List Int} (h : 1 ≤ a.length) : pw a 1 = a := one_mul' a h (Nat.le_refl _)
theorem pw_mul {a : List Int} (h : 1 ≤ a.length) (m : Nat) : ∀ n, pw (pw a m) n = pw a (m * n)
  | 0 => by
    show one (pw a m).length = one a.length
    rw [pw_len h]
  | n + 1 => by
    show mul (pw (pw a m) n) (pw a m) = _
    rw [pw_mul h m n, pw_add h, Nat.mul_succ]
/-- the powers of a product -/
theorem mul_pw {a b : List Int} (h : 1 ≤ a.length) (hl : a.length = b.length) : ∀ m, pw (mul a b) m = mul (pw a m) (pw b m)
  | 0 => by
    show one (mul a b).length = mul (one a.length) (one b.length)
    rw [mul_len, ← hl, Nat.min_self, one_mul' _ h (by rw [one_len h]; omega)]
  | m + 1 => by
    show mul (pw (mul a b) m) (mul a b) = mul (mul (pw a m) a) (mul (pw b m) b)
    rw [mul_pw h hl m, mul_assoc', mul_assoc', ← mul_assoc' (pw b m) a b, mul_comm' (pw b m) a, mul_assoc' a (pw b m) b]
theorem pw_ones {n : Nat} (h : 1 ≤ n) : ∀ m, pw (one n) m = one n
  | 0 => by show one (one n).length = _; rw [one_len h]
  | m + 1 => by
    show mul (pw (one n) m) (one n) = _
    rw [pw_ones h m, one_mul' _ h (by rw [one_len h]; omega)]

/-! ### how great the numbers are -/
def bd (B : Nat) (a : List Int) : Prop := ∀ x ∈ a, x.natAbs < 2 ^ B
theorem bd_mono {B C : Nat} {a : List Int} (h : bd B a) (le : B ≤ C) : bd C a := fun x hx => Nat.lt_of_lt_of_le (h x hx) (Nat.pow_le_pow_right (by decide) le)
theorem bd_at {B : Nat} {a : List Int} (h : bd B a) (k : Nat) : (at_ a k).natAbs < 2 ^ B := by
  unfold at_
  rw [List.getD_eq_getElem?_getD]
  by_cases hk : k < a.length
  · rw [List.getElem?_eq_getElem hk]; exact h _ (List.getElem_mem hk)
  · rw [List.getElem?_eq_none (by omega)]; exact Nat.pow_pos (by decide)
theorem log2_lt {n B : Nat} (h : n < 2 ^ B) : n.log2 ≤ B := by
  by_cases h0 : n = 0
  · subst h0
    rw [show Nat.log2 0 = 0 by decide]
    exact Nat.zero_le _
  · exact Nat.le_of_lt ((Nat.log2_lt h0).mpr h)
theorem mulOk_bd {B C : Nat} {a b : List Int} (ha : bd B a) (hb : bd C b) (h : B + C < 1000000) : ∀ x ∈ a, ∀ y ∈ b, mulOk x y = true := fun x hx y hy => by
  have h1 := log2_lt (ha x hx)
  have h2 := log2_lt (hb y hy)
  unfold mulOk
  simp only [Bool.or_eq_true, decide_eq_true_eq]
  exact .inr (by omega)
theorem S_bound (n : Nat) (f : Nat → Int) (M : Nat) (h : ∀ i, i < n → (f i).natAbs ≤ M) : (S n f).natAbs ≤ n * M := by
  induction n with
  | zero => simp [S]
  | succ n ih =>
    rw [S_succ, Nat.succ_mul]
    have := ih fun i hi => h i (by omega)
    have := h n (by omega)
    omega
theorem bd_mul {B C : Nat} {a b : List Int} (ha : bd B a) (hb : bd C b) (hl : a.length ≤ 1024) : bd (B + C + 10) (mul a b) := fun x hx => by
  unfold mul at hx
  obtain ⟨k, hk, rfl⟩ := List.mem_map.mp hx
  have hk : k < min a.length b.length := by simpa using hk
  rw [cv_cf]
  unfold cf
  have h1 : (S (k + 1) fun i => at_ a i * at_ b (k - i)).natAbs ≤ (k + 1) * (2 ^ B * 2 ^ C - 1) := S_bound _ _ _ fun i _ => by
    rw [Int.natAbs_mul]
    have h1 := bd_at ha i
    have h2 := bd_at hb (k - i)
    have : (at_ a i).natAbs * (at_ b (k - i)).natAbs < 2 ^ B * 2 ^ C := Nat.mul_lt_mul'' h1 h2
    omega
  have h2 : 0 < 2 ^ B * 2 ^ C := Nat.mul_pos (Nat.pow_pos (by decide)) (Nat.pow_pos (by decide))
  have h3 : (k + 1) * (2 ^ B * 2 ^ C - 1) < 1024 * (2 ^ B * 2 ^ C) := Nat.lt_of_le_of_lt (Nat.mul_le_mul_right _ (by omega : k + 1 ≤ 1024)) (Nat.mul_lt_mul_of_pos_left (by omega) (by decide))
  rw [Nat.pow_add, Nat.pow_add, Nat.mul_comm _ (2 ^ 10)]
  exact Nat.lt_of_le_of_lt h1 h3
theorem bd_one (n : Nat) : bd 1 (one n) := fun x hx => by
  unfold one at hx
  rcases List.mem_cons.mp hx with q | q
  · subst q; decide
  · have := List.eq_of_mem_replicate q
    subst this; decide
theorem bd_pw {B : Nat} {a : List Int} (ha : bd B a) (h1 : 1 ≤ a.length) (hl : a.length ≤ 1024) : ∀ m, bd (1 + m * (B + 10)) (pw a m)
  | 0 => bd_mono (bd_one _) (by omega)
  | m + 1 => by
    show bd _ (mul (pw a m) a)
    refine bd_mono (bd_mul (bd_pw ha h1 hl m) ha (by rw [pw_len h1]; exact hl)) ?_
    rw [Nat.succ_mul]
    omega
/-! ### rows compared -/
open PySem
theorem lay_ints : ∀ xs : List Int, PyData.canLayAll0 (xs.map .int) = true
  | [] => rfl
  | x :: xs => by
    simp only [List.map_cons, PyData.canLayAll0, PyData.canLay0, lay_ints xs]
    rfl
theorem depth_ints : ∀ xs : List Int, PyData.depthAll (xs.map .int) = 0
  | [] => rfl
  | x :: xs => by
    simp only [List.map_cons, PyData.depthAll, PyData.depth, depth_ints xs]
    rfl
theorem eqv_ints : ∀ xs ys : List Int, PyData.eqvAll (xs.map .int) (ys.map .int) = decide (xs = ys)
  | [], [] => rfl
  | [], _ :: _ => rfl
  | _ :: _, [] => rfl
  | x :: xs, y :: ys => by
    simp only [List.map_cons, PyData.eqvAll, PyData.eqv, eqv_ints xs ys]
    by_cases h : x = y
    · subst h
      by_cases h2 : xs = ys
      · subst h2; simp
      · simp [h2]
    · have : (x == y) = false := by simpa using h
      rw [this]
      simp [h]
theorem shaped_ints (xs : List Int) : SeqAt.shaped (.tuple (xs.map .int)) = true := by
  unfold SeqAt.shaped
  simp only [PyData.canLay0, lay_ints, PyData.depth, depth_ints]
  rfl
theorem eq_tI (xs ys : List Int) (h : Hm) : cop .eq (tI xs) (tI ys) h = some (decide (xs = ys)) := by
  show eqD (tI xs) (tI ys) h = _
  unfold eqD
  simp only [toD, toDs_ints, Option.map_some, shaped_ints, Bool.and_self, if_true, PyData.eqv, eqv_ints]
theorem ne_tI (xs ys : List Int) (h : Hm) : cop .ne (tI xs) (tI ys) h = some (!decide (xs = ys)) := by
  show (eqD (tI xs) (tI ys) h).map (!·) = _
  have : eqD (tI xs) (tI ys) h = some (decide (xs = ys)) := eq_tI xs ys h
  rw [this]; rfl
theorem ne_same (xs : List Int) (h : Hm) : cop .ne (tI xs) (tI xs) h = some false := by
  rw [ne_tI, decide_eq_true rfl]; rfl
theorem eq_same (xs : List Int) (h : Hm) : cop .eq (tI xs) (tI xs) h = some true := by
  rw [eq_tI, decide_eq_true rfl]
end Mi

/-! Mi18: loops from behind; whole numbers. -/
namespace Mi
open PySem
/-- a for with a way out: the body may end the def -/
theorem iterF_out {s : Src} {g : MV → Loc → Hm → Option (Loc × Hm)} {b : Loc → Hm → Option SRes} (n : Nat) (I : Nat → Loc → Hm → Prop) (E : SRes → Prop)
    (hend : ∀ σ h, I n σ h → s.nth n h = some none ∧ E (.nx σ h))
    (hstep : ∀ i σ h, i < n → I i σ h → ∃ v σ1 h1, s.nth i h = some (some v) ∧ g v σ h = some (σ1, h1) ∧ ((∃ σ2 h2, (b σ1 h1 = some (.nx σ2 h2) ∨ b σ1 h1 = some (.ct σ2 h2)) ∧ I (i + 1) σ2 h2) ∨ (∃ v h2, b σ1 h1 = some (.rt v h2) ∧ E (.rt v h2)) ∨ (∃ e σ2 h2, b σ1 h1 = some (.ex e σ2 h2) ∧ E (.ex e σ2 h2)) ∨ ∃ σ2 h2, b σ1 h1 = some (.bk σ2 h2) ∧ E (.nx σ2 h2))) :
    ∀ (m i : Nat) (σ : Loc) (h : Hm), I i σ h → i ≤ n → n - i < m → ∃ r, iterF s g b m i σ h = some r ∧ E r
  | 0, i, σ, h, _, _, hm => by omega
  | m + 1, i, σ, h, hI, hi, hm => by
    by_cases hin : i = n
    · subst hin
      exact ⟨.nx σ h, by simp only [iterF, (hend σ h hI).1], (hend σ h hI).2⟩
    · obtain ⟨v, σ1, h1, e1, e2, e3⟩ := hstep i σ h (by omega) hI
      rcases e3 with ⟨σ2, h2, e3, hI2⟩ | ⟨v, h2, e3, hE⟩ | ⟨e, σ2, h2, e3, hE⟩ | ⟨σ2, h2, e3, hE⟩
      · obtain ⟨r, e, hE⟩ := iterF_out n I E hend hstep m (i + 1) σ2 h2 hI2 (by omega) (by omega)
        refine ⟨r, ?_, hE⟩
        rcases e3 with e3 | e3 <;> simp only [iterF, e1, e2, e3] <;> exact e
      · exact ⟨_, by simp only [iterF, e1, e2, e3], hE⟩
      · exact ⟨_, by simp only [iterF, e1, e2, e3], hE⟩
      · exact ⟨_, by simp only [iterF, e1, e2, e3], hE⟩
theorem x_forO {F : Calls} {t : MT} {it : MI} {b : List MS} {σ : Loc} {h h1 : Hm} {s : Src} (Φ : Option SRes → Prop) (hi : evalI F it σ h = some (.ok s h1)) (n : Nat) (hl : s.len h1 = n) (I : Nat → Loc → Hm → Prop) (h0 : I 0 σ h1)
    (hend : ∀ σ h, I n σ h → s.nth n h = some none ∧ Φ (some (.nx σ h)))
    (step : ∀ i σ h, i < n → I i σ h → ∃ v σ1 h1, s.nth i h = some (some v) ∧ evalT F t v σ h = some (σ1, h1) ∧ ((∃ σ2 h2, (execB F b σ1 h1 = some (.nx σ2 h2) ∨ execB F b σ1 h1 = some (.ct σ2 h2)) ∧ I (i + 1) σ2 h2) ∨ (∃ v h2, execB F b σ1 h1 = some (.rt v h2) ∧ Φ (some (.rt v h2))) ∨ (∃ e σ2 h2, execB F b σ1 h1 = some (.ex e σ2 h2) ∧ Φ (some (.ex e σ2 h2))) ∨ ∃ σ2 h2, execB F b σ1 h1 = some (.bk σ2 h2) ∧ Φ (some (.nx σ2 h2)))) :
    Φ (execS F (.forr t it b) σ h) := by
  obtain ⟨q, e1, e2⟩ := iterF_out (s := s) (g := fun v σ h => evalT F t v σ h) (b := fun σ h => execB F b σ h) n I (fun q => Φ (some q)) hend step (s.len h1 + 1) 0 σ h1 h0 (Nat.zero_le _) (by omega)
  rw [s_for0 hi e1]
  exact e2
/-- a for whose body only goes on -/
theorem x_for {F : Calls} {t : MT} {it : MI} {b : List MS} {σ : Loc} {h h1 : Hm} {s : Src} (Φ : Option SRes → Prop) (hi : evalI F it σ h = some (.ok s h1)) (n : Nat) (hl : s.len h1 = n) (I : Nat → Loc → Hm → Prop) (h0 : I 0 σ h1)
    (hend : ∀ σ h, I n σ h → s.nth n h = some none ∧ Φ (some (.nx σ h)))
    (step : ∀ i σ h, i < n → I i σ h → ∃ v σ1 h1, s.nth i h = some (some v) ∧ evalT F t v σ h = some (σ1, h1) ∧ ∃ σ2 h2, execB F b σ1 h1 = some (.nx σ2 h2) ∧ I (i + 1) σ2 h2) :
    Φ (execS F (.forr t it b) σ h) := x_forO Φ hi n hl I h0 hend fun i σ h hi hI => by
  obtain ⟨v, σ1, h1, e1, e2, σ2, h2, e3, e4⟩ := step i σ h hi hI
  exact ⟨v, σ1, h1, e1, e2, .inl ⟨σ2, h2, .inl e3, e4⟩⟩
/-- a while with a way out -/
theorem iterW_out {c : Loc → Hm → RO Bool} {b : Loc → Hm → Option SRes} (I : Nat → Loc → Hm → Prop) (E : SRes → Prop)
    (hstep : ∀ m σ h, I m σ h → (c σ h = some (.ok false h) ∧ E (.nx σ h)) ∨ ∃ h1, c σ h = some (.ok true h1) ∧ ((∃ m' σ2 h2, (b σ h1 = some (.nx σ2 h2) ∨ b σ h1 = some (.ct σ2 h2)) ∧ m' < m ∧ I m' σ2 h2) ∨ (∃ v h2, b σ h1 = some (.rt v h2) ∧ E (.rt v h2)) ∨ (∃ e σ2 h2, b σ h1 = some (.ex e σ2 h2) ∧ E (.ex e σ2 h2)) ∨ ∃ σ2 h2, b σ h1 = some (.bk σ2 h2) ∧ E (.nx σ2 h2))) :
    ∀ (fuel m : Nat) (σ : Loc) (h : Hm), m < fuel → I m σ h → ∃ r, iterW c b fuel σ h = some r ∧ E r
  | 0, m, σ, h, hm, _ => by omega
  | fuel + 1, m, σ, h, hm, hI => by
    rcases hstep m σ h hI with ⟨e1, hE⟩ | ⟨h1, e1, e2⟩
    · exact ⟨_, by simp only [iterW, e1], hE⟩
    · rcases e2 with ⟨m', σ2, h2, e2, hlt, hI2⟩ | ⟨v, h2, e2, hE⟩ | ⟨e, σ2, h2, e2, hE⟩ | ⟨σ2, h2, e2, hE⟩
      · obtain ⟨r, e, hE⟩ := iterW_out I E hstep fuel m' σ2 h2 (by omega) hI2
        refine ⟨r, ?_, hE⟩
        rcases e2 with e2 | e2 <;> simp only [iterW, e1, e2] <;> exact e
      · exact ⟨_, by simp only [iterW, e1, e2], hE⟩
      · exact ⟨_, by simp only [iterW, e1, e2], hE⟩
      · exact ⟨_, by simp only [iterW, e1, e2], hE⟩
theorem x_whlO {F : Calls} {c : ME} {b : List MS} {σ : Loc} {h : Hm} (Φ : Option SRes → Prop) (I : Nat → Loc → Hm → Prop) (m : Nat) (hm : m < iterMax) (h0 : I m σ h)
    (step : ∀ m σ h, I m σ h → (evalC F (some c) σ h = some (.ok false h) ∧ Φ (some (.nx σ h))) ∨ ∃ h1, evalC F (some c) σ h = some (.ok true h1) ∧ ((∃ m' σ2 h2, (execB F b σ h1 = some (.nx σ2 h2) ∨ execB F b σ h1 = some (.ct σ2 h2)) ∧ m' < m ∧ I m' σ2 h2) ∨ (∃ v h2, execB F b σ h1 = some (.rt v h2) ∧ Φ (some (.rt v h2))) ∨ (∃ e σ2 h2, execB F b σ h1 = some (.ex e σ2 h2) ∧ Φ (some (.ex e σ2 h2))) ∨ ∃ σ2 h2, execB F b σ h1 = some (.bk σ2 h2) ∧ Φ (some (.nx σ2 h2)))) :
    Φ (execS F (.whl c b) σ h) := by
  obtain ⟨q, e1, e2⟩ := iterW_out (c := fun σ h => evalC F (some c) σ h) (b := fun σ h => execB F b σ h) I (fun q => Φ (some q)) step iterMax m σ h hm h0
  rw [s_whl0 e1]
  exact e2
/-- a while whose body only goes on -/
theorem x_whl {F : Calls} {c : ME} {b : List MS} {σ : Loc} {h : Hm} (Φ : Option SRes → Prop) (I : Nat → Loc → Hm → Prop) (m : Nat) (hm : m < iterMax) (h0 : I m σ h)
    (step : ∀ m σ h, I m σ h → (evalC F (some c) σ h = some (.ok false h) ∧ Φ (some (.nx σ h))) ∨ (evalC F (some c) σ h = some (.ok true h) ∧ ∃ m' σ2 h2, execB F b σ h = some (.nx σ2 h2) ∧ m' < m ∧ I m' σ2 h2)) :
    Φ (execS F (.whl c b) σ h) := x_whlO Φ I m hm h0 fun m σ h hI => by
  rcases step m σ h hI with e | ⟨e1, m', σ2, h2, e2, e3, e4⟩
  · exact .inl e
  · exact .inr ⟨h, e1, .inl ⟨m', σ2, h2, .inl e2, e3, e4⟩⟩
/-- a comprehension with or without a test, its heap stays: what it keeps of item i -/
theorem e_lcf {F : Calls} {own : List Nat} {tg : MT} {it : MI} {c : Option ME} {elt : ME} {σ : Loc} {h : Hm} {s : Src} (n : Nat) (p : Nat → Bool) (f : Nat → MV) (hi : evalI F it σ h = some (.ok s h)) (hl : s.len h = n) (hz : n ≤ 16777216)
    (hend : s.nth n h = some none) (hs : ∀ i, i < n → ∃ v σ1, s.nth i h = some (some v) ∧ evalT F tg v (wipeL σ own) h = some (σ1, h) ∧ evalC F c σ1 h = some (.ok (p i) h) ∧ (p i = true → ∃ y, evalE F elt σ1 h = some (.ok y h) ∧ frz y = f i ∧ (f i).nol = true)) :
    evalE F (.lc own tg it c elt) σ h = some (.ok (.lst (((List.range n).filter p).map f)) h) := by
  obtain ⟨acc', h', e1, rfl, rfl⟩ := iterC_inv (s := s) (g := fun v h => evalT F tg v (wipeL σ own) h) (c := fun σ h => evalC F c σ h) (e := fun σ h => evalE F elt σ h) n (fun i acc h' => acc = ((List.range i).filter p).map f ∧ h' = h) (fun acc h' hI => by rw [hI.2]; exact hend) (fun i acc h' hlt hI => by
    obtain ⟨rfl, rfl⟩ := hI
    obtain ⟨v, σ1, e1, e2, e3, e4⟩ := hs i hlt
    refine ⟨v, σ1, h', h', e1, e2, ?_⟩
    have hr : (List.range (i + 1)).filter p = (List.range i).filter p ++ if p i = true then [i] else [] := by
      rw [List.range_succ, List.filter_append, List.filter_cons, List.filter_nil]
    cases hp : p i with
    | false => exact .inl ⟨by rw [e3, hp], by rw [hr, hp]; simp, rfl⟩
    | true =>
      obtain ⟨y, e5, e6, e7⟩ := e4 hp
      refine .inr ⟨y, h', by rw [e3, hp], e5, ?_, by rw [e6]; exact e7, by rw [hr, hp, e6]; simp, rfl⟩
      rw [List.length_map]
      have : ((List.range i).filter p).length ≤ i := by
        have := List.length_filter_le p (List.range i)
        rwa [List.length_range] at this
      exact Nat.lt_of_le_of_lt this (Nat.lt_of_lt_of_le hlt hz)) (s.len h + 1) 0 [] h ⟨by simp, rfl⟩ (Nat.zero_le _) (by omega)
  exact e_lc hi e1
/-! ### the heap's end -/
theorem hx_get0 (h l : Hm) : (h ++ l)[h.length]? = l[0]? := by rw [List.getElem?_append_right (Nat.le_refl _), Nat.sub_self]
theorem hx_getS (h l : Hm) (i : Nat) : (h ++ l)[h.length + i]? = l[i]? := by rw [List.getElem?_append_right (by omega), Nat.add_sub_cancel_left]
theorem hx_set0 (h l : Hm) (o : MO) : (h ++ l).set h.length o = h ++ l.set 0 o := by rw [List.set_append_right _ _ (Nat.le_refl _), Nat.sub_self]
theorem hx_setS (h l : Hm) (i : Nat) (o : MO) : (h ++ l).set (h.length + i) o = h ++ l.set i o := by rw [List.set_append_right _ _ (by omega), Nat.add_sub_cancel_left]
theorem hx_take (h l : Hm) : (h ++ l).take h.length = h := by simp
theorem hx_take2 (p t : Hm) (x : MO) : (p ++ x :: t).take (p.length + (t.length + 1)) = p ++ x :: t := List.take_of_length_le (by simp)
theorem hx_take1 (p : Hm) (x : MO) : (p ++ [x]).take (p.length + 1) = p ++ [x] := List.take_of_length_le (by simp)
theorem hx_take3 (p t l : Hm) (x : MO) : (p ++ x :: (t ++ l)).take (p.length + (t.length + 1)) = p ++ x :: t := by
  have e : p ++ x :: (t ++ l) = (p ++ x :: t) ++ l := by simp
  rw [e, List.take_append_of_le_length (by simp), List.take_of_length_le (by simp)]
theorem hx_take4 (p l : Hm) (x : MO) : (p ++ x :: l).take (p.length + 1) = p ++ [x] := by
  have e : p ++ x :: l = (p ++ [x]) ++ l := by simp
  rw [e, List.take_append_of_le_length (by simp), List.take_of_length_le (by simp)]
theorem hx_get3 (p t : Hm) (x y : MO) (l : Hm) : (p ++ x :: (t ++ y :: l))[p.length + (t.length + 1)]? = some y := by
  have e : p ++ x :: (t ++ y :: l) = (p ++ x :: t) ++ y :: l := by simp
  rw [e, List.getElem?_append_right (by simp)]
  simp
theorem hx_len (h : Hm) (o : MO) (l : Hm) : (h ++ o :: l).length = h.length + (l.length + 1) := by simp
theorem hx_app (h : Hm) (o : MO) (l : Hm) (o' : MO) : (h ++ o :: l) ++ [o'] = h ++ o :: (l ++ [o']) := by simp
theorem hx_ge (h : Hm) (i : Nat) : ¬ h.length + i < h.length := by omega
theorem hx_ge0 (h : Hm) : ¬ h.length < h.length := by omega
theorem m_app0 (h l : Hm) (xs : List MV) (v : MV) (hp : (frz v).pure = true) (hz : xs.length < 16777216) : methV .append (.ref h.length) [v] (h ++ .lst xs :: l) = some (.non, h ++ .lst (xs ++ [frz v]) :: l) := by
  simp only [methV, hx_get0, List.getElem?_cons_zero, hx_set0, List.set_cons_zero]
  rw [if_pos ⟨hp, hz⟩]
theorem m_app1 (h l : Hm) (o : MO) (xs : List MV) (v : MV) (hp : (frz v).pure = true) (hz : xs.length < 16777216) : methV .append (.ref (h.length + 1)) [v] (h ++ o :: .lst xs :: l) = some (.non, h ++ o :: .lst (xs ++ [frz v]) :: l) := by
  simp only [methV, hx_getS, List.getElem?_cons_zero, List.getElem?_cons_succ, hx_setS, List.set_cons_zero, List.set_cons_succ]
  rw [if_pos ⟨hp, hz⟩]
theorem m_app2 (h l : Hm) (o o2 : MO) (xs : List MV) (v : MV) (hp : (frz v).pure = true) (hz : xs.length < 16777216) : methV .append (.ref (h.length + 2)) [v] (h ++ o :: o2 :: .lst xs :: l) = some (.non, h ++ o :: o2 :: .lst (xs ++ [frz v]) :: l) := by
  simp only [methV, hx_getS, List.getElem?_cons_zero, List.getElem?_cons_succ, hx_setS, List.set_cons_zero, List.set_cons_succ]
  rw [if_pos ⟨hp, hz⟩]
theorem add_lst (xs ys : List MV) (h : Hm) (a b : MV) (ha : itemsL h a = some xs) (hb : itemsL h b = some ys) (na : ∀ zs, a ≠ .tup zs) (hz : xs.length + ys.length ≤ 16777216) : bop .add a b h = some (.lst (xs ++ ys)) := by
  have : bop .add a b h = match itemsL h a, itemsL h b with
    | some xs, some ys => if xs.length + ys.length ≤ sizeMax then some (.lst (xs ++ ys)) else none
    | _, _ => none := by
    cases a <;> cases b <;> first | rfl | cases ha | exact absurd rfl (na _)
  rw [this, ha, hb]
  exact if_pos hz
theorem add_ll (xs ys : List MV) (h : Hm) (hz : xs.length + ys.length ≤ 16777216) : bop .add (.lst xs) (.lst ys) h = some (.lst (xs ++ ys)) := add_lst xs ys h _ _ rfl rfl (fun _ e => nomatch e) hz
theorem add_rl0 (h l : Hm) (xs ys : List MV) (hz : xs.length + ys.length ≤ 16777216) : bop .add (.ref h.length) (.lst ys) (h ++ .lst xs :: l) = some (.lst (xs ++ ys)) := add_lst xs ys _ _ _ (by simp only [itemsL, hx_get0, List.getElem?_cons_zero]) rfl (fun _ e => nomatch e) hz
theorem add_rl1 (h l : Hm) (o : MO) (xs ys : List MV) (hz : xs.length + ys.length ≤ 16777216) : bop .add (.ref (h.length + 1)) (.lst ys) (h ++ o :: .lst xs :: l) = some (.lst (xs ++ ys)) := add_lst xs ys _ _ _ (by simp only [itemsL, hx_getS, List.getElem?_cons_zero, List.getElem?_cons_succ]) rfl (fun _ e => nomatch e) hz
/-! ### whole numbers -/
theorem bn_add (a b : Nat) (h : Hm) : bop .add (.int (a : Int)) (.int (b : Int)) h = some (.int ((a + b : Nat) : Int)) := rfl
theorem bn_addL (a m : Nat) (h : Hm) : bop .add (.int (a : Int)) (.int (no_index (OfNat.ofNat m))) h = some (.int ((a + OfNat.ofNat m : Nat) : Int)) := rfl
theorem bn_add1 (a : Nat) (h : Hm) : bop .add (.int (a : Int)) (.int 1) h = some (.int ((a + 1 : Nat) : Int)) := rfl
theorem an_add1 (a : Nat) (h : Hm) : augV .add (.int (a : Int)) (.int 1) h = some (.int ((a + 1 : Nat) : Int)) := rfl
theorem an_add (a b : Nat) (h : Hm) : augV .add (.int (a : Int)) (.int (b : Int)) h = some (.int ((a + b : Nat) : Int)) := rfl
theorem bn_sub1 (a : Nat) (h : Hm) (ha : 1 ≤ a) : bop .sub (.int (a : Int)) (.int 1) h = some (.int ((a - 1 : Nat) : Int)) := by
  show some (MV.int ((a : Int) - 1)) = _
  congr 2; omega
theorem bn_sub (a b : Nat) (h : Hm) (hb : b ≤ a) : bop .sub (.int (a : Int)) (.int (b : Int)) h = some (.int ((a - b : Nat) : Int)) := by
  show some (MV.int ((a : Int) - b)) = _
  congr 2; omega
theorem fdvOk_nat (b : Nat) (h1 : b ≠ 0) (h2 : b < 1073741824) : fdvOk (b : Int) = true := by
  unfold fdvOk
  rw [decide_eq_true (show (b : Int) ≠ 0 by omega), decide_eq_true (show (b : Int).natAbs < 1073741824 by omega)]
  simp
theorem bi_fdv (a b : Int) (h : Hm) (h1 : b ≠ 0) (h2 : b.natAbs < 1073741824) : bop .fdv (.int a) (.int b) h = some (.int (a.fdiv b)) := by
  have hf : fdvOk b = true := by
    unfold fdvOk
    rw [decide_eq_true h1, decide_eq_true h2]
    simp
  show (if fdvOk b then some (MV.int (a.fdiv b)) else none) = _
  rw [hf]; rfl
theorem bi_fdvW (a b : Int) (h : Hm) (h1 : b ≠ 0) (h2 : b.natAbs.log2 < 9000) : bop .fdv (.int a) (.int b) h = some (.int (a.fdiv b)) := by
  have hf : fdvOk b = true := by
    unfold fdvOk
    rw [decide_eq_true h1, decide_eq_true h2]
    simp
  show (if fdvOk b then some (MV.int (a.fdiv b)) else none) = _
  rw [hf]; rfl
theorem bn_fdv (a b : Nat) (h : Hm) (h1 : b ≠ 0) (h2 : b < 1073741824) : bop .fdv (.int (a : Int)) (.int (b : Int)) h = some (.int ((a / b : Nat) : Int)) := by
  rw [bi_fdv _ _ _ (by omega) (by omega), Int.fdiv_eq_ediv_of_nonneg _ (by omega), Int.natCast_ediv]
theorem bi_mod (a b : Int) (h : Hm) (h1 : b ≠ 0) : bop .mod (.int a) (.int b) h = some (.int (a.fmod b)) := by
  show (if b ≠ 0 then some (MV.int (Int.fmod a b)) else none) = _
  rw [if_pos h1]
theorem bn_mod (a b : Nat) (h : Hm) (h1 : b ≠ 0) : bop .mod (.int (a : Int)) (.int (b : Int)) h = some (.int ((a % b : Nat) : Int)) := by
  rw [bi_mod _ _ _ (by omega), Int.fmod_eq_emod_of_nonneg _ (by omega), Int.natCast_emod]
theorem bn_modL (a m : Nat) (h : Hm) (h1 : (OfNat.ofNat m : Nat) ≠ 0) : bop .mod (.int (a : Int)) (.int (no_index (OfNat.ofNat m))) h = some (.int ((a % OfNat.ofNat m : Nat) : Int)) := bn_mod a m h h1
theorem bn_fdvL (a m : Nat) (h : Hm) (h1 : (OfNat.ofNat m : Nat) ≠ 0) (h2 : (OfNat.ofNat m : Nat) < 1073741824) : bop .fdv (.int (a : Int)) (.int (no_index (OfNat.ofNat m))) h = some (.int ((a / OfNat.ofNat m : Nat) : Int)) := bn_fdv a m h h1 h2
theorem mulOk_l' {i : Int} (j : Int) (h : i.natAbs < 18446744073709551616) : mulOk i j = true := by
  unfold mulOk
  rw [decide_eq_true h]; rfl
theorem mulOk_r' (i : Int) {j : Int} (h : j.natAbs < 18446744073709551616) : mulOk i j = true := by
  unfold mulOk
  rw [decide_eq_true h]; simp
theorem bi_mul (a b : Int) (h : Hm) (h1 : a.natAbs < 18446744073709551616 ∨ b.natAbs < 18446744073709551616) : bop .mul (.int a) (.int b) h = some (.int (a * b)) := by
  show (if mulOk a b then some (MV.int (a * b)) else none) = _
  rcases h1 with h1 | h1
  · rw [mulOk_l' _ h1]; rfl
  · rw [mulOk_r' _ h1]; rfl
theorem bn_mul (a b : Nat) (h : Hm) (h1 : a < 18446744073709551616) : bop .mul (.int (a : Int)) (.int (b : Int)) h = some (.int ((a * b : Nat) : Int)) := by
  rw [bi_mul _ _ _ (.inl (by omega)), Int.natCast_mul]
theorem cn_le (a b : Nat) (h : Hm) : cop .le (.int (a : Int)) (.int (b : Int)) h = some (decide (a ≤ b)) := by
  show some (decide ((a : Int) ≤ b)) = _
  congr 1; apply decide_eq_decide.mpr; omega
theorem cn_lt (a b : Nat) (h : Hm) : cop .lt (.int (a : Int)) (.int (b : Int)) h = some (decide (a < b)) := by
  show some (decide ((a : Int) < b)) = _
  congr 1; apply decide_eq_decide.mpr; omega
theorem cn_ge (a b : Nat) (h : Hm) : cop .ge (.int (a : Int)) (.int (b : Int)) h = some (decide (b ≤ a)) := by
  show some (decide ((b : Int) ≤ a)) = _
  congr 1; apply decide_eq_decide.mpr; omega
theorem cn_gt (a b : Nat) (h : Hm) : cop .gt (.int (a : Int)) (.int (b : Int)) h = some (decide (b < a)) := by
  show some (decide ((b : Int) < a)) = _
  congr 1; apply decide_eq_decide.mpr; omega
theorem cn_eq (a b : Nat) (h : Hm) : cop .eq (.int (a : Int)) (.int (b : Int)) h = some (decide (a = b)) := by
  show some (decide ((a : Int) = b)) = _
  congr 1; apply decide_eq_decide.mpr; omega
theorem cn_ne (a b : Nat) (h : Hm) : cop .ne (.int (a : Int)) (.int (b : Int)) h = some (!decide (a = b)) := by
  show some (!decide ((a : Int) = b)) = _
  congr 2; apply decide_eq_decide.mpr; omega
theorem cn_gt0 (a : Nat) (h : Hm) : cop .gt (.int (a : Int)) (.int 0) h = some (decide (0 < a)) := cn_gt a 0 h
theorem cn_gt1 (a : Nat) (h : Hm) : cop .gt (.int (a : Int)) (.int 1) h = some (decide (1 < a)) := cn_gt a 1 h
theorem cn_eq0 (a : Nat) (h : Hm) : cop .eq (.int (a : Int)) (.int 0) h = some (decide (a = 0)) := cn_eq a 0 h
theorem cn_eq1 (a : Nat) (h : Hm) : cop .eq (.int (a : Int)) (.int 1) h = some (decide (a = 1)) := cn_eq a 1 h
theorem cn_ne0 (a : Nat) (h : Hm) : cop .ne (.int (a : Int)) (.int 0) h = some (!decide (a = 0)) := cn_ne a 0 h
/-- lists of whole numbers -/
abbrev nI (xs : List Nat) : List MV := xs.map fun (d : Nat) => .int (d : Int)
theorem nI_ints (xs : List Nat) : nI xs = (xs.map fun (d : Nat) => (d : Int)).map .int := by
  rw [List.map_map]; rfl
@[simp] theorem pureL_nI (xs : List Nat) : pureL (nI xs) = true := by rw [nI_ints]; exact pureL_ints _
@[simp] theorem nolL_nI (xs : List Nat) : nolL (nI xs) = true := by rw [nI_ints]; exact nolL_ints _
@[simp] theorem frozL_nI (n : Nat) (h : Hm) (xs : List Nat) : frozL n h (nI xs) = some (nI xs) := by rw [nI_ints]; exact frozL_ints _ _ _
theorem nI_app (a b : List Nat) : nI a ++ nI b = nI (a ++ b) := by rw [← List.map_append]
theorem nI_snoc (a : List Nat) (b : Nat) : nI a ++ [.int (b : Int)] = nI (a ++ [b]) := by
  show _ = List.map _ (a ++ [b])
  rw [List.map_append]; rfl
theorem nI_rev (a : List Nat) : (nI a).reverse = nI a.reverse := by rw [← List.map_reverse]
end Mi

/-! Mi19: == of values. -/
namespace Mi
open PySem
mutual
/-- data without references, at most n deep -/
def dat : Nat → MV → Bool
  | _, .non => true
  | _, .bl _ => true
  | _, .int _ => true
  | _, .str s => PyData.strOk s
  | n + 1, .tup xs => datL n xs
  | n + 1, .lst xs => datL n xs
  | n + 1, .fz xs => datL n xs
  | n + 1, .scr _ => true
  | _, _ => false
def datL : Nat → List MV → Bool
  | _, [] => true
  | n, x :: xs => dat n x && datL n xs
end
mutual
theorem dat_spec : ∀ (n : Nat) (v : MV), dat n v = true → ∃ d, toP v = some d ∧ (∀ h, toD h v = some d) ∧ d.canLay0 = true ∧ d.depth ≤ n
  | n, .non, _ => ⟨.none, rfl, fun _ => rfl, rfl, Nat.zero_le _⟩
  | n, .bl b, _ => ⟨.bool b, rfl, fun _ => rfl, rfl, Nat.zero_le _⟩
  | n, .int i, _ => ⟨.int i, rfl, fun _ => rfl, rfl, Nat.zero_le _⟩
  | n, .str s, h => ⟨.str s, rfl, fun _ => rfl, by simpa [dat, PyData.canLay0] using h, Nat.zero_le _⟩
  | 0, .tup xs, h => by simp [dat] at h
  | 0, .lst xs, h => by simp [dat] at h
  | 0, .fz xs, h => by simp [dat] at h
  | 0, .scr xs, h => by simp [dat] at h
  | n + 1, .tup xs, h => by
    obtain ⟨ds, e1, e2, e3, e4⟩ := datL_spec n xs (by simpa [dat] using h)
    exact ⟨.tuple ds, by simp only [toP, e1, Option.map_some], fun h => by simp only [toD, e2, Option.map_some], by simpa [PyData.canLay0] using e3, by simp only [PyData.depth]; omega⟩
  | n + 1, .lst xs, h => by
    obtain ⟨ds, e1, e2, e3, e4⟩ := datL_spec n xs (by simpa [dat] using h)
    exact ⟨.list ds, by simp only [toP, e1, Option.map_some], fun h => by simp only [toD, e2, Option.map_some], by simpa [PyData.canLay0] using e3, by simp only [PyData.depth]; omega⟩
  | n + 1, .fz xs, h => by
    obtain ⟨ds, e1, e2, e3, e4⟩ := datL_spec n xs (by simpa [dat] using h)
    exact ⟨.list ds, by simp only [toP, e1, Option.map_some], fun h => by simp only [toD, e2, Option.map_some], by simpa [PyData.canLay0] using e3, by simp only [PyData.depth]; omega⟩
  | n + 1, .scr ns, h => ⟨.list (ns.map .int), rfl, fun _ => rfl, by simp only [PyData.canLay0]; exact lay_ints ns, by simp only [PyData.depth, depth_ints]; omega⟩
  | n, .ref k, h => by cases n <;> simp [dat] at h
  | n, .fn k, h => by cases n <;> simp [dat] at h
theorem datL_spec : ∀ (n : Nat) (xs : List MV), datL n xs = true → ∃ ds, toDp xs = some ds ∧ (∀ h, toDs h xs = some ds) ∧ PyData.canLayAll0 ds = true ∧ PyData.depthAll ds ≤ n
  | n, [], _ => ⟨[], rfl, fun _ => rfl, rfl, Nat.zero_le _⟩
  | n, x :: xs, h => by
    simp only [datL, Bool.and_eq_true] at h
    obtain ⟨d, a1, a2, a3, a4⟩ := dat_spec n x h.1
    obtain ⟨ds, b1, b2, b3, b4⟩ := datL_spec n xs h.2
    exact ⟨d :: ds, by simp only [toDp, a1, b1], fun h => by simp only [toDs, a2, b2], by simp only [PyData.canLayAll0, a3, b3, Bool.and_self], by simp only [PyData.depthAll]; omega⟩
end
/-- two values are equal, as Python tells -/
def mvEq (a b : MV) : Bool := match toP a, toP b with
  | some d, some e => PyData.eqv d e
  | _, _ => false
def mvEqL (a b : List MV) : Bool := match toDp a, toDp b with
  | some d, some e => PyData.eqvAll d e
  | _, _ => false
theorem eq_dat {a b : MV} (h : Hm) (ha : dat 64 a = true) (hb : dat 64 b = true) : eqD a b h = some (mvEq a b) := by
  obtain ⟨d, a1, a2, a3, a4⟩ := dat_spec 64 a ha
  obtain ⟨e, b1, b2, b3, b4⟩ := dat_spec 64 b hb
  have s1 : SeqAt.shaped d = true := by unfold SeqAt.shaped; rw [a3, decide_eq_true a4]; rfl
  have s2 : SeqAt.shaped e = true := by unfold SeqAt.shaped; rw [b3, decide_eq_true b4]; rfl
  simp only [eqD, mvEq, a1, b1, a2, b2, s1, s2, Bool.and_self, if_true]
/-- two numbers, or other values -/
theorem c_eq {a b : MV} (h : Hm) (ha : dat 64 a = true) (hb : dat 64 b = true) : cop .eq a b h = some (mvEq a b) := by
  have := eq_dat h ha hb
  cases a <;> cases b <;> first | exact this | (rename_i i j; show some (decide (i = j)) = some (i == j); congr 1; by_cases q : i = j <;> simp [q])
theorem c_ne {a b : MV} (h : Hm) (ha : dat 64 a = true) (hb : dat 64 b = true) : cop .ne a b h = some (!mvEq a b) := by
  have := eq_dat h ha hb
  have e : (eqD a b h).map (!·) = some (!mvEq a b) := by rw [this]; rfl
  cases a <;> cases b <;> first | exact e | (rename_i i j; show some (!decide (i = j)) = some (!(i == j)); congr 2; by_cases q : i = j <;> simp [q])
theorem mvEq_refl {n : Nat} {a : MV} (ha : dat n a = true) : mvEq a a = true := by
  obtain ⟨d, a1, a2, a3, a4⟩ := dat_spec n a ha
  simp only [mvEq, a1]
  exact SeqAt.eqv_refl d a3
theorem mvEqL_refl {n : Nat} {a : List MV} (ha : datL n a = true) : mvEqL a a = true := by
  obtain ⟨d, a1, a2, a3, a4⟩ := datL_spec n a ha
  simp only [mvEqL, a1]
  exact SeqAt.eqvAll_refl d a3
theorem mvEq_int (i j : Int) : mvEq (.int i) (.int j) = decide (i = j) := by
  show (i == j) = _
  by_cases q : i = j <;> simp [q]
theorem mvEq_str (i j : Str) : mvEq (.str i) (.str j) = decide (i = j) := by
  show (i == j) = _
  by_cases q : i = j <;> simp [q]
theorem mvEq_bl (i j : Bool) : mvEq (.bl i) (.bl j) = decide (i = j) := by
  show (i == j) = _
  cases i <;> cases j <;> rfl
theorem mvEq_tup (a b : List MV) : mvEq (.tup a) (.tup b) = mvEqL a b := by
  simp only [mvEq, mvEqL, toP]
  cases toDp a <;> cases toDp b <;> rfl
theorem mvEq_lst (a b : List MV) : mvEq (.lst a) (.lst b) = mvEqL a b := by
  simp only [mvEq, mvEqL, toP]
  cases toDp a <;> cases toDp b <;> rfl
theorem mvEq_lf (a b : List MV) : mvEq (.lst a) (.fz b) = mvEqL a b := by
  simp only [mvEq, mvEqL, toP]
  cases toDp a <;> cases toDp b <;> rfl
theorem mvEq_fl (a b : List MV) : mvEq (.fz a) (.lst b) = mvEqL a b := by
  simp only [mvEq, mvEqL, toP]
  cases toDp a <;> cases toDp b <;> rfl
theorem mvEq_ff (a b : List MV) : mvEq (.fz a) (.fz b) = mvEqL a b := by
  simp only [mvEq, mvEqL, toP]
  cases toDp a <;> cases toDp b <;> rfl
theorem mvEqL_nil : mvEqL [] [] = true := rfl
theorem mvEqL_nc {n : Nat} {b : MV} {bs : List MV} (h : datL n (b :: bs) = true) : mvEqL [] (b :: bs) = false := by
  obtain ⟨d, a1, a2, a3, a4⟩ := datL_spec n _ h
  simp only [mvEqL, a1]
  cases d with
  | nil =>
    simp only [toDp] at a1
    split at a1 <;> cases a1
  | cons _ _ => rfl
theorem mvEqL_cn {n : Nat} {b : MV} {bs : List MV} (h : datL n (b :: bs) = true) : mvEqL (b :: bs) [] = false := by
  obtain ⟨d, a1, a2, a3, a4⟩ := datL_spec n _ h
  simp only [mvEqL, a1]
  cases d with
  | nil =>
    simp only [toDp] at a1
    split at a1 <;> cases a1
  | cons _ _ => rfl
theorem mvEqL_cons (a b : MV) (as bs : List MV) : mvEqL (a :: as) (b :: bs) = (mvEq a b && mvEqL as bs) := by
  simp only [mvEq, mvEqL, toDp]
  cases toP a <;> cases toP b <;> cases toDp as <;> cases toDp bs <;> simp [PyData.eqvAll]
/-- lists of one kind of items -/
theorem mvEqL_map {α : Type} [DecidableEq α] {n : Nat} (f : α → MV) (hf : ∀ x, dat n (f x) = true) (hi : ∀ x y, mvEq (f x) (f y) = decide (x = y)) : ∀ a b : List α, mvEqL (a.map f) (b.map f) = decide (a = b)
  | [], [] => rfl
  | [], y :: b => mvEqL_nc (n := n) (by
      have : ∀ l : List α, datL n (l.map f) = true := fun l => by
        induction l with
        | nil => rfl
        | cons x l ih => simp only [List.map_cons, datL, hf, ih, Bool.and_self]
      exact this (y :: b))
  | x :: a, [] => mvEqL_cn (n := n) (by
      have : ∀ l : List α, datL n (l.map f) = true := fun l => by
        induction l with
        | nil => rfl
        | cons x l ih => simp only [List.map_cons, datL, hf, ih, Bool.and_self]
      exact this (x :: a))
  | x :: a, y :: b => by
    rw [List.map_cons, List.map_cons, mvEqL_cons, hi, mvEqL_map f hf hi a b]
    by_cases h1 : x = y
    · by_cases h2 : a = b
      · simp [h1, h2]
      · simp [h1, h2]
    · simp [h1]
theorem datL_map {α : Type} {n : Nat} (f : α → MV) (hf : ∀ x, dat n (f x) = true) : ∀ l : List α, datL n (l.map f) = true
  | [] => rfl
  | x :: l => by simp only [List.map_cons, datL, hf, datL_map f hf l, Bool.and_self]
theorem datL_ints (n : Nat) (xs : List Int) : datL n (xs.map .int) = true := datL_map _ (fun _ => by cases n <;> rfl) xs
theorem datL_nI (n : Nat) (xs : List Nat) : datL n (nI xs) = true := datL_map _ (fun _ => by cases n <;> rfl) xs
theorem mvEqL_ints (a b : List Int) : mvEqL (a.map .int) (b.map .int) = decide (a = b) := mvEqL_map (n := 0) _ (fun _ => rfl) mvEq_int a b
theorem mvEqL_nI (a b : List Nat) : mvEqL (nI a) (nI b) = decide (a = b) := mvEqL_map (n := 0) _ (fun _ => rfl) (fun x y => by
  rw [mvEq_int]
  apply decide_eq_decide.mpr
  omega) a b
/-- a list of the small heap beside another value -/
theorem eqD_ref {n : Nat} {xs : List MV} {b : MV} {h : Hm} (e : h[n]? = some (.lst xs)) (hx : datL 63 xs = true) (hb : dat 64 b = true) : eqD (.ref n) b h = some (mvEq (.lst xs) b) := by
  rw [← eq_dat h (show dat 64 (.lst xs) = true by simp only [dat]; exact hx) hb]
  obtain ⟨ds, e1, e2, _⟩ := datL_spec 63 xs hx
  unfold eqD
  rw [show toD h (.ref n) = toD h (.lst xs) by simp only [toD, e, e1, e2, Option.map_some]]
theorem eqD_ref2 {n : Nat} {xs : List MV} {b : MV} {h : Hm} (e : h[n]? = some (.lst xs)) (hx : datL 63 xs = true) (hb : dat 64 b = true) : eqD b (.ref n) h = some (mvEq b (.lst xs)) := by
  rw [← eq_dat h hb (show dat 64 (.lst xs) = true by simp only [dat]; exact hx)]
  obtain ⟨ds, e1, e2, _⟩ := datL_spec 63 xs hx
  unfold eqD
  rw [show toD h (.ref n) = toD h (.lst xs) by simp only [toD, e, e1, e2, Option.map_some]]
/-! ### loops over lists of one kind of items -/
theorem nth_mapL {α : Type} (l : List α) (f : α → MV) (hf : ∀ x ∈ l, nl (f x) = true) (c : Cmp) (hc : c = .lv (l.map f) ∨ c = .tv (l.map f)) (i : Nat) (h : Hm) : (Src.one c).nth i h = some (l[i]?.map f) := by
  have : nthU ((l.map f)[i]?) = some (l[i]?.map f) := by
    rw [List.getElem?_map]
    cases e : l[i]? with
    | none => rfl
    | some x =>
      have := hf x (List.mem_of_getElem? e)
      simp only [Option.map_some, nthU]
      cases hx : f x <;> first | rfl | (rw [hx] at this; cases this)
  rcases hc with rfl | rfl <;> exact this
theorem x_forMO {α : Type} {F : Calls} {t : MT} {it : MI} {b : List MS} {σ : Loc} {h h1 : Hm} {c : Cmp} (Φ : Option SRes → Prop) (l : List α) (f : α → MV) (hf : ∀ x ∈ l, nl (f x) = true) (hi : evalI F it σ h = some (.ok (.one c) h1)) (hc : c = .lv (l.map f) ∨ c = .tv (l.map f)) (I : Nat → Loc → Hm → Prop) (h0 : I 0 σ h1)
    (hend : ∀ σ h, I l.length σ h → Φ (some (.nx σ h)))
    (step : ∀ i (hi : i < l.length) σ h, I i σ h → ∃ σ1 h1, evalT F t (f l[i]) σ h = some (σ1, h1) ∧ ((∃ σ2 h2, (execB F b σ1 h1 = some (.nx σ2 h2) ∨ execB F b σ1 h1 = some (.ct σ2 h2)) ∧ I (i + 1) σ2 h2) ∨ (∃ v h2, execB F b σ1 h1 = some (.rt v h2) ∧ Φ (some (.rt v h2))) ∨ (∃ e σ2 h2, execB F b σ1 h1 = some (.ex e σ2 h2) ∧ Φ (some (.ex e σ2 h2))) ∨ ∃ σ2 h2, execB F b σ1 h1 = some (.bk σ2 h2) ∧ Φ (some (.nx σ2 h2)))) :
    Φ (execS F (.forr t it b) σ h) := x_forO Φ hi l.length (by rcases hc with rfl | rfl <;> simp [Src.len, Cmp.len]) I h0
  (fun σ h hI => ⟨by rw [nth_mapL l f hf c hc, List.getElem?_eq_none (Nat.le_refl _)]; rfl, hend σ h hI⟩) fun i σ h hi hI => by
    obtain ⟨σ1, h1, e⟩ := step i hi σ h hI
    exact ⟨f l[i], σ1, h1, by rw [nth_mapL l f hf c hc, List.getElem?_eq_getElem hi]; rfl, e⟩
theorem x_forM {α : Type} {F : Calls} {t : MT} {it : MI} {b : List MS} {σ : Loc} {h h1 : Hm} {c : Cmp} (Φ : Option SRes → Prop) (l : List α) (f : α → MV) (hf : ∀ x ∈ l, nl (f x) = true) (hi : evalI F it σ h = some (.ok (.one c) h1)) (hc : c = .lv (l.map f) ∨ c = .tv (l.map f)) (I : Nat → Loc → Hm → Prop) (h0 : I 0 σ h1)
    (hend : ∀ σ h, I l.length σ h → Φ (some (.nx σ h)))
    (step : ∀ i (hi : i < l.length) σ h, I i σ h → ∃ σ1 h1, evalT F t (f l[i]) σ h = some (σ1, h1) ∧ ∃ σ2 h2, execB F b σ1 h1 = some (.nx σ2 h2) ∧ I (i + 1) σ2 h2) :
    Φ (execS F (.forr t it b) σ h) := x_forMO Φ l f hf hi hc I h0 hend fun i hi σ h hI => by
  obtain ⟨σ1, h1, e1, σ2, h2, e2, e3⟩ := step i hi σ h hI
  exact ⟨σ1, h1, e1, .inl ⟨σ2, h2, .inl e2, e3⟩⟩
/-- a range, whole numbers -/
theorem nth_rngN (lo n i : Nat) (h : Hm) : (Src.rg (rng (lo : Int) n)).nth i h = if i < n then some (some (.int ((lo + i : Nat) : Int))) else some none := by
  rw [nth_rng]
  by_cases hi : i < n
  · rw [if_pos hi, if_pos hi]; rfl
  · rw [if_neg hi, if_neg hi]
theorem len_rng (lo : Int) (n : Nat) (h : Hm) : (Src.rg (rng lo n)).len h = n := by simp [Src.len, rng]
theorem small_nn (n : Nat) (hn : n < 4611686018427387904) : small (n : Int) = true := by
  unfold small; rw [decide_eq_true (by omega), decide_eq_true (by omega)]; rfl
theorem ei_r1 {F : Calls} {a : ME} {σ : Loc} {h h1 : Hm} {n : Nat} (he : evalE F a σ h = some (.ok (.int (n : Int)) h1)) (hn : n < 4611686018427387904) : evalI F (.r1 a) σ h = some (.ok (.rg (rng ((0 : Nat) : Int) n)) h1) := by
  have e : evalI F (.r1 a) σ h = bnd (evalE F a σ h) fun x h1 => match x with
    | .int j => if small j then some (.ok (.rg (rng 0 j.toNat)) h1) else none
    | _ => none := by first | (simp only [evalI]; done) | (simp only [evalI] <;> rfl)
  rw [e, he, bnd_ok]
  show (if small (n : Int) = true then _ else none) = _
  rw [if_pos (small_nn n hn)]
  rfl
theorem ei_r2 {F : Calls} {a b : ME} {σ : Loc} {h h1 h2 : Hm} {lo hi : Nat} (ha : evalE F a σ h = some (.ok (.int (lo : Int)) h1)) (hb : evalE F b σ h1 = some (.ok (.int (hi : Int)) h2)) (hl : lo < 4611686018427387904) (hh : hi < 4611686018427387904) : evalI F (.r2 a b) σ h = some (.ok (.rg (rng (lo : Int) (hi - lo))) h2) := by
  have e : evalI F (.r2 a b) σ h = bnd (evalE F a σ h) fun x h1 => bnd (evalE F b σ h1) fun y h2 => match x, y with
    | .int i, .int j => if small i && small j then some (.ok (.rg (rng i (j - i).toNat)) h2) else none
    | _, _ => none := by first | (simp only [evalI]; done) | (simp only [evalI] <;> rfl)
  rw [e, ha, bnd_ok, hb, bnd_ok]
  show (if (small (lo : Int) && small (hi : Int)) = true then _ else none) = _
  rw [small_nn lo hl, small_nn hi hh, if_pos (by rfl), show ((hi : Int) - (lo : Int)).toNat = hi - lo by omega]
theorem x_forRO {F : Calls} {t : MT} {it : MI} {b : List MS} {σ : Loc} {h h1 : Hm} {lo n : Nat} (Φ : Option SRes → Prop) (hi : evalI F it σ h = some (.ok (.rg (rng (lo : Int) n)) h1)) (I : Nat → Loc → Hm → Prop) (h0 : I 0 σ h1)
    (hend : ∀ σ h, I n σ h → Φ (some (.nx σ h)))
    (step : ∀ i, i < n → ∀ σ h, I i σ h → ∃ σ1 h1, evalT F t (.int ((lo + i : Nat) : Int)) σ h = some (σ1, h1) ∧ ((∃ σ2 h2, (execB F b σ1 h1 = some (.nx σ2 h2) ∨ execB F b σ1 h1 = some (.ct σ2 h2)) ∧ I (i + 1) σ2 h2) ∨ (∃ v h2, execB F b σ1 h1 = some (.rt v h2) ∧ Φ (some (.rt v h2))) ∨ (∃ e σ2 h2, execB F b σ1 h1 = some (.ex e σ2 h2) ∧ Φ (some (.ex e σ2 h2))) ∨ ∃ σ2 h2, execB F b σ1 h1 = some (.bk σ2 h2) ∧ Φ (some (.nx σ2 h2)))) :
    Φ (execS F (.forr t it b) σ h) := x_forO Φ hi n (len_rng _ _ _) I h0
  (fun σ h hI => ⟨by rw [nth_rngN, if_neg (Nat.lt_irrefl _)], hend σ h hI⟩) fun i σ h hi hI => by
    obtain ⟨σ1, h1, e⟩ := step i hi σ h hI
    exact ⟨_, σ1, h1, by rw [nth_rngN, if_pos hi], e⟩
theorem x_forR {F : Calls} {t : MT} {it : MI} {b : List MS} {σ : Loc} {h h1 : Hm} {lo n : Nat} (Φ : Option SRes → Prop) (hi : evalI F it σ h = some (.ok (.rg (rng (lo : Int) n)) h1)) (I : Nat → Loc → Hm → Prop) (h0 : I 0 σ h1)
    (hend : ∀ σ h, I n σ h → Φ (some (.nx σ h)))
    (step : ∀ i, i < n → ∀ σ h, I i σ h → ∃ σ1 h1, evalT F t (.int ((lo + i : Nat) : Int)) σ h = some (σ1, h1) ∧ ∃ σ2 h2, execB F b σ1 h1 = some (.nx σ2 h2) ∧ I (i + 1) σ2 h2) :
    Φ (execS F (.forr t it b) σ h) := x_forRO Φ hi I h0 hend fun i hi σ h hI => by
  obtain ⟨σ1, h1, e1, σ2, h2, e2, e3⟩ := step i hi σ h hI
  exact ⟨σ1, h1, e1, .inl ⟨σ2, h2, .inl e2, e3⟩⟩
/-- a comprehension over a list of one kind of items, its heap stays -/
theorem e_lcM {α β : Type} {F : Calls} {own : List Nat} {tg : MT} {it : MI} {c : Option ME} {elt : ME} {σ : Loc} {h : Hm} {s : Src} (l : List α) (p : α → Bool) (f : α → β) (w : β → MV) (hi : evalI F it σ h = some (.ok s h)) (hl : s.len h = l.length) (hz : l.length ≤ 16777216)
    (g : α → MV) (hn : ∀ i, s.nth i h = some (l[i]?.map g)) (hw : ∀ y, nl (w y) = true ∧ (w y).nol = true)
    (hs : ∀ x ∈ l, ∃ σ1, evalT F tg (g x) (wipeL σ own) h = some (σ1, h) ∧ evalC F c σ1 h = some (.ok (p x) h) ∧ (p x = true → ∃ y, evalE F elt σ1 h = some (.ok y h) ∧ frz y = w (f x))) :
    evalE F (.lc own tg it c elt) σ h = some (.ok (.lst (((l.filter p).map f).map w)) h) := by
  obtain ⟨acc', h', e1, rfl, rfl⟩ := iterC_inv (s := s) (g := fun v h => evalT F tg v (wipeL σ own) h) (c := fun σ h => evalC F c σ h) (e := fun σ h => evalE F elt σ h) l.length (fun i acc h' => acc = (((l.take i).filter p).map f).map w ∧ h' = h) (fun acc h' hI => by rw [hI.2, hn, List.getElem?_eq_none (Nat.le_refl _)]; rfl) (fun i acc h' hlt hI => by
    obtain ⟨rfl, rfl⟩ := hI
    obtain ⟨σ1, e2, e3, e4⟩ := hs l[i] (List.getElem_mem hlt)
    refine ⟨g l[i], σ1, h', h', by rw [hn, List.getElem?_eq_getElem hlt]; rfl, e2, ?_⟩
    have hr : (l.take (i + 1)).filter p = (l.take i).filter p ++ if p l[i] = true then [l[i]] else [] := by
      rw [List.take_succ_eq_append_getElem hlt, List.filter_append, List.filter_cons, List.filter_nil]
    cases hp : p l[i] with
    | false => exact .inl ⟨by rw [e3, hp], by rw [hr, hp]; simp, rfl⟩
    | true =>
      obtain ⟨y, e5, e6⟩ := e4 hp
      refine .inr ⟨y, h', by rw [e3, hp], e5, ?_, by rw [e6]; exact (hw _).2, by rw [hr, hp, e6]; simp, rfl⟩
      rw [List.length_map, List.length_map]
      have : ((l.take i).filter p).length ≤ i := by
        have := List.length_filter_le p (l.take i)
        rw [List.length_take] at this
        omega
      exact Nat.lt_of_le_of_lt this (Nat.lt_of_lt_of_le hlt hz)) (s.len h + 1) 0 [] h ⟨by simp, rfl⟩ (Nat.zero_le _) (by omega)
  rw [e_lc hi e1, List.take_length]
theorem nth_ref {h : Hm} {n : Nat} {α : Type} (l : List α) (g : α → MV) (hg : ∀ x ∈ l, nl (g x) = true) (e : h[n]? = some (.lst (l.map g))) (i : Nat) : (Src.one (.at_ n)).nth i h = some (l[i]?.map g) := by
  have : nthU ((l.map g)[i]?) = some (l[i]?.map g) := by
    rw [List.getElem?_map]
    cases e : l[i]? with
    | none => rfl
    | some x =>
      have := hg x (List.mem_of_getElem? e)
      simp only [Option.map_some, nthU]
      cases hx : g x <;> first | rfl | (rw [hx] at this; cases this)
  simp only [Src.nth, Cmp.nth, items, e]
  exact this
theorem ei_ref {F : Calls} {a : ME} {σ : Loc} {h h1 : Hm} {n : Nat} {xs : List MV} (he : evalE F a σ h = some (.ok (.ref n) h1)) (e : h1[n]? = some (.lst xs)) : evalI F (.ex a) σ h = some (.ok (.one (.at_ n)) h1) := by
  simp only [evalI, he, bnd_ok, cmpOf, items, e, Option.map_some, lift_some]
theorem len_ref {h : Hm} {n : Nat} {xs : List MV} (e : h[n]? = some (.lst xs)) : (Src.one (.at_ n)).len h = xs.length := by
  simp [Src.len, Cmp.len, items, e]
/-! ### built-ins -/
theorem bv_tup (xs : List MV) (h : Hm) : biV .tuple [.lst xs] h = some (.tup xs) := rfl
theorem bv_tupt (xs : List MV) (h : Hm) : biV .tuple [.tup xs] h = some (.tup xs) := rfl
theorem bv_tupf (xs : List MV) (h : Hm) : biV .tuple [.fz xs] h = some (.tup xs) := rfl
theorem bv_lenl (xs : List MV) (h : Hm) : biV .len [.lst xs] h = some (.int (xs.length : Nat)) := rfl
theorem bv_lent (xs : List MV) (h : Hm) : biV .len [.tup xs] h = some (.int (xs.length : Nat)) := rfl
theorem bv_lenf (xs : List MV) (h : Hm) : biV .len [.fz xs] h = some (.int (xs.length : Nat)) := rfl
theorem bv_lens (ns : List Int) (h : Hm) : biV .len [.scr ns] h = some (.int (ns.length : Nat)) := by simp only [biV, seq, items, Option.map_some, List.length_map]
theorem bv_lenr0 (h l : Hm) (xs : List MV) : biV .len [.ref h.length] (h ++ .lst xs :: l) = some (.int (xs.length : Nat)) := by simp only [biV, seq, items, hx_get0, List.getElem?_cons_zero, Option.map_some]
theorem bv_lenr1 (h l : Hm) (o : MO) (xs : List MV) : biV .len [.ref (h.length + 1)] (h ++ o :: .lst xs :: l) = some (.int (xs.length : Nat)) := by simp only [biV, seq, items, hx_getS, List.getElem?_cons_zero, List.getElem?_cons_succ, Option.map_some]
theorem bv_int (i : Int) (h : Hm) : biV .int [.int i] h = some (.int i) := rfl
theorem bv_intb (b : Bool) (h : Hm) : biV .int [.bl b] h = some (.int (if b then 1 else 0)) := rfl
theorem bv_absN (n : Nat) (h : Hm) : biV .abs [.int (n : Int)] h = some (.int (n : Int)) := by
  show some (MV.int (if (n : Int) < 0 then _ else _)) = _
  rw [if_neg (by omega)]
theorem bv_abs (i : Int) (h : Hm) : biV .abs [.int i] h = some (.int (i.natAbs : Nat)) := by
  show some (MV.int (if i < 0 then -i else i)) = _
  congr 2
  split <;> omega
theorem bv_sum (xs : List Int) (h : Hm) : biV .sum [.lst (xs.map .int)] h = some (.int xs.sum) := by
  simp only [biV, seq, items, intsOf_ints, Option.map_some]
theorem isum_nat : ∀ xs : List Nat, (xs.map fun (d : Nat) => (d : Int)).sum = (xs.sum : Nat)
  | [] => rfl
  | x :: xs => by rw [List.map_cons, List.sum_cons, List.sum_cons, isum_nat xs]; omega
theorem bv_sumN (xs : List Nat) (h : Hm) : biV .sum [.lst (nI xs)] h = some (.int (xs.sum : Nat)) := by
  rw [nI_ints, bv_sum, isum_nat]
theorem blsOf_bls' : ∀ bs : List Bool, blsOf (bs.map .bl) = some bs
  | [] => rfl
  | b :: bs => by simp only [List.map_cons, blsOf, blsOf_bls' bs]; rfl
theorem bv_any (xs : List Bool) (h : Hm) : biV .any [.lst (xs.map .bl)] h = some (.bl (xs.any id)) := by
  simp only [biV, items, blsOf_bls', Option.map_some]
theorem bv_all (xs : List Bool) (h : Hm) : biV .all [.lst (xs.map .bl)] h = some (.bl (xs.all id)) := by
  simp only [biV, items, blsOf_bls', Option.map_some]
theorem bv_maxN (a b : Nat) (h : Hm) : biV .max2 [.int (a : Int), .int (b : Int)] h = some (.int ((max a b : Nat) : Int)) := by
  show some (MV.int (if (b : Int) > a then (b : Int) else a)) = _
  congr 2
  split <;> omega
theorem bv_minN (a b : Nat) (h : Hm) : biV .min2 [.int (a : Int), .int (b : Int)] h = some (.int ((min a b : Nat) : Int)) := by
  show some (MV.int (if (b : Int) < a then (b : Int) else a)) = _
  congr 2
  split <;> omega
theorem bi_add (a b : Int) (h : Hm) : bop .add (.int a) (.int b) h = some (.int (a + b)) := rfl
theorem bi_sub (a b : Int) (h : Hm) : bop .sub (.int a) (.int b) h = some (.int (a - b)) := rfl
theorem ci_le (a b : Int) (h : Hm) : cop .le (.int a) (.int b) h = some (decide (a ≤ b)) := rfl
theorem ci_lt (a b : Int) (h : Hm) : cop .lt (.int a) (.int b) h = some (decide (a < b)) := rfl
theorem ci_ge (a b : Int) (h : Hm) : cop .ge (.int a) (.int b) h = some (decide (b ≤ a)) := rfl
theorem ci_gt (a b : Int) (h : Hm) : cop .gt (.int a) (.int b) h = some (decide (b < a)) := rfl
theorem ci_eq (a b : Int) (h : Hm) : cop .eq (.int a) (.int b) h = some (decide (a = b)) := rfl
theorem ci_ne (a b : Int) (h : Hm) : cop .ne (.int a) (.int b) h = some (!decide (a = b)) := rfl
theorem hx_get (h l : Hm) (n : Nat) (e : n = h.length) : (h ++ l)[n]? = l[0]? := by rw [e, hx_get0]
mutual
theorem froz_pure (n : Nat) (h : Hm) : ∀ v : MV, v.pure = true → froz n h v = some v
  | .non, _ => rfl
  | .bl _, _ => rfl
  | .int _, _ => rfl
  | .str _, _ => rfl
  | .scr _, _ => rfl
  | .fn _, _ => rfl
  | .edc, _ => rfl
  | .any, _ => rfl
  | .obj c xs, e => by simp only [froz, frozL_pure n h xs (by simpa [MV.pure] using e), Option.map_some]
  | .tup xs, e => by simp only [froz, frozL_pure n h xs (by simpa [MV.pure] using e), Option.map_some]
  | .fz xs, e => by simp only [froz, frozL_pure n h xs (by simpa [MV.pure] using e), Option.map_some]
  | .lst _, e => by simp [MV.pure] at e
  | .ref _, e => by simp [MV.pure] at e
theorem frozL_pure (n : Nat) (h : Hm) : ∀ xs : List MV, pureL xs = true → frozL n h xs = some xs
  | [], _ => rfl
  | x :: xs, e => by
    simp only [pureL, Bool.and_eq_true] at e
    simp only [frozL, froz_pure n h x e.1, frozL_pure n h xs e.2]
end
/-! ### the same behind a def's text and within a block -/
theorem xe_forO {NN : Nat} {KK : Loc → Hm → Option SRes} {RR : RO MV} {F : Calls} {t : MT} {it : MI} {b : List MS} {σ : Loc} {h h1 : Hm} {s : Src}  (hi : evalI F it σ h = some (.ok s h1)) (n : Nat) (hl : s.len h1 = n) (I : Nat → Loc → Hm → Prop) (h0 : I 0 σ h1)
    (hend : ∀ σ h, I n σ h → s.nth n h = some none ∧ endFn NN (thenS (some (.nx σ h)) KK) = RR)
    (step : ∀ i σ h, i < n → I i σ h → ∃ v σ1 h1, s.nth i h = some (some v) ∧ evalT F t v σ h = some (σ1, h1) ∧ ((∃ σ2 h2, (execB F b σ1 h1 = some (.nx σ2 h2) ∨ execB F b σ1 h1 = some (.ct σ2 h2)) ∧ I (i + 1) σ2 h2) ∨ (∃ v h2, execB F b σ1 h1 = some (.rt v h2) ∧ endFn NN (thenS (some (.rt v h2)) KK) = RR) ∨ (∃ e σ2 h2, execB F b σ1 h1 = some (.ex e σ2 h2) ∧ endFn NN (thenS (some (.ex e σ2 h2)) KK) = RR) ∨ ∃ σ2 h2, execB F b σ1 h1 = some (.bk σ2 h2) ∧ endFn NN (thenS (some (.nx σ2 h2)) KK) = RR)) :
    endFn NN (thenS (execS F (.forr t it b) σ h) KK) = RR :=
  x_forO (fun x => endFn NN (thenS x KK) = RR) hi n hl I h0 hend step
theorem xm_forO {KK : Loc → Hm → Option SRes} {RR : Option SRes} {F : Calls} {t : MT} {it : MI} {b : List MS} {σ : Loc} {h h1 : Hm} {s : Src}  (hi : evalI F it σ h = some (.ok s h1)) (n : Nat) (hl : s.len h1 = n) (I : Nat → Loc → Hm → Prop) (h0 : I 0 σ h1)
    (hend : ∀ σ h, I n σ h → s.nth n h = some none ∧ thenS (some (.nx σ h)) KK = RR)
    (step : ∀ i σ h, i < n → I i σ h → ∃ v σ1 h1, s.nth i h = some (some v) ∧ evalT F t v σ h = some (σ1, h1) ∧ ((∃ σ2 h2, (execB F b σ1 h1 = some (.nx σ2 h2) ∨ execB F b σ1 h1 = some (.ct σ2 h2)) ∧ I (i + 1) σ2 h2) ∨ (∃ v h2, execB F b σ1 h1 = some (.rt v h2) ∧ thenS (some (.rt v h2)) KK = RR) ∨ (∃ e σ2 h2, execB F b σ1 h1 = some (.ex e σ2 h2) ∧ thenS (some (.ex e σ2 h2)) KK = RR) ∨ ∃ σ2 h2, execB F b σ1 h1 = some (.bk σ2 h2) ∧ thenS (some (.nx σ2 h2)) KK = RR)) :
    thenS (execS F (.forr t it b) σ h) KK = RR :=
  x_forO (fun x => thenS x KK = RR) hi n hl I h0 hend step
theorem xe_for {NN : Nat} {KK : Loc → Hm → Option SRes} {RR : RO MV} {F : Calls} {t : MT} {it : MI} {b : List MS} {σ : Loc} {h h1 : Hm} {s : Src}  (hi : evalI F it σ h = some (.ok s h1)) (n : Nat) (hl : s.len h1 = n) (I : Nat → Loc → Hm → Prop) (h0 : I 0 σ h1)
    (hend : ∀ σ h, I n σ h → s.nth n h = some none ∧ endFn NN (thenS (some (.nx σ h)) KK) = RR)
    (step : ∀ i σ h, i < n → I i σ h → ∃ v σ1 h1, s.nth i h = some (some v) ∧ evalT F t v σ h = some (σ1, h1) ∧ ∃ σ2 h2, execB F b σ1 h1 = some (.nx σ2 h2) ∧ I (i + 1) σ2 h2) :
    endFn NN (thenS (execS F (.forr t it b) σ h) KK) = RR :=
  x_for (fun x => endFn NN (thenS x KK) = RR) hi n hl I h0 hend step
theorem xm_for {KK : Loc → Hm → Option SRes} {RR : Option SRes} {F : Calls} {t : MT} {it : MI} {b : List MS} {σ : Loc} {h h1 : Hm} {s : Src}  (hi : evalI F it σ h = some (.ok s h1)) (n : Nat) (hl : s.len h1 = n) (I : Nat → Loc → Hm → Prop) (h0 : I 0 σ h1)
    (hend : ∀ σ h, I n σ h → s.nth n h = some none ∧ thenS (some (.nx σ h)) KK = RR)
    (step : ∀ i σ h, i < n → I i σ h → ∃ v σ1 h1, s.nth i h = some (some v) ∧ evalT F t v σ h = some (σ1, h1) ∧ ∃ σ2 h2, execB F b σ1 h1 = some (.nx σ2 h2) ∧ I (i + 1) σ2 h2) :
    thenS (execS F (.forr t it b) σ h) KK = RR :=
  x_for (fun x => thenS x KK = RR) hi n hl I h0 hend step
theorem xe_whlO {NN : Nat} {KK : Loc → Hm → Option SRes} {RR : RO MV} {F : Calls} {c : ME} {b : List MS} {σ : Loc} {h : Hm}  (I : Nat → Loc → Hm → Prop) (m : Nat) (hm : m < iterMax) (h0 : I m σ h)
    (step : ∀ m σ h, I m σ h → (evalC F (some c) σ h = some (.ok false h) ∧ endFn NN (thenS (some (.nx σ h)) KK) = RR) ∨ ∃ h1, evalC F (some c) σ h = some (.ok true h1) ∧ ((∃ m' σ2 h2, (execB F b σ h1 = some (.nx σ2 h2) ∨ execB F b σ h1 = some (.ct σ2 h2)) ∧ m' < m ∧ I m' σ2 h2) ∨ (∃ v h2, execB F b σ h1 = some (.rt v h2) ∧ endFn NN (thenS (some (.rt v h2)) KK) = RR) ∨ (∃ e σ2 h2, execB F b σ h1 = some (.ex e σ2 h2) ∧ endFn NN (thenS (some (.ex e σ2 h2)) KK) = RR) ∨ ∃ σ2 h2, execB F b σ h1 = some (.bk σ2 h2) ∧ endFn NN (thenS (some (.nx σ2 h2)) KK) = RR)) :
    endFn NN (thenS (execS F (.whl c b) σ h) KK) = RR :=
  x_whlO (fun x => endFn NN (thenS x KK) = RR) I m hm h0 step
theorem xm_whlO {KK : Loc → Hm → Option SRes} {RR : Option SRes} {F : Calls} {c : ME} {b : List MS} {σ : Loc} {h : Hm}  (I : Nat → Loc → Hm → Prop) (m : Nat) (hm : m < iterMax) (h0 : I m σ h)
    (step : ∀ m σ h, I m σ h → (evalC F (some c) σ h = some (.ok false h) ∧ thenS (some (.nx σ h)) KK = RR) ∨ ∃ h1, evalC F (some c) σ h = some (.ok true h1) ∧ ((∃ m' σ2 h2, (execB F b σ h1 = some (.nx σ2 h2) ∨ execB F b σ h1 = some (.ct σ2 h2)) ∧ m' < m ∧ I m' σ2 h2) ∨ (∃ v h2, execB F b σ h1 = some (.rt v h2) ∧ thenS (some (.rt v h2)) KK = RR) ∨ (∃ e σ2 h2, execB F b σ h1 = some (.ex e σ2 h2) ∧ thenS (some (.ex e σ2 h2)) KK = RR) ∨ ∃ σ2 h2, execB F b σ h1 = some (.bk σ2 h2) ∧ thenS (some (.nx σ2 h2)) KK = RR)) :
    thenS (execS F (.whl c b) σ h) KK = RR :=
  x_whlO (fun x => thenS x KK = RR) I m hm h0 step
theorem xe_whl {NN : Nat} {KK : Loc → Hm → Option SRes} {RR : RO MV} {F : Calls} {c : ME} {b : List MS} {σ : Loc} {h : Hm}  (I : Nat → Loc → Hm → Prop) (m : Nat) (hm : m < iterMax) (h0 : I m σ h)
    (step : ∀ m σ h, I m σ h → (evalC F (some c) σ h = some (.ok false h) ∧ endFn NN (thenS (some (.nx σ h)) KK) = RR) ∨ (evalC F (some c) σ h = some (.ok true h) ∧ ∃ m' σ2 h2, execB F b σ h = some (.nx σ2 h2) ∧ m' < m ∧ I m' σ2 h2)) :
    endFn NN (thenS (execS F (.whl c b) σ h) KK) = RR :=
  x_whl (fun x => endFn NN (thenS x KK) = RR) I m hm h0 step
theorem xm_whl {KK : Loc → Hm → Option SRes} {RR : Option SRes} {F : Calls} {c : ME} {b : List MS} {σ : Loc} {h : Hm}  (I : Nat → Loc → Hm → Prop) (m : Nat) (hm : m < iterMax) (h0 : I m σ h)
    (step : ∀ m σ h, I m σ h → (evalC F (some c) σ h = some (.ok false h) ∧ thenS (some (.nx σ h)) KK = RR) ∨ (evalC F (some c) σ h = some (.ok true h) ∧ ∃ m' σ2 h2, execB F b σ h = some (.nx σ2 h2) ∧ m' < m ∧ I m' σ2 h2)) :
    thenS (execS F (.whl c b) σ h) KK = RR :=
  x_whl (fun x => thenS x KK = RR) I m hm h0 step
theorem xe_forMO {NN : Nat} {KK : Loc → Hm → Option SRes} {RR : RO MV} {α : Type} {F : Calls} {t : MT} {it : MI} {b : List MS} {σ : Loc} {h h1 : Hm} {c : Cmp}  (l : List α) (f : α → MV) (hf : ∀ x ∈ l, nl (f x) = true) (hi : evalI F it σ h = some (.ok (.one c) h1)) (hc : c = .lv (l.map f) ∨ c = .tv (l.map f)) (I : Nat → Loc → Hm → Prop) (h0 : I 0 σ h1)
    (hend : ∀ σ h, I l.length σ h → endFn NN (thenS (some (.nx σ h)) KK) = RR)
    (step : ∀ i (hi : i < l.length) σ h, I i σ h → ∃ σ1 h1, evalT F t (f l[i]) σ h = some (σ1, h1) ∧ ((∃ σ2 h2, (execB F b σ1 h1 = some (.nx σ2 h2) ∨ execB F b σ1 h1 = some (.ct σ2 h2)) ∧ I (i + 1) σ2 h2) ∨ (∃ v h2, execB F b σ1 h1 = some (.rt v h2) ∧ endFn NN (thenS (some (.rt v h2)) KK) = RR) ∨ (∃ e σ2 h2, execB F b σ1 h1 = some (.ex e σ2 h2) ∧ endFn NN (thenS (some (.ex e σ2 h2)) KK) = RR) ∨ ∃ σ2 h2, execB F b σ1 h1 = some (.bk σ2 h2) ∧ endFn NN (thenS (some (.nx σ2 h2)) KK) = RR)) :
    endFn NN (thenS (execS F (.forr t it b) σ h) KK) = RR :=
  x_forMO (fun x => endFn NN (thenS x KK) = RR) l f hf hi hc I h0 hend step
theorem xm_forMO {KK : Loc → Hm → Option SRes} {RR : Option SRes} {α : Type} {F : Calls} {t : MT} {it : MI} {b : List MS} {σ : Loc} {h h1 : Hm} {c : Cmp}  (l : List α) (f : α → MV) (hf : ∀ x ∈ l, nl (f x) = true) (hi : evalI F it σ h = some (.ok (.one c) h1)) (hc : c = .lv (l.map f) ∨ c = .tv (l.map f)) (I : Nat → Loc → Hm → Prop) (h0 : I 0 σ h1)
    (hend : ∀ σ h, I l.length σ h → thenS (some (.nx σ h)) KK = RR)
    (step : ∀ i (hi : i < l.length) σ h, I i σ h → ∃ σ1 h1, evalT F t (f l[i]) σ h = some (σ1, h1) ∧ ((∃ σ2 h2, (execB F b σ1 h1 = some (.nx σ2 h2) ∨ execB F b σ1 h1 = some (.ct σ2 h2)) ∧ I (i + 1) σ2 h2) ∨ (∃ v h2, execB F b σ1 h1 = some (.rt v h2) ∧ thenS (some (.rt v h2)) KK = RR) ∨ (∃ e σ2 h2, execB F b σ1 h1 = some (.ex e σ2 h2) ∧ thenS (some (.ex e σ2 h2)) KK = RR) ∨ ∃ σ2 h2, execB F b σ1 h1 = some (.bk σ2 h2) ∧ thenS (some (.nx σ2 h2)) KK = RR)) :
    thenS (execS F (.forr t it b) σ h) KK = RR :=
  x_forMO (fun x => thenS x KK = RR) l f hf hi hc I h0 hend step
theorem xe_forM {NN : Nat} {KK : Loc → Hm → Option SRes} {RR : RO MV} {α : Type} {F : Calls} {t : MT} {it : MI} {b : List MS} {σ : Loc} {h h1 : Hm} {c : Cmp}  (l : List α) (f : α → MV) (hf : ∀ x ∈ l, nl (f x) = true) (hi : evalI F it σ h = some (.ok (.one c) h1)) (hc : c = .lv (l.map f) ∨ c = .tv (l.map f)) (I : Nat → Loc → Hm → Prop) (h0 : I 0 σ h1)
    (hend : ∀ σ h, I l.length σ h → endFn NN (thenS (some (.nx σ h)) KK) = RR)
    (step : ∀ i (hi : i < l.length) σ h, I i σ h → ∃ σ1 h1, evalT F t (f l[i]) σ h = some (σ1, h1) ∧ ∃ σ2 h2, execB F b σ1 h1 = some (.nx σ2 h2) ∧ I (i + 1) σ2 h2) :
    endFn NN (thenS (execS F (.forr t it b) σ h) KK) = RR :=
  x_forM (fun x => endFn NN (thenS x KK) = RR) l f hf hi hc I h0 hend step
theorem xm_forM {KK : Loc → Hm → Option SRes} {RR : Option SRes} {α : Type} {F : Calls} {t : MT} {it : MI} {b : List MS} {σ : Loc} {h h1 : Hm} {c : Cmp}  (l : List α) (f : α → MV) (hf : ∀ x ∈ l, nl (f x) = true) (hi : evalI F it σ h = some (.ok (.one c) h1)) (hc : c = .lv (l.map f) ∨ c = .tv (l.map f)) (I : Nat → Loc → Hm → Prop) (h0 : I 0 σ h1)
    (hend : ∀ σ h, I l.length σ h → thenS (some (.nx σ h)) KK = RR)
    (step : ∀ i (hi : i < l.length) σ h, I i σ h → ∃ σ1 h1, evalT F t (f l[i]) σ h = some (σ1, h1) ∧ ∃ σ2 h2, execB F b σ1 h1 = some (.nx σ2 h2) ∧ I (i + 1) σ2 h2) :
    thenS (execS F (.forr t it b) σ h) KK = RR :=
  x_forM (fun x => thenS x KK = RR) l f hf hi hc I h0 hend step
theorem xe_forRO {NN : Nat} {KK : Loc → Hm → Option SRes} {RR : RO MV} {F : Calls} {t : MT} {it : MI} {b : List MS} {σ : Loc} {h h1 : Hm} {lo n : Nat}  (hi : evalI F it σ h = some (.ok (.rg (rng (lo : Int) n)) h1)) (I : Nat → Loc → Hm → Prop) (h0 : I 0 σ h1)
    (hend : ∀ σ h, I n σ h → endFn NN (thenS (some (.nx σ h)) KK) = RR)
    (step : ∀ i, i < n → ∀ σ h, I i σ h → ∃ σ1 h1, evalT F t (.int ((lo + i : Nat) : Int)) σ h = some (σ1, h1) ∧ ((∃ σ2 h2, (execB F b σ1 h1 = some (.nx σ2 h2) ∨ execB F b σ1 h1 = some (.ct σ2 h2)) ∧ I (i + 1) σ2 h2) ∨ (∃ v h2, execB F b σ1 h1 = some (.rt v h2) ∧ endFn NN (thenS (some (.rt v h2)) KK) = RR) ∨ (∃ e σ2 h2, execB F b σ1 h1 = some (.ex e σ2 h2) ∧ endFn NN (thenS (some (.ex e σ2 h2)) KK) = RR) ∨ ∃ σ2 h2, execB F b σ1 h1 = some (.bk σ2 h2) ∧ endFn NN (thenS (some (.nx σ2 h2)) KK) = RR)) :
    endFn NN (thenS (execS F (.forr t it b) σ h) KK) = RR :=
  x_forRO (fun x => endFn NN (thenS x KK) = RR) hi I h0 hend step
theorem xm_forRO {KK : Loc → Hm → Option SRes} {RR : Option SRes} {F : Calls} {t : MT} {it : MI} {b : List MS} {σ : Loc} {h h1 : Hm} {lo n : Nat}  (hi : evalI F it σ h = some (.ok (.rg (rng (lo : Int) n)) h1)) (I : Nat → Loc → Hm → Prop) (h0 : I 0 σ h1)
    (hend : ∀ σ h, I n σ h → thenS (some (.nx σ h)) KK = RR)
    (step : ∀ i, i < n → ∀ σ h, I i σ h → ∃ σ1 h1, evalT F t (.int ((lo + i : Nat) : Int)) σ h = some (σ1, h1) ∧ ((∃ σ2 h2, (execB F b σ1 h1 = some (.nx σ2 h2) ∨ execB F b σ1 h1 = some (.ct σ2 h2)) ∧ I (i + 1) σ2 h2) ∨ (∃ v h2, execB F b σ1 h1 = some (.rt v h2) ∧ thenS (some (.rt v h2)) KK = RR) ∨ (∃ e σ2 h2, execB F b σ1 h1 = some (.ex e σ2 h2) ∧ thenS (some (.ex e σ2 h2)) KK = RR) ∨ ∃ σ2 h2, execB F b σ1 h1 = some (.bk σ2 h2) ∧ thenS (some (.nx σ2 h2)) KK = RR)) :
    thenS (execS F (.forr t it b) σ h) KK = RR :=
  x_forRO (fun x => thenS x KK = RR) hi I h0 hend step
theorem xe_forR {NN : Nat} {KK : Loc → Hm → Option SRes} {RR : RO MV} {F : Calls} {t : MT} {it : MI} {b : List MS} {σ : Loc} {h h1 : Hm} {lo n : Nat}  (hi : evalI F it σ h = some (.ok (.rg (rng (lo : Int) n)) h1)) (I : Nat → Loc → Hm → Prop) (h0 : I 0 σ h1)
    (hend : ∀ σ h, I n σ h → endFn NN (thenS (some (.nx σ h)) KK) = RR)
    (step : ∀ i, i < n → ∀ σ h, I i σ h → ∃ σ1 h1, evalT F t (.int ((lo + i : Nat) : Int)) σ h = some (σ1, h1) ∧ ∃ σ2 h2, execB F b σ1 h1 = some (.nx σ2 h2) ∧ I (i + 1) σ2 h2) :
    endFn NN (thenS (execS F (.forr t it b) σ h) KK) = RR :=
  x_forR (fun x => endFn NN (thenS x KK) = RR) hi I h0 hend step
theorem xm_forR {KK : Loc → Hm → Option SRes} {RR : Option SRes} {F : Calls} {t : MT} {it : MI} {b : List MS} {σ : Loc} {h h1 : Hm} {lo n : Nat}  (hi : evalI F it σ h = some (.ok (.rg (rng (lo : Int) n)) h1)) (I : Nat → Loc → Hm → Prop) (h0 : I 0 σ h1)
    (hend : ∀ σ h, I n σ h → thenS (some (.nx σ h)) KK = RR)
    (step : ∀ i, i < n → ∀ σ h, I i σ h → ∃ σ1 h1, evalT F t (.int ((lo + i : Nat) : Int)) σ h = some (σ1, h1) ∧ ∃ σ2 h2, execB F b σ1 h1 = some (.nx σ2 h2) ∧ I (i + 1) σ2 h2) :
    thenS (execS F (.forr t it b) σ h) KK = RR :=
  x_forR (fun x => thenS x KK = RR) hi I h0 hend step
/-! ### ranges by steps -/
def stpN (lo hi c : Nat) : Nat := if lo < hi then (hi - lo - 1) / c + 1 else 0
theorem rangeSize_stp {lo hi c : Nat} (hc : 0 < c) : Builtin.Range.rangeSize (lo : Int) (hi : Int) (c : Int) = ((stpN lo hi c : Nat) : Int) := by
  unfold Builtin.Range.rangeSize stpN
  rw [if_pos (by omega)]
  by_cases h : lo < hi
  · rw [if_pos (by omega), if_pos h, Int.natCast_add, Int.natCast_ediv]
    congr 2
    omega
  · rw [if_neg (by omega), if_neg h]; rfl
theorem stp_lt {lo hi c i : Nat} (hc : 0 < c) : i < stpN lo hi c ↔ lo + i * c < hi := by
  unfold stpN
  by_cases h : lo < hi
  · rw [if_pos h, Nat.lt_succ_iff, Nat.le_div_iff_mul_le hc]
    omega
  · rw [if_neg h]
    have := Nat.zero_le (i * c)
    omega
theorem nth_rngC (lo c : Int) (n i : Nat) (h : Hm) : (Src.rg (rngC lo c n)).nth i h = if i < n then some (some (.int (lo + (i : Nat) * c))) else some none := by
  show nthU (rngC lo c n)[i]? = _
  by_cases hi : i < n
  · rw [if_pos hi]
    simp [rngC, hi, nthU, unl]
  · rw [if_neg hi]
    simp [rngC, hi, nthU]
theorem fitsLong {i : Int} (h : -9223372036854775808 ≤ i) (h2 : i < 9223372036854775808) : Builtin.Range.rangeFitsLong i = true := by
  unfold Builtin.Range.rangeFitsLong
  rw [decide_eq_true (show -(2 ^ 63 : Int) ≤ i from h), decide_eq_true (show i < (2 ^ 63 : Int) from h2)]; rfl
theorem ei_r3 {F : Calls} {a b c : ME} {σ : Loc} {h h1 h2 h3 : Hm} {lo hi st : Nat} (ha : evalE F a σ h = some (.ok (.int (lo : Int)) h1)) (hb : evalE F b σ h1 = some (.ok (.int (hi : Int)) h2)) (hc : evalE F c σ h2 = some (.ok (.int (st : Int)) h3)) (hl : lo < 4611686018427387904) (hh : hi < 4611686018427387904) (h0 : 0 < st) (hs : st < 1073741824) : evalI F (.r3 a b c) σ h = some (.ok (.rg (rngC (lo : Int) (st : Int) (stpN lo hi st))) h3) := by
  have e : evalI F (.r3 a b c) σ h = bnd (evalE F a σ h) fun x h1 => bnd (evalE F b σ h1) fun y h2 => bnd (evalE F c σ h2) fun z h3 => match x, y, z with
    | .int i, .int j, .int k => if small i && small j && decide (k ≠ 0) && decide (k.natAbs < 1073741824) && Builtin.Range.small i j k && decide (0 ≤ Builtin.Range.rangeSize i j k) then some (.ok (.rg (rngC i k (rngN i j k))) h3) else none
    | _, _, _ => none := by first | (simp only [evalI]; done) | (simp only [evalI] <;> rfl)
  have hr := rangeSize_stp (lo := lo) (hi := hi) h0
  have hsm : Builtin.Range.small (lo : Int) (hi : Int) (st : Int) = true := by
    have hle : stpN lo hi st ≤ hi + 1 := by
      unfold stpN
      split
      · have := Nat.div_le_self (hi - lo - 1) st
        omega
      · omega
    unfold Builtin.Range.small
    rw [hr, if_pos (by omega), fitsLong (by omega) (by omega), fitsLong (by omega) (by omega), fitsLong (by omega) (by omega), fitsLong (by omega) (by omega), fitsLong (by omega) (by omega)]
    simp
  rw [e, ha, bnd_ok, hb, bnd_ok, hc, bnd_ok]
  show (if (small (lo : Int) && small (hi : Int) && decide ((st : Int) ≠ 0) && decide ((st : Int).natAbs < 1073741824) && Builtin.Range.small (lo : Int) (hi : Int) (st : Int) && decide (0 ≤ Builtin.Range.rangeSize (lo : Int) (hi : Int) (st : Int))) = true then _ else none) = _
  rw [small_nn lo hl, small_nn hi hh, decide_eq_true (show (st : Int) ≠ 0 by omega), decide_eq_true (show (st : Int).natAbs < 1073741824 by omega), hsm, hr, decide_eq_true (show (0 : Int) ≤ ((stpN lo hi st : Nat) : Int) by omega), if_pos (by rfl)]
  unfold rngN
  rw [hr, Int.toNat_natCast]
end Mi

/-! MiT: what is computed with a heap of one's own is computed behind any other heap. -/
namespace Mi
open PySem
mutual
/-- references go up by n -/
def sh (n : Nat) : MV → MV
  | .non => .non
  | .bl b => .bl b
  | .int i => .int i
  | .str s => .str s
  | .tup xs => .tup (shL n xs)
  | .lst xs => .lst (shL n xs)
  | .fz xs => .fz (shL n xs)
  | .scr ns => .scr ns
  | .ref k => .ref (n + k)
  | .fn f => .fn f
  | .edc => .edc
  | .any => .any
  | .obj c xs => .obj c (shL n xs)
def shL (n : Nat) : List MV → List MV
  | [] => []
  | x :: xs => sh n x :: shL n xs
end
section
variable {n : Nat}
theorem shL_map : ∀ xs : List MV, shL n xs = xs.map (sh n)
  | [] => rfl
  | x :: xs => by rw [shL, shL_map xs]; rfl
theorem shL_len (xs : List MV) : (shL n xs).length = xs.length := by rw [shL_map, List.length_map]
theorem shL_app (xs ys : List MV) : shL n (xs ++ ys) = shL n xs ++ shL n ys := by rw [shL_map, shL_map, shL_map, List.map_append]
theorem shL_get (xs : List MV) (i : Nat) : (shL n xs)[i]? = (xs[i]?).map (sh n) := by rw [shL_map, List.getElem?_map]
mutual
theorem sh_pure : ∀ {v : MV}, v.pure = true → sh n v = v
  | .non, _ => rfl
  | .bl _, _ => rfl
  | .int _, _ => rfl
  | .str _, _ => rfl
  | .scr _, _ => rfl
  | .fn _, _ => rfl
  | .edc, _ => rfl
  | .any, _ => rfl
  | .obj c xs, h => by rw [sh, shL_pure (by simpa [MV.pure] using h)]
  | .ref _, h => by simp [MV.pure] at h
  | .lst _, h => by simp [MV.pure] at h
  | .tup xs, h => by rw [sh, shL_pure (by simpa [MV.pure] using h)]
  | .fz xs, h => by rw [sh, shL_pure (by simpa [MV.pure] using h)]
theorem shL_pure : ∀ {xs : List MV}, pureL xs = true → shL n xs = xs
  | [], _ => rfl
  | x :: xs, h => by
    simp only [pureL, Bool.and_eq_true] at h
    rw [shL, sh_pure h.1, shL_pure h.2]
end
mutual
theorem sh_isPure : ∀ v : MV, (sh n v).pure = v.pure
  | .non => rfl
  | .bl _ => rfl
  | .int _ => rfl
  | .str _ => rfl
  | .scr _ => rfl
  | .fn _ => rfl
  | .edc => rfl
  | .any => rfl
  | .obj c xs => by rw [sh, MV.pure, MV.pure, shL_isPure xs]
  | .ref _ => rfl
  | .lst _ => rfl
  | .tup xs => by rw [sh, MV.pure, MV.pure, shL_isPure xs]
  | .fz xs => by rw [sh, MV.pure, MV.pure, shL_isPure xs]
theorem shL_isPure : ∀ xs : List MV, pureL (shL n xs) = pureL xs
  | [] => rfl
  | x :: xs => by rw [shL, pureL, pureL, sh_isPure x, shL_isPure xs]
end
mutual
theorem sh_nol : ∀ v : MV, (sh n v).nol = v.nol
  | .non => rfl
  | .bl _ => rfl
  | .int _ => rfl
  | .str _ => rfl
  | .scr _ => rfl
  | .fn _ => rfl
  | .edc => rfl
  | .any => rfl
  | .obj c xs => by rw [sh, MV.nol, MV.nol, shL_nol xs]
  | .ref _ => rfl
  | .lst _ => rfl
  | .tup xs => by rw [sh, MV.nol, MV.nol, shL_nol xs]
  | .fz xs => by rw [sh, MV.nol, MV.nol, shL_nol xs]
theorem shL_nol : ∀ xs : List MV, nolL (shL n xs) = nolL xs
  | [] => rfl
  | x :: xs => by rw [shL, nolL, nolL, sh_nol x, shL_nol xs]
end
theorem frz_sh (v : MV) : frz (sh n v) = sh n (frz v) := by cases v <;> rfl
theorem frzs_sh (xs : List MV) : (shL n xs).map frz = shL n (xs.map frz) := by
  rw [shL_map, shL_map, List.map_map, List.map_map]
  apply List.map_congr_left
  intro x _
  exact frz_sh x
theorem flat_sh (v : MV) : flat (sh n v) = flat v := by cases v <;> rfl
theorem flats_sh : ∀ xs : List MV, (shL n xs).all flat = xs.all flat
  | [] => rfl
  | x :: xs => by rw [shL, List.all_cons, List.all_cons, flat_sh, flats_sh xs]
theorem eqF_sh (a b : MV) : eqF (sh n a) (sh n b) = eqF a b := by cases a <;> cases b <;> rfl
theorem inF_sh (a : MV) : ∀ xs : List MV, inF (sh n a) (shL n xs) = inF a xs
  | [] => rfl
  | x :: xs => by
    have ih := inF_sh a xs
    unfold inF at ih ⊢
    rw [shL, List.any_cons, List.any_cons, ih, eqF_sh]
theorem nl_sh (v : MV) : nl (sh n v) = nl v := by cases v <;> rfl
theorem nls_sh : ∀ xs : List MV, (shL n xs).all nl = xs.all nl
  | [] => rfl
  | x :: xs => by rw [shL, List.all_cons, List.all_cons, nl_sh, nls_sh xs]
theorem unl_sh {v w : MV} (h : unl v = some w) : unl (sh n v) = some (sh n w) := by
  cases v <;> first | (cases h; rfl) | cases h
theorem intsOf_sh : ∀ {xs : List MV} {ns : List Int}, intsOf xs = some ns → intsOf (shL n xs) = some ns
  | [], _, h => h
  | x :: xs, ns, h => by
    cases x <;> first | (simp only [intsOf] at h; cases h; done) | skip
    simp only [intsOf] at h
    obtain ⟨ms, h1, h2⟩ := Option.map_eq_some_iff.mp h
    rw [shL, sh, intsOf, intsOf_sh h1, Option.map_some, h2]
theorem blsOf_sh : ∀ {xs : List MV} {ns : List Bool}, blsOf xs = some ns → blsOf (shL n xs) = some ns
  | [], _, h => h
  | x :: xs, ns, h => by
    cases x <;> first | (simp only [blsOf] at h; cases h; done) | skip
    simp only [blsOf] at h
    obtain ⟨ms, h1, h2⟩ := Option.map_eq_some_iff.mp h
    rw [shL, sh, blsOf, blsOf_sh h1, Option.map_some, h2]
end
/-- lists of the heap hold plain values -/
def HP (h : Hm) : Prop := ∀ (i : Nat) (xs : List MV), h[i]? = some (.lst xs) → pureL xs = true
theorem HP.nil : HP [] := fun i xs h => by simp at h
section
variable {h0 h : Hm}
theorem gt (k : Nat) : (h0 ++ h)[h0.length + k]? = h[k]? := by
  rw [List.getElem?_append_right (by omega), Nat.add_sub_cancel_left]
theorem items_sh (p : HP h) {v : MV} {xs : List MV} (e : items h v = some xs) : items (h0 ++ h) (sh h0.length v) = some (shL h0.length xs) := by
  cases v with
  | lst ys => cases e; rfl
  | fz ys => cases e; rfl
  | scr ns =>
    cases e
    show some _ = _
    rw [shL_pure]
    induction ns with
    | nil => rfl
    | cons x r ih => rw [List.map_cons]; simp only [pureL, MV.pure, ih]; rfl
  | ref k =>
    simp only [items] at e
    simp only [sh, items, gt]
    cases hk : h[k]? with
    | none => rw [hk] at e; cases e
    | some o =>
      rw [hk] at e
      cases o with
      | lst ys => cases e; rw [shL_pure (p k _ hk)]
      | scr ns =>
        cases e
        simp only
        rw [shL_pure]
        induction ns with
        | nil => rfl
        | cons x r ih => rw [List.map_cons]; simp only [pureL, MV.pure]; exact (by
            have : pureL (r.map MV.int) = true := by
              clear ih hk
              induction r with
              | nil => rfl
              | cons x r ih => rw [List.map_cons]; simp only [pureL, MV.pure, ih]; rfl
            rw [this]; rfl)
      | dct _ => cases e
  | _ => cases e
theorem seq_sh (p : HP h) {v : MV} {xs : List MV} (e : seq h v = some xs) : seq (h0 ++ h) (sh h0.length v) = some (shL h0.length xs) := by
  cases v with
  | tup ys => cases e; rfl
  | lst ys => exact items_sh (v := .lst ys) p e
  | fz ys => exact items_sh (v := .fz ys) p e
  | scr ns => exact items_sh (v := .scr ns) p e
  | ref k => exact items_sh (v := .ref k) p e
  | _ => cases e
theorem itemsL_sh (p : HP h) {v : MV} {xs : List MV} (e : itemsL h v = some xs) : itemsL (h0 ++ h) (sh h0.length v) = some (shL h0.length xs) := by
  cases v with
  | lst ys => cases e; rfl
  | fz ys => cases e; rfl
  | ref k =>
    simp only [itemsL] at e
    simp only [sh, itemsL, gt]
    cases hk : h[k]? with
    | none => rw [hk] at e; cases e
    | some o =>
      rw [hk] at e
      cases o with
      | lst ys => cases e; rw [shL_pure (p k _ hk)]
      | scr ns => cases e
      | dct _ => cases e
  | _ => cases e
mutual
theorem toD_sh : ∀ {v : MV} {d : PyData}, toD h v = some d → toD (h0 ++ h) (sh h0.length v) = some d
  | .non, d, e => e
  | .bl _, d, e => e
  | .int _, d, e => e
  | .str _, d, e => e
  | .scr _, d, e => e
  | .fn _, d, e => by simp only [toD] at e; cases e
  | .edc, d, e => by simp only [toD] at e; cases e
  | .any, d, e => by simp only [toD] at e; cases e
  | .obj _ _, d, e => by simp only [toD] at e; cases e
  | .tup xs, d, e => by
    simp only [toD] at e
    obtain ⟨ds, h1, rfl⟩ := Option.map_eq_some_iff.mp e
    simp only [sh, toD, toDs_sh h1, Option.map_some]
  | .lst xs, d, e => by
    simp only [toD] at e
    obtain ⟨ds, h1, rfl⟩ := Option.map_eq_some_iff.mp e
    simp only [sh, toD, toDs_sh h1, Option.map_some]
  | .fz xs, d, e => by
    simp only [toD] at e
    obtain ⟨ds, h1, rfl⟩ := Option.map_eq_some_iff.mp e
    simp only [sh, toD, toDs_sh h1, Option.map_some]
  | .ref k, d, e => by
    simp only [toD] at e
    simp only [sh, toD, gt]
    exact e
theorem toDs_sh : ∀ {v : List MV} {d : List PyData}, toDs h v = some d → toDs (h0 ++ h) (shL h0.length v) = some d
  | [], d, e => e
  | x :: xs, d, e => by
    simp only [toDs] at e
    split at e
    · rename_i a b h1 h2
      simp only [shL, toDs, toD_sh h1, toDs_sh h2]
      exact e
    · cases e
end
theorem truth_sh (p : HP h) {v : MV} {b : Bool} (e : truth h v = some b) : truth (h0 ++ h) (sh h0.length v) = some b := by
  have hl : ∀ {v : MV}, (match items h v with
    | some xs => some (!xs.isEmpty)
    | none => none) = some b → (match items (h0 ++ h) (sh h0.length v) with
    | some xs => some (!xs.isEmpty)
    | none => none) = some b := fun {v} e => by
    split at e
    · rename_i xs hx
      rw [items_sh p hx]
      cases xs <;> exact e
    · cases e
  cases v with
  | non => exact e
  | bl _ => exact e
  | int _ => exact e
  | str _ => exact e
  | tup xs => cases xs <;> exact e
  | fn _ => cases e
  | lst xs => exact hl (v := .lst xs) e
  | fz xs => exact hl (v := .fz xs) e
  | scr xs => exact hl (v := .scr xs) e
  | ref xs => exact hl (v := .ref xs) e
  | edc => exact hl (v := .edc) e
  | any => first | exact hl (v := .any) e | cases e
  | obj c xs => first | exact hl (v := .obj c xs) e | cases e
theorem eqD_sh {x y : MV} {b : Bool} (e : eqD x y h = some b) : eqD (sh h0.length x) (sh h0.length y) (h0 ++ h) = some b := by
  unfold eqD at e ⊢
  split at e
  · rename_i d d' h1 h2
    rw [toD_sh h1, toD_sh h2]
    exact e
  · cases e
theorem tyOf_sh {v : MV} {t : TyN} (e : tyOf h v = some t) : tyOf (h0 ++ h) (sh h0.length v) = some t := by
  cases v with
  | ref k =>
    simp only [tyOf] at e
    simp only [sh, tyOf, gt]
    exact e
  | _ => exact e
theorem isTy_sh {v : MV} {t : TyN} {b : Bool} (e : isTy h v t = some b) : isTy (h0 ++ h) (sh h0.length v) t = some b := by
  cases v with
  | non => exact e
  | _ =>
    unfold isTy at e ⊢
    obtain ⟨u, h1, h2⟩ := Option.map_eq_some_iff.mp e
    have := tyOf_sh (h0 := h0) h1
    simp only [sh] at this ⊢
    rw [this, Option.map_some, h2]
theorem reprV_sh {v : MV} {s : Str} (e : reprV h v = some s) : reprV (h0 ++ h) (sh h0.length v) = some s := by
  unfold reprV at e ⊢
  split at e
  · rename_i d h1
    rw [toD_sh h1]
    exact e
  · cases e
theorem rep_sh {n : Nat} (k : Nat) (xs : List MV) : (List.replicate k (shL n xs)).flatten = shL n (List.replicate k xs).flatten := by
  rw [shL_map, shL_map, List.map_flatten, List.map_replicate]
theorem bop_sh (p : HP h) {op : BO} {x y z : MV} (e : bop op x y h = some z) : bop op (sh h0.length x) (sh h0.length y) (h0 ++ h) = some (sh h0.length z) := by
  unfold bop at e
  split at e
  · cases e; rfl
  · cases e; rfl
  · split at e
    · rename_i hz
      cases e
      exact if_pos hz
    · cases e
  · split at e
    · rename_i hz
      cases e
      exact if_pos hz
    · cases e
  · split at e
    · rename_i hz
      cases e
      exact if_pos hz
    · cases e
  · split at e
    · rename_i hz
      cases e
      exact if_pos hz
    · cases e
  · split at e
    · rename_i hz
      cases e
      exact if_pos hz
    · cases e
  · split at e
    · rename_i xs ys hz
      cases e
      show (if (shL _ xs).length + (shL _ ys).length ≤ sizeMax then some (MV.tup (shL _ xs ++ shL _ ys)) else none) = _
      rw [shL_len, shL_len, if_pos hz, sh, shL_app]
    · cases e
  · split at e
    · rename_i xs k hz
      cases e
      show (if -9223372036854775808 ≤ k ∧ k < 9223372036854775808 ∧ (shL _ xs).length * k.toNat ≤ sizeMax then some (MV.tup (List.replicate k.toNat (shL _ xs)).flatten) else none) = _
      rw [shL_len, if_pos hz, sh, rep_sh]
    · cases e
  · split at e
    · rename_i xs ys h1 h2
      split at e
      · rename_i hz
        cases e
        have g1 := itemsL_sh (h0 := h0) p h1
        have g2 := itemsL_sh (h0 := h0) p h2
        have key : (match itemsL (h0 ++ h) (sh h0.length x), itemsL (h0 ++ h) (sh h0.length y) with
          | some xs, some ys => if xs.length + ys.length ≤ sizeMax then some (MV.lst (xs ++ ys)) else none
          | _, _ => none) = some (sh h0.length (.lst (xs ++ ys))) := by
          rw [g1, g2]
          simp only [shL_len, if_pos hz, sh, shL_app]
        cases x <;> first | (simp only [itemsL] at h1; cases h1; done) | skip
        all_goals cases y <;> first | (simp only [itemsL] at h2; cases h2; done) | exact key
      · cases e
    · cases e
  · rename_i k _ _
    split at e
    · rename_i xs h1
      split at e
      · rename_i hz
        cases e
        have g1 := itemsL_sh (h0 := h0) p h1
        have key : (match itemsL (h0 ++ h) (sh h0.length x) with
          | some xs => if -9223372036854775808 ≤ k ∧ k < 9223372036854775808 ∧ xs.length * k.toNat ≤ sizeMax then some (MV.lst (List.replicate k.toNat xs).flatten) else none
          | none => none) = some (sh h0.length (.lst (List.replicate k.toNat xs).flatten)) := by
          rw [g1]
          simp only [shL_len, if_pos hz, sh, rep_sh]
        cases x <;> first | (simp only [itemsL] at h1; cases h1; done) | exact key
      · cases e
    · cases e
  · cases e
theorem augV_sh (p : HP h) {op : BO} {x y z : MV} (e : augV op x y h = some z) : augV op (sh h0.length x) (sh h0.length y) (h0 ++ h) = some (sh h0.length z) := by
  unfold augV at e
  split at e
  · split at e
    · rename_i hz
      have := bop_sh (h0 := h0) p e
      exact (if_pos hz).trans this
    · cases e
  · cases e
theorem cop_sh (p : HP h) {op : CO} {x y : MV} {b : Bool} (e : cop op x y h = some b) : cop op (sh h0.length x) (sh h0.length y) (h0 ++ h) = some b := by
  unfold cop at e
  split at e
  · exact e
  · exact e
  · exact e
  · exact e
  · exact e
  · exact e
  · rename_i hne
    have g := eqD_sh (h0 := h0) e
    cases x <;> cases y <;> first | exact g | exact absurd rfl (hne _ _ rfl)
  · rename_i hne
    obtain ⟨c, h1, h2⟩ := Option.map_eq_some_iff.mp e
    have g := eqD_sh (h0 := h0) h1
    have g2 : (eqD (sh h0.length x) (sh h0.length y) (h0 ++ h)).map (!·) = some b := by rw [g, Option.map_some, h2]
    cases x <;> cases y <;> first | exact g2 | exact absurd rfl (hne _ _ rfl)
  · split at e
    · rename_i xs hx
      have g := seq_sh (h0 := h0) p hx
      show (match seq (h0 ++ h) (sh h0.length y) with
        | some xs => if flat (sh h0.length x) && xs.all flat then some (inF (sh h0.length x) xs) else none
        | none => none) = _
      rw [g]
      simp only [flat_sh, flats_sh, inF_sh]
      exact e
    · cases e
  · split at e
    · rename_i xs hx
      have g := seq_sh (h0 := h0) p hx
      show (match seq (h0 ++ h) (sh h0.length y) with
        | some xs => if flat (sh h0.length x) && xs.all flat then some (!inF (sh h0.length x) xs) else none
        | none => none) = _
      rw [g]
      simp only [flat_sh, flats_sh, inF_sh]
      exact e
    · cases e
  · cases x <;> exact e
  · cases x <;> exact e
  · exact e
  · exact e
  · cases e
theorem ixV_sh (p : HP h) {x y z : MV} (e : ixV x y h = some z) : ixV (sh h0.length x) (sh h0.length y) (h0 ++ h) = some (sh h0.length z) := by
  unfold ixV at e
  split at e
  · split at e
    · rename_i hz
      obtain ⟨c, h1, h2⟩ := Option.map_eq_some_iff.mp e
      cases h2
      show (if _ then _ else none) = _
      rw [if_pos hz, h1]
      rfl
    · cases e
  · rename_i i ns
    split at e
    · rename_i xs hx
      have g := seq_sh (h0 := h0) p hx
      have key : (match seq (h0 ++ h) (sh h0.length x) with
        | some xs => (L2.atI xs i).bind unl
        | none => none) = some (sh h0.length z) := by
        rw [g]
        obtain ⟨w, h1, h2⟩ := Option.bind_eq_some_iff.mp e
        have h3 : L2.atI (shL h0.length xs) i = some (sh h0.length w) := by
          unfold L2.atI at h1 ⊢
          rw [shL_len]
          cases q : L2.ixN xs.length i with
          | none => rw [q] at h1; cases h1
          | some j =>
            rw [q] at h1
            have h1 : xs[j]? = some w := h1
            show (shL h0.length xs)[j]? = _
            rw [shL_get, h1]
            rfl
        simp only [h3, Option.bind_some]
        exact unl_sh h2
      cases x <;> first | exact key | (exact (ns _ rfl).elim)
    · cases e
  · cases e
theorem cut_sh {n : Nat} (xs : List MV) (lo hi : Option Int) : cut (shL n xs) lo hi = shL n (cut xs lo hi) := by
  unfold cut
  rw [shL_len, shL_map, shL_map, List.map_take, List.map_drop]
theorem slV_sh (p : HP h) {x z : MV} {lo hi : Option Int} (e : slV x lo hi h = some z) : slV (sh h0.length x) lo hi (h0 ++ h) = some (sh h0.length z) := by
  unfold slV at e
  split at e
  · cases e
    show some (MV.tup (cut (shL _ _) lo hi)) = _
    rw [cut_sh]
    rfl
  · rename_i ns
    split at e
    · rename_i xs hx
      cases e
      have g := items_sh (h0 := h0) p hx
      have key : (match items (h0 ++ h) (sh h0.length x) with
        | some xs => some (MV.lst (cut xs lo hi))
        | none => none) = some (sh h0.length (.lst (cut xs lo hi))) := by
        rw [g]
        simp only [cut_sh, sh]
      cases x <;> first | exact key | (exact absurd rfl (ns _))
    · cases e
theorem stepOf_sh {n : Nat} (xs : List MV) (k : Nat) : stepOf (shL n xs) k = shL n (stepOf xs k) := by
  have e : ∀ l : List Nat, l.filterMap (fun i => (shL n xs)[i * k]?) = shL n (l.filterMap fun i => xs[i * k]?) := fun l => by
    induction l with
    | nil => rfl
    | cons i l ih =>
      rw [List.filterMap_cons, List.filterMap_cons, shL_get]
      cases xs[i * k]? with
      | none => exact ih
      | some x => exact congrArg (sh n x :: ·) ih
  unfold stepOf
  rw [shL_len, e]
theorem pure_intsOf : ∀ {xs : List MV} {ns : List Int}, intsOf xs = some ns → pureL xs = true
  | [], _, _ => rfl
  | x :: xs, ns, e => by
    cases x <;> first | (simp only [intsOf] at e; cases e; done) | skip
    simp only [intsOf] at e
    obtain ⟨ms, h1, _⟩ := Option.map_eq_some_iff.mp e
    simp only [pureL, MV.pure, pure_intsOf h1, Bool.and_self]
theorem pure_tupsOf : ∀ {xs : List MV} {ns : List (List Int)}, tupsOf xs = some ns → pureL xs = true
  | [], _, _ => rfl
  | x :: xs, ns, e => by
    cases x <;> first | (simp only [tupsOf] at e; cases e; done) | skip
    simp only [tupsOf] at e
    split at e
    · rename_i t ts h1 h2
      simp only [pureL, MV.pure, pure_intsOf h1, pure_tupsOf h2, Bool.and_self]
    · cases e
theorem pure_ints' : ∀ ns : List Int, pureL (ns.map .int) = true
  | [] => rfl
  | n :: ns => by simp only [List.map_cons, pureL, MV.pure, pure_ints' ns, Bool.and_self]
theorem pure_tups' : ∀ ns : List (List Int), pureL (ns.map fun t => .tup (t.map .int)) = true
  | [] => rfl
  | n :: ns => by simp only [List.map_cons, pureL, MV.pure, pure_tups' ns, pure_ints', Bool.and_self]
theorem sortedV_sh {n : Nat} {xs : List MV} {v : MV} (e : sortedV xs = some v) : sortedV (shL n xs) = some (sh n v) := by
  unfold sortedV at e
  split at e
  · rename_i ns hn
    cases e
    rw [shL_pure (pure_intsOf hn), sh, shL_pure (pure_ints' _)]
    unfold sortedV
    rw [hn]
  · rename_i hn
    split at e
    · rename_i ts ht
      split at e
      · rename_i hc
        cases e
        rw [shL_pure (pure_tupsOf ht), sh, shL_pure (pure_tups' _)]
        unfold sortedV
        rw [hn]
        simp only [ht, hc, if_true]
      · cases e
    · cases e
theorem biV_sh (p : HP h) {b : BI} {vs : List MV} {z : MV} (e : biV b vs h = some z) : biV b (shL h0.length vs) (h0 ++ h) = some (sh h0.length z) := by
  have it : ∀ {a : MV} {xs : List MV}, items h a = some xs → items (h0 ++ h) (sh h0.length a) = some (shL h0.length xs) := fun h => items_sh p h
  have inh : ∀ ns : List Int, sh h0.length (.lst (ns.map .int)) = .lst (ns.map .int) := fun ns => by
    rw [sh, shL_pure]
    induction ns with
    | nil => rfl
    | cons x r ih => rw [List.map_cons]; simp only [pureL, MV.pure, ih]; rfl
  unfold biV at e
  split at e
  · cases e; rfl
  · cases e; rfl
  · cases e; rfl
  · cases e; rfl
  · cases e; rfl
  · split at e
    · rename_i hz; cases e; exact if_pos hz
    · cases e
  · rename_i a hne
    obtain ⟨xs, h1, rfl⟩ := Option.map_eq_some_iff.mp e
    have g := seq_sh (h0 := h0) p h1
    have key : (seq (h0 ++ h) (sh h0.length a)).map (fun xs => MV.int (xs.length : Int)) = some (.int (xs.length : Int)) := by rw [g, Option.map_some, shL_len]
    cases a <;> first | exact key | (exact absurd rfl (hne _))
  · split at e
    · rename_i xs hx
      obtain ⟨ns, h1, rfl⟩ := Option.map_eq_some_iff.mp e
      show (match seq (h0 ++ h) (sh h0.length _) with | some xs => (intsOf xs).map fun (ns : List Int) => MV.int ns.sum | none => none) = _
      rw [seq_sh p hx]
      simp only [intsOf_sh h1, Option.map_some, sh]
    · cases e
  · split at e
    · rename_i xs hx
      obtain ⟨ns, h1, rfl⟩ := Option.map_eq_some_iff.mp e
      show (match items (h0 ++ h) (sh h0.length _) with | some xs => (blsOf xs).map fun (bs : List Bool) => MV.bl (bs.all id) | none => none) = _
      rw [it hx]
      simp only [blsOf_sh h1, Option.map_some, sh]
    · cases e
  · split at e
    · rename_i xs hx
      obtain ⟨ns, h1, rfl⟩ := Option.map_eq_some_iff.mp e
      show (match items (h0 ++ h) (sh h0.length _) with | some xs => (blsOf xs).map fun (bs : List Bool) => MV.bl (bs.any id) | none => none) = _
      rw [it hx]
      simp only [blsOf_sh h1, Option.map_some, sh]
    · cases e
  · cases e; rfl
  · rename_i a hne
    obtain ⟨xs, h1, rfl⟩ := Option.map_eq_some_iff.mp e
    have g := it h1
    have key : (items (h0 ++ h) (sh h0.length a)).map MV.tup = some (sh h0.length (.tup xs)) := by rw [g]; rfl
    cases a <;> first | exact key | (exact absurd rfl (hne _))
  · rename_i a
    obtain ⟨xs, h1, rfl⟩ := Option.map_eq_some_iff.mp e
    have g := seq_sh (h0 := h0) p h1
    show (seq (h0 ++ h) (sh h0.length a)).map MV.lst = _
    rw [g]
    rfl
  · split at e
    · rename_i xs hx
      show (match items (h0 ++ h) (sh h0.length _) with | some xs => sortedV xs | none => none) = _
      rw [it hx]
      exact sortedV_sh e
    · cases e
  · rename_i a
    obtain ⟨s, h1, rfl⟩ := Option.map_eq_some_iff.mp e
    show (reprV (h0 ++ h) (sh h0.length a)).map MV.str = _
    rw [reprV_sh h1]
    rfl
  · split at e
    · rename_i xs hx
      split at e
      · rename_i n ns h1
        cases e
        show (match items (h0 ++ h) (sh h0.length _) with
          | some xs => match intsOf xs with
            | some (n :: ns) => some (MV.int (ns.foldl max n))
            | _ => none
          | none => none) = _
        rw [it hx]
        simp only [intsOf_sh h1, sh]
      · cases e
    · cases e
  · split at e
    · rename_i xs hx
      split at e
      · rename_i n ns h1
        cases e
        show (match items (h0 ++ h) (sh h0.length _) with
          | some xs => match intsOf xs with
            | some (n :: ns) => some (MV.int (ns.foldl min n))
            | _ => none
          | none => none) = _
        rw [it hx]
        simp only [intsOf_sh h1, sh]
      · cases e
    · cases e
  · cases e
/-! ### stores -/
theorem HP.snoc {xs : List MV} (p : HP h) (q : pureL xs = true) : HP (h ++ [.lst xs]) := fun i ys e => by
  by_cases hi : i < h.length
  · rw [List.getElem?_append_left hi] at e
    exact p i ys e
  · rw [List.getElem?_append_right (by omega)] at e
    have h0 : i - h.length = 0 := by
      have := (List.getElem?_eq_some_iff.mp e).1
      simp at this
      omega
    rw [h0] at e
    cases e
    exact q
theorem HP.set {xs : List MV} (p : HP h) (k : Nat) (q : pureL xs = true) : HP (h.set k (.lst xs)) := fun i ys e => by
  by_cases hi : k = i
  · subst hi
    have hl : k < h.length := by
      have := (List.getElem?_eq_some_iff.mp e).1
      simpa using this
    rw [List.getElem?_set_self hl] at e
    cases e
    exact q
  · rw [List.getElem?_set_ne hi] at e
    exact p i ys e
theorem HP.take (p : HP h) (k : Nat) : HP (h.take k) := fun i ys e => by
  by_cases hi : i < k
  · rw [List.getElem?_take_of_lt hi] at e
    exact p i ys e
  · rw [List.getElem?_take_eq_none (by omega)] at e
    cases e
theorem app_set (k : Nat) (o : MO) : (h0 ++ h).set (h0.length + k) o = h0 ++ h.set k o := by
  rw [List.set_append_right _ _ (by omega), Nat.add_sub_cancel_left]
theorem app_take (k : Nat) : (h0 ++ h).take (h0.length + k) = h0 ++ h.take k := by
  rw [List.take_append, List.take_of_length_le (by omega), Nat.add_sub_cancel_left]
theorem sto_sh (p : HP h) {v w : MV} {h1 : Hm} (e : sto v h = some (w, h1)) : sto (sh h0.length v) (h0 ++ h) = some (sh h0.length w, h0 ++ h1) ∧ HP h1 := by
  cases v with
  | lst xs =>
    simp only [sto] at e
    split at e
    · rename_i hz
      cases e
      refine ⟨?_, p.snoc hz⟩
      simp only [sh, sto, shL_isPure, hz, if_true, shL_pure hz, List.length_append, List.append_assoc]
    · cases e
  | _ =>
    simp only [sto] at e
    split at e
    · rename_i hz
      cases e
      refine ⟨?_, p⟩
      have := (sh_nol (n := h0.length) _).trans hz
      simp only [sh] at this
      simp only [sh, sto, this, if_true]
    · cases e
theorem stoL_sh : ∀ {vs ws : List MV} {h h1 : Hm}, HP h → stoL vs h = some (ws, h1) → stoL (shL h0.length vs) (h0 ++ h) = some (shL h0.length ws, h0 ++ h1) ∧ HP h1
  | [], ws, h, h1, p, e => by
    cases e
    exact ⟨rfl, p⟩
  | v :: vs, ws, h, h1, p, e => by
    simp only [stoL] at e
    split at e
    · rename_i w h2 e1
      split at e
      · rename_i ws' h3 e2
        cases e
        obtain ⟨q1, p1⟩ := sto_sh (h0 := h0) p e1
        obtain ⟨q2, p2⟩ := stoL_sh p1 e2
        refine ⟨?_, p2⟩
        rw [shL, stoL, q1]
        simp only [q2, shL]
      · cases e
    · cases e
theorem pureL_mems : ∀ {xs : List MV}, pureL xs = true ↔ ∀ x ∈ xs, x.pure = true
  | [] => by simp [pureL]
  | x :: xs => by
    simp only [pureL, Bool.and_eq_true, List.mem_cons, forall_eq_or_imp]
    rw [pureL_mems]
theorem setSub_sh (p : HP h) {o i v : MV} {h1 : Hm} (e : setSub o i v h = some h1) : setSub (sh h0.length o) (sh h0.length i) (sh h0.length v) (h0 ++ h) = some (h0 ++ h1) ∧ HP h1 := by
  unfold setSub at e
  split at e
  · rename_i k j
    split at e
    · rename_i xs hx
      split at e
      · rename_i m hm
        split at e
        · rename_i hv
          cases e
          refine ⟨?_, p.set k (pureL_mems.mpr fun y hy => ?_)⟩
          · simp only [sh, setSub, gt, hx, hm, sh_isPure, hv, if_true, sh_pure hv, app_set]
          · rcases List.mem_or_eq_of_mem_set hy with q | q
            · exact pureL_mems.mp (p k xs hx) y q
            · rw [q]; exact hv
        · cases e
      · cases e
    · cases e
  · cases e
theorem getSub_sh (p : HP h) {o i v : MV} (e : getSub o i h = some v) : getSub (sh h0.length o) (sh h0.length i) (h0 ++ h) = some (sh h0.length v) := by
  unfold getSub at e
  split at e
  · rename_i k j
    split at e
    · rename_i xs hx
      simp only [sh, getSub, gt, hx]
      obtain ⟨w, h1, h2⟩ := Option.bind_eq_some_iff.mp e
      rw [h1, Option.bind_some]
      have hw : w.pure = true := by
        obtain ⟨j2, _, h3⟩ := Option.bind_eq_some_iff.mp h1
        exact pureL_mems.mp (p k xs hx) w (List.mem_of_getElem? h3)
      have e2 : v = w := by
        cases w <;> first | (cases h2; rfl) | cases h2
      subst e2
      rw [sh_pure hw]
      exact h2
    · cases e
  · cases e
theorem methV_sh (p : HP h) {m : LM} {o v : MV} {vs : List MV} {h1 : Hm} (e : methV m o vs h = some (v, h1)) : methV m (sh h0.length o) (shL h0.length vs) (h0 ++ h) = some (sh h0.length v, h0 ++ h1) ∧ HP h1 := by
  unfold methV at e
  split at e
  · rename_i k
    split at e
    · rename_i xs hx
      have px := p k xs hx
      split at e
      · rename_i y
        split at e
        · rename_i hz
          cases e
          refine ⟨?_, p.set k (pureL_mems.mpr fun w hw => ?_)⟩
          · simp only [sh, shL, methV, gt, hx, frz_sh, sh_isPure, hz, and_self, if_true, sh_pure hz.1, app_set]
          · rcases List.mem_append.mp hw with q | q
            · exact pureL_mems.mp px w q
            · rw [List.mem_singleton.mp q]; exact hz.1
        · cases e
      · split at e
        · rename_i y hy
          cases e
          have py := pureL_mems.mp px _ (List.mem_of_getElem? hy)
          refine ⟨?_, p.set k (pureL_mems.mpr fun w hw => pureL_mems.mp px w (List.dropLast_subset _ hw))⟩
          simp only [sh, shL, methV, gt, hx, hy, sh_pure py, app_set]
        · cases e
      · rename_i i
        split at e
        · rename_i hz
          split at e
          · rename_i j hj
            split at e
            · rename_i y hy
              cases e
              have py := pureL_mems.mp px _ (List.mem_of_getElem? hy)
              refine ⟨?_, p.set k (pureL_mems.mpr fun w hw => pureL_mems.mp px w (List.mem_of_mem_eraseIdx hw))⟩
              simp only [sh, shL, methV, gt, hx, hz, and_self, if_true, hj, hy, sh_pure py, app_set]
            · cases e
          · cases e
        · cases e
      · cases e
    · cases e
  · cases e
mutual
theorem froz_sh (p : HP h) {m : Nat} : ∀ {v w : MV}, froz m h v = some w → froz (h0.length + m) (h0 ++ h) (sh h0.length v) = some (sh h0.length w)
  | .non, w, e => by cases e; rfl
  | .bl _, w, e => by cases e; rfl
  | .int _, w, e => by cases e; rfl
  | .str _, w, e => by cases e; rfl
  | .scr _, w, e => by cases e; rfl
  | .fn _, w, e => by cases e; rfl
  | .edc, w, e => by cases e; rfl
  | .any, w, e => by cases e; rfl
  | .obj c xs, w, e => by
    simp only [froz] at e
    obtain ⟨ys, h1, rfl⟩ := Option.map_eq_some_iff.mp e
    simp only [sh, froz, frozL_sh p h1, Option.map_some]
  | .tup xs, w, e => by
    simp only [froz] at e
    obtain ⟨ys, h1, rfl⟩ := Option.map_eq_some_iff.mp e
    simp only [sh, froz, frozL_sh p h1, Option.map_some]
  | .fz xs, w, e => by
    simp only [froz] at e
    obtain ⟨ys, h1, rfl⟩ := Option.map_eq_some_iff.mp e
    simp only [sh, froz, frozL_sh p h1, Option.map_some]
  | .lst xs, w, e => by
    simp only [froz] at e
    obtain ⟨ys, h1, rfl⟩ := Option.map_eq_some_iff.mp e
    simp only [sh, froz, frozL_sh p h1, Option.map_some]
  | .ref k, w, e => by
    simp only [froz] at e
    simp only [sh, froz, gt]
    split at e
    · rename_i hk
      cases e
      rw [if_pos (by omega)]
      rfl
    · rename_i hk
      rw [if_neg (by omega)]
      split at e
      · rename_i xs hx
        cases e
        simp only [sh, shL_pure (p k xs hx)]
      · cases e
theorem frozL_sh (p : HP h) {m : Nat} : ∀ {v w : List MV}, frozL m h v = some w → frozL (h0.length + m) (h0 ++ h) (shL h0.length v) = some (shL h0.length w)
  | [], w, e => by cases e; rfl
  | x :: xs, w, e => by
    simp only [frozL] at e
    split at e
    · rename_i y ys h1 h2
      cases e
      simp only [shL, frozL, froz_sh p h1, frozL_sh p h2]
    · cases e
end
/-! ### results -/
def shX (n : Nat) (e : MEx) : MEx := ⟨e.cls, e.arg.map (sh n)⟩
def shR {α : Type} (f : α → α) (h0 : Hm) : Res α → Res α
  | .ok a h => .ok (f a) (h0 ++ h)
  | .ex e h => .ex (shX h0.length e) (h0 ++ h)
def Res.hm {α : Type} : Res α → Hm
  | .ok _ h => h
  | .ex _ h => h
/-- what the first computes, the second computes behind h0 -/
def Tr {α : Type} (f : α → α) (h0 : Hm) (x x' : RO α) : Prop := ∀ r, x = some r → x' = some (shR f h0 r) ∧ HP r.hm
theorem Tr.ok {α : Type} {f : α → α} {a : α} (p : HP h) : Tr f h0 (some (.ok a h)) (some (.ok (f a) (h0 ++ h))) := fun r e => by
  cases e
  exact ⟨rfl, p⟩
theorem Tr.none {α : Type} {f : α → α} {x' : RO α} : Tr f h0 none x' := fun r e => by cases e
theorem Tr.bnd {α β : Type} {f : α → α} {g : β → β} {x x' : RO α} {k k' : α → Hm → RO β} (t : Tr f h0 x x') (q : ∀ a h, HP h → Tr g h0 (k a h) (k' (f a) (h0 ++ h))) : Tr g h0 (Mi.bnd x k) (Mi.bnd x' k') := fun r e => by
  cases x with
  | none => cases e
  | some y =>
    obtain ⟨e1, p⟩ := t y rfl
    rw [e1]
    cases y with
    | ok a h => exact q a h p r e
    | ex z h =>
      cases e
      exact ⟨rfl, p⟩
theorem Tr.lift {α : Type} {f : α → α} {o o' : Option α} (p : HP h) (q : ∀ z, o = some z → o' = some (f z)) : Tr f h0 (Mi.lift o h) (Mi.lift o' (h0 ++ h)) := fun r e => by
  cases o with
  | none => cases e
  | some z =>
    cases e
    rw [q z rfl]
    exact ⟨rfl, p⟩
theorem Tr.noX {α : Type} {f : α → α} {x x' : RO α} (t : Tr f h0 x x') : Tr f h0 (Mi.noX x) (Mi.noX x') := fun r e => by
  unfold Mi.noX at e
  split at e
  · cases e
    obtain ⟨e1, p⟩ := t _ rfl
    rw [e1]
    exact ⟨rfl, p⟩
  · cases e
/-! ### slots -/
/-- slots that stand for one another -/
structure Sl (n : Nat) (σ σ' : Loc) : Prop where
  len : σ.length = σ'.length
  get : ∀ (i : Nat) (v : MV), σ[i]? = some (some v) → σ'[i]? = some (some (sh n v))
theorem Sl.set {n : Nat} {σ σ' : Loc} (s : Sl n σ σ') (i : Nat) (v : MV) : Sl n (σ.set i (some v)) (σ'.set i (some (sh n v))) := by
  refine ⟨by simp [s.len], fun j w e => ?_⟩
  by_cases hj : i = j
  · subst hj
    have hl : i < σ.length := by
      have := (List.getElem?_eq_some_iff.mp e).1
      simpa using this
    rw [List.getElem?_set_self hl] at e
    cases e
    rw [List.getElem?_set_self (by rw [← s.len]; exact hl)]
  · rw [List.getElem?_set_ne hj] at e ⊢
    exact s.get j w e
theorem Sl.wipe {n : Nat} {σ σ' : Loc} (s : Sl n σ σ') : ∀ vs : List Nat, Sl n (wipeL σ vs) (wipeL σ' vs)
  | [] => s
  | v :: vs => by
    have ih := Sl.wipe s vs
    refine ⟨by simp [wipeL, ih.len], fun j w e => ?_⟩
    simp only [wipeL] at e ⊢
    by_cases hj : v = j
    · subst hj
      have hl : v < (wipeL σ vs).length := by
        have := (List.getElem?_eq_some_iff.mp e).1
        simpa using this
      rw [List.getElem?_set_self hl] at e
      cases e
    · rw [List.getElem?_set_ne hj] at e ⊢
      exact ih.get j w e
/-! ### what loops go over -/
def shC (n : Nat) : Cmp → Cmp
  | .tv vs => .tv (shL n vs)
  | .lv vs => .lv (shL n vs)
  | .at_ k => .at_ (n + k)
def shS (n : Nat) : Src → Src
  | .one c => .one (shC n c)
  | .rg vs => .rg (shL n vs)
  | .enu c => .enu (shC n c)
  | .zip c d => .zip (shC n c) (shC n d)
theorem nthU_sh {n : Nat} {o : Option MV} {r : Option MV} (e : nthU o = some r) : nthU (o.map (sh n)) = some (r.map (sh n)) := by
  cases o with
  | none => cases e; rfl
  | some x =>
    simp only [nthU] at e
    obtain ⟨y, h1, rfl⟩ := Option.map_eq_some_iff.mp e
    simp only [Option.map_some, nthU, unl_sh h1]
theorem cnth_sh (p : HP h) {c : Cmp} {i : Nat} {r : Option MV} (e : c.nth i h = some r) : (shC h0.length c).nth i (h0 ++ h) = some (r.map (sh h0.length)) := by
  cases c with
  | tv vs =>
    simp only [shC, Cmp.nth, shL_get] at e ⊢
    exact nthU_sh e
  | lv vs =>
    simp only [shC, Cmp.nth, shL_get] at e ⊢
    exact nthU_sh e
  | at_ k =>
    simp only [Cmp.nth] at e
    split at e
    · rename_i xs hx
      have g := items_sh (h0 := h0) p hx
      simp only [shC, Cmp.nth]
      have g : items (h0 ++ h) (.ref (h0.length + k)) = some (shL h0.length xs) := g
      rw [g]
      simp only [shL_get]
      exact nthU_sh e
    · cases e
theorem snth_sh (p : HP h) {c : Src} {i : Nat} {r : Option MV} (e : c.nth i h = some r) : (shS h0.length c).nth i (h0 ++ h) = some (r.map (sh h0.length)) := by
  cases c with
  | one c => exact cnth_sh p e
  | rg vs =>
    simp only [shS, Src.nth, shL_get] at e ⊢
    exact nthU_sh e
  | enu c =>
    simp only [Src.nth] at e
    obtain ⟨o, h1, rfl⟩ := Option.map_eq_some_iff.mp e
    simp only [shS, Src.nth, cnth_sh p h1, Option.map_some]
    cases o <;> rfl
  | zip c d =>
    simp only [Src.nth] at e
    simp only [shS, Src.nth]
    cases h1 : c.nth i h with
    | none => rw [h1] at e; cases e
    | some x =>
      cases h2 : d.nth i h with
      | none => rw [h1, h2] at e; cases x <;> cases e
      | some y =>
        rw [h1, h2] at e
        rw [cnth_sh p h1, cnth_sh p h2]
        cases x <;> cases y <;> (cases e; rfl)
theorem len_at {k : Nat} : ∀ {c : Cmp}, (items (h0 ++ h) (.ref (h0.length + k))) = (items h (.ref k)) := by
  intro _
  simp only [items, gt]
theorem clen_sh (c : Cmp) : (shC h0.length c).len (h0 ++ h) = c.len h := by
  cases c with
  | tv vs => exact shL_len vs
  | lv vs => exact shL_len vs
  | at_ k =>
    simp only [shC, Cmp.len]
    rw [len_at (c := .tv [])]
theorem slen_sh (c : Src) : (shS h0.length c).len (h0 ++ h) = c.len h := by
  cases c with
  | one c => exact clen_sh c
  | rg vs => exact shL_len vs
  | enu c => exact clen_sh c
  | zip c d =>
    simp only [shS, Src.len]
    rw [clen_sh, clen_sh]
theorem cmpOf_sh (p : HP h) {v : MV} {c : Cmp} (e : cmpOf v h = some c) : cmpOf (sh h0.length v) (h0 ++ h) = some (shC h0.length c) := by
  cases v with
  | tup xs => cases e; rfl
  | lst xs => cases e; rfl
  | fz xs => cases e; rfl
  | scr ns =>
    cases e
    show some (Cmp.lv (ns.map .int)) = some (.lv (shL _ _))
    rw [shL_pure]
    induction ns with
    | nil => rfl
    | cons x r ih => rw [List.map_cons]; simp only [pureL, MV.pure, ih]; rfl
  | ref k =>
    simp only [cmpOf] at e
    simp only [sh, cmpOf]
    rw [len_at (c := .tv [])]
    split at e
    · rename_i xs hx
      cases e
      rfl
    · cases e
  | _ => cases e
theorem isL_sh {n : Nat} (c : Cmp) : (shC n c).isL = c.isL := by cases c <;> rfl
end
end Mi

/-! MiU: what is computed with a heap of one's own is computed behind any other heap: the texts. -/
namespace Mi
open PySem
section
variable {h0 : Hm}
/-- defs that stand for one another -/
def TrF (h0 : Hm) (F F' : Calls) : Prop := ∀ f vs h, HP h → Tr (sh h0.length) h0 (F f vs h) (F' f (shL h0.length vs) (h0 ++ h))
/-- statements' ends -/
def shSR (h0 : Hm) (σ' : Loc) : SRes → SRes
  | .nx _ h => .nx σ' (h0 ++ h)
  | .rt v h => .rt (sh h0.length v) (h0 ++ h)
  | .bk _ h => .bk σ' (h0 ++ h)
  | .ct _ h => .ct σ' (h0 ++ h)
  | .ex e _ h => .ex (shX h0.length e) σ' (h0 ++ h)
def SRes.hm : SRes → Hm
  | .nx _ h => h
  | .rt _ h => h
  | .bk _ h => h
  | .ct _ h => h
  | .ex _ _ h => h
def SRes.loc : SRes → Loc
  | .nx σ _ => σ
  | .rt _ _ => []
  | .bk σ _ => σ
  | .ct σ _ => σ
  | .ex _ σ _ => σ
/-- what the first does, the second does behind h0 -/
def TrS (h0 : Hm) (x x' : Option SRes) : Prop := ∀ r, x = some r → ∃ σ', x' = some (shSR h0 σ' r) ∧ HP r.hm ∧ (Sl h0.length r.loc σ' ∨ ∃ v h, r = .rt v h)
/-- stores -/
def TrG (h0 : Hm) (x x' : Option (Loc × Hm)) : Prop := ∀ σ h, x = some (σ, h) → ∃ σ', x' = some (σ', h0 ++ h) ∧ Sl h0.length σ σ' ∧ HP h
theorem TrS.none {x' : Option SRes} : TrS h0 none x' := fun r e => nomatch e
theorem TrS.nx {σ σ' : Loc} {h : Hm} (s : Sl h0.length σ σ') (p : HP h) : TrS h0 (some (.nx σ h)) (some (.nx σ' (h0 ++ h))) := fun r e => by
  cases e
  exact ⟨σ', rfl, p, .inl s⟩
theorem TrS.exS {α : Type} {f : α → α} {σ σ' : Loc} {x x' : RO α} {k k' : α → Hm → Option SRes} (s : Sl h0.length σ σ') (t : Tr f h0 x x') (q : ∀ a h, HP h → TrS h0 (k a h) (k' (f a) (h0 ++ h))) : TrS h0 (Mi.exS σ x k) (Mi.exS σ' x' k') := fun r e => by
  cases x with
  | none => cases e
  | some y =>
    obtain ⟨e1, p⟩ := t y rfl
    rw [e1]
    cases y with
    | ok a h => exact q a h p r e
    | ex z h =>
      cases e
      exact ⟨σ', rfl, p, .inl s⟩
theorem TrS.then {x x' : Option SRes} {k k' : Loc → Hm → Option SRes} (t : TrS h0 x x') (q : ∀ σ σ' h, Sl h0.length σ σ' → HP h → TrS h0 (k σ h) (k' σ' (h0 ++ h))) : TrS h0 (Mi.thenS x k) (Mi.thenS x' k') := fun r e => by
  cases x with
  | none => cases e
  | some y =>
    obtain ⟨σ', e1, p, sl⟩ := t y rfl
    rw [e1]
    cases y with
    | nx σ h =>
      have s : Sl h0.length σ σ' := by
        rcases sl with s | ⟨v, h, e⟩
        · exact s
        · cases e
      exact q σ σ' h s p r e
    | rt v h => cases e; exact ⟨σ', rfl, p, sl⟩
    | bk σ h => cases e; exact ⟨σ', rfl, p, sl⟩
    | ct σ h => cases e; exact ⟨σ', rfl, p, sl⟩
    | ex z σ h => cases e; exact ⟨σ', rfl, p, sl⟩
theorem Tr.id {α : Type} {a : α} {h : Hm} (p : HP h) : Tr (fun x : α => x) h0 (some (.ok a h)) (some (.ok a (h0 ++ h))) := fun r e => by
  cases e
  exact ⟨rfl, p⟩
theorem iterC_tr {s : Src} {g g' : MV → Hm → Option (Loc × Hm)} {c c' : Loc → Hm → RO Bool} {e e' : Loc → Hm → RO MV} (hg : ∀ v h, HP h → TrG h0 (g v h) (g' (sh h0.length v) (h0 ++ h))) (hc : ∀ σ σ' h, Sl h0.length σ σ' → HP h → Tr (fun b => b) h0 (c σ h) (c' σ' (h0 ++ h)))
    (he : ∀ σ σ' h, Sl h0.length σ σ' → HP h → Tr (sh h0.length) h0 (e σ h) (e' σ' (h0 ++ h))) : ∀ (m i : Nat) (acc : List MV) (h : Hm), HP h → Tr (shL h0.length) h0 (iterC s g c e m i acc h) (iterC (shS h0.length s) g' c' e' m i (shL h0.length acc) (h0 ++ h))
  | 0, i, acc, h, p => fun r e => by simp only [iterC] at e; cases e
  | m + 1, i, acc, h, p => by
    simp only [iterC]
    cases hn : s.nth i h with
    | none => exact Tr.none
    | some o =>
      rw [snth_sh p hn]
      cases o with
      | none => exact Tr.ok p
      | some v =>
        simp only [Option.map_some]
        cases hgv : g v h with
        | none => exact Tr.none
        | some q =>
          obtain ⟨σ1, h1⟩ := q
          obtain ⟨σ', e1, sl, p1⟩ := hg v h p σ1 h1 hgv
          rw [e1]
          simp only
          refine Tr.bnd (hc σ1 σ' h1 sl p1).noX fun k h2 p2 => ?_
          cases k with
          | true =>
            refine Tr.bnd (he σ1 σ' h2 sl p2).noX fun y h3 p3 => ?_
            rw [shL_len, frz_sh, sh_nol]
            by_cases hz : acc.length < sizeMax ∧ (frz y).nol = true
            · simp only [if_pos hz]
              have := iterC_tr (s := s) hg hc he m (i + 1) (acc ++ [frz y]) h3 p3
              rw [shL_app] at this
              exact this
            · simp only [if_neg hz]
              exact Tr.none
          | false => exact iterC_tr hg hc he m (i + 1) acc h2 p2
theorem iterW_tr {c c' : Loc → Hm → RO Bool} {b b' : Loc → Hm → Option SRes} (hc : ∀ σ σ' h, Sl h0.length σ σ' → HP h → Tr (fun b => b) h0 (c σ h) (c' σ' (h0 ++ h))) (hb : ∀ σ σ' h, Sl h0.length σ σ' → HP h → TrS h0 (b σ h) (b' σ' (h0 ++ h))) :
    ∀ (m : Nat) (σ σ' : Loc) (h : Hm), Sl h0.length σ σ' → HP h → TrS h0 (iterW c b m σ h) (iterW c' b' m σ' (h0 ++ h))
  | 0, σ, σ', h, s, p => fun r e => by simp only [iterW] at e; cases e
  | m + 1, σ, σ', h, s, p => by
    simp only [iterW]
    cases hx : c σ h with
    | none => exact TrS.none
    | some q =>
      obtain ⟨e1, p1⟩ := hc σ σ' h s p q hx
      rw [e1]
      cases q with
      | ex z h1 => exact fun r e => by cases e; exact ⟨σ', rfl, p1, .inl s⟩
      | ok k h1 =>
        cases k with
        | false => exact TrS.nx s p1
        | true =>
          simp only [shR]
          cases hy : b σ h1 with
          | none => exact TrS.none
          | some y =>
            obtain ⟨σ2', e2, p2, sl⟩ := hb σ σ' h1 s p1 y hy
            rw [e2]
            cases y with
            | nx σ2 h2 =>
              have s2 : Sl h0.length σ2 σ2' := by rcases sl with s | ⟨v, h, e⟩; exact s; cases e
              exact iterW_tr hc hb m σ2 σ2' h2 s2 p2
            | ct σ2 h2 =>
              have s2 : Sl h0.length σ2 σ2' := by rcases sl with s | ⟨v, h, e⟩; exact s; cases e
              exact iterW_tr hc hb m σ2 σ2' h2 s2 p2
            | bk σ2 h2 =>
              have s2 : Sl h0.length σ2 σ2' := by rcases sl with s | ⟨v, h, e⟩; exact s; cases e
              exact TrS.nx s2 p2
            | rt v h2 => exact fun r e => by cases e; exact ⟨σ2', rfl, p2, sl⟩
            | ex z σ2 h2 => exact fun r e => by cases e; exact ⟨σ2', rfl, p2, sl⟩
theorem iterF_tr {s : Src} {g g' : MV → Loc → Hm → Option (Loc × Hm)} {b b' : Loc → Hm → Option SRes} (hg : ∀ v σ σ' h, Sl h0.length σ σ' → HP h → TrG h0 (g v σ h) (g' (sh h0.length v) σ' (h0 ++ h))) (hb : ∀ σ σ' h, Sl h0.length σ σ' → HP h → TrS h0 (b σ h) (b' σ' (h0 ++ h))) :
    ∀ (m i : Nat) (σ σ' : Loc) (h : Hm), Sl h0.length σ σ' → HP h → TrS h0 (iterF s g b m i σ h) (iterF (shS h0.length s) g' b' m i σ' (h0 ++ h))
  | 0, i, σ, σ', h, sl, p => fun r e => by simp only [iterF] at e; cases e
  | m + 1, i, σ, σ', h, sl, p => by
    simp only [iterF]
    cases hn : s.nth i h with
    | none => exact TrS.none
    | some o =>
      rw [snth_sh p hn]
      cases o with
      | none => exact TrS.nx sl p
      | some v =>
        simp only [Option.map_some]
        cases hgv : g v σ h with
        | none => exact TrS.none
        | some q =>
          obtain ⟨σ1, h1⟩ := q
          obtain ⟨σ1', e1, s1, p1⟩ := hg v σ σ' h sl p σ1 h1 hgv
          rw [e1]
          simp only
          cases hy : b σ1 h1 with
          | none => exact TrS.none
          | some y =>
            obtain ⟨σ2', e2, p2, sl2⟩ := hb σ1 σ1' h1 s1 p1 y hy
            rw [e2]
            cases y with
            | nx σ2 h2 =>
              have s2 : Sl h0.length σ2 σ2' := by rcases sl2 with s | ⟨v, h, e⟩; exact s; cases e
              exact iterF_tr hg hb m (i + 1) σ2 σ2' h2 s2 p2
            | ct σ2 h2 =>
              have s2 : Sl h0.length σ2 σ2' := by rcases sl2 with s | ⟨v, h, e⟩; exact s; cases e
              exact iterF_tr hg hb m (i + 1) σ2 σ2' h2 s2 p2
            | bk σ2 h2 =>
              have s2 : Sl h0.length σ2 σ2' := by rcases sl2 with s | ⟨v, h, e⟩; exact s; cases e
              exact TrS.nx s2 p2
            | rt v h2 => exact fun r e => by cases e; exact ⟨σ2', rfl, p2, sl2⟩
            | ex z σ2 h2 => exact fun r e => by cases e; exact ⟨σ2', rfl, p2, sl2⟩
variable {F F' : Calls}
/-- a result by the operation's own rule -/
theorem Tr.opt {α : Type} {f : α → α} {h : Hm} {o o' : Option α} (p : HP h) (q : ∀ z, o = some z → o' = some (f z)) : Tr f h0 (Mi.lift o h) (Mi.lift o' (h0 ++ h)) := Tr.lift p q
theorem consts {n : Nat} {v : MV} (h : v.pure = true) : sh n v = v := sh_pure h
theorem mkV_sh {n c : Nat} {vs : List MV} {z : MV} (e : mkV c vs = some z) : mkV c (shL n vs) = some (sh n z) := by
  unfold mkV at e
  split at e
  · rename_i w l s m k
    split at e
    · rename_i hp
      cases e
      have hp' := hp
      simp only [pureL, Bool.and_eq_true] at hp'
      obtain ⟨p1, p2, p3, p4, p5, _⟩ := hp'
      simp only [sh, shL, sh_pure p1, sh_pure p2, sh_pure p3, sh_pure p4, sh_pure p5]
      exact if_pos hp
    · cases e
  · cases e
theorem isfV_sh {h0 h : Hm} {c : Nat} {v : MV} {b : Bool} (e : isfV c v h = some b) : isfV c (sh h0.length v) (h0 ++ h) = some b := by
  unfold isfV at e ⊢
  cases v with
  | non => exact e
  | obj c' xs => exact e
  | _ =>
    obtain ⟨t, h1, rfl⟩ := Option.map_eq_some_iff.mp e
    have := tyOf_sh (h0 := h0) h1
    simp only [sh] at this ⊢
    rw [this]
    rfl
theorem fldV_sh {n i c : Nat} {x z : MV} (e : fldV i c x = some z) : fldV i c (sh n x) = some (sh n z) := by
  cases x <;> first | (simp only [fldV] at e; cases e; done) | skip
  rename_i c' xs
  simp only [fldV] at e
  simp only [sh, fldV, shL_get]
  split at e
  · rename_i hc
    rw [if_pos hc]
    cases h : xs[i]? with
    | none => rw [h] at e; cases e
    | some y =>
      rw [h] at e
      exact unl_sh e
  · cases e
mutual
/-- constants without references -/
def ME.cl : ME → Bool
  | .cst v => v.pure
  | .bin _ a b => a.cl && b.cl
  | .neg a => a.cl
  | .not a => a.cl
  | .and a b => a.cl && b.cl
  | .or a b => a.cl && b.cl
  | .ite a b c => a.cl && b.cl && c.cl
  | .cmp _ a b => a.cl && b.cl
  | .chn _ _ a b c => a.cl && b.cl && c.cl
  | .chn3 _ _ _ a b c d => a.cl && b.cl && c.cl && d.cl
  | .tup es => clEs es
  | .lst es => clEs es
  | .ix a b => a.cl && b.cl
  | .sl a lo hi => a.cl && clO lo && clO hi
  | .rev a => a.cl
  | .call _ es => clEs es
  | .bi _ es => clEs es
  | .isi a _ => a.cl
  | .meth _ o es => o.cl && clEs es
  | .lc _ tg it c elt => tg.cl && it.cl && clO c && elt.cl
  | .slst a b => a.cl && b.cl
  | .callv _ es => clEs es
  | .met _ _ e => e.cl
  | .lrg a b => clO a && b.cl
  | .var _ => true
  | .edc => true
  | .lam => true
  | .mk _ es => clEs es
  | .fld e _ _ => e.cl
  | .isf e _ => e.cl
def clEs : List ME → Bool
  | [] => true
  | e :: es => e.cl && clEs es
def clO : Option ME → Bool
  | none => true
  | some e => e.cl
def MT.cl : MT → Bool
  | .var _ => true
  | .tup ts => clTs ts
  | .sub a i => a.cl && i.cl
def clTs : List MT → Bool
  | [] => true
  | t :: ts => t.cl && clTs ts
def MI.cl : MI → Bool
  | .ex a => a.cl
  | .r1 a => a.cl
  | .r2 a b => a.cl && b.cl
  | .r3 a b c => a.cl && b.cl && c.cl
  | .enu a => a.cl
  | .zip a b => a.cl && b.cl
end
theorem rng_sh {n : Nat} (lo : Int) (m : Nat) : shL n (rng lo m) = rng lo m := shL_pure (pureL_mems.mpr fun x hx => by
  unfold rng at hx
  obtain ⟨i, _, rfl⟩ := List.mem_map.mp hx
  rfl)
theorem rngC_sh {n : Nat} (lo c : Int) (m : Nat) : shL n (rngC lo c m) = rngC lo c m := shL_pure (pureL_mems.mpr fun x hx => by
  unfold rngC at hx
  obtain ⟨i, _, rfl⟩ := List.mem_map.mp hx
  rfl)
mutual
theorem trE (hF : TrF h0 F F') : ∀ {m : ME} {σ σ' : Loc} {h : Hm}, m.cl = true → Sl h0.length σ σ' → HP h → Tr (sh h0.length) h0 (evalE F m σ h) (evalE F' m σ' (h0 ++ h))
  | .var i, σ, σ', h, hc, s, p => by
    simp only [evalE]
    cases e : σ[i]? with
    | none => exact Tr.none
    | some o =>
      cases o with
      | none => exact Tr.none
      | some v =>
        rw [s.get i v e]
        exact Tr.ok p
  | .cst v, σ, σ', h, hc, s, p => by
    simp only [evalE]
    have : sh h0.length v = v := sh_pure (by simpa [ME.cl] using hc)
    exact fun r e => by cases e; exact ⟨by simp only [shR, this], p⟩
  | .bin op a b, σ, σ', h, hc, s, p => by
    simp only [ME.cl, Bool.and_eq_true] at hc
    simp only [evalE]
    exact Tr.bnd (trE hF hc.1 s p) fun x h1 p1 => Tr.bnd (trE hF hc.2 s p1) fun y h2 p2 => Tr.lift p2 fun z e => bop_sh p2 e
  | .neg a, σ, σ', h, hc, s, p => by
    simp only [ME.cl] at hc
    simp only [evalE]
    exact Tr.bnd (trE hF hc s p) fun x h1 p1 => by cases x <;> first | exact Tr.none | exact Tr.ok p1
  | .not a, σ, σ', h, hc, s, p => by
    simp only [ME.cl] at hc
    simp only [evalE]
    refine Tr.bnd (trE hF hc s p) fun x h1 p1 => ?_
    cases e : truth h1 x with
    | none => exact Tr.none
    | some b => rw [truth_sh p1 e]; exact Tr.ok p1
  | .and a b, σ, σ', h, hc, s, p => by
    simp only [ME.cl, Bool.and_eq_true] at hc
    simp only [evalE]
    refine Tr.bnd (trE hF hc.1 s p) fun x h1 p1 => ?_
    cases e : truth h1 x with
    | none => exact Tr.none
    | some k =>
      rw [truth_sh p1 e]
      cases k with
      | true => exact trE hF hc.2 s p1
      | false => exact Tr.ok p1
  | .or a b, σ, σ', h, hc, s, p => by
    simp only [ME.cl, Bool.and_eq_true] at hc
    simp only [evalE]
    refine Tr.bnd (trE hF hc.1 s p) fun x h1 p1 => ?_
    cases e : truth h1 x with
    | none => exact Tr.none
    | some k =>
      rw [truth_sh p1 e]
      cases k with
      | true => exact Tr.ok p1
      | false => exact trE hF hc.2 s p1
  | .ite c a b, σ, σ', h, hc, s, p => by
    simp only [ME.cl, Bool.and_eq_true] at hc
    simp only [evalE]
    refine Tr.bnd (trE hF hc.1.1 s p) fun x h1 p1 => ?_
    cases e : truth h1 x with
    | none => exact Tr.none
    | some k =>
      rw [truth_sh p1 e]
      cases k with
      | true => exact trE hF hc.1.2 s p1
      | false => exact trE hF hc.2 s p1
  | .cmp op a b, σ, σ', h, hc, s, p => by
    simp only [ME.cl, Bool.and_eq_true] at hc
    simp only [evalE]
    refine Tr.bnd (trE hF hc.1 s p) fun x h1 p1 => Tr.bnd (trE hF hc.2 s p1) fun y h2 p2 => Tr.lift p2 fun z e => ?_
    obtain ⟨b, h1, rfl⟩ := Option.map_eq_some_iff.mp e
    rw [cop_sh p2 h1]
    rfl
  | .chn o1 o2 a b c, σ, σ', h, hc, s, p => by
    simp only [ME.cl, Bool.and_eq_true] at hc
    simp only [evalE]
    refine Tr.bnd (trE hF hc.1.1 s p) fun x h1 p1 => Tr.bnd (trE hF hc.1.2 s p1) fun y h2 p2 => ?_
    cases e : cop o1 x y h2 with
    | none => exact Tr.none
    | some k =>
      rw [cop_sh p2 e]
      cases k with
      | false => exact Tr.ok p2
      | true =>
        refine Tr.bnd (trE hF hc.2 s p2) fun z h3 p3 => Tr.lift p3 fun z e => ?_
        obtain ⟨b, h1, rfl⟩ := Option.map_eq_some_iff.mp e
        rw [cop_sh p3 h1]
        rfl
  | .chn3 o1 o2 o3 a b c d, σ, σ', h, hc, s, p => by
    simp only [ME.cl, Bool.and_eq_true] at hc
    simp only [evalE]
    refine Tr.bnd (trE hF hc.1.1.1 s p) fun x h1 p1 => Tr.bnd (trE hF hc.1.1.2 s p1) fun y h2 p2 => ?_
    cases e : cop o1 x y h2 with
    | none => exact Tr.none
    | some k =>
      rw [cop_sh p2 e]
      cases k with
      | false => exact Tr.ok p2
      | true =>
        refine Tr.bnd (trE hF hc.1.2 s p2) fun z h3 p3 => ?_
        cases e2 : cop o2 y z h3 with
        | none => exact Tr.none
        | some k2 =>
          simp only [cop_sh p3 e2]
          cases k2 with
          | false => exact Tr.ok p3
          | true =>
            refine Tr.bnd (trE hF hc.2 s p3) fun z h4 p4 => Tr.lift p4 fun z e => ?_
            obtain ⟨b, h1, rfl⟩ := Option.map_eq_some_iff.mp e
            rw [cop_sh p4 h1]
            rfl
  | .tup es, σ, σ', h, hc, s, p => by
    simp only [ME.cl] at hc
    simp only [evalE]
    refine Tr.bnd (trEs hF hc s p) fun vs h1 p1 => ?_
    rw [frzs_sh]
    exact Tr.ok (a := MV.tup (vs.map frz)) p1
  | .lst es, σ, σ', h, hc, s, p => by
    simp only [ME.cl] at hc
    simp only [evalE]
    refine Tr.bnd (trEs hF hc s p) fun vs h1 p1 => ?_
    rw [frzs_sh]
    exact Tr.ok (a := MV.lst (vs.map frz)) p1
  | .ix a b, σ, σ', h, hc, s, p => by
    simp only [ME.cl, Bool.and_eq_true] at hc
    simp only [evalE]
    exact Tr.bnd (trE hF hc.1 s p) fun x h1 p1 => Tr.bnd (trE hF hc.2 s p1) fun y h2 p2 => Tr.lift p2 fun z e => ixV_sh p2 e
  | .sl a lo hi, σ, σ', h, hc, s, p => by
    simp only [ME.cl, Bool.and_eq_true] at hc
    simp only [evalE]
    exact Tr.bnd (trE hF hc.1.1 s p) fun x h1 p1 => Tr.bnd (trO hF hc.1.2 s p1) fun y h2 p2 => Tr.bnd (trO hF hc.2 s p2) fun z h3 p3 => Tr.lift p3 fun z e => slV_sh p3 e
  | .rev a, σ, σ', h, hc, s, p => by
    simp only [ME.cl] at hc
    simp only [evalE]
    refine Tr.bnd (trE hF hc s p) fun x h1 p1 => ?_
    cases e : items h1 x with
    | none => exact Tr.none
    | some xs =>
      rw [items_sh p1 e]
      simp only
      rw [shL_map, ← List.map_reverse, ← shL_map]
      exact Tr.ok (a := MV.lst xs.reverse) p1
  | .call f es, σ, σ', h, hc, s, p => by
    simp only [ME.cl] at hc
    simp only [evalE]
    exact Tr.bnd (trEs hF hc s p) fun vs h1 p1 => hF f vs h1 p1
  | .bi b es, σ, σ', h, hc, s, p => by
    simp only [ME.cl] at hc
    simp only [evalE]
    exact Tr.bnd (trEs hF hc s p) fun vs h1 p1 => Tr.lift p1 fun z e => biV_sh p1 e
  | .isi a ts, σ, σ', h, hc, s, p => by
    simp only [ME.cl] at hc
    simp only [evalE]
    refine Tr.bnd (trE hF hc s p) fun x h1 p1 => ?_
    have key : ∀ (ts : List TyN) (bs : List Bool), ts.mapM (isTy h1 x) = some bs → ts.mapM (isTy (h0 ++ h1) (sh h0.length x)) = some bs := fun ts => by
      induction ts with
      | nil => intro bs e; exact e
      | cons t ts ih =>
        intro bs e
        rw [List.mapM_cons] at e ⊢
        cases e1 : isTy h1 x t with
        | none => rw [e1] at e; cases e
        | some b =>
          cases e2 : ts.mapM (isTy h1 x) with
          | none => rw [e1, e2] at e; cases e
          | some bs' =>
            rw [isTy_sh e1, ih bs' e2]
            rw [e1, e2] at e
            exact e
    cases e : ts.mapM (isTy h1 x) with
    | none => exact Tr.none
    | some bs => rw [key ts bs e]; exact Tr.ok p1
  | .meth m o es, σ, σ', h, hc, s, p => by
    simp only [ME.cl, Bool.and_eq_true] at hc
    simp only [evalE]
    refine Tr.bnd (trE hF hc.1 s p) fun x h1 p1 => ?_
    cases e : itemsL h1 x with
    | none => exact Tr.none
    | some xs =>
      rw [itemsL_sh p1 e]
      refine Tr.bnd (trEs hF hc.2 s p1) fun vs h2 p2 => ?_
      cases e2 : methV m x vs h2 with
      | none => exact Tr.none
      | some q =>
        obtain ⟨v, h3⟩ := q
        obtain ⟨g1, p3⟩ := methV_sh (h0 := h0) p2 e2
        simp only [g1]
        exact Tr.ok p3
  | .lc own tg it c elt, σ, σ', h, hc, s, p => by
    simp only [ME.cl, Bool.and_eq_true] at hc
    simp only [evalE]
    refine Tr.bnd (trI hF hc.1.1.2 s p) fun src h1 p1 => ?_
    rw [slen_sh]
    have := iterC_tr (h0 := h0) (s := src) (g := fun v h => evalT F tg v (wipeL σ own) h) (g' := fun v h => evalT F' tg v (wipeL σ' own) h) (c := fun σ h => evalC F c σ h) (c' := fun σ h => evalC F' c σ h) (e := fun σ h => evalE F elt σ h) (e' := fun σ h => evalE F' elt σ h)
      (fun v h p => trT hF hc.1.1.1 (s.wipe own) p) (fun σ σ' h s p => trC hF hc.1.2 s p) (fun σ σ' h s p => trE hF hc.2 s p) (src.len h1 + 1) 0 [] h1 p1
    exact Tr.bnd this fun acc h2 p2 => Tr.ok (a := MV.lst acc) p2
  | .edc, σ, σ', h, hc, s, p => by
    simp only [evalE]
    exact Tr.ok p
  | .lam, σ, σ', h, hc, s, p => by
    simp only [evalE]
    exact Tr.ok (a := MV.any) p
  | .mk c es, σ, σ', h, hc, s, p => by
    simp only [ME.cl] at hc
    simp only [evalE]
    exact Tr.bnd (trEs hF hc s p) fun vs h1 p1 => Tr.lift p1 fun z e => mkV_sh e
  | .isf e c, σ, σ', h, hc, s, p => by
    simp only [ME.cl] at hc
    simp only [evalE]
    refine Tr.bnd (trE hF hc s p) fun x h1 p1 => Tr.lift p1 fun z e => ?_
    obtain ⟨b, h2, rfl⟩ := Option.map_eq_some_iff.mp e
    rw [isfV_sh h2]
    rfl
  | .fld e i c, σ, σ', h, hc, s, p => by
    simp only [ME.cl] at hc
    simp only [evalE]
    exact Tr.bnd (trE hF hc s p) fun x h1 p1 => Tr.lift p1 fun z e => fldV_sh e
  | .slst a b, σ, σ', h, hc, s, p => by
    simp only [ME.cl, Bool.and_eq_true] at hc
    simp only [evalE]
    refine Tr.bnd (trE hF hc.1 s p) fun x h1 p1 => Tr.bnd (trE hF hc.2 s p1) fun y h2 p2 => ?_
    cases x <;> first | exact Tr.none | skip
    cases y <;> first | exact Tr.none | skip
    rename_i xs k
    simp only [sh, shL_len]
    by_cases hz : 1 ≤ k ∧ k < 1073741824 ∧ xs.length ≤ sizeMax
    · simp only [if_pos hz, stepOf_sh]
      exact Tr.ok (a := MV.tup (stepOf xs k.toNat)) p2
    · simp only [if_neg hz]
      exact Tr.none
  | .lrg a b, σ, σ', h, hc, s, p => by
    simp only [ME.cl, Bool.and_eq_true] at hc
    simp only [evalE]
    refine Tr.bnd (trO hF hc.1 s p) fun o h1 p1 => Tr.bnd (trE hF hc.2 s p1) fun y h2 p2 => ?_
    cases y <;> first | exact Tr.none | skip
    rename_i j
    simp only [sh]
    split
    · have e : ∀ (lo : Int) (m : Nat), sh h0.length (.lst (rng lo m)) = .lst (rng lo m) := fun lo m => by
        rw [sh, shL_pure]
        unfold rng
        exact pureL_mems.mpr fun x hx => by
          obtain ⟨i, _, rfl⟩ := List.mem_map.mp hx
          rfl
      exact fun r e' => by cases e'; exact ⟨by simp only [shR, e], p2⟩
    · exact Tr.none
  | .callv i es, σ, σ', h, hc, s, p => by
    simp only [ME.cl] at hc
    simp only [evalE]
    cases e : σ[i]? with
    | none => exact Tr.none
    | some o =>
      cases o with
      | none => exact Tr.none
      | some v =>
        have e' := s.get i v e
        cases v <;> first | exact Tr.none | skip
        rw [e']
        simp only [sh]
        exact Tr.bnd (trEs hF hc s p) fun vs h1 p1 => hF _ vs h1 p1
  | .met hs nt e, σ, σ', h, hc, s, p => by
    simp only [ME.cl] at hc
    simp only [evalE]
    cases hx : evalE F e σ h with
    | none => exact Tr.none
    | some q =>
      obtain ⟨e1, p1⟩ := trE hF hc s p q hx
      rw [e1]
      cases q with
      | ok v h1 => exact Tr.ok p1
      | ex x h1 =>
        simp only [shR]
        refine Tr.lift p1 fun z ez => ?_
        unfold metV at ez ⊢
        simp only [shX]
        split at ez
        · rename_i y hy
          split at ez
          · rename_i ha
            cases ez
            rw [ha]
            rfl
          · rename_i v ha hv
            rw [ha, hv]
            simp only [Option.map_some]
            split at ez
            · rename_i t ht
              rw [reprV_sh ht]
              exact bop_sh p1 ez
            · cases ez
          · cases ez
        · cases ez
theorem trEs (hF : TrF h0 F F') : ∀ {m : List ME} {σ σ' : Loc} {h : Hm}, clEs m = true → Sl h0.length σ σ' → HP h → Tr (shL h0.length) h0 (evalEs F m σ h) (evalEs F' m σ' (h0 ++ h))
  | [], σ, σ', h, hc, s, p => by
    simp only [evalEs]
    exact Tr.ok p
  | e :: es, σ, σ', h, hc, s, p => by
    simp only [clEs, Bool.and_eq_true] at hc
    simp only [evalEs]
    exact Tr.bnd (trE hF hc.1 s p) fun v h1 p1 => Tr.bnd (trEs hF hc.2 s p1) fun vs h2 p2 => Tr.ok (a := v :: vs) p2
theorem trO (hF : TrF h0 F F') : ∀ {m : Option ME} {σ σ' : Loc} {h : Hm}, clO m = true → Sl h0.length σ σ' → HP h → Tr (fun o : Option Int => o) h0 (evalO F m σ h) (evalO F' m σ' (h0 ++ h))
  | none, σ, σ', h, hc, s, p => by
    simp only [evalO]
    exact Tr.id p
  | some e, σ, σ', h, hc, s, p => by
    simp only [clO] at hc
    simp only [evalO]
    exact Tr.bnd (trE hF hc s p) fun x h1 p1 => by cases x <;> first | exact Tr.none | exact Tr.id p1
theorem trC (hF : TrF h0 F F') : ∀ {m : Option ME} {σ σ' : Loc} {h : Hm}, clO m = true → Sl h0.length σ σ' → HP h → Tr (fun o : Bool => o) h0 (evalC F m σ h) (evalC F' m σ' (h0 ++ h))
  | none, σ, σ', h, hc, s, p => by
    simp only [evalC]
    exact Tr.id p
  | some e, σ, σ', h, hc, s, p => by
    simp only [clO] at hc
    simp only [evalC]
    exact Tr.bnd (trE hF hc s p) fun x h1 p1 => Tr.lift p1 fun z e => truth_sh p1 e
theorem trT (hF : TrF h0 F F') : ∀ {m : MT} {v : MV} {σ σ' : Loc} {h : Hm}, m.cl = true → Sl h0.length σ σ' → HP h → TrG h0 (evalT F m v σ h) (evalT F' m (sh h0.length v) σ' (h0 ++ h))
  | .var i, v, σ, σ', h, hc, s, p => fun σ1 h1 e => by
    simp only [evalT] at e ⊢
    split at e
    · rename_i w h2 hs
      cases e
      obtain ⟨q1, p1⟩ := sto_sh (h0 := h0) p hs
      rw [q1]
      exact ⟨_, rfl, s.set i w, p1⟩
    · cases e
  | .tup ts, v, σ, σ', h, hc, s, p => fun σ1 h1 e => by
    simp only [MT.cl] at hc
    simp only [evalT] at e ⊢
    split at e
    · rename_i xs hx
      rw [seq_sh p hx]
      split at e
      · rename_i hz
        simp only [shL_len, nls_sh, if_pos hz]
        exact trTs hF hc s p σ1 h1 e
      · cases e
    · cases e
  | .sub a i, v, σ, σ', h, hc, s, p => fun σ1 h1 e => by
    simp only [MT.cl, Bool.and_eq_true] at hc
    simp only [evalT] at e ⊢
    split at e
    · rename_i x h2 hx
      obtain ⟨e1, p1⟩ := trE hF hc.1 s p _ hx
      have p1 : HP h2 := p1
      rw [e1]
      simp only [shR]
      split at e
      · rename_i y h3 hy
        obtain ⟨e2, p2⟩ := trE hF hc.2 s p1 _ hy
        have p2 : HP h3 := p2
        rw [e2]
        simp only [shR]
        split at e
        · rename_i h4 hz
          cases e
          obtain ⟨e3, p3⟩ := setSub_sh (h0 := h0) p2 hz
          rw [frz_sh, e3]
          exact ⟨σ', rfl, s, p3⟩
        · cases e
      · cases e
    · cases e
theorem trTs (hF : TrF h0 F F') : ∀ {m : List MT} {v : List MV} {σ σ' : Loc} {h : Hm}, clTs m = true → Sl h0.length σ σ' → HP h → TrG h0 (evalTs F m v σ h) (evalTs F' m (shL h0.length v) σ' (h0 ++ h))
  | [], v, σ, σ', h, hc, s, p => fun σ1 h1 e => by
    simp only [evalTs] at e ⊢
    cases e
    exact ⟨σ', rfl, s, p⟩
  | t :: ts, [], σ, σ', h, hc, s, p => fun σ1 h1 e => by
    simp only [evalTs] at e
    cases e
  | t :: ts, x :: xs, σ, σ', h, hc, s, p => fun σ1 h1 e => by
    simp only [clTs, Bool.and_eq_true] at hc
    simp only [evalTs, shL] at e ⊢
    split at e
    · rename_i σ2 h2 hx
      obtain ⟨σ2', e1, s1, p1⟩ := trT hF hc.1 s p σ2 h2 hx
      rw [e1]
      exact trTs hF hc.2 s1 p1 σ1 h1 e
    · cases e
theorem trI (hF : TrF h0 F F') : ∀ {m : MI} {σ σ' : Loc} {h : Hm}, m.cl = true → Sl h0.length σ σ' → HP h → Tr (shS h0.length) h0 (evalI F m σ h) (evalI F' m σ' (h0 ++ h))
  | .ex a, σ, σ', h, hc, s, p => by
    simp only [MI.cl] at hc
    simp only [evalI]
    refine Tr.bnd (trE hF hc s p) fun x h1 p1 => Tr.lift p1 fun z e => ?_
    obtain ⟨c, h1, rfl⟩ := Option.map_eq_some_iff.mp e
    rw [cmpOf_sh p1 h1]
    rfl
  | .enu a, σ, σ', h, hc, s, p => by
    simp only [MI.cl] at hc
    simp only [evalI]
    refine Tr.bnd (trE hF hc s p) fun x h1 p1 => Tr.lift p1 fun z e => ?_
    obtain ⟨c, h1, rfl⟩ := Option.map_eq_some_iff.mp e
    rw [cmpOf_sh p1 h1]
    rfl
  | .r1 a, σ, σ', h, hc, s, p => by
    simp only [MI.cl] at hc
    simp only [evalI]
    refine Tr.bnd (trE hF hc s p) fun x h1 p1 => ?_
    cases x <;> first | exact Tr.none | skip
    simp only [sh]
    split
    · exact fun r e' => by cases e'; exact ⟨by simp only [shR, shS, rng_sh], p1⟩
    · exact Tr.none
  | .r2 a b, σ, σ', h, hc, s, p => by
    simp only [MI.cl, Bool.and_eq_true] at hc
    simp only [evalI]
    refine Tr.bnd (trE hF hc.1 s p) fun x h1 p1 => Tr.bnd (trE hF hc.2 s p1) fun y h2 p2 => ?_
    cases x <;> first | exact Tr.none | skip
    cases y <;> first | exact Tr.none | skip
    simp only [sh]
    split
    · exact fun r e' => by cases e'; exact ⟨by simp only [shR, shS, rng_sh], p2⟩
    · exact Tr.none
  | .r3 a b c, σ, σ', h, hc, s, p => by
    simp only [MI.cl, Bool.and_eq_true] at hc
    simp only [evalI]
    refine Tr.bnd (trE hF hc.1.1 s p) fun x h1 p1 => Tr.bnd (trE hF hc.1.2 s p1) fun y h2 p2 => Tr.bnd (trE hF hc.2 s p2) fun z h3 p3 => ?_
    cases x <;> first | exact Tr.none | skip
    cases y <;> first | exact Tr.none | skip
    cases z <;> first | exact Tr.none | skip
    simp only [sh]
    split
    · exact fun r e' => by cases e'; exact ⟨by simp only [shR, shS, rngC_sh], p3⟩
    · exact Tr.none
  | .zip a b, σ, σ', h, hc, s, p => by
    simp only [MI.cl, Bool.and_eq_true] at hc
    simp only [evalI]
    refine Tr.bnd (trE hF hc.1 s p) fun x h1 p1 => Tr.bnd (trE hF hc.2 s p1) fun y h2 p2 => ?_
    cases e1 : cmpOf x h2 with
    | none => exact Tr.none
    | some c =>
      cases e2 : cmpOf y h2 with
      | none => exact Tr.none
      | some d =>
        rw [cmpOf_sh p2 e1, cmpOf_sh p2 e2]
        simp only [isL_sh]
        split
        · exact Tr.ok (a := Src.zip c d) p2
        · exact Tr.none
end
mutual
def MS.cl : MS → Bool
  | .asg t e => t.cl && e.cl
  | .par _ es => clEs es
  | .aug _ _ e => e.cl
  | .augS a i _ e => a.cl && i.cl && e.cl
  | .expr e => e.cl
  | .ret e => e.cl
  | .ife c a b => c.cl && clB a && clB b
  | .whl c b => c.cl && clB b
  | .forr t it b => t.cl && it.cl && clB b
  | .rse _ e => clO e
  | .retN => true
  | .pass => true
  | .brk => true
  | .cnt => true
  | .nev => true
def clB : List MS → Bool
  | [] => true
  | s :: r => s.cl && clB r
end
theorem stoAll_sh : ∀ {is : List Nat} {vs : List MV} {σ σ' : Loc} {h : Hm}, Sl h0.length σ σ' → HP h → TrG h0 (stoAll is vs σ h) (stoAll is (shL h0.length vs) σ' (h0 ++ h))
  | [], [], σ, σ', h, s, p => fun σ1 h1 e => by
    simp only [stoAll] at e
    cases e
    exact ⟨σ', rfl, s, p⟩
  | [], _ :: _, σ, σ', h, s, p => fun σ1 h1 e => by simp only [stoAll] at e; cases e
  | _ :: _, [], σ, σ', h, s, p => fun σ1 h1 e => by simp only [stoAll] at e; cases e
  | i :: is, v :: vs, σ, σ', h, s, p => fun σ1 h1 e => by
    simp only [stoAll, shL] at e ⊢
    split at e
    · rename_i w h2 hw
      obtain ⟨q1, p1⟩ := sto_sh (h0 := h0) p hw
      rw [q1]
      exact stoAll_sh (s.set i w) p1 σ1 h1 e
    · cases e
mutual
theorem trS (hF : TrF h0 F F') : ∀ {m : MS} {σ σ' : Loc} {h : Hm}, m.cl = true → Sl h0.length σ σ' → HP h → TrS h0 (execS F m σ h) (execS F' m σ' (h0 ++ h))
  | .asg t e, σ, σ', h, hc, s, p => by
    simp only [MS.cl, Bool.and_eq_true] at hc
    simp only [execS]
    refine TrS.exS s (trE hF hc.2 s p) fun v h1 p1 => ?_
    cases hx : evalT F t v σ h1 with
    | none => exact TrS.none
    | some q =>
      obtain ⟨σ1, h2⟩ := q
      obtain ⟨σ1', e1, s1, p2⟩ := trT hF hc.1 s p1 σ1 h2 hx
      rw [e1]
      exact TrS.nx s1 p2
  | .par is es, σ, σ', h, hc, s, p => by
    simp only [MS.cl] at hc
    simp only [execS]
    refine TrS.exS s (trEs hF hc s p) fun vs h1 p1 => ?_
    cases hx : stoAll is vs σ h1 with
    | none => exact TrS.none
    | some q =>
      obtain ⟨σ1, h2⟩ := q
      obtain ⟨σ1', e1, s1, p2⟩ := stoAll_sh s p1 σ1 h2 hx
      rw [e1]
      exact TrS.nx s1 p2
  | .aug i op e, σ, σ', h, hc, s, p => by
    simp only [MS.cl] at hc
    simp only [execS]
    cases e1 : σ[i]? with
    | none => exact TrS.none
    | some o =>
      cases o with
      | none => exact TrS.none
      | some x =>
        rw [s.get i x e1]
        simp only
        refine TrS.exS s (trE hF hc s p) fun y h1 p1 => ?_
        cases e2 : augV op x y h1 with
        | none => exact TrS.none
        | some v =>
          rw [augV_sh p1 e2]
          exact TrS.nx (s.set i v) p1
  | .augS a i op e, σ, σ', h, hc, s, p => by
    simp only [MS.cl, Bool.and_eq_true] at hc
    simp only [execS]
    refine TrS.exS s (trE hF hc.1.1 s p) fun o h1 p1 => TrS.exS s (trE hF hc.1.2 s p1) fun k h2 p2 => ?_
    cases e1 : getSub o k h2 with
    | none => exact TrS.none
    | some x =>
      rw [getSub_sh p2 e1]
      simp only
      refine TrS.exS s (trE hF hc.2 s p2) fun y h3 p3 => ?_
      cases e2 : augV op x y h3 with
      | none => exact TrS.none
      | some v =>
        rw [augV_sh p3 e2]
        simp only
        cases e3 : setSub o k v h3 with
        | none => exact TrS.none
        | some h4 =>
          obtain ⟨q, p4⟩ := setSub_sh (h0 := h0) p3 e3
          rw [q]
          exact TrS.nx s p4
  | .expr e, σ, σ', h, hc, s, p => by
    simp only [MS.cl] at hc
    simp only [execS]
    exact TrS.exS s (trE hF hc s p) fun v h1 p1 => TrS.nx s p1
  | .ret e, σ, σ', h, hc, s, p => by
    simp only [MS.cl] at hc
    simp only [execS]
    exact TrS.exS s (trE hF hc s p) fun v h1 p1 => fun r e => by cases e; exact ⟨[], rfl, p1, .inr ⟨v, h1, rfl⟩⟩
  | .retN, σ, σ', h, hc, s, p => by
    simp only [execS]
    exact fun r e => by cases e; exact ⟨[], rfl, p, .inr ⟨_, _, rfl⟩⟩
  | .ife c a b, σ, σ', h, hc, s, p => by
    simp only [MS.cl, Bool.and_eq_true] at hc
    simp only [execS]
    refine TrS.exS s (trE hF hc.1.1 s p) fun x h1 p1 => ?_
    cases e : truth h1 x with
    | none => exact TrS.none
    | some k =>
      rw [truth_sh p1 e]
      cases k with
      | true => exact trB hF hc.1.2 s p1
      | false => exact trB hF hc.2 s p1
  | .whl c b, σ, σ', h, hc, s, p => by
    simp only [MS.cl, Bool.and_eq_true] at hc
    simp only [execS]
    exact iterW_tr (fun σ σ' h s p => trC (m := some c) hF hc.1 s p) (fun σ σ' h s p => trB hF hc.2 s p) _ σ σ' h s p
  | .forr t it b, σ, σ', h, hc, s, p => by
    simp only [MS.cl, Bool.and_eq_true] at hc
    simp only [execS]
    refine TrS.exS s (trI hF hc.1.2 s p) fun src h1 p1 => ?_
    rw [slen_sh]
    exact iterF_tr (fun v σ σ' h s p => trT hF hc.1.1 s p) (fun σ σ' h s p => trB hF hc.2 s p) _ 0 σ σ' h1 s p1
  | .pass, σ, σ', h, hc, s, p => by simp only [execS]; exact TrS.nx s p
  | .brk, σ, σ', h, hc, s, p => by
    simp only [execS]
    exact fun r e => by cases e; exact ⟨σ', rfl, p, .inl s⟩
  | .cnt, σ, σ', h, hc, s, p => by
    simp only [execS]
    exact fun r e => by cases e; exact ⟨σ', rfl, p, .inl s⟩
  | .nev, σ, σ', h, hc, s, p => by simp only [execS]; exact TrS.none
  | .rse c none, σ, σ', h, hc, s, p => by
    simp only [execS]
    exact fun r e => by cases e; exact ⟨σ', rfl, p, .inl s⟩
  | .rse c (some a), σ, σ', h, hc, s, p => by
    simp only [MS.cl, clO] at hc
    simp only [execS]
    exact TrS.exS s (trE hF hc s p) fun v h1 p1 => fun r e => by cases e; exact ⟨σ', by rw [frz_sh]; rfl, p1, .inl s⟩
theorem trB (hF : TrF h0 F F') : ∀ {m : List MS} {σ σ' : Loc} {h : Hm}, clB m = true → Sl h0.length σ σ' → HP h → TrS h0 (execB F m σ h) (execB F' m σ' (h0 ++ h))
  | [], σ, σ', h, hc, s, p => by simp only [execB]; exact TrS.nx s p
  | m :: r, σ, σ', h, hc, s, p => by
    simp only [clB, Bool.and_eq_true] at hc
    simp only [execB]
    exact TrS.then (trS hF hc.1 s p) fun σ1 σ1' h1 s1 p1 => trB hF hc.2 s1 p1
end
theorem handBack_sh {h : Hm} (p : HP h) {m : Nat} {v : MV} : Tr (sh h0.length) h0 (handBack m v h) (handBack (h0.length + m) (sh h0.length v) (h0 ++ h)) := fun r e => by
  have gen : ∀ {v : MV}, (match froz m h v with
    | some w => some (Res.ok w (h.take m))
    | none => none) = some r → (match froz (h0.length + m) (h0 ++ h) (sh h0.length v) with
    | some w => some (Res.ok w ((h0 ++ h).take (h0.length + m)))
    | none => none) = some (shR (sh h0.length) h0 r) ∧ HP r.hm := fun {v} e => by
    split at e
    · rename_i w hw
      cases e
      rw [froz_sh p hw, app_take]
      exact ⟨rfl, p.take m⟩
    · cases e
  cases v with
  | ref k =>
    simp only [handBack] at e
    simp only [sh, handBack, gt, app_take]
    split at e
    · rename_i hk
      cases e
      rw [if_pos (by omega)]
      exact ⟨rfl, p.take m⟩
    · rename_i hk
      rw [if_neg (by omega)]
      split at e
      · rename_i xs hx
        cases e
        refine ⟨?_, p.take m⟩
        simp only [shR, sh, shL_pure (p k xs hx)]
      · cases e
  | non => exact gen (v := .non) e
  | bl b => exact gen (v := .bl b) e
  | int b => exact gen (v := .int b) e
  | str b => exact gen (v := .str b) e
  | tup b => exact gen (v := .tup b) e
  | lst b => exact gen (v := .lst b) e
  | fz b => exact gen (v := .fz b) e
  | scr b => exact gen (v := .scr b) e
  | fn b => exact gen (v := .fn b) e
  | edc => exact gen (v := .edc) e
  | any => exact gen (v := .any) e
  | obj c xs => exact gen (v := .obj c xs) e
theorem runFn_tr (hF : TrF h0 F F') {d : FnD} (hc : clB d.body = true) {vs : List MV} {h : Hm} (p : HP h) : Tr (sh h0.length) h0 (runFn F d vs h) (runFn F' d (shL h0.length vs) (h0 ++ h)) := fun r e => by
  unfold runFn at e ⊢
  rw [shL_len]
  split at e
  · rename_i hz
    rw [if_pos hz]
    split at e
    · rename_i ws h1 hs
      obtain ⟨q, p1⟩ := stoL_sh (h0 := h0) p hs
      rw [q]
      simp only
      have s : Sl h0.length (ws.map some ++ List.replicate (d.ns - d.np) none) ((shL h0.length ws).map some ++ List.replicate (d.ns - d.np) none) := by
        refine ⟨by simp [shL_len], fun i v e => ?_⟩
        by_cases hi : i < ws.length
        · rw [List.getElem?_append_left (by simpa using hi), List.getElem?_map] at e
          rw [List.getElem?_append_left (by simpa [shL_len] using hi), List.getElem?_map, shL_get]
          cases hw : ws[i]? with
          | none => rw [hw] at e; cases e
          | some x => rw [hw] at e; cases e; rfl
        · rw [List.getElem?_append_right (by simpa using hi), List.getElem?_replicate] at e
          split at e <;> cases e
      cases hx : execB F d.body (ws.map some ++ List.replicate (d.ns - d.np) none) h1 with
      | none => rw [hx] at e; cases e
      | some y =>
        rw [hx] at e
        obtain ⟨σ', e1, p2, _⟩ := trB hF hc s p1 y hx
        rw [e1]
        cases y with
        | bk σ h2 => cases e
        | ct σ h2 => cases e
        | nx σ h2 =>
          cases e
          have p2 : HP h2 := p2
          refine ⟨?_, p2.take _⟩
          simp only [shSR, endFn, shR, sh, List.length_append, app_take]
        | rt v h2 =>
          have p2 : HP h2 := p2
          have := handBack_sh (h0 := h0) p2 (m := h.length) (v := v) r e
          simp only [shSR, endFn, List.length_append]
          exact this
        | ex z σ h2 =>
          have p2 : HP h2 := p2
          simp only [endFn] at e
          simp only [shSR, endFn, shX, List.length_append]
          cases ha : z.arg with
          | none =>
            rw [ha] at e
            cases e
            refine ⟨?_, p2.take _⟩
            simp only [Option.map_none, shR, shX, ha, app_take]
          | some v =>
            rw [ha] at e
            simp only at e
            split at e
            · rename_i w hw
              cases e
              refine ⟨?_, p2.take _⟩
              simp only [Option.map_some, froz_sh p2 hw, shR, shX, app_take]
            · cases e
    · cases e
  · cases e
theorem calls_tr {P : List FnD} (hP : (P.all fun d => clB d.body) = true) : ∀ k, TrF h0 (calls P k) (calls P k)
  | 0 => fun f vs h p => by simp only [calls]; exact Tr.none
  | k + 1 => fun f vs h p => by
    simp only [calls]
    cases e : P[f]? with
    | none => exact Tr.none
    | some d => exact runFn_tr (calls_tr hP k) (List.all_eq_true.mp hP d (List.mem_of_getElem? e)) p
end
/-- a run from the empty heap, behind any heap -/
theorem lift_call {P : List FnD} (hP : (P.all fun d => clB d.body) = true) {k f : Nat} {vs : List MV} {v : MV} (hv : pureL vs = true) (hr : v.nol = true ∨ ∃ xs, v = .lst xs ∧ pureL xs = true) (hp : v.pure = true ∨ ∃ xs, v = .lst xs ∧ pureL xs = true) (e : calls P k f vs [] = some (.ok v [])) (h : Hm) : calls P k f vs h = some (.ok v h) := by
  obtain ⟨q, _⟩ := calls_tr (h0 := h) hP k f vs [] HP.nil _ e
  rw [shL_pure hv] at q
  simp only [List.append_nil, shR] at q
  rw [q]
  rcases hp with hp | ⟨xs, rfl, hp⟩
  · rw [sh_pure hp]
  · rw [sh, shL_pure hp]
/-- an exception from the empty heap, behind any heap -/
theorem lift_exc {P : List FnD} (hP : (P.all fun d => clB d.body) = true) {k f : Nat} {vs : List MV} {x : MEx} (hv : pureL vs = true) (hx : ∀ v, x.arg = some v → v.pure = true) (e : calls P k f vs [] = some (.ex x [])) (h : Hm) : calls P k f vs h = some (.ex x h) := by
  obtain ⟨q, _⟩ := calls_tr (h0 := h) hP k f vs [] HP.nil _ e
  rw [shL_pure hv] at q
  simp only [List.append_nil, shR] at q
  rw [q]
  obtain ⟨c, a⟩ := x
  cases a with
  | none => rfl
  | some v =>
    simp only [shX, Option.map_some]
    rw [sh_pure (hx v rfl)]
end Mi

/-! MiV: defs of laws that draw from finite lists, tried at all that they may draw. -/
namespace Mi
open PySem
/-! ### which slots a text writes -/
mutual
def MT.wr : MT → List Nat
  | .var i => [i]
  | .tup ts => wrTs ts
  | .sub _ _ => []
def wrTs : List MT → List Nat
  | [] => []
  | t :: ts => t.wr ++ wrTs ts
end
mutual
def MS.wr : MS → List Nat
  | .asg t _ => t.wr
  | .par is _ => is
  | .aug i _ _ => [i]
  | .ife _ a b => wrB a ++ wrB b
  | .whl _ b => wrB b
  | .forr t _ b => t.wr ++ wrB b
  | .augS _ _ _ _ => []
  | .expr _ => []
  | .ret _ => []
  | .retN => []
  | .pass => []
  | .brk => []
  | .cnt => []
  | .nev => []
  | .rse _ _ => []
def wrB : List MS → List Nat
  | [] => []
  | s :: r => s.wr ++ wrB r
end
/-- slots that are kept but at ws -/
def Kp (ws : List Nat) (σ σ' : Loc) : Prop := σ'.length = σ.length ∧ ∀ i, i ∉ ws → σ'[i]? = σ[i]?
theorem Kp.refl {ws : List Nat} {σ : Loc} : Kp ws σ σ := ⟨rfl, fun _ _ => rfl⟩
theorem Kp.trans {ws : List Nat} {σ σ1 σ2 : Loc} (a : Kp ws σ σ1) (b : Kp ws σ1 σ2) : Kp ws σ σ2 := ⟨b.1.trans a.1, fun i h => (b.2 i h).trans (a.2 i h)⟩
theorem Kp.mono {ws vs : List Nat} {σ σ' : Loc} (a : Kp ws σ σ') (h : ∀ i ∈ ws, i ∈ vs) : Kp vs σ σ' := ⟨a.1, fun i q => a.2 i fun m => q (h i m)⟩
theorem Kp.set {i : Nat} {σ : Loc} {v : Option MV} : Kp [i] σ (σ.set i v) := ⟨by simp, fun j h => by
  rw [List.getElem?_set_ne]
  intro e
  exact h (by rw [e]; simp)⟩
section
variable {F : Calls}
mutual
theorem kpT : ∀ {t : MT} {v : MV} {σ σ' : Loc} {h h' : Hm}, evalT F t v σ h = some (σ', h') → Kp t.wr σ σ'
  | .var i, v, σ, σ', h, h', e => by
    simp only [evalT] at e
    split at e
    · cases e; exact Kp.set
    · cases e
  | .tup ts, v, σ, σ', h, h', e => by
    simp only [evalT] at e
    split at e
    · split at e
      · exact kpTs e
      · cases e
    · cases e
  | .sub a i, v, σ, σ', h, h', e => by
    simp only [evalT] at e
    split at e
    · split at e
      · split at e
        · cases e; exact Kp.refl
        · cases e
      · cases e
    · cases e
theorem kpTs : ∀ {t : List MT} {v : List MV} {σ σ' : Loc} {h h' : Hm}, evalTs F t v σ h = some (σ', h') → Kp (wrTs t) σ σ'
  | [], v, σ, σ', h, h', e => by
    simp only [evalTs] at e
    cases e
    exact Kp.refl
  | t :: ts, [], σ, σ', h, h', e => by
    simp only [evalTs] at e
    cases e
  | t :: ts, x :: xs, σ, σ', h, h', e => by
    simp only [evalTs] at e
    split at e
    · rename_i σ1 h1 e1
      exact ((kpT e1).mono fun i m => List.mem_append_left _ m).trans ((kpTs e).mono fun i m => List.mem_append_right _ m)
    · cases e
end
/-- what is said of a statement's end -/
def KpS (ws : List Nat) (σ : Loc) (x : Option SRes) : Prop := ∀ r, x = some r → Kp ws σ r.loc ∨ ∃ v h, r = .rt v h
theorem KpS.mono {ws vs : List Nat} {σ : Loc} {x : Option SRes} (a : KpS ws σ x) (h : ∀ i ∈ ws, i ∈ vs) : KpS vs σ x := fun r e => (a r e).imp (fun q => q.mono h) id
theorem KpS.exS {α : Type} {ws : List Nat} {σ : Loc} {x : RO α} {k : α → Hm → Option SRes} (q : ∀ a h, KpS ws σ (k a h)) : KpS ws σ (Mi.exS σ x k) := fun r e => by
  cases x with
  | none => cases e
  | some y =>
    cases y with
    | ok a h => exact q a h r e
    | ex z h => cases e; exact .inl Kp.refl
theorem iterW_kp {ws : List Nat} {c : Loc → Hm → RO Bool} {b : Loc → Hm → Option SRes} (hb : ∀ σ h, KpS ws σ (b σ h)) : ∀ (m : Nat) (σ : Loc) (h : Hm), KpS ws σ (iterW c b m σ h)
  | 0, σ, h => fun r e => by simp only [iterW] at e; cases e
  | m + 1, σ, h => fun r e => by
    simp only [iterW] at e
    split at e
    · rename_i h1 _
      split at e
      · rename_i σ2 h2 hy
        have k1 : Kp ws σ σ2 := (hb σ h1 _ hy).elim id fun ⟨v, h, q⟩ => nomatch q
        exact (iterW_kp hb m σ2 h2 r e).imp (fun q => k1.trans q) id
      · rename_i σ2 h2 hy
        have k1 : Kp ws σ σ2 := (hb σ h1 _ hy).elim id fun ⟨v, h, q⟩ => nomatch q
        exact (iterW_kp hb m σ2 h2 r e).imp (fun q => k1.trans q) id
      · rename_i σ2 h2 hy
        cases e
        exact .inl ((hb σ h1 _ hy).elim id fun ⟨v, h, q⟩ => nomatch q)
      · exact hb σ h1 r e
    · cases e; exact .inl Kp.refl
    · cases e; exact .inl Kp.refl
    · cases e
theorem iterF_kp {ws : List Nat} {s : Src} {g : MV → Loc → Hm → Option (Loc × Hm)} {b : Loc → Hm → Option SRes} (hg : ∀ v σ h σ' h', g v σ h = some (σ', h') → Kp ws σ σ') (hb : ∀ σ h, KpS ws σ (b σ h)) : ∀ (m i : Nat) (σ : Loc) (h : Hm), KpS ws σ (iterF s g b m i σ h)
  | 0, i, σ, h => fun r e => by simp only [iterF] at e; cases e
  | m + 1, i, σ, h => fun r e => by
    simp only [iterF] at e
    split at e
    · cases e; exact .inl Kp.refl
    · split at e
      · rename_i σ1 h1 hgv
        have k0 := hg _ _ _ _ _ hgv
        split at e
        · rename_i σ2 h2 hy
          have k1 : Kp ws σ1 σ2 := (hb σ1 h1 _ hy).elim id fun ⟨v, h, q⟩ => nomatch q
          exact (iterF_kp hg hb m (i + 1) σ2 h2 r e).imp (fun q => (k0.trans k1).trans q) id
        · rename_i σ2 h2 hy
          have k1 : Kp ws σ1 σ2 := (hb σ1 h1 _ hy).elim id fun ⟨v, h, q⟩ => nomatch q
          exact (iterF_kp hg hb m (i + 1) σ2 h2 r e).imp (fun q => (k0.trans k1).trans q) id
        · rename_i σ2 h2 hy
          cases e
          exact .inl (k0.trans ((hb σ1 h1 _ hy).elim id fun ⟨v, h, q⟩ => nomatch q))
        · exact (hb σ1 h1 r e).imp (fun q => k0.trans q) id
      · cases e
    · cases e
theorem stoAll_kp : ∀ {is : List Nat} {vs : List MV} {σ σ' : Loc} {h h' : Hm}, stoAll is vs σ h = some (σ', h') → Kp is σ σ'
  | [], [], σ, σ', h, h', e => by simp only [stoAll] at e; cases e; exact Kp.refl
  | [], _ :: _, σ, σ', h, h', e => by simp only [stoAll] at e; cases e
  | _ :: _, [], σ, σ', h, h', e => by simp only [stoAll] at e; cases e
  | i :: is, v :: vs, σ, σ', h, h', e => by
    simp only [stoAll] at e
    split at e
    · exact (Kp.set.mono fun j m => by
        rw [List.mem_singleton.mp m]
        exact List.mem_cons_self).trans ((stoAll_kp e).mono fun j m => List.mem_cons_of_mem _ m)
    · cases e
mutual
theorem kpS : ∀ {m : MS} {σ : Loc} {h : Hm}, KpS m.wr σ (execS F m σ h)
  | .asg t e, σ, h => by
    simp only [execS]
    refine KpS.exS fun v h1 r e => ?_
    split at e
    · rename_i σ1 h2 e1
      cases e
      exact .inl (kpT e1)
    · cases e
  | .par is es, σ, h => by
    simp only [execS]
    refine KpS.exS fun v h1 r e => ?_
    split at e
    · rename_i σ1 h2 e1
      cases e
      exact .inl (stoAll_kp e1)
    · cases e
  | .aug i op e, σ, h => fun r e => by
    simp only [execS] at e
    split at e
    · refine KpS.exS (ws := [i]) (fun y h1 r e => ?_) r e
      split at e
      · cases e; exact .inl Kp.set
      · cases e
    · cases e
  | .augS a i op e, σ, h => by
    simp only [execS]
    refine KpS.exS fun o h1 => KpS.exS fun k h2 r e => ?_
    split at e
    · refine KpS.exS (ws := []) (fun y h3 r e => ?_) r e
      split at e
      · split at e
        · cases e; exact .inl Kp.refl
        · cases e
      · cases e
    · cases e
  | .expr e, σ, h => by
    simp only [execS]
    exact KpS.exS fun v h1 r e => by cases e; exact .inl Kp.refl
  | .ret e, σ, h => by
    simp only [execS]
    exact KpS.exS fun v h1 r e => by cases e; exact .inr ⟨_, _, rfl⟩
  | .retN, σ, h => by
    simp only [execS]
    exact fun r e => by cases e; exact .inr ⟨_, _, rfl⟩
  | .ife c a b, σ, h => by
    simp only [execS]
    refine KpS.exS fun x h1 r e => ?_
    split at e
    · exact (kpB (m := a)).mono (fun i m => List.mem_append_left _ m) r e
    · exact (kpB (m := b)).mono (fun i m => List.mem_append_right _ m) r e
    · cases e
  | .whl c b, σ, h => by
    simp only [execS]
    exact iterW_kp (fun σ h => kpB (m := b)) _ σ h
  | .forr t it b, σ, h => by
    simp only [execS]
    refine KpS.exS fun s h1 => ?_
    exact iterF_kp (fun v σ h σ' h' e => (kpT e).mono fun i m => List.mem_append_left _ m) (fun σ h => (kpB (m := b)).mono fun i m => List.mem_append_right _ m) _ 0 σ h1
  | .pass, σ, h => by simp only [execS]; exact fun r e => by cases e; exact .inl Kp.refl
  | .brk, σ, h => by simp only [execS]; exact fun r e => by cases e; exact .inl Kp.refl
  | .cnt, σ, h => by simp only [execS]; exact fun r e => by cases e; exact .inl Kp.refl
  | .nev, σ, h => by simp only [execS]; exact fun r e => by cases e
  | .rse c none, σ, h => by simp only [execS]; exact fun r e => by cases e; exact .inl Kp.refl
  | .rse c (some a), σ, h => by
    simp only [execS]
    exact KpS.exS fun v h1 r e => by cases e; exact .inl Kp.refl
theorem kpB : ∀ {m : List MS} {σ : Loc} {h : Hm}, KpS (wrB m) σ (execB F m σ h)
  | [], σ, h => by simp only [execB]; exact fun r e => by cases e; exact .inl Kp.refl
  | s :: r, σ, h => fun q e => by
    simp only [execB] at e
    cases hx : execS F s σ h with
    | none => rw [hx] at e; cases e
    | some y =>
      rw [hx] at e
      have k1 := kpS y hx
      cases y with
      | nx σ1 h1 =>
        have k1 : Kp s.wr σ σ1 := k1.elim id fun ⟨v, h, q⟩ => nomatch q
        exact (kpB (m := r) q e).imp (fun k2 => (k1.mono fun i m => List.mem_append_left _ m).trans (k2.mono fun i m => List.mem_append_right _ m)) id
      | rt v h1 => cases e; exact .inr ⟨_, _, rfl⟩
      | bk σ1 h1 => cases e; exact k1.imp (fun q => q.mono fun i m => List.mem_append_left _ m) id
      | ct σ1 h1 => cases e; exact k1.imp (fun q => q.mono fun i m => List.mem_append_left _ m) id
      | ex z σ1 h1 => cases e; exact k1.imp (fun q => q.mono fun i m => List.mem_append_left _ m) id
end
end
end Mi

/-! Mi20: defs of laws that draw from finite lists, tried by the kernel at all that they may draw. -/
namespace Mi
open PySem
mutual
def eqV : MV → MV → Bool
  | .non, .non => true
  | .bl a, .bl b => a == b
  | .int a, .int b => decide (a = b)
  | .str a, .str b => decide (a = b)
  | .tup a, .tup b => eqVs a b
  | .fz a, .fz b => eqVs a b
  | .lst a, .lst b => eqVs a b
  | .ref a, .ref b => decide (a = b)
  | .fn a, .fn b => decide (a = b)
  | .edc, .edc => true
  | .any, .any => true
  | .obj c a, .obj d b => decide (c = d) && eqVs a b
  | _, _ => false
def eqVs : List MV → List MV → Bool
  | [], [] => true
  | a :: r, b :: q => eqV a b && eqVs r q
  | _, _ => false
end
mutual
theorem eqV_ok : ∀ {a b : MV}, eqV a b = true → a = b
  | .tup xs, b, e => by
    cases b <;> first | (simp only [eqV] at e; cases e; done) | (simp only [eqV] at e; rw [eqVs_ok e])
  | .fz xs, b, e => by
    cases b <;> first | (simp only [eqV] at e; cases e; done) | (simp only [eqV] at e; rw [eqVs_ok e])
  | .lst xs, b, e => by
    cases b <;> first | (simp only [eqV] at e; cases e; done) | (simp only [eqV] at e; rw [eqVs_ok e])
  | .non, b, e => by cases b <;> first | rfl | (simp only [eqV] at e; cases e)
  | .edc, b, e => by cases b <;> first | rfl | (simp only [eqV] at e; cases e)
  | .any, b, e => by cases b <;> first | rfl | (simp only [eqV] at e; cases e)
  | .obj c xs, b, e => by
    cases b <;> first | (simp only [eqV] at e; cases e; done) | (simp only [eqV, Bool.and_eq_true, decide_eq_true_eq] at e; rw [e.1, eqVs_ok e.2])
  | .scr _, b, e => by cases b <;> (simp only [eqV] at e; cases e)
  | .bl x, b, e => by cases b <;> first | (simp only [eqV] at e; cases e; done) | (simp only [eqV, beq_iff_eq] at e; rw [e])
  | .int x, b, e => by cases b <;> first | (simp only [eqV] at e; cases e; done) | (simp only [eqV, decide_eq_true_eq] at e; rw [e])
  | .str x, b, e => by cases b <;> first | (simp only [eqV] at e; cases e; done) | (simp only [eqV, decide_eq_true_eq] at e; rw [e])
  | .ref x, b, e => by cases b <;> first | (simp only [eqV] at e; cases e; done) | (simp only [eqV, decide_eq_true_eq] at e; rw [e])
  | .fn x, b, e => by cases b <;> first | (simp only [eqV] at e; cases e; done) | (simp only [eqV, decide_eq_true_eq] at e; rw [e])
theorem eqVs_ok : ∀ {a b : List MV}, eqVs a b = true → a = b
  | [], [], _ => rfl
  | [], _ :: _, e => by simp only [eqVs] at e; cases e
  | _ :: _, [], e => by simp only [eqVs] at e; cases e
  | x :: r, y :: q, e => by
    simp only [eqVs, Bool.and_eq_true] at e
    rw [eqV_ok e.1, eqVs_ok e.2]
end
def eqL {α : Type} (f : α → α → Bool) : List α → List α → Bool
  | [], [] => true
  | a :: r, b :: q => f a b && eqL f r q
  | _, _ => false
theorem eqL_ok {α : Type} {f : α → α → Bool} (h : ∀ {a b}, f a b = true → a = b) : ∀ {a b : List α}, eqL f a b = true → a = b
  | [], [], _ => rfl
  | [], _ :: _, e => by simp only [eqL] at e; cases e
  | _ :: _, [], e => by simp only [eqL] at e; cases e
  | x :: r, y :: q, e => by
    simp only [eqL, Bool.and_eq_true] at e
    rw [h e.1, eqL_ok h e.2]
def eqO : Option MV → Option MV → Bool
  | none, none => true
  | some a, some b => eqV a b
  | _, _ => false
theorem eqO_ok : ∀ {a b : Option MV}, eqO a b = true → a = b
  | none, none, _ => rfl
  | none, some _, e => by simp only [eqO] at e; cases e
  | some _, none, e => by simp only [eqO] at e; cases e
  | some a, some b, e => by simp only [eqO] at e; rw [eqV_ok e]
def eqM : MO → MO → Bool
  | .lst a, .lst b => eqVs a b
  | _, _ => false
theorem eqM_ok : ∀ {a b : MO}, eqM a b = true → a = b := fun {a b} e => by
  cases a <;> cases b <;> first | (simp only [eqM] at e; cases e; done) | (simp only [eqM] at e; rw [eqVs_ok e])
/-- a state: slots that are known, slots that may hold one of some rows, a heap of one's own -/
structure NSt where
  σ : Loc
  pd : List (List Nat × List (List MV))
  t : Hm
def eqP (a b : List Nat × List (List MV)) : Bool := eqL (fun x y => decide (x = y)) a.1 b.1 && eqL eqVs a.2 b.2
theorem eqP_ok {a b : List Nat × List (List MV)} (e : eqP a b = true) : a = b := by
  simp only [eqP, Bool.and_eq_true] at e
  exact Prod.ext (eqL_ok (fun h => by simpa using h) e.1) (eqL_ok (fun h => eqVs_ok h) e.2)
def eqS (a b : NSt) : Bool := eqL eqO a.σ b.σ && eqL eqM a.t b.t && eqL eqP a.pd b.pd
theorem eqS_ok {a b : NSt} (e : eqS a b = true) : a = b := by
  simp only [eqS, Bool.and_eq_true] at e
  obtain ⟨s, p, t⟩ := a
  obtain ⟨s', p', t'⟩ := b
  have e1 : s = s' := eqL_ok (fun h => eqO_ok h) e.1.1
  have e2 : t = t' := eqL_ok (fun h => eqM_ok h) e.1.2
  have e3 : p = p' := eqL_ok (fun h => eqP_ok h) e.2
  rw [e1, e2, e3]
def dd : List NSt → List NSt
  | [] => []
  | s :: r => match dd r with
    | q => if q.any (eqS s) then q else s :: q
theorem dd_ok : ∀ {l : List NSt} {s : NSt}, s ∈ l → s ∈ dd l
  | x :: r, s, h => by
    simp only [dd]
    split
    · rename_i hq
      rcases List.mem_cons.mp h with rfl | h
      · obtain ⟨y, hy, e⟩ := List.any_eq_true.mp hq
        rw [eqS_ok e]; exact hy
      · exact dd_ok h
    · rcases List.mem_cons.mp h with rfl | h
      · exact List.mem_cons_self
      · exact List.mem_cons_of_mem _ (dd_ok h)
/-- where the draws stand -/
structure Dr where
  roll : Nat
  pick : Nat
  one : Nat
/-- what is drawn -/
inductive Rx where
  | val (e : ME)
  | pick (e : ME)
  | roll (n : Int)
  | rolp (a n : Int)
def Rx.me (d : Dr) : Rx → ME
  | .val e => e
  | .pick e => .call d.pick [.var 0, e]
  | .roll n => .call d.roll [.var 0, .cst (.int n)]
  | .rolp a n => .bin .add (.cst (.int a)) (.call d.roll [.var 0, .cst (.int n)])
def Rx.cl : Rx → Bool
  | .val e => e.cl
  | .pick e => e.cl
  | _ => true
def lsV (v : MV) (t : Hm) : Option (List MV) := match v with
  | .lst xs => if pureL xs && decide (1 ≤ xs.length) && decide (xs.length ≤ 1000) then some xs else none
  | .ref k => match t[k]? with
    | some (.lst xs) => if pureL xs && decide (1 ≤ xs.length) && decide (xs.length ≤ 1000) then some xs else none
    | _ => none
  | _ => none
def Rx.vals (F : Calls) (σ : Loc) (t : Hm) : Rx → Option (List MV × Hm)
  | .val e => match evalE F e σ t with
    | some (.ok v t1) => if v.pure then some ([v], t1) else none
    | _ => none
  | .pick e => match evalE F e σ t with
    | some (.ok v t1) => match lsV v t1 with
      | some xs => some (xs, t1)
      | none => none
    | _ => none
  | .roll n => if decide (0 < n) && decide (n ≤ 1000000) then some ((List.range n.toNat).map (fun i : Nat => MV.int (i : Int)), t) else none
  | .rolp a n => if decide (0 < n) && decide (n ≤ 1000000) then some ((List.range n.toNat).map (fun i : Nat => MV.int (a + (i : Int))), t) else none
/-- what the draws do, whatever the dice -/
structure DrOk (F : Calls) (d : Dr) (DI : MO → Prop) : Prop where
  roll : ∀ (o : MO) (n : Int) (p t : Hm), DI o → 0 < n → n ≤ 1000000 → ∃ (v : Int) (o' : MO), DI o' ∧ 0 ≤ v ∧ v < n ∧ F d.roll [.ref p.length, .int n] (p ++ o :: t) = some (.ok (.int v) (p ++ o' :: t))
  pick : ∀ (o : MO) (xs : List MV) (p t : Hm), DI o → 1 ≤ xs.length → xs.length ≤ 1000 → pureL xs = true → ∃ (v : MV) (o' : MO), DI o' ∧ v ∈ xs ∧ F d.pick [.ref p.length, .lst xs] (p ++ o :: t) = some (.ok v (p ++ o' :: t))
  pickR : ∀ (o : MO) (xs : List MV) (p t : Hm) (j : Nat), DI o → t[j]? = some (.lst xs) → 1 ≤ xs.length → xs.length ≤ 1000 → pureL xs = true → ∃ (v : MV) (o' : MO), DI o' ∧ v ∈ xs ∧ F d.pick [.ref p.length, .ref (p.length + (1 + j))] (p ++ o :: t) = some (.ok v (p ++ o' :: t))
  one : ∀ (o : MO) (r : MV) (xs : List MV) (p t : Hm), DI o → r.pure = true → 1 ≤ xs.length → xs.length ≤ 1000 → pureL xs = true → ∃ (v : MV) (b : Bool) (o' : MO), DI o' ∧ (v = r ∧ b = false ∨ v ∈ xs ∧ b = true) ∧ F d.one [.ref p.length, r, .lst xs] (p ++ o :: t) = some (.ok (.tup [v, .bl b]) (p ++ o' :: t))
  oneR : ∀ (o : MO) (r : MV) (xs : List MV) (p t : Hm) (j : Nat), DI o → r.pure = true → t[j]? = some (.lst xs) → 1 ≤ xs.length → xs.length ≤ 1000 → pureL xs = true → ∃ (v : MV) (b : Bool) (o' : MO), DI o' ∧ (v = r ∧ b = false ∨ v ∈ xs ∧ b = true) ∧ F d.one [.ref p.length, r, .ref (p.length + (1 + j))] (p ++ o :: t) = some (.ok (.tup [v, .bl b]) (p ++ o' :: t))

theorem lsV_of {v : MV} {t : Hm} {xs : List MV} (e : lsV v t = some xs) : (v = .lst xs ∨ ∃ j, v = .ref j ∧ t[j]? = some (.lst xs)) ∧ pureL xs = true ∧ 1 ≤ xs.length ∧ xs.length ≤ 1000 := by
  unfold lsV at e
  split at e
  · rename_i ys
    split at e
    · rename_i hc
      cases e
      simp only [Bool.and_eq_true, decide_eq_true_eq] at hc
      exact ⟨.inl rfl, hc.1.1, hc.1.2, hc.2⟩
    · cases e
  · rename_i k
    split at e
    · rename_i ys hk
      split at e
      · rename_i hc
        cases e
        simp only [Bool.and_eq_true, decide_eq_true_eq] at hc
        exact ⟨.inr ⟨k, rfl, hk⟩, hc.1.1, hc.1.2, hc.2⟩
      · cases e
    · cases e
  · cases e
section
variable {F F' : Calls} {d : Dr} {DI : MO → Prop} (hF : ∀ h0, TrF h0 F F') (hD : DrOk F' d DI)
include hF in
/-- a text with no dice in it -/
theorem evT {e : ME} (hc : e.cl = true) {σ σ' : Loc} {p g t t1 : Hm} {o : MO} {v : MV} (s : Sl (p ++ o :: g).length σ σ') (hp : HP t) (he : evalE F e σ t = some (.ok v t1)) : evalE F' e σ' (p ++ o :: (g ++ t)) = some (.ok (sh (p ++ o :: g).length v) (p ++ o :: (g ++ t1))) ∧ HP t1 := by
  obtain ⟨q, h1⟩ := trE (h0 := p ++ o :: g) (hF _) hc s hp _ he
  refine ⟨?_, h1⟩
  have a : ∀ t : Hm, p ++ o :: g ++ t = p ++ o :: (g ++ t) := fun t => by simp
  rw [a] at q
  rw [q, shR, a]
theorem Sl.cast {n m : Nat} {σ σ' : Loc} (h : n = m) (s : Sl n σ σ') : Sl m σ σ' := h ▸ s
theorem hlen (p g : Hm) (o o' : MO) : (p ++ o :: g).length = (p ++ o' :: g).length := by simp
theorem pureL_of {v : MV} {xs : List MV} (h : pureL xs = true) (m : v ∈ xs) : v.pure = true := pureL_mems.mp h v m
include hF hD in
theorem Rx_ok {r : Rx} (hc : r.cl = true) {σ σ' : Loc} {p g t t1 : Hm} {o : MO} {vs : List MV} (hd : DI o) (h0 : σ'[0]? = some (some (.ref p.length))) (s : Sl (p ++ o :: g).length σ σ') (hp : HP t) (he : r.vals F σ t = some (vs, t1)) :
    HP t1 ∧ ∃ v o', v ∈ vs ∧ DI o' ∧ v.pure = true ∧ evalE F' (r.me d) σ' (p ++ o :: (g ++ t)) = some (.ok v (p ++ o' :: (g ++ t1))) := by
  have ev0 : ∀ h, evalE F' (.var 0) σ' h = some (.ok (.ref p.length) h) := fun h => by simp only [evalE, h0]
  cases r with
  | val e =>
    simp only [Rx.vals] at he
    split at he
    · rename_i v t2 hv
      split at he
      · rename_i hpu
        cases he
        obtain ⟨q, h1⟩ := evT hF hc s hp hv
        rw [sh_pure hpu] at q
        exact ⟨h1, v, o, List.mem_singleton.mpr rfl, hd, hpu, q⟩
      · cases he
    · cases he
  | pick e =>
    simp only [Rx.vals] at he
    split at he
    · rename_i v t2 hv
      split at he
      · rename_i xs hl
        cases he
        obtain ⟨q, h1⟩ := evT hF hc s hp hv
        obtain ⟨hw, hpu, l1, l2⟩ := lsV_of hl
        refine ⟨h1, ?_⟩
        have key : ∃ w o', DI o' ∧ w ∈ vs ∧ F' d.pick [.ref p.length, sh (p ++ o :: g).length v] (p ++ o :: (g ++ t1)) = some (.ok w (p ++ o' :: (g ++ t1))) := by
          rcases hw with rfl | ⟨j, rfl, hj⟩
          · obtain ⟨w, o', d1, m, e1⟩ := hD.pick o vs p (g ++ t1) hd l1 l2 hpu
            refine ⟨w, o', d1, m, ?_⟩
            rw [sh, shL_pure hpu]
            exact e1
          · obtain ⟨w, o', d1, m, e1⟩ := hD.pickR o vs p (g ++ t1) (g.length + j) hd (by rw [List.getElem?_append_right (by omega), Nat.add_sub_cancel_left]; exact hj) l1 l2 hpu
            refine ⟨w, o', d1, m, ?_⟩
            have : (p ++ o :: g).length + j = p.length + (1 + (g.length + j)) := by simp only [List.length_append, List.length_cons]; omega
            rw [sh, this]
            exact e1
        obtain ⟨w, o', d1, m, e1⟩ := key
        refine ⟨w, o', m, d1, pureL_of hpu m, ?_⟩
        simp only [Rx.me, e_call, es_cons, es_nil, ev0, bnd_ok, q, e1]
      · cases he
    · cases he
  | roll n =>
    simp only [Rx.vals] at he
    split at he
    · rename_i hn
      cases he
      simp only [Bool.and_eq_true, decide_eq_true_eq] at hn
      obtain ⟨v, o', d1, v0, v1, e1⟩ := hD.roll o n p (g ++ t) hd hn.1 hn.2
      refine ⟨hp, .int v, o', ?_, d1, rfl, ?_⟩
      · exact List.mem_map.mpr ⟨v.toNat, List.mem_range.mpr (by omega), by rw [Int.toNat_of_nonneg v0]⟩
      · simp only [Rx.me, e_call, es_cons, es_nil, ev0, e_cst, bnd_ok, e1]
    · cases he
  | rolp a n =>
    simp only [Rx.vals] at he
    split at he
    · rename_i hn
      cases he
      simp only [Bool.and_eq_true, decide_eq_true_eq] at hn
      obtain ⟨v, o', d1, v0, v1, e1⟩ := hD.roll o n p (g ++ t) hd hn.1 hn.2
      refine ⟨hp, .int (a + v), o', ?_, d1, rfl, ?_⟩
      · exact List.mem_map.mpr ⟨v.toNat, List.mem_range.mpr (by omega), by rw [Int.toNat_of_nonneg v0]⟩
      · simp only [Rx.me, e_bin, e_call, es_cons, es_nil, ev0, e_cst, bnd_ok, e1]
        rfl
    · cases he

/-- what a step of a text is -/
inductive Sg where
  | one (i j : Nat) (r : Rx) (w : ME)
  | pk (i : Nat) (r : Rx)
  | st (m : MS)
def Sg.ms (d : Dr) : Sg → MS
  | .one i j r w => .asg (.tup [.var i, .var j]) (.call d.one [.var 0, r.me d, w])
  | .pk i r => .asg (.var i) (r.me d)
  | .st m => m
def offP (is : List Nat) (pd : List (List Nat × List (List MV))) : Bool := pd.all fun q => q.1.all fun k => !(is.contains k)
def Sg.step (F : Calls) (s : NSt) : Sg → Option (List NSt)
  | .one i j r w => if r.cl && w.cl && decide (i ≠ j) && decide (0 < i) && decide (0 < j) && decide (i < s.σ.length) && decide (j < s.σ.length) && offP [i, j] s.pd then
      match r.vals F s.σ s.t with
      | some (rs, t1) => match evalE F w s.σ t1 with
        | some (.ok v t2) => match lsV v t2 with
          | some ws => some [⟨(s.σ.set i none).set j none, ([i, j], rs.map (fun r => [r, .bl false]) ++ ws.map (fun w => [w, .bl true])) :: s.pd, t2⟩]
          | none => none
        | _ => none
      | none => none
    else none
  | .pk i r => if r.cl && decide (0 < i) && decide (i < s.σ.length) && offP [i] s.pd then
      match r.vals F s.σ s.t with
      | some (rs, t1) => some [⟨s.σ.set i none, ([i], rs.map (fun r => [r])) :: s.pd, t1⟩]
      | none => none
    else none
  | .st m => if m.cl && !(m.wr.contains 0) && offP m.wr s.pd then
      match execS F m s.σ s.t with
      | some (.nx σ1 t1) => some [⟨σ1, s.pd, t1⟩]
      | some (.rt (.bl true) _) => some []
      | _ => none
    else none
/-- what a state stands for -/
structure NR (n : Nat) (s : NSt) (σ : Loc) : Prop where
  sl : Sl n s.σ σ
  pd : ∀ q ∈ s.pd, ∃ vs ∈ q.2, ∀ z ∈ q.1.zip vs, σ[z.1]? = some (some z.2)
def killP (is : List Nat) (pd : List (List Nat × List (List MV))) : List (List Nat × List (List MV)) := pd.filter fun q => !(q.1.all is.contains)
def killL (σ : Loc) : List Nat → Loc
  | [] => σ
  | i :: r => (killL σ r).set i none
def pureO : Option MV → Bool
  | some v => v.pure
  | none => true
def kill (is : List Nat) (s : NSt) : NSt := match killL s.σ is with
  | σ => ⟨σ, killP is s.pd, if σ.all pureO then [] else s.t⟩
def setR (σ : Loc) : List Nat → List MV → Loc
  | i :: is, v :: vs => (setR σ is vs).set i (some v)
  | _, _ => σ
/-- one of the pending rows made known -/
def res (i : Nat) : List (List Nat × List (List MV)) → Option ((List Nat × List (List MV)) × List (List Nat × List (List MV)))
  | [] => none
  | q :: r => if q.1.contains i then some (q, r) else match res i r with
    | some (x, r') => some (x, q :: r')
    | none => none
def resS (i : Nat) (s : NSt) : List NSt := match res i s.pd with
  | some (q, r) => q.2.map fun vs => if pureL vs then ⟨setR s.σ q.1 vs, r, s.t⟩ else s
  | none => [s]
/-- slots that are known in every state made pending again -/
def getR (σ : Loc) : List Nat → Option (List MV)
  | [] => some []
  | i :: r => match σ[i]? with
    | some (some v) => if v.pure then match getR σ r with
      | some vs => some (v :: vs)
      | none => none
      else none
    | _ => none
def rowsOf (is : List Nat) : List NSt → Option (List (List MV))
  | [] => some []
  | s :: r => match getR s.σ is with
    | some x => match rowsOf is r with
      | some xs => some (x :: xs)
      | none => none
    | none => none
def ddR : List (List MV) → List (List MV)
  | [] => []
  | x :: r => match ddR r with
    | q => if q.any (eqVs x) then q else x :: q
def rowsD (is : List Nat) (sts : List NSt) : Option (List (List MV)) := match rowsOf is sts with
  | some r => some (ddR r)
  | none => none
def pendS (is : List Nat) (rows : List (List MV)) (s : NSt) : NSt := match kill is s with
  | s1 => ⟨s1.σ, (is, rows) :: s1.pd, s1.t⟩
/-- steps, and what makes the states fewer -/
inductive Cm where
  | sg (s : Sg)
  | res (i : Nat)
  | kill (is : List Nat)
  | pend (is : List Nat)
def Cm.ms (d : Dr) : Cm → List MS
  | .sg s => [s.ms d]
  | _ => []
def msC (d : Dr) : List Cm → List MS
  | [] => []
  | c :: r => c.ms d ++ msC d r
def stepsC (F : Calls) (g : Sg) : List NSt → Option (List NSt)
  | [] => some []
  | s :: r => match g.step F s with
    | some l => match stepsC F g r with
      | some l' => some (l ++ l')
      | none => none
    | none => none
def runC (F : Calls) : List Cm → List NSt → Bool
  | [], sts => sts.isEmpty
  | .sg g :: r, sts => match stepsC F g sts with
    | some l => runC F r l
    | none => false
  | .res i :: r, sts => runC F r (sts.flatMap (resS i))
  | .kill is :: r, sts => match dd (sts.map (kill is)) with
    | l => runC F r l
  | .pend is :: r, sts => match rowsD is sts with
    | some rows => match dd (sts.map (pendS is rows)) with
      | l => runC F r l
    | none => false
end

theorem Sl.drop {n : Nat} {σ σ' : Loc} (s : Sl n σ σ') (i : Nat) (w : Option MV) : Sl n (σ.set i none) (σ'.set i w) := by
  refine ⟨by simp [s.len], fun j v e => ?_⟩
  by_cases hj : i = j
  · subst hj
    have hl : i < σ.length := by
      have := (List.getElem?_eq_some_iff.mp e).1
      simpa using this
    rw [List.getElem?_set_self hl] at e
    cases e
  · rw [List.getElem?_set_ne hj] at e ⊢
    exact s.get j v e
theorem Sl.forget {n : Nat} {σ σ' : Loc} (s : Sl n σ σ') (i : Nat) : Sl n (σ.set i none) σ' := by
  refine ⟨by simp [s.len], fun j v e => ?_⟩
  by_cases hj : i = j
  · subst hj
    have hl : i < σ.length := by
      have := (List.getElem?_eq_some_iff.mp e).1
      simpa using this
    rw [List.getElem?_set_self hl] at e
    cases e
  · rw [List.getElem?_set_ne hj] at e
    exact s.get j v e
theorem Sl.know {n : Nat} {σ σ' : Loc} (s : Sl n σ σ') {i : Nat} {v : MV} (hv : v.pure = true) (h : σ'[i]? = some (some v)) : Sl n (σ.set i (some v)) σ' := by
  refine ⟨by simp [s.len], fun j w e => ?_⟩
  by_cases hj : i = j
  · subst hj
    have hl : i < σ.length := by
      have := (List.getElem?_eq_some_iff.mp e).1
      simpa using this
    rw [List.getElem?_set_self hl] at e
    cases e
    rw [sh_pure hv]
    exact h
  · rw [List.getElem?_set_ne hj] at e
    exact s.get j w e
theorem offP_of {is : List Nat} {pd : List (List Nat × List (List MV))} (h : offP is pd = true) {q : List Nat × List (List MV)} (hq : q ∈ pd) {k : Nat} (hk : k ∈ q.1) : k ∉ is := by
  have := List.all_eq_true.mp (List.all_eq_true.mp h q hq) k hk
  simpa using this
theorem mem_zip1 {α β : Type} {z : α × β} : ∀ {a : List α} {b : List β}, z ∈ a.zip b → z.1 ∈ a
  | [], _, h => by simp at h
  | _ :: _, [], h => by simp at h
  | x :: r, y :: q, h => by
    rw [List.zip_cons_cons] at h
    rcases List.mem_cons.mp h with rfl | h
    · exact List.mem_cons_self
    · exact List.mem_cons_of_mem _ (mem_zip1 h)
theorem sto_pure {v : MV} (h : v.pure = true) (hm : Hm) : sto v hm = some (v, hm) := by
  have hn : v.nol = true := pure_nol h
  cases v <;> first | (simp only [MV.pure] at h; cases h; done) | (simp only [sto, hn, if_true])
section
variable {F F' : Calls} {d : Dr} {DI : MO → Prop} (hF : ∀ h0, TrF h0 F F') (hD : DrOk F' d DI)
include hF hD in
theorem step_ok {c : Sg} {s : NSt} {l : List NSt} {σ : Loc} {p g : Hm} {o : MO} (hd : DI o) (h0 : σ[0]? = some (some (.ref p.length))) (nr : NR (p ++ o :: g).length s σ) (hp : HP s.t) (he : c.step F s = some l) :
    (∃ s' σ' o', s' ∈ l ∧ DI o' ∧ σ'[0]? = some (some (.ref p.length)) ∧ NR (p ++ o' :: g).length s' σ' ∧ HP s'.t ∧ execS F' (c.ms d) σ (p ++ o :: (g ++ s.t)) = some (.nx σ' (p ++ o' :: (g ++ s'.t)))) ∨ ∃ o' e, DI o' ∧ execS F' (c.ms d) σ (p ++ o :: (g ++ s.t)) = some (.rt (.bl true) (p ++ o' :: (g ++ e))) := by
  have ev0 : ∀ h, evalE F' (.var 0) σ h = some (.ok (.ref p.length) h) := fun h => by simp only [evalE, h0]
  cases c with
  | one i j r w =>
    simp only [Sg.step] at he
    split at he
    · rename_i hc
      simp only [Bool.and_eq_true, decide_eq_true_eq] at hc
      obtain ⟨⟨⟨⟨⟨⟨⟨c1, c2⟩, c3⟩, c4⟩, c5⟩, c6⟩, c7⟩, c8⟩ := hc
      split at he
      · rename_i rs t1 hr
        split at he
        · rename_i v t2 hv
          split at he
          · rename_i ws hw
            cases he
            obtain ⟨hp1, r1, o1, m1, d1, pu1, e1⟩ := Rx_ok hF hD c1 hd h0 nr.sl hp hr
            obtain ⟨e2, hp2⟩ := evT hF c2 (Sl.cast (hlen p g o o1) nr.sl) hp1 hv
            obtain ⟨hw1, pu2, l1, l2⟩ := lsV_of hw
            have key : ∃ (u : MV) (b : Bool) (o' : MO), DI o' ∧ (u = r1 ∧ b = false ∨ u ∈ ws ∧ b = true) ∧ F' d.one [.ref p.length, r1, sh (p ++ o1 :: g).length v] (p ++ o1 :: (g ++ t2)) = some (.ok (.tup [u, .bl b]) (p ++ o' :: (g ++ t2))) := by
              rcases hw1 with rfl | ⟨k, rfl, hk⟩
              · obtain ⟨u, b, o', d2, m, e3⟩ := hD.one o1 r1 ws p (g ++ t2) d1 pu1 l1 l2 pu2
                refine ⟨u, b, o', d2, m, ?_⟩
                rw [sh, shL_pure pu2]
                exact e3
              · obtain ⟨u, b, o', d2, m, e3⟩ := hD.oneR o1 r1 ws p (g ++ t2) (g.length + k) d1 pu1 (by rw [List.getElem?_append_right (by omega), Nat.add_sub_cancel_left]; exact hk) l1 l2 pu2
                refine ⟨u, b, o', d2, m, ?_⟩
                have : (p ++ o1 :: g).length + k = p.length + (1 + (g.length + k)) := by simp only [List.length_append, List.length_cons]; omega
                rw [sh, this]
                exact e3
            obtain ⟨u, b, o', d2, m, e3⟩ := key
            have puu : u.pure = true := m.elim (fun q => q.1 ▸ pu1) fun q => pureL_of pu2 q.1
            have li : i < σ.length := nr.sl.len ▸ c6
            have lj : j < σ.length := nr.sl.len ▸ c7
            refine .inl ⟨_, (σ.set i (some u)).set j (some (.bl b)), o', List.mem_singleton.mpr rfl, d2, ?_, ⟨?_, ?_⟩, hp2, ?_⟩
            · rw [List.getElem?_set_ne (by omega), List.getElem?_set_ne (by omega)]
              exact h0
            · exact Sl.drop (Sl.drop (Sl.cast (hlen p g o o') nr.sl) i _) j _
            · intro q hq
              rcases List.mem_cons.mp hq with rfl | hq
              · refine ⟨[u, .bl b], ?_, ?_⟩
                · rcases m with ⟨rfl, rfl⟩ | ⟨m, rfl⟩
                  · exact List.mem_append_left _ (List.mem_map.mpr ⟨_, m1, rfl⟩)
                  · exact List.mem_append_right _ (List.mem_map.mpr ⟨_, m, rfl⟩)
                · intro z hz
                  simp only [List.zip_cons_cons, List.zip_nil_left, List.mem_cons, List.not_mem_nil, or_false] at hz
                  rcases hz with rfl | rfl
                  · rw [List.getElem?_set_ne (by omega), List.getElem?_set_self li]
                  · rw [List.getElem?_set_self (by simpa using lj)]
              · obtain ⟨vs, mv, hz⟩ := nr.pd q hq
                refine ⟨vs, mv, fun z mz => ?_⟩
                have := offP_of c8 hq (mem_zip1 mz)
                simp only [List.mem_cons, List.not_mem_nil, or_false, not_or] at this
                rw [List.getElem?_set_ne (by omega), List.getElem?_set_ne (by omega)]
                exact hz z mz
            · have n1 : nl u = true := by cases u <;> first | rfl | (simp only [MV.pure] at puu; cases puu)
              have n2 : nl (.bl b) = true := rfl
              simp only [Sg.ms, execS, e_call, es_cons, es_nil, ev0, bnd_ok, e1, e2, e3, exS_ok, evalT, seq, List.length_cons, List.length_nil, List.all_cons, List.all_nil, n1, n2, Bool.and_true, Bool.and_self, and_true, and_self, if_true, evalTs, sto_pure puu, sto_pure (v := .bl b) rfl]
          · cases he
        · cases he
      · cases he
    · cases he
  | pk i r =>
    simp only [Sg.step] at he
    split at he
    · rename_i hc
      simp only [Bool.and_eq_true, decide_eq_true_eq] at hc
      obtain ⟨⟨⟨c1, c4⟩, c6⟩, c8⟩ := hc
      split at he
      · rename_i rs t1 hr
        cases he
        obtain ⟨hp1, r1, o1, m1, d1, pu1, e1⟩ := Rx_ok hF hD c1 hd h0 nr.sl hp hr
        have li : i < σ.length := nr.sl.len ▸ c6
        refine .inl ⟨_, σ.set i (some r1), o1, List.mem_singleton.mpr rfl, d1, ?_, ⟨?_, ?_⟩, hp1, ?_⟩
        · rw [List.getElem?_set_ne (by omega)]
          exact h0
        · exact Sl.drop (Sl.cast (hlen p g o o1) nr.sl) i _
        · intro q hq
          rcases List.mem_cons.mp hq with rfl | hq
          · refine ⟨[r1], List.mem_map.mpr ⟨_, m1, rfl⟩, ?_⟩
            intro z hz
            simp only [List.zip_cons_cons, List.zip_nil_left, List.mem_cons, List.not_mem_nil, or_false] at hz
            subst hz
            rw [List.getElem?_set_self li]
          · obtain ⟨vs, mv, hz⟩ := nr.pd q hq
            refine ⟨vs, mv, fun z mz => ?_⟩
            have := offP_of c8 hq (mem_zip1 mz)
            simp only [List.mem_cons, List.not_mem_nil, or_false] at this
            rw [List.getElem?_set_ne (by omega)]
            exact hz z mz
        · simp only [Sg.ms, execS, e1, exS_ok, evalT, sto_pure pu1]
      · cases he
    · cases he
  | st m =>
    simp only [Sg.step] at he
    split at he
    · rename_i hc
      simp only [Bool.and_eq_true, Bool.not_eq_true', List.contains_eq_mem, decide_eq_false_iff_not] at hc
      obtain ⟨⟨c1, c2⟩, c8⟩ := hc
      have a : ∀ t : Hm, p ++ o :: g ++ t = p ++ o :: (g ++ t) := fun t => by simp
      split at he
      · rename_i σ1 t1 hx
        cases he
        obtain ⟨σ', e1, hp1, hs⟩ := trS (h0 := p ++ o :: g) (hF _) c1 nr.sl hp _ hx
        have hs : Sl (p ++ o :: g).length σ1 σ' := hs.elim id fun ⟨v, h, q⟩ => nomatch q
        have kp : Kp m.wr σ σ' := ((kpS (F := F') (m := m) (σ := σ) (h := p ++ o :: g ++ s.t)) _ e1).elim id fun ⟨v, h, q⟩ => nomatch q
        refine .inl ⟨_, σ', o, List.mem_singleton.mpr rfl, hd, ?_, ⟨hs, ?_⟩, hp1, ?_⟩
        · rw [kp.2 0 c2]; exact h0
        · intro q hq
          obtain ⟨vs, mv, hz⟩ := nr.pd q hq
          refine ⟨vs, mv, fun z mz => ?_⟩
          rw [kp.2 _ (offP_of c8 hq (mem_zip1 mz))]
          exact hz z mz
        · rw [← a, ← a]
          exact e1
      · rename_i t1 hx
        cases he
        obtain ⟨σ', e1, hp1, hs⟩ := trS (h0 := p ++ o :: g) (hF _) c1 nr.sl hp _ hx
        refine .inr ⟨o, t1, hd, ?_⟩
        rw [← a, ← a]
        exact e1
      · cases he
    · cases he
end

theorem kill_len : ∀ (is : List Nat) (σ : Loc), (killL σ is).length = σ.length
  | [], σ => rfl
  | i :: r, σ => by rw [killL, List.length_set, kill_len r]
theorem killL_ok {n : Nat} {σ σ' : Loc} (s : Sl n σ σ') : ∀ is : List Nat, Sl n (killL σ is) σ'
  | [] => s
  | i :: r => (killL_ok s r).forget i
theorem Sl.pure {n m : Nat} {σ σ' : Loc} (s : Sl n σ σ') (h : σ.all pureO = true) : Sl m σ σ' := ⟨s.len, fun i v e => by
  have hv : v.pure = true := List.all_eq_true.mp h _ (List.mem_of_getElem? e)
  have := s.get i v e
  rw [sh_pure hv] at this ⊢
  exact this⟩
/-- what kill leaves stands for what stood before, behind another heap -/
theorem kill_ok {is : List Nat} {s : NSt} {σ : Loc} {p g : Hm} {o : MO} (nr : NR (p ++ o :: g).length s σ) (hp : HP s.t) : ∃ g' e, g ++ s.t = g' ++ (kill is s).t ∧ NR (p ++ o :: g').length (kill is s) σ ∧ HP (kill is s).t ∧ g' = g ++ e := by
  have hpd : ∀ q ∈ killP is s.pd, ∃ vs ∈ q.2, ∀ z ∈ q.1.zip vs, σ[z.1]? = some (some z.2) := fun q hq => nr.pd q (List.mem_filter.mp hq).1
  have hs := killL_ok nr.sl is
  by_cases hc : (killL s.σ is).all pureO = true
  · refine ⟨g ++ s.t, s.t, ?_, ⟨?_, hpd⟩, ?_, rfl⟩
    · simp only [kill, hc, if_true, List.append_nil]
    · exact hs.pure hc
    · simp only [kill, hc, if_true]; exact HP.nil
  · refine ⟨g, [], ?_, ⟨?_, hpd⟩, ?_, (List.append_nil g).symm⟩
    · simp only [kill, hc, if_false, Bool.false_eq_true]
    · exact hs
    · simp only [kill, hc, if_false, Bool.false_eq_true]; exact hp
theorem getR_ok {n : Nat} {σ σ' : Loc} (s : Sl n σ σ') : ∀ {is : List Nat} {vs : List MV}, getR σ is = some vs → ∀ z ∈ is.zip vs, σ'[z.1]? = some (some z.2)
  | [], vs, e, z, hz => by simp at hz
  | i :: r, vs, e, z, hz => by
    simp only [getR] at e
    split at e
    · rename_i v hv
      split at e
      · rename_i hp
        split at e
        · rename_i ws hw
          cases e
          rw [List.zip_cons_cons] at hz
          rcases List.mem_cons.mp hz with rfl | hz
          · have := s.get i v hv
            rw [sh_pure hp] at this
            exact this
          · exact getR_ok s hw z hz
        · cases e
      · cases e
    · cases e
theorem rowsOf_ok {is : List Nat} : ∀ {sts : List NSt} {rows : List (List MV)} {s : NSt}, rowsOf is sts = some rows → s ∈ sts → ∃ vs ∈ rows, getR s.σ is = some vs
  | [], rows, s, e, m => nomatch m
  | x :: r, rows, s, e, m => by
    simp only [rowsOf] at e
    split at e
    · rename_i vs hv
      split at e
      · rename_i xs hx
        cases e
        rcases List.mem_cons.mp m with rfl | m
        · exact ⟨vs, List.mem_cons_self, hv⟩
        · obtain ⟨ws, m', e'⟩ := rowsOf_ok hx m
          exact ⟨ws, List.mem_cons_of_mem _ m', e'⟩
      · cases e
    · cases e
theorem ddR_ok : ∀ {l : List (List MV)} {s : List MV}, s ∈ l → s ∈ ddR l
  | x :: r, s, h => by
    simp only [ddR]
    split
    · rename_i hq
      rcases List.mem_cons.mp h with rfl | h
      · obtain ⟨y, hy, e⟩ := List.any_eq_true.mp hq
        rw [eqVs_ok e]; exact hy
      · exact ddR_ok h
    · rcases List.mem_cons.mp h with rfl | h
      · exact List.mem_cons_self
      · exact List.mem_cons_of_mem _ (ddR_ok h)
theorem rowsD_ok {is : List Nat} {sts : List NSt} {rows : List (List MV)} {s : NSt} (e : rowsD is sts = some rows) (m : s ∈ sts) : ∃ vs ∈ rows, getR s.σ is = some vs := by
  unfold rowsD at e
  split at e
  · rename_i r hr
    cases e
    obtain ⟨vs, mv, hv⟩ := rowsOf_ok hr m
    exact ⟨vs, ddR_ok mv, hv⟩
  · cases e
theorem pend_ok {is : List Nat} {sts : List NSt} {rows : List (List MV)} (hr : rowsD is sts = some rows) {s : NSt} (hm : s ∈ sts) {σ : Loc} {p g : Hm} {o : MO} (nr : NR (p ++ o :: g).length s σ) (hp : HP s.t) : ∃ g' e, g ++ s.t = g' ++ (pendS is rows s).t ∧ NR (p ++ o :: g').length (pendS is rows s) σ ∧ HP (pendS is rows s).t ∧ g' = g ++ e := by
  obtain ⟨g', e, e1, n1, p1, e2⟩ := kill_ok (is := is) nr hp
  obtain ⟨vs, mv, hv⟩ := rowsD_ok hr hm
  refine ⟨g', e, e1, ⟨n1.sl, fun q hq => ?_⟩, p1, e2⟩
  rcases List.mem_cons.mp hq with rfl | hq
  · exact ⟨vs, mv, getR_ok nr.sl hv⟩
  · exact n1.pd q hq
theorem setR_ok {n : Nat} {σ' : Loc} : ∀ {is : List Nat} {vs : List MV} {σ : Loc}, Sl n σ σ' → pureL vs = true → (∀ z ∈ is.zip vs, σ'[z.1]? = some (some z.2)) → Sl n (setR σ is vs) σ'
  | [], vs, σ, s, _, _ => by cases vs <;> exact s
  | i :: is, [], σ, s, _, _ => s
  | i :: is, v :: vs, σ, s, hp, hz => by
    simp only [pureL, Bool.and_eq_true] at hp
    rw [List.zip_cons_cons] at hz
    rw [setR]
    exact Sl.know (setR_ok s hp.2 fun z m => hz z (List.mem_cons_of_mem _ m)) hp.1 (hz (i, v) List.mem_cons_self)
theorem res_ok {i : Nat} : ∀ {pd : List (List Nat × List (List MV))} {x : List Nat × List (List MV)} {r : List (List Nat × List (List MV))}, res i pd = some (x, r) → x ∈ pd ∧ ∀ q ∈ r, q ∈ pd
  | [], x, r, e => nomatch e
  | q :: l, x, r, e => by
    simp only [res] at e
    split at e
    · cases e
      exact ⟨List.mem_cons_self, fun q m => List.mem_cons_of_mem _ m⟩
    · split at e
      · rename_i y l' he
        cases e
        have := res_ok he
        refine ⟨List.mem_cons_of_mem _ this.1, fun q m => ?_⟩
        rcases List.mem_cons.mp m with rfl | m
        · exact List.mem_cons_self
        · exact List.mem_cons_of_mem _ (this.2 q m)
      · cases e
theorem resS_ok {i n : Nat} {s : NSt} {σ : Loc} (nr : NR n s σ) : ∃ s' ∈ resS i s, NR n s' σ ∧ s'.t = s.t := by
  unfold resS
  split
  · rename_i q r he
    obtain ⟨m1, m2⟩ := res_ok he
    obtain ⟨vs, mv, hz⟩ := nr.pd q m1
    refine ⟨_, List.mem_map.mpr ⟨vs, mv, rfl⟩, ?_⟩
    split
    · rename_i hpu
      exact ⟨⟨setR_ok nr.sl hpu hz, fun q hq => nr.pd q (m2 q hq)⟩, rfl⟩
    · exact ⟨nr, rfl⟩
  · exact ⟨s, List.mem_singleton.mpr rfl, nr, rfl⟩
section
variable {F F' : Calls} {d : Dr} {DI : MO → Prop} (hF : ∀ h0, TrF h0 F F') (hD : DrOk F' d DI)
theorem stepsC_of {c : Sg} : ∀ {sts l : List NSt} {s : NSt}, stepsC F c sts = some l → s ∈ sts → ∃ l1, c.step F s = some l1 ∧ ∀ x ∈ l1, x ∈ l
  | [], l, s, e, m => nomatch m
  | x :: r, l, s, e, m => by
    simp only [stepsC] at e
    split at e
    · rename_i l1 h1
      split at e
      · rename_i l2 h2
        cases e
        rcases List.mem_cons.mp m with rfl | m
        · exact ⟨l1, h1, fun y hy => List.mem_append_left _ hy⟩
        · obtain ⟨l3, h3, q⟩ := stepsC_of h2 m
          exact ⟨l3, h3, fun y hy => List.mem_append_right _ (q y hy)⟩
      · cases e
    · cases e
include hF hD in
theorem runC_ok : ∀ {cs : List Cm} {sts : List NSt} {s : NSt} {σ : Loc} {p g : Hm} {o : MO}, runC F cs sts = true → s ∈ sts → DI o → σ[0]? = some (some (.ref p.length)) → NR (p ++ o :: g).length s σ → HP s.t →
    ∃ o' e, DI o' ∧ execB F' (msC d cs) σ (p ++ o :: (g ++ s.t)) = some (.rt (.bl true) (p ++ o' :: (g ++ e)))
  | [], sts, s, σ, p, g, o, e, m, hd, h0, nr, hp => by
    simp only [runC] at e
    rw [List.isEmpty_iff.mp e] at m
    cases m
  | .sg c :: r, sts, s, σ, p, g, o, e, m, hd, h0, nr, hp => by
    simp only [runC] at e
    split at e
    · rename_i l hl
      obtain ⟨l1, h1, q⟩ := stepsC_of hl m
      rcases step_ok hF hD hd h0 nr hp h1 with ⟨s', σ', o', m', d', z', n', p', ee⟩ | ⟨o', x, d', ee⟩
      · obtain ⟨o2, x, d2, e2⟩ := runC_ok e (q s' m') d' z' n' p'
        refine ⟨o2, x, d2, ?_⟩
        simp only [msC, Cm.ms, List.cons_append, List.nil_append, eb_cons, ee, thenS_nx]
        exact e2
      · refine ⟨o', x, d', ?_⟩
        simp only [msC, Cm.ms, List.cons_append, List.nil_append, eb_cons, ee, thenS_rt]
    · cases e
  | .res i :: r, sts, s, σ, p, g, o, e, m, hd, h0, nr, hp => by
    simp only [runC] at e
    obtain ⟨s', m', n', t'⟩ := resS_ok (i := i) nr
    obtain ⟨o2, x, d2, e2⟩ := runC_ok e (List.mem_flatMap.mpr ⟨s, m, m'⟩) hd h0 n' (t' ▸ hp)
    rw [t'] at e2
    exact ⟨o2, x, d2, e2⟩
  | .kill is :: r, sts, s, σ, p, g, o, e, m, hd, h0, nr, hp => by
    simp only [runC] at e
    obtain ⟨g', x, e1, n', p', rfl⟩ := kill_ok (is := is) nr hp
    obtain ⟨o2, y, d2, e2⟩ := runC_ok e (dd_ok (List.mem_map.mpr ⟨s, m, rfl⟩)) hd h0 n' p'
    refine ⟨o2, x ++ y, d2, ?_⟩
    rw [e1, ← List.append_assoc g x y]
    exact e2
  | .pend is :: r, sts, s, σ, p, g, o, e, m, hd, h0, nr, hp => by
    simp only [runC] at e
    split at e
    · rename_i rows hr
      obtain ⟨g', x, e1, n', p', rfl⟩ := pend_ok hr m nr hp
      obtain ⟨o2, y, d2, e2⟩ := runC_ok e (dd_ok (List.mem_map.mpr ⟨s, m, rfl⟩)) hd h0 n' p'
      refine ⟨o2, x ++ y, d2, ?_⟩
      rw [e1, ← List.append_assoc g x y]
      exact e2
    · cases e
end

/-- calls whose answers are known beforehand -/
abbrev Ov := Nat → List MV → Option MV
def ovr (F : Calls) (l : Ov) : Calls := fun f vs h => match l f vs with
  | some v => some (.ok v h)
  | none => F f vs h
def OvOk (F : Calls) (l : Ov) : Prop := ∀ f vs v, l f vs = some v → pureL vs = true ∧ (v.pure = true ∨ ∃ xs, v = .lst xs ∧ pureL xs = true) ∧ ∀ h, F f vs h = some (.ok v h)
theorem ovr_tr {F F' : Calls} {l : Ov} {h0 : Hm} (hF : TrF h0 F F') (ho : OvOk F' l) : TrF h0 (ovr F l) F' := fun f vs h p => by
  unfold ovr
  split
  · rename_i v hf
    obtain ⟨h1, h2, h3⟩ := ho f vs v hf
    intro r e
    cases e
    rw [shL_pure h1, h3]
    have : sh h0.length v = v := h2.elim sh_pure fun ⟨xs, q, hp⟩ => by rw [q, sh, shL_pure hp]
    exact ⟨by rw [shR, this], p⟩
  · exact hF f vs h p
/-- the defs of a program, some answers known beforehand at every depth but the last -/
def callsO (P : List FnD) (l : Ov) : Nat → Calls
  | 0 => fun _ _ _ => none
  | k + 1 => if k < 8 then calls P (k + 1) else ovr (fun f vs h => match P[f]? with
    | some d => runFn (callsO P l k) d vs h
    | none => none) l
theorem callsO_tr {P : List FnD} {l : Ov} {h0 : Hm} (hP : (P.all fun d => clB d.body) = true) (hl : ∀ k, OvOk (calls P (k + 8)) l) : ∀ k, TrF h0 (callsO P l k) (calls P k)
  | 0 => fun f vs h p => by simp only [callsO]; exact Tr.none
  | k + 1 => by
    by_cases hk : k < 8
    · simp only [callsO, if_pos hk]
      exact calls_tr hP (k + 1)
    · simp only [callsO, if_neg hk]
      obtain ⟨m, rfl⟩ : ∃ m, k = m + 8 := ⟨k - 8, by omega⟩
      refine ovr_tr (fun f vs h p => ?_) (hl (m + 1))
      simp only [calls]
      cases e : P[f]? with
      | none => exact Tr.none
      | some d => exact runFn_tr (callsO_tr hP hl (m + 8)) (List.all_eq_true.mp hP d (List.mem_of_getElem? e)) p
/-- a def of one parameter, the dice, that runs so hands back True -/
theorem right_ok {P : List FnD} {k f : Nat} {fd : FnD} (hf : P[f]? = some fd) {F : Calls} (hF : ∀ h0, TrF h0 F (calls P k)) {d : Dr} {DI : MO → Prop} (hD : DrOk (calls P k) d DI) (cs : List Cm) (hb : fd.body = msC d cs) (hn : fd.np = 1) (hs : 1 ≤ fd.ns) (hc : runC F cs [⟨List.replicate fd.ns none, [], []⟩] = true) (p g : Hm) (o : MO) (hd : DI o) :
    ∃ o', DI o' ∧ calls P (k + 1) f [.ref p.length] (p ++ o :: g) = some (.ok (.bl true) (p ++ o' :: g)) := by
  obtain ⟨n, hn'⟩ : ∃ n, fd.ns = n + 1 := ⟨fd.ns - 1, by omega⟩
  have nr : NR (p ++ o :: g).length ⟨List.replicate fd.ns none, [], []⟩ (some (.ref p.length) :: List.replicate (fd.ns - 1) none) := by
    refine ⟨⟨by simp [hn'], fun i v e => ?_⟩, fun q hq => nomatch hq⟩
    rw [List.getElem?_replicate] at e
    split at e <;> cases e
  obtain ⟨o', e, d', he⟩ := runC_ok hF hD (σ := some (.ref p.length) :: List.replicate (fd.ns - 1) none) (g := g) hc (List.mem_singleton.mpr rfl) hd rfl nr HP.nil
  refine ⟨o', d', ?_⟩
  simp only [List.append_nil] at he
  have ht : (p ++ o' :: (g ++ e)).take (p ++ o :: g).length = p ++ o' :: g := by
    have : (p ++ o :: g).length = (p ++ o' :: g).length := hlen _ _ _ _
    rw [this, show p ++ o' :: (g ++ e) = (p ++ o' :: g) ++ e by simp, List.take_left]
  simp only [calls, hf, runFn, hn, List.length_cons, List.length_nil, Nat.zero_add, if_true, stoL, sto, MV.nol, List.map_cons, List.map_nil, List.cons_append, List.nil_append, hb, he, endFn, handBack, froz, ht]
end Mi

/-! Mi21: the law that asks its right defs for dice at some spots. -/
namespace Mi
open PySem
/-- is True of what is drawn at a right def -/
def AskOk (F : Calls) (DI : MO → Prop) (c : ME) : Prop := ∀ (σ : Loc) (p : Hm) (o : MO), DI o → σ[2]? = some (some (.ref p.length)) → ∃ o', DI o' ∧ evalE F c σ (p ++ [o]) = some (.ok (.bl false) (p ++ [o']))
theorem ask_not {F : Calls} {DI : MO → Prop} {f : Nat} (h : ∀ (p : Hm) (o : MO), DI o → ∃ o', DI o' ∧ F f [.ref p.length] (p ++ [o]) = some (.ok (.bl true) (p ++ [o']))) : AskOk F DI (.not (.call f [.var 2])) := fun σ p o hd hs => by
  obtain ⟨o', d', e⟩ := h p o hd
  refine ⟨o', d', ?_⟩
  have ev : ∀ h, evalE F (.var 2) σ h = some (.ok (.ref p.length) h) := fun h => by simp only [evalE, hs]
  simp only [e_not, e_call, es_cons, es_nil, ev, bnd_ok, e, truth, lift_some, Option.map_some, Bool.not_true]
theorem ask_or {F : Calls} {DI : MO → Prop} {a b : ME} (ha : AskOk F DI a) (hb : AskOk F DI b) : AskOk F DI (.or a b) := fun σ p o hd hs => by
  obtain ⟨o1, d1, e1⟩ := ha σ p o hd hs
  obtain ⟨o2, d2, e2⟩ := hb σ p o1 d1 hs
  refine ⟨o2, d2, ?_⟩
  simp only [e_or, e1, bnd_ok, truth, e2]
theorem set_keep {σ : Loc} {i j : Nat} {v : Option MV} (h : i ≠ j) : (σ.set i v)[j]? = σ[j]? := List.getElem?_set_ne h
theorem inner_ok {F : Calls} {DI : MO → Prop} {m ns : Nat} {c : ME} (zs : List Int) (hm : m < 1000) (hc : AskOk F DI c) {σ : Loc} {p : Hm} {o : MO} (l1 : σ.length = ns + 4) (l2 : σ[0]? = some (some (.scr zs))) (l3 : σ[2]? = some (some (.ref p.length))) (ho : DI o) :
    ∃ σ2 h2, execS F (.forr (.var 3) (.r1 (.cst (.int (m : Int)))) [.ife c [.ret (.cst (.bl false))] []]) σ (p ++ [o]) = some (.nx σ2 h2) ∧ σ2.length = ns + 4 ∧ σ2[0]? = some (some (.scr zs)) := by
  have hi : evalI F (.r1 (.cst (.int (m : Int)))) σ (p ++ [o]) = some (.ok (.rg (rng ((0 : Nat) : Int) m)) (p ++ [o])) := ei_r1 (e_cst _ _ _ _) (by omega)
  refine x_forR (F := F) (t := .var 3) (it := .r1 (.cst (.int (m : Int)))) (b := [.ife c [.ret (.cst (.bl false))] []]) (σ := σ) (h := p ++ [o]) (h1 := p ++ [o]) (lo := 0) (n := m) (fun x => ∃ σ2 h2, x = some (.nx σ2 h2) ∧ σ2.length = ns + 4 ∧ σ2[0]? = some (some (.scr zs))) hi (fun _ σ hh => σ.length = ns + 4 ∧ σ[0]? = some (some (.scr zs)) ∧ σ[2]? = some (some (.ref p.length)) ∧ ∃ o, DI o ∧ hh = p ++ [o]) ⟨l1, l2, l3, o, ho, rfl⟩ ?_ ?_
  · rintro σ h ⟨l1, l2, l3, l4⟩
    exact ⟨σ, h, rfl, l1, l2⟩
  · rintro j hj σ hh ⟨l1, l2, l3, o, ho, rfl⟩
    generalize ((0 + j : Nat) : Int) = z
    have l3' : (σ.set 3 (some (.int z)))[2]? = some (some (.ref p.length)) := by rw [set_keep (by omega)]; exact l3
    obtain ⟨o', d', e⟩ := hc (σ.set 3 (some (.int z))) p o ho l3'
    refine ⟨σ.set 3 (some (.int z)), p ++ [o], ?_, σ.set 3 (some (.int z)), p ++ [o'], ?_, ?_, ?_, l3', o', d', rfl⟩
    · simp only [evalT, sto, MV.nol, if_true]
    · simp only [eb_cons, eb_nil, s_ife0, e, exS_ok, truth, thenS_nx]
    · simp [l1]
    · rw [set_keep (by omega)]; exact l2
theorem law_dr {F : Calls} {DI : MO → Prop} {fd : FnD} {dice m ns : Nat} {c : ME} {rest : List MS} (zs : List Int) (hz : zs.length ≤ 63)
    (hb : fd.body = .forr (.var 1) (.r1 (.bi .max2 [.cst (.int 1), .bi .min2 [.cst (.int 8), .bi .len [.var 0]]])) [.asg (.var 2) (.call dice [.var 0, .var 1]), .forr (.var 3) (.r1 (.cst (.int (m : Int)))) [.ife c [.ret (.cst (.bl false))] []]] :: rest)
    (hm : m < 1000) (hnp : fd.np = 1) (hns : fd.ns = ns + 4)
    (hd : ∀ (spot : Nat) (h : Hm), ∃ xs, DI (.lst xs) ∧ pureL xs = true ∧ F dice [.scr zs, .int spot] h = some (.ok (.lst xs) h))
    (hc : AskOk F DI c)
    (hr : ∀ (σ : Loc) (h : Hm), σ.length = fd.ns → ∃ h', execB F rest σ h = some (.rt (.bl true) h')) :
    ∃ h, runFn F fd [.scr zs] [] = some (.ok (.bl true) h) := by
  refine ⟨[], ?_⟩
  have fin : ∀ h, endFn 0 (some (.rt (.bl true) h)) = some (.ok (.bl true) []) := fun h => by
    simp -implicitDefEqProofs only [endFn, handBack, froz, List.take_zero]
  simp -implicitDefEqProofs only [runFn, hnp, List.length_cons, List.length_nil, Nat.zero_add, if_true, stoL, sto, MV.nol, List.map_cons, List.map_nil, List.cons_append, List.nil_append, hb, eb_cons]
  have ev0 : ∀ (σ : Loc) (h : Hm), σ[0]? = some (some (.scr zs)) → evalE F (.var 0) σ h = some (.ok (.scr zs) h) := fun σ h hs => by simp -implicitDefEqProofs only [evalE, hs]
  refine x_forR (fun x => endFn 0 (thenS x fun σ h => execB F rest σ h) = some (.ok (.bl true) [])) (n := max 1 (min 8 zs.length)) (lo := 0) (ei_r1 (h1 := []) ?_ (by omega)) (fun i σ hh => σ.length = ns + 4 ∧ σ[0]? = some (some (.scr zs))) ?_ ?_ ?_
  · simp -implicitDefEqProofs only [e_bi, es_cons, es_nil, e_cst, ev0 _ _ (show (some (MV.scr zs) :: List.replicate (fd.ns - 1) none)[0]? = some (some (.scr zs)) from rfl), bnd_ok]
    have e1 : biV .len [.scr zs] ([] : Hm) = some (.int (zs.length : Int)) := by simp -implicitDefEqProofs only [biV, seq, items, Option.map_some, List.length_map]
    have e2 : biV .min2 [.int 8, .int (zs.length : Int)] ([] : Hm) = some (.int ((min 8 zs.length : Nat) : Int)) := bv_minN 8 _ _
    have e3 : biV .max2 [.int 1, .int ((min 8 zs.length : Nat) : Int)] ([] : Hm) = some (.int ((max 1 (min 8 zs.length) : Nat) : Int)) := bv_maxN 1 _ _
    simp -implicitDefEqProofs only [e1, lift_some, bnd_ok, e2, e3]
  · exact ⟨by simp [hns], rfl⟩
  · rintro σ h ⟨l1, l2⟩
    obtain ⟨h', e⟩ := hr σ h (by omega)
    rw [thenS_nx, e, fin]
  · rintro i hi σ h ⟨l1, l2⟩
    refine ⟨σ.set 1 (some (.int ((0 + i : Nat) : Int))), h, ?_, ?_⟩
    · simp -implicitDefEqProofs only [evalT, sto, MV.nol, if_true]
    · obtain ⟨xs, hx, hp, ed⟩ := hd (0 + i) h
      have v0 : ∀ hh, evalE F (.var 0) (σ.set 1 (some (.int ((0 + i : Nat) : Int)))) hh = some (.ok (.scr zs) hh) := fun hh => ev0 _ hh (by rw [set_keep (by omega)]; exact l2)
      have v1 : ∀ hh, evalE F (.var 1) (σ.set 1 (some (.int ((0 + i : Nat) : Int)))) hh = some (.ok (.int ((0 + i : Nat) : Int)) hh) := fun hh => by
        simp -implicitDefEqProofs only [evalE, List.getElem?_set_self (show 1 < σ.length by omega)]
      have ea : execS F (.asg (.var 2) (.call dice [.var 0, .var 1])) (σ.set 1 (some (.int ((0 + i : Nat) : Int)))) h = some (.nx ((σ.set 1 (some (.int ((0 + i : Nat) : Int)))).set 2 (some (.ref h.length))) (h ++ [.lst xs])) := by
        simp -implicitDefEqProofs only [s_asg0, e_call, es_cons, es_nil, v0, v1, bnd_ok, ed, exS_ok, evalT, sto, hp, if_true]
      have key : ∃ σ2 h2, execS F (.forr (.var 3) (.r1 (.cst (.int (m : Int)))) [.ife c [.ret (.cst (.bl false))] []]) ((σ.set 1 (some (.int ((0 + i : Nat) : Int)))).set 2 (some (.ref h.length))) (h ++ [.lst xs]) = some (.nx σ2 h2) ∧ σ2.length = ns + 4 ∧ σ2[0]? = some (some (.scr zs)) := by
        exact inner_ok zs hm hc (by simp [l1]) (by rw [set_keep (by omega), set_keep (by omega)]; exact l2) (by rw [List.getElem?_set_self (by simp; omega)]) hx
      obtain ⟨σ2, h2, e2, q1, q2⟩ := key
      refine ⟨σ2, h2, ?_, q1, q2⟩
      simp -implicitDefEqProofs only [eb_cons, eb_nil, ea, thenS_nx, e2]
/-- what stands behind the loop, tried by the kernel with nothing known -/
theorem rest_ok {F F' : Calls} (hF : ∀ h0, TrF h0 F F') {b : List MS} {n : Nat} {t : Hm} (hc : clB b = true) (e : execB F b (List.replicate n none) [] = some (.rt (.bl true) t)) (σ : Loc) (h : Hm) (hl : σ.length = n) : ∃ h', execB F' b σ h = some (.rt (.bl true) h') := by
  have s : Sl h.length (List.replicate n none) σ := ⟨by simp [hl], fun i v e => by
    rw [List.getElem?_replicate] at e
    split at e <;> cases e⟩
  obtain ⟨σ', e1, _, _⟩ := trB (h0 := h) (hF h) hc s HP.nil _ e
  rw [List.append_nil] at e1
  exact ⟨_, e1⟩
def isTrue : Option SRes → Bool
  | some (.rt (.bl true) _) => true
  | _ => false
theorem rest_ok' {F F' : Calls} (hF : ∀ h0, TrF h0 F F') {b : List MS} {n : Nat} (hc : clB b = true) (e : isTrue (execB F b (List.replicate n none) []) = true) (σ : Loc) (h : Hm) (hl : σ.length = n) : ∃ h', execB F' b σ h = some (.rt (.bl true) h') := by
  unfold isTrue at e
  split at e
  · rename_i t ht
    exact rest_ok hF hc ht σ h hl
  · cases e
end Mi

/-! Mi22: the tries in pieces, so that the kernel holds less at a time. -/
namespace Mi
open PySem
/-- every run of the steps from what a state stands for ends with True -/
def Good (F' : Calls) (d : Dr) (DI : MO → Prop) (cs : List Cm) (s : NSt) : Prop := ∀ (σ : Loc) (p g : Hm) (o : MO), DI o → σ[0]? = some (some (.ref p.length)) → NR (p ++ o :: g).length s σ → HP s.t →
  ∃ o' e, DI o' ∧ execB F' (msC d cs) σ (p ++ o :: (g ++ s.t)) = some (.rt (.bl true) (p ++ o' :: (g ++ e)))
def toC (F : Calls) : List Cm → List NSt → Option (List NSt)
  | [], sts => some sts
  | .sg g :: r, sts => match stepsC F g sts with
    | some l => toC F r l
    | none => none
  | .res i :: r, sts => toC F r (sts.flatMap (resS i))
  | .kill is :: r, sts => match dd (sts.map (kill is)) with
    | l => toC F r l
  | .pend is :: r, sts => match rowsD is sts with
    | some rows => match dd (sts.map (pendS is rows)) with
      | l => toC F r l
    | none => none
/-- the steps lead into these states -/
def toIn (F : Calls) (cs : List Cm) (sts l : List NSt) : Bool := match toC F cs sts with
  | some l' => l'.all fun s => l.any (eqS s)
  | none => false
section
variable {F F' : Calls} {d : Dr} {DI : MO → Prop} (hF : ∀ h0, TrF h0 F F') (hD : DrOk F' d DI)
include hF hD in
theorem toC_ok {c2 : List Cm} : ∀ {cs : List Cm} {sts l : List NSt}, toC F cs sts = some l → (∀ s ∈ l, Good F' d DI c2 s) → ∀ s ∈ sts, Good F' d DI (cs ++ c2) s
  | [], sts, l, e, hl, s, m => by
    cases e
    exact hl s m
  | .sg c :: r, sts, l, e, hl, s, m => fun σ p g o hd h0 nr hp => by
    simp only [toC] at e
    split at e
    · rename_i l2 h2
      obtain ⟨l1, h1, q⟩ := stepsC_of h2 m
      rcases step_ok hF hD hd h0 nr hp h1 with ⟨s', σ', o', m', d', z', n', p', ee⟩ | ⟨o', x, d', ee⟩
      · obtain ⟨o2, x, d2, e2⟩ := toC_ok e hl s' (q s' m') σ' p g o' d' z' n' p'
        refine ⟨o2, x, d2, ?_⟩
        simp only [List.cons_append, msC, Cm.ms, List.nil_append, eb_cons, ee, thenS_nx]
        exact e2
      · refine ⟨o', x, d', ?_⟩
        simp only [List.cons_append, msC, Cm.ms, List.nil_append, eb_cons, ee, thenS_rt]
    · cases e
  | .res i :: r, sts, l, e, hl, s, m => fun σ p g o hd h0 nr hp => by
    simp only [toC] at e
    obtain ⟨s', m', n', t'⟩ := resS_ok (i := i) nr
    obtain ⟨o2, x, d2, e2⟩ := toC_ok e hl s' (List.mem_flatMap.mpr ⟨s, m, m'⟩) σ p g o hd h0 n' (t' ▸ hp)
    rw [t'] at e2
    exact ⟨o2, x, d2, e2⟩
  | .kill is :: r, sts, l, e, hl, s, m => fun σ p g o hd h0 nr hp => by
    simp only [toC] at e
    obtain ⟨g', x, e1, n', p', rfl⟩ := kill_ok (is := is) nr hp
    obtain ⟨o2, y, d2, e2⟩ := toC_ok e hl (kill is s) (dd_ok (List.mem_map.mpr ⟨s, m, rfl⟩)) σ p (g ++ x) o hd h0 n' p'
    refine ⟨o2, x ++ y, d2, ?_⟩
    rw [e1, ← List.append_assoc g x y]
    exact e2
  | .pend is :: r, sts, l, e, hl, s, m => fun σ p g o hd h0 nr hp => by
    simp only [toC] at e
    split at e
    · rename_i rows hr
      obtain ⟨g', x, e1, n', p', rfl⟩ := pend_ok hr m nr hp
      obtain ⟨o2, y, d2, e2⟩ := toC_ok e hl (pendS is rows s) (dd_ok (List.mem_map.mpr ⟨s, m, rfl⟩)) σ p (g ++ x) o hd h0 n' p'
      refine ⟨o2, x ++ y, d2, ?_⟩
      rw [e1, ← List.append_assoc g x y]
      exact e2
    · cases e
include hF hD in
theorem toIn_ok {cs c2 : List Cm} {sts l : List NSt} (e : toIn F cs sts l = true) (hl : ∀ s ∈ l, Good F' d DI c2 s) : ∀ s ∈ sts, Good F' d DI (cs ++ c2) s := by
  unfold toIn at e
  split at e
  · rename_i l' h'
    refine toC_ok hF hD h' fun s m => ?_
    obtain ⟨y, hy, e1⟩ := List.any_eq_true.mp (List.all_eq_true.mp e s m)
    rw [eqS_ok e1]
    exact hl y hy
  · cases e
/-- nothing is left to be done but what has ended -/
theorem good_nil {s : NSt} {P : Prop} : (∀ s ∈ ([] : List NSt), Good F' d DI [] s) := fun s m => nomatch m
end
/-- a list by its pieces of n -/
theorem pieces {α : Type} {s : α} (n : Nat) (hn : 1 ≤ n) : ∀ (m : Nat) (l : List α), l.length ≤ n * m → s ∈ l → ∃ i, i < m ∧ s ∈ (l.drop (n * i)).take n
  | 0, l, hl, hs => by
    rw [Nat.mul_zero] at hl
    rw [List.length_eq_zero_iff.mp (Nat.le_zero.mp hl)] at hs
    cases hs
  | m + 1, l, hl, hs => by
    rw [← List.take_append_drop n l] at hs
    rcases List.mem_append.mp hs with h | h
    · exact ⟨0, by omega, by rw [Nat.mul_zero, List.drop_zero]; exact h⟩
    · obtain ⟨i, hi, h⟩ := pieces n hn m (l.drop n) (by rw [List.length_drop]; rw [Nat.mul_succ] at hl; omega) h
      exact ⟨i + 1, by omega, by rw [List.drop_drop] at h; rw [Nat.mul_succ, Nat.add_comm]; exact h⟩
/-- the states behind the first steps, each piece tried apart -/
theorem parts_ok {F F' : Calls} {d : Dr} {DI : MO → Prop} (hF : ∀ h0, TrF h0 F F') (hD : DrOk F' d DI) {c1 c2 c3 : List Cm} {sts l : List NSt} (n m : Nat) (hn : 1 ≤ n)
    (h1 : (match toC F c1 sts with
      | some l1 => decide (l1.length ≤ n * m)
      | none => false) = true)
    (h2 : ∀ i, i < m → toIn F c2 ((((toC F c1 sts).getD []).drop (n * i)).take n) l = true) (hl : ∀ s ∈ l, Good F' d DI c3 s) : ∀ s ∈ sts, Good F' d DI (c1 ++ (c2 ++ c3)) s := by
  split at h1
  · rename_i l1 e1
    have h1 := of_decide_eq_true h1
    refine toC_ok hF hD e1 fun s hs => ?_
    obtain ⟨i, hi, hm⟩ := pieces n hn m l1 h1 hs
    have := h2 i hi
    rw [e1] at this
    exact toIn_ok hF hD this hl s hm
  · cases h1
/-- a def of one parameter, the dice, that runs so hands back True -/
theorem right_good {P : List FnD} {k f : Nat} {fd : FnD} (hf : P[f]? = some fd) {d : Dr} {DI : MO → Prop} (cs : List Cm) (hb : fd.body = msC d cs) (hn : fd.np = 1) (hs : 1 ≤ fd.ns) (hc : Good (calls P k) d DI cs ⟨List.replicate fd.ns none, [], []⟩) (p g : Hm) (o : MO) (hd : DI o) :
    ∃ o', DI o' ∧ calls P (k + 1) f [.ref p.length] (p ++ o :: g) = some (.ok (.bl true) (p ++ o' :: g)) := by
  obtain ⟨n, hn'⟩ : ∃ n, fd.ns = n + 1 := ⟨fd.ns - 1, by omega⟩
  have nr : NR (p ++ o :: g).length ⟨List.replicate fd.ns none, [], []⟩ (some (.ref p.length) :: List.replicate (fd.ns - 1) none) := by
    refine ⟨⟨by simp [hn'], fun i v e => ?_⟩, fun q hq => nomatch hq⟩
    rw [List.getElem?_replicate] at e
    split at e <;> cases e
  obtain ⟨o', e, d', he⟩ := hc (some (.ref p.length) :: List.replicate (fd.ns - 1) none) p g o hd rfl nr HP.nil
  refine ⟨o', d', ?_⟩
  simp only [List.append_nil] at he
  have ht : (p ++ o' :: (g ++ e)).take (p ++ o :: g).length = p ++ o' :: g := by
    have : (p ++ o :: g).length = (p ++ o' :: g).length := hlen _ _ _ _
    rw [this, show p ++ o' :: (g ++ e) = (p ++ o' :: g) ++ e by simp, List.take_left]
  simp only [calls, hf, runFn, hn, List.length_cons, List.length_nil, Nat.zero_add, if_true, stoL, sto, MV.nol, List.map_cons, List.map_nil, List.cons_append, List.nil_append, hb, he, endFn, handBack, froz, ht]
end Mi

/-! MiD: the evaluator once more, in small pieces, so that the kernel runs it faster. -/
namespace Mi
open PySem
abbrev DE := Calls → Loc → Hm → RO MV
abbrev DEs := Calls → Loc → Hm → RO (List MV)
abbrev DO := Calls → Loc → Hm → RO (Option Int)
abbrev DC := Calls → Loc → Hm → RO Bool
abbrev DT := Calls → MV → Loc → Hm → Option (Loc × Hm)
abbrev DTs := Calls → List MV → Loc → Hm → Option (Loc × Hm)
abbrev DIt := Calls → Loc → Hm → RO Src
abbrev DS := Calls → Loc → Hm → Option SRes
/-! ### loops over what stands still, each item once -/
def enuL : Nat → List MV → List MV
  | _, [] => []
  | i, x :: r => .tup [.int (i : Int), x] :: enuL (i + 1) r
def zipL : List MV → List MV → List MV
  | x :: r, y :: q => .tup [x, y] :: zipL r q
  | _, _ => []
def Cmp.stat : Cmp → Option (List MV)
  | .tv vs => if vs.all nl then some vs else none
  | .lv vs => if vs.all nl then some vs else none
  | .at_ _ => none
def Src.stat : Src → Option (List MV)
  | .one c => c.stat
  | .rg vs => if vs.all nl then some vs else none
  | .enu c => match c.stat with
    | some vs => some (enuL 0 vs)
    | none => none
  | .zip c d => match c.stat, d.stat with
    | some vs, some ws => some (zipL vs ws)
    | _, _ => none
theorem nthU_nl {vs : List MV} (h : vs.all nl = true) (i : Nat) : nthU vs[i]? = some vs[i]? := by
  cases e : vs[i]? with
  | none => rfl
  | some x =>
    have := List.all_eq_true.mp h x (List.mem_of_getElem? e)
    cases x <;> first | rfl | (simp only [nl] at this; cases this)
theorem Cmp.stat_nth {c : Cmp} {vs : List MV} (e : c.stat = some vs) (i : Nat) (h : Hm) : c.nth i h = some vs[i]? ∧ c.len h = vs.length := by
  cases c with
  | tv ws =>
    simp only [Cmp.stat] at e
    split at e
    · rename_i hn; cases e; exact ⟨nthU_nl hn i, rfl⟩
    · cases e
  | lv ws =>
    simp only [Cmp.stat] at e
    split at e
    · rename_i hn; cases e; exact ⟨nthU_nl hn i, rfl⟩
    · cases e
  | at_ n => simp only [Cmp.stat] at e; cases e
theorem enuL_get : ∀ (vs : List MV) (j i : Nat), (enuL j vs)[i]? = vs[i]?.map fun x => .tup [.int ((j + i : Nat) : Int), x]
  | [], j, i => by simp [enuL]
  | x :: r, j, 0 => by simp [enuL]
  | x :: r, j, i + 1 => by
    rw [enuL, List.getElem?_cons_succ, List.getElem?_cons_succ, enuL_get r (j + 1) i, show j + 1 + i = j + (i + 1) by omega]
theorem enuL_len : ∀ (vs : List MV) (j : Nat), (enuL j vs).length = vs.length
  | [], j => rfl
  | x :: r, j => by rw [enuL, List.length_cons, List.length_cons, enuL_len r]
theorem zipL_get : ∀ (vs ws : List MV) (i : Nat), (zipL vs ws)[i]? = match vs[i]?, ws[i]? with
    | some x, some y => some (.tup [x, y])
    | _, _ => none
  | [], ws, i => by simp [zipL]
  | x :: r, [], i => by
    simp only [zipL, List.getElem?_nil]
    cases (x :: r)[i]? <;> rfl
  | x :: r, y :: q, 0 => rfl
  | x :: r, y :: q, i + 1 => by
    rw [zipL, List.getElem?_cons_succ, List.getElem?_cons_succ, List.getElem?_cons_succ, zipL_get r q i]
theorem zipL_len : ∀ (vs ws : List MV), (zipL vs ws).length = min vs.length ws.length
  | [], ws => by simp [zipL]
  | x :: r, [] => by simp [zipL]
  | x :: r, y :: q => by rw [zipL, List.length_cons, List.length_cons, List.length_cons, zipL_len r q]; omega
theorem Src.stat_nth {s : Src} {vs : List MV} (e : s.stat = some vs) (i : Nat) (h : Hm) : s.nth i h = some vs[i]? ∧ s.len h = vs.length := by
  cases s with
  | one c => exact Cmp.stat_nth e i h
  | rg ws =>
    simp only [Src.stat] at e
    split at e
    · rename_i hn; cases e; exact ⟨nthU_nl hn i, rfl⟩
    · cases e
  | enu c =>
    simp only [Src.stat] at e
    split at e
    · rename_i ws hw
      cases e
      obtain ⟨h1, h2⟩ := Cmp.stat_nth hw i h
      refine ⟨?_, ?_⟩
      · simp only [Src.nth, h1, Option.map_some, enuL_get, Nat.zero_add]
      · simp only [Src.len, h2, enuL_len]
    · cases e
  | zip c d =>
    simp only [Src.stat] at e
    split at e
    · rename_i ws us hw hu
      cases e
      obtain ⟨h1, h2⟩ := Cmp.stat_nth hw i h
      obtain ⟨h3, h4⟩ := Cmp.stat_nth hu i h
      refine ⟨?_, ?_⟩
      · simp only [Src.nth, h1, h3, zipL_get]
        cases ws[i]? <;> cases us[i]? <;> rfl
      · simp only [Src.len, h2, h4, zipL_len]
    · cases e
def iterFS (g : MV → Loc → Hm → Option (Loc × Hm)) (b : Loc → Hm → Option SRes) : List MV → Loc → Hm → Option SRes
  | [], σ, h => some (.nx σ h)
  | v :: r, σ, h => match g v σ h with
    | some (σ1, h1) => match b σ1 h1 with
      | some (.nx σ2 h2) => iterFS g b r σ2 h2
      | some (.ct σ2 h2) => iterFS g b r σ2 h2
      | some (.bk σ2 h2) => some (.nx σ2 h2)
      | r => r
    | none => none
theorem iterFS_eq {s : Src} {vs : List MV} (e : s.stat = some vs) (g : MV → Loc → Hm → Option (Loc × Hm)) (b : Loc → Hm → Option SRes) : ∀ (m i : Nat) (σ : Loc) (h : Hm), vs.length - i < m → i ≤ vs.length → iterF s g b m i σ h = iterFS g b (vs.drop i) σ h
  | 0, i, σ, h, hm, _ => by omega
  | m + 1, i, σ, h, hm, hi => by
    simp only [iterF, (Src.stat_nth e i h).1]
    by_cases hl : i < vs.length
    · rw [List.getElem?_eq_getElem hl, List.drop_eq_getElem_cons hl, iterFS]
      simp only
      cases g vs[i] σ h with
      | none => rfl
      | some q =>
        obtain ⟨σ1, h1⟩ := q
        simp only
        cases b σ1 h1 with
        | none => rfl
        | some x =>
          cases x with
          | nx σ2 h2 => exact iterFS_eq e g b m (i + 1) σ2 h2 (by omega) hl
          | ct σ2 h2 => exact iterFS_eq e g b m (i + 1) σ2 h2 (by omega) hl
          | rt v h2 => rfl
          | bk σ2 h2 => rfl
          | ex z σ2 h2 => rfl
    · rw [List.getElem?_eq_none (by omega), List.drop_eq_nil_of_le (by omega), iterFS]
def iterFD (s : Src) (g : MV → Loc → Hm → Option (Loc × Hm)) (b : Loc → Hm → Option SRes) (σ : Loc) (h : Hm) : Option SRes := match s.stat with
  | some vs => iterFS g b vs σ h
  | none => iterF s g b (s.len h + 1) 0 σ h
theorem iterFD_eq (s : Src) (g : MV → Loc → Hm → Option (Loc × Hm)) (b : Loc → Hm → Option SRes) (σ : Loc) (h : Hm) : iterFD s g b σ h = iterF s g b (s.len h + 1) 0 σ h := by
  unfold iterFD
  split
  · rename_i vs e
    rw [iterFS_eq e g b _ 0 σ h (by rw [(Src.stat_nth e 0 h).2]; omega) (Nat.zero_le _), List.drop_zero]
  · rfl
def iterCS (g : MV → Hm → Option (Loc × Hm)) (c : Loc → Hm → RO Bool) (e : Loc → Hm → RO MV) : List MV → Nat → List MV → Hm → RO (List MV)
  | [], _, acc, h => some (.ok acc.reverse h)
  | v :: r, k, acc, h => match g v h with
    | some (σ1, h1) => bnd (noX (c σ1 h1)) fun t h2 => match t with
      | true => bnd (noX (e σ1 h2)) fun y h3 => if k < sizeMax ∧ (frz y).nol = true then iterCS g c e r (k + 1) (frz y :: acc) h3 else none
      | false => iterCS g c e r k acc h2
    | none => none
theorem iterCS_eq {s : Src} {vs : List MV} (es : s.stat = some vs) (g : MV → Hm → Option (Loc × Hm)) (c : Loc → Hm → RO Bool) (e : Loc → Hm → RO MV) : ∀ (m i : Nat) (acc : List MV) (h : Hm), vs.length - i < m → i ≤ vs.length → iterC s g c e m i acc h = iterCS g c e (vs.drop i) acc.length acc.reverse h
  | 0, i, acc, h, hm, _ => by omega
  | m + 1, i, acc, h, hm, hi => by
    simp only [iterC, (Src.stat_nth es i h).1]
    by_cases hl : i < vs.length
    · rw [List.getElem?_eq_getElem hl, List.drop_eq_getElem_cons hl, iterCS]
      simp only
      cases g vs[i] h with
      | none => rfl
      | some q =>
        obtain ⟨σ1, h1⟩ := q
        simp only
        congr 1
        funext t h2
        cases t with
        | false => exact iterCS_eq es g c e m (i + 1) acc h2 (by omega) hl
        | true =>
          simp only
          congr 1
          funext y h3
          have ih := iterCS_eq es g c e m (i + 1) (acc ++ [frz y]) h3 (by omega) hl
          rw [ih]
          simp only [List.length_append, List.length_cons, List.length_nil, Nat.zero_add, List.reverse_append, List.reverse_cons, List.reverse_nil, List.nil_append, List.cons_append]
    · rw [List.getElem?_eq_none (by omega), List.drop_eq_nil_of_le (by omega), iterCS, List.reverse_reverse]
def iterCD (s : Src) (g : MV → Hm → Option (Loc × Hm)) (c : Loc → Hm → RO Bool) (e : Loc → Hm → RO MV) (h : Hm) : RO (List MV) := match s.stat with
  | some vs => iterCS g c e vs 0 [] h
  | none => iterC s g c e (s.len h + 1) 0 [] h
theorem iterCD_eq (s : Src) (g : MV → Hm → Option (Loc × Hm)) (c : Loc → Hm → RO Bool) (e : Loc → Hm → RO MV) (h : Hm) : iterCD s g c e h = iterC s g c e (s.len h + 1) 0 [] h := by
  unfold iterCD
  split
  · rename_i vs es
    rw [iterCS_eq es g c e _ 0 [] h (by rw [(Src.stat_nth es 0 h).2]; omega) (Nat.zero_le _), List.drop_zero]
    rfl
  · rfl
def dE_var (i : Nat) : DE := fun F σ h => match σ[i]? with
    | some (some v) => some (.ok v h)
    | _ => none
def dE_cst (v : MV) : DE := fun F _ h => some (.ok v h)
def dE_bin (op : BO) (a : DE) (b : DE) : DE := fun F σ h => bnd (a F σ h) fun x h1 => bnd (b F σ h1) fun y h2 => lift (bop op x y h2) h2
def dE_neg (a : DE) : DE := fun F σ h => bnd (a F σ h) fun x h1 => match x with
    | .int i => some (.ok (.int (-i)) h1)
    | _ => none
def dE_not (a : DE) : DE := fun F σ h => bnd (a F σ h) fun x h1 => match truth h1 x with
    | some b => some (.ok (.bl (!b)) h1)
    | none => none
def dE_and (a : DE) (b : DE) : DE := fun F σ h => bnd (a F σ h) fun x h1 => match truth h1 x with
    | some true => b F σ h1
    | some false => some (.ok x h1)
    | none => none
def dE_or (a : DE) (b : DE) : DE := fun F σ h => bnd (a F σ h) fun x h1 => match truth h1 x with
    | some true => some (.ok x h1)
    | some false => b F σ h1
    | none => none
def dE_ite (c : DE) (a : DE) (b : DE) : DE := fun F σ h => bnd (c F σ h) fun x h1 => match truth h1 x with
    | some true => a F σ h1
    | some false => b F σ h1
    | none => none
def dE_cmp (op : CO) (a : DE) (b : DE) : DE := fun F σ h => bnd (a F σ h) fun x h1 => bnd (b F σ h1) fun y h2 => lift ((cop op x y h2).map .bl) h2
def dE_chn (o1 : CO) (o2 : CO) (a : DE) (b : DE) (c : DE) : DE := fun F σ h => bnd (a F σ h) fun x h1 => bnd (b F σ h1) fun y h2 => match cop o1 x y h2 with
    | some true => bnd (c F σ h2) fun z h3 => lift ((cop o2 y z h3).map .bl) h3
    | some false => some (.ok (.bl false) h2)
    | none => none
def dE_tup (es : DEs) : DE := fun F σ h => bnd (es F σ h) fun vs h1 => some (.ok (.tup (vs.map frz)) h1)
def dE_lst (es : DEs) : DE := fun F σ h => bnd (es F σ h) fun vs h1 => some (.ok (.lst (vs.map frz)) h1)
def dE_ix (a : DE) (b : DE) : DE := fun F σ h => bnd (a F σ h) fun x h1 => bnd (b F σ h1) fun y h2 => lift (ixV x y h2) h2
def dE_sl (a : DE) (lo : DO) (hi : DO) : DE := fun F σ h => bnd (a F σ h) fun x h1 => bnd (lo F σ h1) fun i h2 => bnd (hi F σ h2) fun j h3 => lift (slV x i j h3) h3
def dE_rev (a : DE) : DE := fun F σ h => bnd (a F σ h) fun x h1 => match items h1 x with
    | some xs => some (.ok (.lst xs.reverse) h1)
    | none => none
def dE_call (f : Nat) (es : DEs) : DE := fun F σ h => bnd (es F σ h) fun vs h1 => F f vs h1
def dE_bi (b : BI) (es : DEs) : DE := fun F σ h => bnd (es F σ h) fun vs h1 => lift (biV b vs h1) h1
def dE_isi (a : DE) (ts : List TyN) : DE := fun F σ h => bnd (a F σ h) fun x h1 => match ts.mapM (isTy h1 x) with
    | some bs => some (.ok (.bl (bs.any id)) h1)
    | none => none
def dE_meth (m : LM) (o : DE) (es : DEs) : DE := fun F σ h => bnd (o F σ h) fun x h1 => match itemsL h1 x with
    | some _ => bnd (es F σ h1) fun vs h2 => match methV m x vs h2 with
      | some (v, h3) => some (.ok v h3)
      | none => none
    | none => none
def dE_lc (own : List Nat) (tg : DT) (it : DIt) (c : DC) (elt : DE) : DE := fun F σ h => bnd (it F σ h) fun s h1 => bnd (iterCD s (fun v h => tg F v (wipeL σ own) h)
      (fun σ h => c F σ h) (fun σ h => elt F σ h) h1) fun acc h2 => some (.ok (.lst acc) h2)
def dE_edc : DE := fun F _ h => some (.ok .edc h)
def dE_slst (a : DE) (st : DE) : DE := fun F σ h => bnd (a F σ h) fun x h1 => bnd (st F σ h1) fun y h2 => match x, y with
    | .tup xs, .int k => if 1 ≤ k ∧ k < 1073741824 ∧ xs.length ≤ sizeMax then some (.ok (.tup (stepOf xs k.toNat)) h2) else none
    | _, _ => none
def dE_lrg (a : DO) (b : DE) : DE := fun F σ h => bnd (a F σ h) fun o h1 => bnd (b F σ h1) fun y h2 => match y with
    | .int j => if small (o.getD 0) ∧ small j ∧ (j - o.getD 0).toNat ≤ 16777216 then some (.ok (.lst (rng (o.getD 0) (j - o.getD 0).toNat)) h2) else none
    | _ => none
def dE_callv (i : Nat) (es : DEs) : DE := fun F σ h => match σ[i]? with
    | some (some (.fn f)) => bnd (es F σ h) fun vs h1 => F f vs h1
    | _ => none
def dE_lam : DE := fun F _ h => some (.ok .any h)
def dE_mk (c : Nat) (es : DEs) : DE := fun F σ h => bnd (es F σ h) fun vs h1 => lift (mkV c vs) h1
def dE_fld (e : DE) (i : Nat) (c : Nat) : DE := fun F σ h => bnd (e F σ h) fun x h1 => lift (fldV i c x) h1
def dE_isf (e : DE) (c : Nat) : DE := fun F σ h => bnd (e F σ h) fun x h1 => lift ((isfV c x h1).map .bl) h1
def dE_met (hs : List Hd) (nt : Str) (e : DE) : DE := fun F σ h => match e F σ h with
    | some (.ok _ h1) => some (.ok (.str nt) h1)
    | some (.ex x h1) => lift (metV hs x h1) h1
    | none => none
def dE_chn3 (o1 : CO) (o2 : CO) (o3 : CO) (a : DE) (b : DE) (c : DE) (d : DE) : DE := fun F σ h => bnd (a F σ h) fun x h1 => bnd (b F σ h1) fun y h2 => match cop o1 x y h2 with
    | some true => bnd (c F σ h2) fun z h3 => match cop o2 y z h3 with
      | some true => bnd (d F σ h3) fun u h4 => lift ((cop o3 z u h4).map .bl) h4
      | some false => some (.ok (.bl false) h3)
      | none => none
    | some false => some (.ok (.bl false) h2)
    | none => none
def dEs_nil : DEs := fun F _ h => some (.ok [] h)
def dEs_cons (e : DE) (es : DEs) : DEs := fun F σ h => bnd (e F σ h) fun v h1 => bnd (es F σ h1) fun vs h2 => some (.ok (v :: vs) h2)
def dO_none : DO := fun F _ h => some (.ok none h)
def dO_some (e : DE) : DO := fun F σ h => bnd (e F σ h) fun v h1 => match v with
    | .int i => some (.ok (some i) h1)
    | _ => none
def dC_none : DC := fun F _ h => some (.ok true h)
def dC_some (e : DE) : DC := fun F σ h => bnd (e F σ h) fun v h1 => lift (truth h1 v) h1
def dT_var (i : Nat) : DT := fun F v σ h => match sto v h with
    | some (w, h1) => some (σ.set i (some w), h1)
    | none => none
def dT_tup (n : Nat) (ts : DTs) : DT := fun F v σ h => match seq h v with
    | some xs => if xs.length = n ∧ xs.all nl = true then ts F xs σ h else none
    | none => none
def dT_sub (a : DE) (i : DE) : DT := fun F v σ h => match a F σ h with
    | some (.ok x h1) => match i F σ h1 with
      | some (.ok y h2) => match setSub x y (frz v) h2 with
        | some h3 => some (σ, h3)
        | none => none
      | _ => none
    | _ => none
def dI_ex (a : DE) : DIt := fun F σ h => bnd (a F σ h) fun x h1 => lift ((cmpOf x h1).map .one) h1
def dI_r1 (a : DE) : DIt := fun F σ h => bnd (a F σ h) fun x h1 => match x with
    | .int j => if small j then some (.ok (.rg (rng 0 j.toNat)) h1) else none
    | _ => none
def dI_r2 (a : DE) (b : DE) : DIt := fun F σ h => bnd (a F σ h) fun x h1 => bnd (b F σ h1) fun y h2 => match x, y with
    | .int i, .int j => if small i && small j then some (.ok (.rg (rng i (j - i).toNat)) h2) else none
    | _, _ => none
def dI_r3 (a : DE) (b : DE) (c : DE) : DIt := fun F σ h => bnd (a F σ h) fun x h1 => bnd (b F σ h1) fun y h2 => bnd (c F σ h2) fun z h3 => match x, y, z with
    | .int i, .int j, .int k => if small i && small j && decide (k ≠ 0) && decide (k.natAbs < 1073741824) && Builtin.Range.small i j k && decide (0 ≤ Builtin.Range.rangeSize i j k) then some (.ok (.rg (rngC i k (rngN i j k))) h3) else none
    | _, _, _ => none
def dI_enu (a : DE) : DIt := fun F σ h => bnd (a F σ h) fun x h1 => lift ((cmpOf x h1).map .enu) h1
def dI_zip (a : DE) (b : DE) : DIt := fun F σ h => bnd (a F σ h) fun x h1 => bnd (b F σ h1) fun y h2 => match cmpOf x h2, cmpOf y h2 with
    | some c, some d => if c.isL = d.isL then some (.ok (.zip c d) h2) else none
    | _, _ => none
def dS_asg (t : DT) (e : DE) : DS := fun F σ h => exS σ (e F σ h) fun v h1 => match t F v σ h1 with
    | some (σ1, h2) => some (.nx σ1 h2)
    | none => none
def dS_par (is : List Nat) (es : DEs) : DS := fun F σ h => exS σ (es F σ h) fun vs h1 => match stoAll is vs σ h1 with
    | some (σ1, h2) => some (.nx σ1 h2)
    | none => none
def dS_aug (i : Nat) (op : BO) (e : DE) : DS := fun F σ h => match σ[i]? with
    | some (some x) => exS σ (e F σ h) fun y h1 => match augV op x y h1 with
      | some v => some (.nx (σ.set i (some v)) h1)
      | none => none
    | _ => none
def dS_augS (a : DE) (i : DE) (op : BO) (e : DE) : DS := fun F σ h => exS σ (a F σ h) fun o h1 => exS σ (i F σ h1) fun k h2 => match getSub o k h2 with
    | some x => exS σ (e F σ h2) fun y h3 => match augV op x y h3 with
      | some v => match setSub o k v h3 with
        | some h4 => some (.nx σ h4)
        | none => none
      | none => none
    | none => none
def dS_expr (e : DE) : DS := fun F σ h => exS σ (e F σ h) fun _ h1 => some (.nx σ h1)
def dS_ret (e : DE) : DS := fun F σ h => exS σ (e F σ h) fun v h1 => some (.rt v h1)
def dS_retN : DS := fun F _ h => some (.rt .non h)
def dS_ife (c : DE) (a : DS) (b : DS) : DS := fun F σ h => exS σ (c F σ h) fun x h1 => match truth h1 x with
    | some true => a F σ h1
    | some false => b F σ h1
    | none => none
def dS_whl (c : DE) (b : DS) : DS := fun F σ h => iterW (fun σ h => dC_some c F σ h) (fun σ h => b F σ h) iterMax σ h
def dS_forr (t : DT) (it : DIt) (b : DS) : DS := fun F σ h => exS σ (it F σ h) fun s h1 => iterFD s (fun v σ h => t F v σ h) (fun σ h => b F σ h) σ h1
def dS_pass : DS := fun F σ h => some (.nx σ h)
def dS_brk : DS := fun F σ h => some (.bk σ h)
def dS_cnt : DS := fun F σ h => some (.ct σ h)
def dS_nev : DS := fun F _ _ => none
def dS_rse0 (c : Nat) : DS := fun F σ h => some (.ex ⟨c, none⟩ σ h)
def dS_rse1 (c : Nat) (a : DE) : DS := fun F σ h => exS σ (a F σ h) fun v h1 => some (.ex ⟨c, some (frz v)⟩ σ h1)
def dB_nil : DS := fun F σ h => some (.nx σ h)
def dB_cons (s : DS) (r : DS) : DS := fun F σ h => thenS (s F σ h) fun σ1 h1 => r F σ1 h1
def dTs_nil : DTs := fun F vs σ h => match vs with
  | [] => some (σ, h)
  | _ :: _ => some (σ, h)
def dTs_cons (t : DT) (ts : DTs) : DTs := fun F vs σ h => match vs with
  | [] => none
  | x :: xs => match t F x σ h with
    | some (σ1, h1) => ts F xs σ1 h1
    | none => none
mutual
def dE : ME → DE
  | .var i => dE_var i
  | .cst v => dE_cst v
  | .bin op a b => dE_bin op (dE a) (dE b)
  | .neg a => dE_neg (dE a)
  | .not a => dE_not (dE a)
  | .and a b => dE_and (dE a) (dE b)
  | .or a b => dE_or (dE a) (dE b)
  | .ite c a b => dE_ite (dE c) (dE a) (dE b)
  | .cmp op a b => dE_cmp op (dE a) (dE b)
  | .chn o1 o2 a b c => dE_chn o1 o2 (dE a) (dE b) (dE c)
  | .tup es => dE_tup (dEs es)
  | .lst es => dE_lst (dEs es)
  | .ix a b => dE_ix (dE a) (dE b)
  | .sl a lo hi => dE_sl (dE a) (dO lo) (dO hi)
  | .rev a => dE_rev (dE a)
  | .call f es => dE_call f (dEs es)
  | .bi b es => dE_bi b (dEs es)
  | .isi a ts => dE_isi (dE a) ts
  | .meth m o es => dE_meth m (dE o) (dEs es)
  | .lc own tg it c elt => dE_lc own (dT tg) (dI it) (dC c) (dE elt)
  | .edc => dE_edc
  | .slst a st => dE_slst (dE a) (dE st)
  | .lrg a b => dE_lrg (dO a) (dE b)
  | .callv i es => dE_callv i (dEs es)
  | .lam => dE_lam
  | .mk c es => dE_mk c (dEs es)
  | .fld e i c => dE_fld (dE e) i c
  | .isf e c => dE_isf (dE e) c
  | .met hs nt e => dE_met hs nt (dE e)
  | .chn3 o1 o2 o3 a b c d => dE_chn3 o1 o2 o3 (dE a) (dE b) (dE c) (dE d)
def dEs : List ME → DEs
  | [] => dEs_nil
  | e :: es => dEs_cons (dE e) (dEs es)
def dO : Option ME → DO
  | none => dO_none
  | some e => dO_some (dE e)
def dC : Option ME → DC
  | none => dC_none
  | some e => dC_some (dE e)
def dT : MT → DT
  | .var i => dT_var i
  | .tup ts => dT_tup ts.length (dTs ts)
  | .sub a i => dT_sub (dE a) (dE i)
def dTs : List MT → DTs
  | [] => dTs_nil
  | t :: ts => dTs_cons (dT t) (dTs ts)
def dI : MI → DIt
  | .ex a => dI_ex (dE a)
  | .r1 a => dI_r1 (dE a)
  | .r2 a b => dI_r2 (dE a) (dE b)
  | .r3 a b c => dI_r3 (dE a) (dE b) (dE c)
  | .enu a => dI_enu (dE a)
  | .zip a b => dI_zip (dE a) (dE b)
end
mutual
def dS : MS → DS
  | .asg t e => dS_asg (dT t) (dE e)
  | .par is es => dS_par is (dEs es)
  | .aug i op e => dS_aug i op (dE e)
  | .augS a i op e => dS_augS (dE a) (dE i) op (dE e)
  | .expr e => dS_expr (dE e)
  | .ret e => dS_ret (dE e)
  | .retN => dS_retN
  | .ife c a b => dS_ife (dE c) (dB a) (dB b)
  | .whl c b => dS_whl (dE c) (dB b)
  | .forr t it b => dS_forr (dT t) (dI it) (dB b)
  | .pass => dS_pass
  | .brk => dS_brk
  | .cnt => dS_cnt
  | .nev => dS_nev
  | .rse c none => dS_rse0 c
  | .rse c (some a) => dS_rse1 c (dE a)
def dB : List MS → DS
  | [] => dB_nil
  | s :: r => dB_cons (dS s) (dB r)
end
mutual
theorem dE_eq : ∀ (e : ME) (F : Calls) (σ : Loc) (h : Hm), dE e F σ h = evalE F e σ h
  | .var i, F, σ, h => by first | (simp only [dE, dE_var, evalE]; done) | (simp only [dE, dE_var, evalE] <;> rfl)
  | .cst v, F, _, h => by first | (simp only [dE, dE_cst, evalE]; done) | (simp only [dE, dE_cst, evalE] <;> rfl)
  | .bin op a b, F, σ, h => by first | (simp only [dE, dE_bin, evalE, dE_eq a, dE_eq b]; done) | (simp only [dE, dE_bin, evalE, dE_eq a, dE_eq b] <;> rfl)
  | .neg a, F, σ, h => by first | (simp only [dE, dE_neg, evalE, dE_eq a]; done) | (simp only [dE, dE_neg, evalE, dE_eq a] <;> rfl)
  | .not a, F, σ, h => by first | (simp only [dE, dE_not, evalE, dE_eq a]; done) | (simp only [dE, dE_not, evalE, dE_eq a] <;> rfl)
  | .and a b, F, σ, h => by first | (simp only [dE, dE_and, evalE, dE_eq a, dE_eq b]; done) | (simp only [dE, dE_and, evalE, dE_eq a, dE_eq b] <;> rfl)
  | .or a b, F, σ, h => by first | (simp only [dE, dE_or, evalE, dE_eq a, dE_eq b]; done) | (simp only [dE, dE_or, evalE, dE_eq a, dE_eq b] <;> rfl)
  | .ite c a b, F, σ, h => by first | (simp only [dE, dE_ite, evalE, dE_eq c, dE_eq a, dE_eq b]; done) | (simp only [dE, dE_ite, evalE, dE_eq c, dE_eq a, dE_eq b] <;> rfl)
  | .cmp op a b, F, σ, h => by first | (simp only [dE, dE_cmp, evalE, dE_eq a, dE_eq b]; done) | (simp only [dE, dE_cmp, evalE, dE_eq a, dE_eq b] <;> rfl)
  | .chn o1 o2 a b c, F, σ, h => by first | (simp only [dE, dE_chn, evalE, dE_eq a, dE_eq b, dE_eq c]; done) | (simp only [dE, dE_chn, evalE, dE_eq a, dE_eq b, dE_eq c] <;> rfl)
  | .tup es, F, σ, h => by first | (simp only [dE, dE_tup, evalE, dEs_eq es]; done) | (simp only [dE, dE_tup, evalE, dEs_eq es] <;> rfl)
  | .lst es, F, σ, h => by first | (simp only [dE, dE_lst, evalE, dEs_eq es]; done) | (simp only [dE, dE_lst, evalE, dEs_eq es] <;> rfl)
  | .ix a b, F, σ, h => by first | (simp only [dE, dE_ix, evalE, dE_eq a, dE_eq b]; done) | (simp only [dE, dE_ix, evalE, dE_eq a, dE_eq b] <;> rfl)
  | .sl a lo hi, F, σ, h => by first | (simp only [dE, dE_sl, evalE, dE_eq a, dO_eq lo, dO_eq hi]; done) | (simp only [dE, dE_sl, evalE, dE_eq a, dO_eq lo, dO_eq hi] <;> rfl)
  | .rev a, F, σ, h => by first | (simp only [dE, dE_rev, evalE, dE_eq a]; done) | (simp only [dE, dE_rev, evalE, dE_eq a] <;> rfl)
  | .call f es, F, σ, h => by first | (simp only [dE, dE_call, evalE, dEs_eq es]; done) | (simp only [dE, dE_call, evalE, dEs_eq es] <;> rfl)
  | .bi b es, F, σ, h => by first | (simp only [dE, dE_bi, evalE, dEs_eq es]; done) | (simp only [dE, dE_bi, evalE, dEs_eq es] <;> rfl)
  | .isi a ts, F, σ, h => by first | (simp only [dE, dE_isi, evalE, dE_eq a]; done) | (simp only [dE, dE_isi, evalE, dE_eq a] <;> rfl)
  | .meth m o es, F, σ, h => by first | (simp only [dE, dE_meth, evalE, dE_eq o, dEs_eq es]; done) | (simp only [dE, dE_meth, evalE, dE_eq o, dEs_eq es] <;> rfl)
  | .lc own tg it c elt, F, σ, h => by first | (simp only [dE, dE_lc, iterCD_eq, evalE, dT_eq tg, dI_eq it, dC_eq c, dE_eq elt]; done) | (simp only [dE, dE_lc, iterCD_eq, evalE, dT_eq tg, dI_eq it, dC_eq c, dE_eq elt] <;> rfl)
  | .edc, F, _, h => by first | (simp only [dE, dE_edc, evalE]; done) | (simp only [dE, dE_edc, evalE] <;> rfl)
  | .slst a st, F, σ, h => by first | (simp only [dE, dE_slst, evalE, dE_eq a, dE_eq st]; done) | (simp only [dE, dE_slst, evalE, dE_eq a, dE_eq st] <;> rfl)
  | .lrg a b, F, σ, h => by first | (simp only [dE, dE_lrg, evalE, dO_eq a, dE_eq b]; done) | (simp only [dE, dE_lrg, evalE, dO_eq a, dE_eq b] <;> rfl)
  | .callv i es, F, σ, h => by first | (simp only [dE, dE_callv, evalE, dEs_eq es]; done) | (simp only [dE, dE_callv, evalE, dEs_eq es] <;> rfl)
  | .lam, F, _, h => by first | (simp only [dE, dE_lam, evalE]; done) | (simp only [dE, dE_lam, evalE] <;> rfl)
  | .mk c es, F, σ, h => by first | (simp only [dE, dE_mk, evalE, dEs_eq es]; done) | (simp only [dE, dE_mk, evalE, dEs_eq es] <;> rfl)
  | .fld e i c, F, σ, h => by first | (simp only [dE, dE_fld, evalE, dE_eq e]; done) | (simp only [dE, dE_fld, evalE, dE_eq e] <;> rfl)
  | .isf e c, F, σ, h => by first | (simp only [dE, dE_isf, evalE, dE_eq e]; done) | (simp only [dE, dE_isf, evalE, dE_eq e] <;> rfl)
  | .met hs nt e, F, σ, h => by first | (simp only [dE, dE_met, evalE, dE_eq e]; done) | (simp only [dE, dE_met, evalE, dE_eq e] <;> rfl)
  | .chn3 o1 o2 o3 a b c d, F, σ, h => by first | (simp only [dE, dE_chn3, evalE, dE_eq a, dE_eq b, dE_eq c, dE_eq d]; done) | (simp only [dE, dE_chn3, evalE, dE_eq a, dE_eq b, dE_eq c, dE_eq d] <;> rfl)
theorem dEs_eq : ∀ (e : List ME) (F : Calls) (σ : Loc) (h : Hm), dEs e F σ h = evalEs F e σ h
  | [], F, _, h => by first | (simp only [dEs, dEs_nil, evalEs]; done) | (simp only [dEs, dEs_nil, evalEs] <;> rfl)
  | e :: es, F, σ, h => by first | (simp only [dEs, dEs_cons, evalEs, dE_eq e, dEs_eq es]; done) | (simp only [dEs, dEs_cons, evalEs, dE_eq e, dEs_eq es] <;> rfl)
theorem dO_eq : ∀ (e : Option ME) (F : Calls) (σ : Loc) (h : Hm), dO e F σ h = evalO F e σ h
  | none, F, _, h => by first | (simp only [dO, dO_none, evalO]; done) | (simp only [dO, dO_none, evalO] <;> rfl)
  | some e, F, σ, h => by first | (simp only [dO, dO_some, evalO, dE_eq e]; done) | (simp only [dO, dO_some, evalO, dE_eq e] <;> rfl)
theorem dC_eq : ∀ (e : Option ME) (F : Calls) (σ : Loc) (h : Hm), dC e F σ h = evalC F e σ h
  | none, F, _, h => by first | (simp only [dC, dC_none, evalC]; done) | (simp only [dC, dC_none, evalC] <;> rfl)
  | some e, F, σ, h => by first | (simp only [dC, dC_some, evalC, dE_eq e]; done) | (simp only [dC, dC_some, evalC, dE_eq e] <;> rfl)
theorem dT_eq : ∀ (e : MT) (F : Calls) (v : MV) (σ : Loc) (h : Hm), dT e F v σ h = evalT F e v σ h
  | .var i, F, v, σ, h => by first | (simp only [dT, dT_var, evalT]; done) | (simp only [dT, dT_var, evalT] <;> rfl)
  | .tup ts, F, v, σ, h => by first | (simp only [dT, dT_tup, evalT, dTs_eq ts]; done) | (simp only [dT, dT_tup, evalT, dTs_eq ts] <;> rfl)
  | .sub a i, F, v, σ, h => by first | (simp only [dT, dT_sub, evalT, dE_eq a, dE_eq i]; done) | (simp only [dT, dT_sub, evalT, dE_eq a, dE_eq i] <;> rfl)
theorem dTs_eq : ∀ (e : List MT) (F : Calls) (v : List MV) (σ : Loc) (h : Hm), dTs e F v σ h = evalTs F e v σ h
  | [], F, vs, σ, h => by cases vs <;> simp only [dTs, dTs_nil, evalTs]
  | t :: ts, F, [], σ, h => by simp only [dTs, dTs_cons, evalTs]
  | t :: ts, F, x :: xs, σ, h => by simp only [dTs, dTs_cons, evalTs, dT_eq t, dTs_eq ts] <;> rfl
theorem dI_eq : ∀ (e : MI) (F : Calls) (σ : Loc) (h : Hm), dI e F σ h = evalI F e σ h
  | .ex a, F, σ, h => by first | (simp only [dI, dI_ex, evalI, dE_eq a]; done) | (simp only [dI, dI_ex, evalI, dE_eq a] <;> rfl)
  | .r1 a, F, σ, h => by first | (simp only [dI, dI_r1, evalI, dE_eq a]; done) | (simp only [dI, dI_r1, evalI, dE_eq a] <;> rfl)
  | .r2 a b, F, σ, h => by first | (simp only [dI, dI_r2, evalI, dE_eq a, dE_eq b]; done) | (simp only [dI, dI_r2, evalI, dE_eq a, dE_eq b] <;> rfl)
  | .r3 a b c, F, σ, h => by first | (simp only [dI, dI_r3, evalI, dE_eq a, dE_eq b, dE_eq c]; done) | (simp only [dI, dI_r3, evalI, dE_eq a, dE_eq b, dE_eq c] <;> rfl)
  | .enu a, F, σ, h => by first | (simp only [dI, dI_enu, evalI, dE_eq a]; done) | (simp only [dI, dI_enu, evalI, dE_eq a] <;> rfl)
  | .zip a b, F, σ, h => by first | (simp only [dI, dI_zip, evalI, dE_eq a, dE_eq b]; done) | (simp only [dI, dI_zip, evalI, dE_eq a, dE_eq b] <;> rfl)
end
mutual
theorem dS_eq : ∀ (e : MS) (F : Calls) (σ : Loc) (h : Hm), dS e F σ h = execS F e σ h
  | .asg t e, F, σ, h => by first | (simp only [dS, dS_asg, execS, dT_eq t, dE_eq e]; done) | (simp only [dS, dS_asg, execS, dT_eq t, dE_eq e] <;> rfl)
  | .par is es, F, σ, h => by first | (simp only [dS, dS_par, execS, dEs_eq es]; done) | (simp only [dS, dS_par, execS, dEs_eq es] <;> rfl)
  | .aug i op e, F, σ, h => by first | (simp only [dS, dS_aug, execS, dE_eq e]; done) | (simp only [dS, dS_aug, execS, dE_eq e] <;> rfl)
  | .augS a i op e, F, σ, h => by first | (simp only [dS, dS_augS, execS, dE_eq a, dE_eq i, dE_eq e]; done) | (simp only [dS, dS_augS, execS, dE_eq a, dE_eq i, dE_eq e] <;> rfl)
  | .expr e, F, σ, h => by first | (simp only [dS, dS_expr, execS, dE_eq e]; done) | (simp only [dS, dS_expr, execS, dE_eq e] <;> rfl)
  | .ret e, F, σ, h => by first | (simp only [dS, dS_ret, execS, dE_eq e]; done) | (simp only [dS, dS_ret, execS, dE_eq e] <;> rfl)
  | .retN, F, _, h => by first | (simp only [dS, dS_retN, execS]; done) | (simp only [dS, dS_retN, execS] <;> rfl)
  | .ife c a b, F, σ, h => by first | (simp only [dS, dS_ife, execS, dE_eq c, dB_eq a, dB_eq b]; done) | (simp only [dS, dS_ife, execS, dE_eq c, dB_eq a, dB_eq b] <;> rfl)
  | .whl c b, F, σ, h => by first | (simp only [dS, dS_whl, dC_some, execS, evalC, dE_eq c, dB_eq b]; done) | (simp only [dS, dS_whl, dC_some, execS, evalC, dE_eq c, dB_eq b] <;> rfl)
  | .forr t it b, F, σ, h => by first | (simp only [dS, dS_forr, iterFD_eq, execS, dT_eq t, dI_eq it, dB_eq b]; done) | (simp only [dS, dS_forr, iterFD_eq, execS, dT_eq t, dI_eq it, dB_eq b] <;> rfl)
  | .pass, F, σ, h => by first | (simp only [dS, dS_pass, execS]; done) | (simp only [dS, dS_pass, execS] <;> rfl)
  | .brk, F, σ, h => by first | (simp only [dS, dS_brk, execS]; done) | (simp only [dS, dS_brk, execS] <;> rfl)
  | .cnt, F, σ, h => by first | (simp only [dS, dS_cnt, execS]; done) | (simp only [dS, dS_cnt, execS] <;> rfl)
  | .nev, F, _, _ => by first | (simp only [dS, dS_nev, execS]; done) | (simp only [dS, dS_nev, execS] <;> rfl)
  | .rse c none, F, σ, h => by simp only [dS, dS_rse0, execS]
  | .rse c (some a), F, σ, h => by simp only [dS, dS_rse1, execS, dE_eq a]
theorem dB_eq : ∀ (e : List MS) (F : Calls) (σ : Loc) (h : Hm), dB e F σ h = execB F e σ h
  | [], F, σ, h => by first | (simp only [dB, dB_nil, execB]; done) | (simp only [dB, dB_nil, execB] <;> rfl)
  | s :: r, F, σ, h => by first | (simp only [dB, dB_cons, execB, dS_eq s, dB_eq r]; done) | (simp only [dB, dB_cons, execB, dS_eq s, dB_eq r] <;> rfl)
end
/-! ### defs and checks by it -/
def runFnD (F : Calls) (d : FnD) (vs : List MV) (h : Hm) : RO MV :=
  if vs.length = d.np then match stoL vs h with
    | some (ws, h1) => endFn h.length (dB d.body F (ws.map some ++ List.replicate (d.ns - d.np) none) h1)
    | none => none
  else none
theorem runFnD_eq (F : Calls) (d : FnD) (vs : List MV) (h : Hm) : runFnD F d vs h = runFn F d vs h := by
  unfold runFnD runFn
  simp only [dB_eq] <;> rfl
def callsD (P : List FnD) : Nat → Calls
  | 0 => fun _ _ _ => none
  | k + 1 => fun f vs h => match P[f]? with
    | some d => runFnD (callsD P k) d vs h
    | none => none
theorem callsD_eq (P : List FnD) : ∀ k, callsD P k = calls P k
  | 0 => rfl
  | k + 1 => by
    funext f vs h
    simp only [callsD, calls, callsD_eq P k, runFnD_eq] <;> rfl
def callsOD (P : List FnD) (l : Ov) : Nat → Calls
  | 0 => fun _ _ _ => none
  | k + 1 => if k < 8 then callsD P (k + 1) else ovr (fun f vs h => match P[f]? with
    | some d => runFnD (callsOD P l k) d vs h
    | none => none) l
theorem callsOD_eq (P : List FnD) (l : Ov) : ∀ k, callsOD P l k = callsO P l k
  | 0 => rfl
  | k + 1 => by
    simp only [callsOD, callsO, callsD_eq, callsOD_eq P l k, runFnD_eq]
    all_goals (by_cases hk : k < 8 <;> simp only [hk, if_true, if_false] <;> rfl)
def Rx.valsD (F : Calls) (σ : Loc) (t : Hm) : Rx → Option (List MV × Hm)
  | .val e => match dE e F σ t with
    | some (.ok v t1) => if v.pure then some ([v], t1) else none
    | _ => none
  | .pick e => match dE e F σ t with
    | some (.ok v t1) => match lsV v t1 with
      | some xs => some (xs, t1)
      | none => none
    | _ => none
  | .roll n => if decide (0 < n) && decide (n ≤ 1000000) then some ((List.range n.toNat).map (fun i : Nat => MV.int (i : Int)), t) else none
  | .rolp a n => if decide (0 < n) && decide (n ≤ 1000000) then some ((List.range n.toNat).map (fun i : Nat => MV.int (a + (i : Int))), t) else none
theorem valsD_eq (F : Calls) (σ : Loc) (t : Hm) (r : Rx) : r.valsD F σ t = r.vals F σ t := by
  cases r <;> first | (simp only [Rx.valsD, Rx.vals, dE_eq]; done) | (simp only [Rx.valsD, Rx.vals, dE_eq]; rfl)
def Sg.stepD (F : Calls) (s : NSt) : Sg → Option (List NSt)
  | .one i j r w => if r.cl && w.cl && decide (i ≠ j) && decide (0 < i) && decide (0 < j) && decide (i < s.σ.length) && decide (j < s.σ.length) && offP [i, j] s.pd then
      match r.valsD F s.σ s.t with
      | some (rs, t1) => match dE w F s.σ t1 with
        | some (.ok v t2) => match lsV v t2 with
          | some ws => some [⟨(s.σ.set i none).set j none, ([i, j], rs.map (fun r => [r, .bl false]) ++ ws.map (fun w => [w, .bl true])) :: s.pd, t2⟩]
          | none => none
        | _ => none
      | none => none
    else none
  | .pk i r => if r.cl && decide (0 < i) && decide (i < s.σ.length) && offP [i] s.pd then
      match r.valsD F s.σ s.t with
      | some (rs, t1) => some [⟨s.σ.set i none, ([i], rs.map (fun r => [r])) :: s.pd, t1⟩]
      | none => none
    else none
  | .st m => if m.cl && !(m.wr.contains 0) && offP m.wr s.pd then
      match dS m F s.σ s.t with
      | some (.nx σ1 t1) => some [⟨σ1, s.pd, t1⟩]
      | some (.rt (.bl true) _) => some []
      | _ => none
    else none
theorem stepD_eq (F : Calls) (s : NSt) (c : Sg) : c.stepD F s = c.step F s := by
  cases c <;> first | (simp only [Sg.stepD, Sg.step, dE_eq, dS_eq, valsD_eq]; done) | (simp only [Sg.stepD, Sg.step, dE_eq, dS_eq, valsD_eq]; rfl)
def stepsCD (F : Calls) (g : Sg) : List NSt → Option (List NSt)
  | [] => some []
  | s :: r => match g.stepD F s with
    | some l => match stepsCD F g r with
      | some l' => some (l ++ l')
      | none => none
    | none => none
theorem stepsCD_eq (F : Calls) (g : Sg) : ∀ l, stepsCD F g l = stepsC F g l
  | [] => rfl
  | s :: r => by first | (simp only [stepsCD, stepsC, stepD_eq, stepsCD_eq F g r]; done) | (simp only [stepsCD, stepsC, stepD_eq, stepsCD_eq F g r]; rfl)
def runCD (F : Calls) : List Cm → List NSt → Bool
  | [], sts => sts.isEmpty
  | .sg g :: r, sts => match stepsCD F g sts with
    | some l => runCD F r l
    | none => false
  | .res i :: r, sts => runCD F r (sts.flatMap (resS i))
  | .kill is :: r, sts => match dd (sts.map (kill is)) with
    | l => runCD F r l
  | .pend is :: r, sts => match rowsD is sts with
    | some rows => match dd (sts.map (pendS is rows)) with
      | l => runCD F r l
    | none => false
theorem runCD_eq (F : Calls) : ∀ (cs : List Cm) (l : List NSt), runCD F cs l = runC F cs l
  | [], l => rfl
  | .sg g :: r, l => by
    simp only [runCD, runC, stepsCD_eq]
    cases stepsC F g l with
    | none => rfl
    | some l' => exact runCD_eq F r l'
  | .res i :: r, l => by simp only [runCD, runC]; exact runCD_eq F r _
  | .kill is :: r, l => by simp only [runCD, runC]; exact runCD_eq F r _
  | .pend is :: r, l => by
    simp only [runCD, runC]
    cases rowsD is l with
    | none => rfl
    | some rows => exact runCD_eq F r _
def toCD (F : Calls) : List Cm → List NSt → Option (List NSt)
  | [], sts => some sts
  | .sg g :: r, sts => match stepsCD F g sts with
    | some l => toCD F r l
    | none => none
  | .res i :: r, sts => toCD F r (sts.flatMap (resS i))
  | .kill is :: r, sts => match dd (sts.map (kill is)) with
    | l => toCD F r l
  | .pend is :: r, sts => match rowsD is sts with
    | some rows => match dd (sts.map (pendS is rows)) with
      | l => toCD F r l
    | none => none
theorem toCD_eq (F : Calls) : ∀ (cs : List Cm) (l : List NSt), toCD F cs l = toC F cs l
  | [], l => rfl
  | .sg g :: r, l => by
    simp only [toCD, toC, stepsCD_eq]
    cases stepsC F g l with
    | none => rfl
    | some l' => exact toCD_eq F r l'
  | .res i :: r, l => by simp only [toCD, toC]; exact toCD_eq F r _
  | .kill is :: r, l => by simp only [toCD, toC]; exact toCD_eq F r _
  | .pend is :: r, l => by
    simp only [toCD, toC]
    cases rowsD is l with
    | none => rfl
    | some rows => exact toCD_eq F r _
def toInD (F : Calls) (cs : List Cm) (sts l : List NSt) : Bool := match toCD F cs sts with
  | some l' => l'.all fun s => l.any (eqS s)
  | none => false
theorem toInD_eq (F : Calls) (cs : List Cm) (sts l : List NSt) : toInD F cs sts l = toIn F cs sts l := by
  unfold toInD toIn
  rw [toCD_eq]
  all_goals rfl
theorem parts_okD {F F' : Calls} {d : Dr} {DI : MO → Prop} (hF : ∀ h0, TrF h0 F F') (hD : DrOk F' d DI) {c1 c2 c3 : List Cm} {sts l : List NSt} (n m : Nat) (hn : 1 ≤ n)
    (h1 : (match toCD F c1 sts with
      | some l1 => decide (l1.length ≤ n * m)
      | none => false) = true)
    (h2 : ∀ i, i < m → toInD F c2 ((((toCD F c1 sts).getD []).drop (n * i)).take n) l = true) (hl : ∀ s ∈ l, Good F' d DI c3 s) : ∀ s ∈ sts, Good F' d DI (c1 ++ (c2 ++ c3)) s := by
  refine parts_ok hF hD n m hn ?_ (fun i hi => ?_) hl
  · rw [toCD_eq] at h1; exact h1
  · have := h2 i hi
    rw [toInD_eq, toCD_eq] at this
    exact this
theorem callsD_tr {P : List FnD} {h0 : Hm} (hP : (P.all fun d => clB d.body) = true) (k : Nat) : TrF h0 (callsD P k) (calls P k) := by
  rw [callsD_eq]; exact calls_tr hP k
theorem callsOD_tr {P : List FnD} {l : Ov} {h0 : Hm} (hP : (P.all fun d => clB d.body) = true) (hl : ∀ k, OvOk (calls P (k + 8)) l) (k : Nat) : TrF h0 (callsOD P l k) (calls P k) := by
  rw [callsOD_eq]; exact callsO_tr hP hl k
/-- what stands behind the loop, tried by the kernel with nothing known -/
theorem rest_okD {F F' : Calls} (hF : ∀ h0, TrF h0 F F') {b : List MS} {n : Nat} (hc : clB b = true) (e : isTrue (dB b F (List.replicate n none) []) = true) (σ : Loc) (h : Hm) (hl : σ.length = n) : ∃ h', execB F' b σ h = some (.rt (.bl true) h') := by
  rw [dB_eq] at e
  exact rest_ok' hF hc e σ h hl
end Mi

/-! Mi23: tables of answers, each tried once. -/
namespace Mi
open PySem
/-- more depth changes no answer -/
theorem calls_up {P : List FnD} {h0 : Hm} (hP : (P.all fun d => clB d.body) = true) (m : Nat) : ∀ k, TrF h0 (calls P k) (calls P (k + m))
  | 0 => fun f vs h p => by simp only [calls]; exact Tr.none
  | k + 1 => fun f vs h p => by
    rw [show k + 1 + m = (k + m) + 1 by omega]
    simp only [calls]
    cases e : P[f]? with
    | none => exact Tr.none
    | some d => exact runFn_tr (calls_up hP m k) (List.all_eq_true.mp hP d (List.mem_of_getElem? e)) p
structure Te where
  f : Nat
  vs : List MV
  v : MV
def plainV (v : MV) : Bool := v.pure || match v with
  | .lst xs => pureL xs
  | _ => false
def Te.ok (F : Calls) (e : Te) : Bool := pureL e.vs && plainV e.v && match F e.f e.vs [] with
  | some (.ok v []) => eqV v e.v
  | _ => false
def tabOv (l : List Te) : Ov := fun f vs => match l.find? fun e => decide (e.f = f) && eqVs e.vs vs with
  | some e => some e.v
  | none => none
theorem tab_ok {P : List FnD} (hP : (P.all fun d => clB d.body) = true) {l : List Te} (h : l.all (Te.ok (callsD P 8)) = true) (k : Nat) : OvOk (calls P (k + 8)) (tabOv l) := fun f vs v e => by
  unfold tabOv at e
  split at e
  · rename_i t ht
    cases e
    have hm := List.mem_of_find?_eq_some ht
    have he := List.find?_some ht
    simp only [Bool.and_eq_true, decide_eq_true_eq] at he
    obtain ⟨rfl, e2⟩ := he
    have e2 := eqVs_ok e2
    subst e2
    have hk := List.all_eq_true.mp h t hm
    unfold Te.ok at hk
    simp only [Bool.and_eq_true] at hk
    obtain ⟨⟨h1, h2⟩, h3⟩ := hk
    have hp : t.v.pure = true ∨ ∃ xs, t.v = .lst xs ∧ pureL xs = true := by
      unfold plainV at h2
      rw [Bool.or_eq_true] at h2
      rcases h2 with h2 | h2
      · exact .inl h2
      · split at h2
        · rename_i xs hx
          exact .inr ⟨xs, hx, h2⟩
        · cases h2
    refine ⟨h1, hp, fun hh => ?_⟩
    split at h3
    · rename_i w hw
      rw [callsD_eq] at hw
      obtain ⟨q, _⟩ := calls_up (h0 := hh) hP k 8 t.f t.vs [] HP.nil _ hw
      rw [shL_pure h1] at q
      simp only [List.append_nil, shR] at q
      rw [Nat.add_comm k 8, q, eqV_ok h3]
      have : sh hh.length t.v = t.v := hp.elim sh_pure fun ⟨xs, q, hp⟩ => by rw [q, sh, shL_pure hp]
      rw [this]
    · cases h3
  · cases e
/-- two tables -/
def orOv (a b : Ov) : Ov := fun f vs => match a f vs with
  | some v => some v
  | none => b f vs
theorem orOv_ok {F : Calls} {a b : Ov} (ha : OvOk F a) (hb : OvOk F b) : OvOk F (orOv a b) := fun f vs v e => by
  unfold orOv at e
  split at e
  · rename_i w hw
    cases e
    exact ha f vs _ hw
  · exact hb f vs v e
end Mi

/-! Mi24: tables of answers over tables; answers known from a told depth on. -/
namespace Mi
open PySem
def callsM (P : List FnD) (l : Ov) (m : Nat) : Nat → Calls
  | 0 => fun _ _ _ => none
  | k + 1 => if k < m then callsD P (k + 1) else ovr (fun f vs h => match P[f]? with
    | some d => runFnD (callsM P l m k) d vs h
    | none => none) l
theorem callsM_tr {P : List FnD} {l : Ov} {m : Nat} {h0 : Hm} (hP : (P.all fun d => clB d.body) = true) (hl : ∀ k, OvOk (calls P (k + m)) l) : ∀ k, TrF h0 (callsM P l m k) (calls P k)
  | 0 => fun f vs h p => by simp only [callsM]; exact Tr.none
  | k + 1 => by
    by_cases hk : k < m
    · simp only [callsM, if_pos hk]
      rw [callsD_eq]
      exact calls_tr hP (k + 1)
    · simp only [callsM, if_neg hk]
      obtain ⟨j, rfl⟩ : ∃ j, k = j + m := ⟨k - m, by omega⟩
      have hl1 := hl (j + 1)
      rw [show j + 1 + m = (j + m) + 1 by omega] at hl1
      refine ovr_tr (fun f vs h p => ?_) hl1
      simp only [calls]
      cases e : P[f]? with
      | none => exact Tr.none
      | some d =>
        simp only [runFnD_eq]
        exact runFn_tr (callsM_tr hP hl (j + m)) (List.all_eq_true.mp hP d (List.mem_of_getElem? e)) p
/-- rows tried by any calls that stand for those of depth n -/
theorem tab_okM {P : List FnD} {F : Calls} {n : Nat} (hP : (P.all fun d => clB d.body) = true) (hF : ∀ h0, TrF h0 F (calls P n)) {l : List Te} (h : l.all (Te.ok F) = true) (k : Nat) : OvOk (calls P (k + n)) (tabOv l) := fun f vs v e => by
  unfold tabOv at e
  split at e
  · rename_i t ht
    cases e
    have hm := List.mem_of_find?_eq_some ht
    have he := List.find?_some ht
    simp only [Bool.and_eq_true, decide_eq_true_eq] at he
    obtain ⟨rfl, e2⟩ := he
    have e2 := eqVs_ok e2
    subst e2
    have hk := List.all_eq_true.mp h t hm
    unfold Te.ok at hk
    simp only [Bool.and_eq_true] at hk
    obtain ⟨⟨h1, h2⟩, h3⟩ := hk
    have hp : t.v.pure = true ∨ ∃ xs, t.v = .lst xs ∧ pureL xs = true := by
      unfold plainV at h2
      rw [Bool.or_eq_true] at h2
      rcases h2 with h2 | h2
      · exact .inl h2
      · split at h2
        · rename_i xs hx
          exact .inr ⟨xs, hx, h2⟩
        · cases h2
    refine ⟨h1, hp, fun hh => ?_⟩
    split at h3
    · rename_i w hw
      obtain ⟨q0, _⟩ := hF ([] : Hm) t.f t.vs [] HP.nil _ hw
      rw [shL_pure h1] at q0
      simp only [List.append_nil, shR] at q0
      have hw0 : (sh ([] : Hm).length w) = w := by
        have : w = t.v := eqV_ok h3
        rw [this]
        exact hp.elim sh_pure fun ⟨xs, q, hp⟩ => by rw [q, sh, shL_pure hp]
      rw [hw0] at q0
      obtain ⟨q, _⟩ := calls_up (h0 := hh) hP k n t.f t.vs [] HP.nil _ q0
      rw [shL_pure h1] at q
      simp only [List.append_nil, shR] at q
      rw [Nat.add_comm k n, q, eqV_ok h3]
      have : sh hh.length t.v = t.v := hp.elim sh_pure fun ⟨xs, q, hp⟩ => by rw [q, sh, shL_pure hp]
      rw [this]
    · cases h3
  · cases e
theorem all_app {α : Type} {p : α → Bool} {a b : List α} (ha : a.all p = true) (hb : b.all p = true) : (a ++ b).all p = true := by rw [List.all_append, ha, hb]; rfl
/-- answers known from depth n on are known from depth n + m on -/
theorem ov_more {P : List FnD} {n : Nat} {l : Ov} (h : ∀ k, OvOk (calls P (k + n)) l) (m k : Nat) : OvOk (calls P (k + (n + m))) l := by
  have := h (k + m)
  rwa [show k + m + n = k + (n + m) by omega] at this
/-- answers of one def alone -/
def gOv (g : Nat) (o : Ov) : Ov := fun f vs => if f = g then o f vs else none
theorem gOv_ok {F : Calls} {g : Nat} {o : Ov} (h : OvOk F o) : OvOk F (gOv g o) := fun f vs v e => by
  unfold gOv at e
  split at e
  · exact h f vs v e
  · cases e
end Mi

set_option autoImplicit true
namespace Mi.k82
open PySem PySem.Spec PyProof.Rows L2
def top (i : Nat) : PySem.Stmt := PySem.Challenge.pw_turnseries_k82_errors_of_brackets.main.body.getD i (.Pass ⟨0, 0, 0, 0⟩)
def fs : List FE := [
  ⟨"is_integer", top 11, ["value"], ["value"], false, false, "is_integer"⟩,
  ⟨"is_within", top 12, ["value", "low", "most"], ["value", "low", "most"], false, false, "is_within"⟩,
  ⟨"common_of", top 13, ["one", "other"], ["one", "other"], false, false, "common_of"⟩,
  ⟨"multiple_of", top 14, ["one", "other"], ["one", "other"], false, false, "multiple_of"⟩,
  ⟨"power_of", top 15, ["number", "many", "found", "square"], ["number", "many"], false, false, "power_of"⟩,
  ⟨"divisors_in", top 16, ["number", "low", "high", "part"], ["number"], false, false, "divisors_in"⟩,
  ⟨"power_sum_in", top 17, ["number", "power", "part"], ["number", "power"], false, false, "power_sum_in"⟩,
  ⟨"lowest", top 18, ["top", "bottom", "share"], ["top", "bottom"], false, false, "lowest"⟩,
  ⟨"require_within", top 19, ["value", "low", "most"], ["value", "low", "most"], false, false, "require_within"⟩,
  ⟨"free_part", top 21, ["sign"], ["sign"], false, false, "free_part"⟩,
  ⟨"sign_from", top 22, ["integer"], ["integer"], false, false, "sign_from"⟩,
  ⟨"times_in_signs", top 23, ["one", "other", "first", "second", "share"], ["one", "other"], false, false, "times_in"⟩,
  ⟨"times_in_rows", top 27, ["one", "other", "length", "found", "at", "first", "place", "second"], ["one", "other"], false, false, "times_in"⟩,
  ⟨"spread_in", top 29, ["row", "many", "found", "at", "number"], ["row", "many"], false, false, "spread_in"⟩,
  ⟨"require_row", top 30, ["row", "one"], ["row"], false, false, "require_row"⟩,
  ⟨"by_sign", top 36, ["sign"], ["sign"], false, false, "by_sign"⟩,
  ⟨"character_of", top 37, ["form"], ["form"], false, false, "character_of"⟩,
  ⟨"require_level", top 38, ["level"], ["level"], false, false, "require_level"⟩,
  ⟨"times_character", top 39, ["one", "other"], ["one", "other"], false, false, "times_character"⟩,
  ⟨"constant_in", top 40, ["number", "many"], ["number"], true, false, "constant_in"⟩,
  ⟨"times_forms", top 41, ["one", "other", "level", "many"], ["one", "other"], true, false, "times_forms"⟩,
  ⟨"spread_form", top 42, ["form", "step", "many"], ["form", "step"], true, false, "spread_form"⟩,
  ⟨"require_form", top 43, ["form"], ["form"], false, false, "require_form"⟩,
  ⟨"require_integer", top 44, ["number"], ["number"], false, false, "require_integer"⟩,
  ⟨"constant", top 45, ["number"], ["number"], false, false, "constant"⟩,
  ⟨"spread", top 46, ["form", "many"], ["form", "many"], false, false, "spread"⟩,
  ⟨"choices", top 53, ["many", "some", "found", "at"], ["many", "some"], false, false, "choices"⟩,
  ⟨"derived_in", top 54, ["row", "many", "at", "one"], ["row", "many"], false, false, "derived_in"⟩,
  ⟨"terms_in", top 55, ["weight", "other_weight", "order", "found", "at", "side"], ["weight", "other_weight", "order"], false, false, "terms_in"⟩,
  ⟨"bracket_row", top 56, ["one", "other", "order", "many", "first", "second", "found", "at", "term", "part", "number", "more"], ["one", "other", "order", "many"], false, false, "bracket_row"⟩,
  ⟨"lead_row", top 57, ["many", "at"], ["many"], false, false, "lead_row"⟩,
  ⟨"steady_row", top 58, ["form", "many", "row", "part", "at", "one", "more"], ["form", "many"], false, false, "steady_row"⟩,
  ⟨"require_order", top 59, ["order"], ["order"], false, false, "require_order"⟩,
  ⟨"derived_row", top 60, ["row", "many"], ["row", "many"], false, false, "derived_row"⟩,
  ⟨"bracket_terms", top 61, ["weight", "other_weight", "order"], ["weight", "other_weight", "order"], false, false, "bracket_terms"⟩,
  ⟨"bracket", top 62, ["one", "other", "order", "both", "many"], ["one", "other", "order"], true, false, "bracket"⟩,
  ⟨"steady", top 63, ["form", "many"], ["form"], true, false, "steady"⟩,
  ⟨"choices_in", top 67, ["many", "found", "at"], ["many"], false, false, "choices_in"⟩,
  ⟨"plus_fractions", top 68, ["one", "other"], ["one", "other"], false, false, "plus_fractions"⟩,
  ⟨"bernoullis_to", top 69, ["number", "found", "at", "total", "many", "one"], ["number"], false, false, "bernoullis_to"⟩,
  ⟨"beginning_in", top 70, ["weight", "number"], ["weight", "number"], false, false, "beginning_in"⟩,
  ⟨"divisor_row", top 71, ["first", "many", "term", "found", "part", "place"], ["first", "many", "term"], false, false, "divisor_row"⟩,
  ⟨"scaled_row", top 72, ["row", "number", "one"], ["row", "number"], false, false, "scaled_row"⟩,
  ⟨"sums_form", top 73, ["weight", "first", "share", "many", "part", "other"], ["weight"], true, false, "sums_form"⟩,
  ⟨"sums_of_powers", top 74, ["weight"], ["weight"], false, false, "sums_of_powers"⟩,
  ⟨"_law_dice", top 76, ["script", "spot", "cell", "great", "seed"], ["script", "spot"], false, false, "_law_dice"⟩,
  ⟨"_law_roll", top 77, ["dice", "total", "found", "one", "two"], ["dice", "total"], false, false, "_law_roll"⟩,
  ⟨"_law_pick", top 78, ["dice", "items"], ["dice", "items"], false, false, "_law_pick"⟩,
  ⟨"_law_one", top 79, ["dice", "right", "wrong"], ["dice", "right", "wrong"], false, false, "_law_one"⟩,
  ⟨"_law_first", top 80, ["rows", "some", "word", "is_wrong"], ["rows"], false, false, "_law_first"⟩,
  ⟨"_law_met", top 81, ["call", "error"], ["call"], false, true, "_law_met"⟩,
  ⟨"_law_right", top 82, ["dice", "odd", "one", "no_one", "other", "no_other", "order", "no_order", "rows", "weight", "no_weight", "mate", "no_mate", "due", "row", "no_row", "many", "no_many"], ["dice"], true, true, "_law_right"⟩,
  ⟨"law", top 83, ["script", "spot", "dice", "turn", "great", "wide"], ["script"], true, true, "law"⟩]
def cs : List (PySem.Str × MV) := [("MAX_LENGTH", .int 1001), ("MAX_LEVEL", .int 1000000), ("MOST_TERMS", .int 1000), ("MOST_STEP", .int 1000), ("MOST_ORDER", .int 10), ("MOST_DERIVED", .int 100), ("MAX_WEIGHT_brackets", .int 240), ("TWELVE", .int 12), ("STEP", .int 24), ("MAX_WEIGHT_sums", .int 60), ("LEAST_WEIGHT", .int 4)]
def cd : List CD := [⟨⟨"SeriesError", none, [0]⟩, none⟩,
  ⟨⟨"InvalidForm", none, [0, 1]⟩, none⟩,
  ⟨⟨"InvalidSign", none, [0, 2]⟩, none⟩,
  ⟨⟨"InvalidTable", none, [0, 3]⟩, none⟩,
  ⟨⟨"InvalidRow", none, [0, 4]⟩, none⟩,
  ⟨⟨"InvalidOperation", none, [0, 5]⟩, none⟩,
  ⟨⟨"InvalidCount", some "given", [6]⟩, some ⟨"given", "given", iniOf (top 7), "IndexError", "IndexError.__init__", "IndexError.__new__", [.type "IndexError", .type "LookupError", .type "Exception", .type "BaseException", .type "object"]⟩⟩,
  ⟨⟨"TooMany", some "limit", [7]⟩, some ⟨"limit", "limit", iniOf (top 8), "OverflowError", "OverflowError.__init__", "OverflowError.__new__", [.type "OverflowError", .type "ArithmeticError", .type "Exception", .type "BaseException", .type "object"]⟩⟩,
  ⟨⟨"Refused", some "reason", [8]⟩, some ⟨"reason", "reason", iniOf (top 9), "ArithmeticError", "ArithmeticError.__init__", "ArithmeticError.__new__", [.type "ArithmeticError", .type "Exception", .type "BaseException", .type "object"]⟩⟩]
def os : List OD := [⟨⟨"Form", [("own_known", 0), ("own_level", 1), ("own_maker", 2), ("own_modulus", 3), ("own_sign", 4), ("own_weight", 5)], [("weight", 5), ("level", 1), ("sign", 4), ("modulus", 3)]⟩, methOf "__init__" (top 35), [("weight", "own_weight", methOf "weight" (top 35)), ("level", "own_level", methOf "level" (top 35)), ("sign", "own_sign", methOf "sign" (top 35)), ("modulus", "own_modulus", methOf "modulus" (top 35))]⟩]
def D0 : FnD := ⟨1, 1, [
      (.ret (.and (.isi (.var 0) [.int]) (.not (.isi (.var 0) [.bool]))))]⟩
def D1 : FnD := ⟨3, 3, [
      (.ret (.and (.call 0 [(.var 0)]) (.chn .le .le (.var 1) (.var 0) (.var 2))))]⟩
def D2 : FnD := ⟨2, 2, [
      (.par [0, 1] [(.bi .abs [(.var 0)]), (.bi .abs [(.var 1)])]),
      (.whl (.cmp .gt (.var 1) (.cst (.int 0))) [(.par [0, 1] [(.var 1), (.bin .mod (.var 0) (.var 1))])]),
      (.ret (.var 0))]⟩
def D3 : FnD := ⟨2, 2, [
      (.ret (.bin .mul (.bin .fdv (.var 0) (.call 2 [(.var 0), (.var 1)])) (.var 1)))]⟩
def D4 : FnD := ⟨2, 4, [
      (.par [2, 3] [(.cst (.int 1)), (.var 0)]),
      (.whl (.cmp .gt (.var 1) (.cst (.int 0))) [(.ife (.cmp .eq (.bin .mod (.var 1) (.cst (.int 2))) (.cst (.int 1))) [(.asg (.var 2) (.bin .mul (.var 2) (.var 3)))] []), (.par [3, 1] [(.bin .mul (.var 3) (.var 3)), (.bin .fdv (.var 1) (.cst (.int 2)))])]),
      (.ret (.var 2))]⟩
def D5 : FnD := ⟨1, 4, [
      (.par [1, 2, 3] [(.lst []), (.lst []), (.cst (.int 1))]),
      (.whl (.cmp .le (.bin .mul (.var 3) (.var 3)) (.var 0)) [(.ife (.cmp .eq (.bin .mod (.var 0) (.var 3)) (.cst (.int 0))) [(.expr (.meth .append (.var 1) [(.var 3)])), (.ife (.cmp .lt (.bin .mul (.var 3) (.var 3)) (.var 0)) [(.expr (.meth .append (.var 2) [(.bin .fdv (.var 0) (.var 3))]))] [])] []), (.aug 3 .add (.cst (.int 1)))]),
      (.ret (.bin .add (.var 1) (.rev (.var 2))))]⟩
def D6 : FnD := ⟨2, 3, [
      (.ret (.bi .sum [(.lc [2] (.var 2) (.ex (.call 5 [(.var 0)])) none (.call 4 [(.var 2), (.var 1)]))]))]⟩
def D7 : FnD := ⟨2, 3, [
      (.asg (.var 2) (.ite (.cmp .gt (.var 1) (.cst (.int 0))) (.call 2 [(.var 0), (.var 1)]) (.bin .sub (.cst (.int 0)) (.call 2 [(.var 0), (.var 1)])))),
      (.ret (.tup [(.bin .fdv (.var 0) (.var 2)), (.bin .fdv (.var 1) (.var 2))]))]⟩
def D8 : FnD := ⟨3, 3, [
      (.ife (.not (.call 1 [(.var 0), (.var 1), (.var 2)])) [(.rse 6 (some (.var 0)))] [])]⟩
def D9 : FnD := ⟨1, 1, [
      (.ret (.ite (.cmp .eq (.bin .mod (.var 0) (.cst (.int 4))) (.cst (.int 1))) (.var 0) (.bin .fdv (.var 0) (.cst (.int 4)))))]⟩
def D10 : FnD := ⟨1, 1, [
      (.ret (.ite (.cmp .eq (.bin .mod (.var 0) (.cst (.int 4))) (.cst (.int 1))) (.var 0) (.bin .mul (.cst (.int 4)) (.var 0))))]⟩
def D11 : FnD := ⟨2, 5, [
      (.par [2, 3] [(.call 9 [(.var 0)]), (.call 9 [(.var 1)])]),
      (.asg (.var 4) (.call 2 [(.var 2), (.var 3)])),
      (.ret (.call 10 [(.bin .mul (.bin .fdv (.var 2) (.var 4)) (.bin .fdv (.var 3) (.var 4)))]))]⟩
def D12 : FnD := ⟨2, 8, [
      (.asg (.var 2) (.bi .min2 [(.bi .len [(.var 0)]), (.bi .len [(.var 1)])])),
      (.asg (.var 3) (.bin .mul (.lst [(.cst (.int 0))]) (.var 2))),
      (.forr (.tup [(.var 4), (.var 5)]) (.enu (.sl (.var 0) none (some (.var 2)))) [(.ife (.cmp .ne (.var 5) (.cst (.int 0))) [(.forr (.tup [(.var 6), (.var 7)]) (.enu (.sl (.var 1) none (some (.bin .sub (.var 2) (.var 4))))) [(.augS (.var 3) (.bin .add (.var 4) (.var 6)) .add (.bin .mul (.var 5) (.var 7)))])] [])]),
      (.ret (.bi .tuple [(.var 3)]))]⟩
def D13 : FnD := ⟨2, 5, [
      (.asg (.var 2) (.bin .mul (.lst [(.cst (.int 0))]) (.bin .add (.bin .mul (.bin .sub (.bi .len [(.var 0)]) (.cst (.int 1))) (.var 1)) (.cst (.int 1))))),
      (.forr (.tup [(.var 3), (.var 4)]) (.enu (.var 0)) [(.asg (.sub (.var 2) (.bin .mul (.var 3) (.var 1))) (.var 4))]),
      (.ret (.bi .tuple [(.var 2)]))]⟩
def D14 : FnD := ⟨1, 2, [
      (.ife (.or (.not (.isi (.var 0) [.tuple])) (.or (.not (.chn .le .le (.cst (.int 1)) (.bi .len [(.var 0)]) (.cst (.int 1001)))) (.not (.bi .all [(.lc [1] (.var 1) (.ex (.var 0)) none (.call 0 [(.var 1)]))])))) [(.rse 4 none)] [])]⟩
def D15 : FnD := ⟨1, 1, [
      (.ret (.tup [(.var 0), (.bi .abs [(.var 0)])]))]⟩
def D16 : FnD := ⟨1, 1, [
      (.ret (.tup [(.fld (.var 0) 4 0), (.fld (.var 0) 3 0)]))]⟩
def D17 : FnD := ⟨1, 1, [
      (.ife (.cmp .gt (.var 0) (.cst (.int 1000000))) [(.rse 7 (some (.cst (.int 1000000))))] []),
      (.ret (.var 0))]⟩
def D18 : FnD := ⟨2, 2, [
      (.ife (.or (.cmp .isN (.fld (.var 0) 4 0) (.cst .non)) (.cmp .isN (.fld (.var 1) 4 0) (.cst .non))) [(.ret (.tup [(.cst .non), (.call 3 [(.fld (.var 0) 3 0), (.fld (.var 1) 3 0)])]))] []),
      (.ret (.call 15 [(.call 11 [(.fld (.var 0) 4 0), (.fld (.var 1) 4 0)])]))]⟩
def D19 : FnD := ⟨1, 2, [
      (.ret (.mk 0 [(.cst (.int 0)), (.cst (.int 1)), (.call 15 [(.cst (.int 1))]), .lam]))]⟩
def D20 : FnD := ⟨2, 4, [
      (.asg (.var 2) (.call 17 [(.call 3 [(.fld (.var 0) 1 0), (.fld (.var 1) 1 0)])])),
      (.ret (.mk 0 [(.bin .add (.fld (.var 0) 5 0) (.fld (.var 1) 5 0)), (.var 2), (.call 18 [(.var 0), (.var 1)]), .lam]))]⟩
def D21 : FnD := ⟨2, 3, [
      (.ret (.mk 0 [(.fld (.var 0) 5 0), (.call 17 [(.bin .mul (.fld (.var 0) 1 0) (.var 1))]), (.call 16 [(.var 0)]), .lam]))]⟩
def D22 : FnD := ⟨1, 1, [
      (.ife (.not (.isf (.var 0) 0)) [(.rse 1 none)] [])]⟩
def D23 : FnD := ⟨1, 1, [
      (.ife (.not (.call 0 [(.var 0)])) [(.rse 6 (some (.var 0)))] [])]⟩
def D24 : FnD := ⟨1, 1, [
      (.expr (.call 23 [(.var 0)])),
      (.ret (.call 19 [(.var 0)]))]⟩
def D25 : FnD := ⟨2, 2, [
      (.expr (.call 22 [(.var 0)])),
      (.expr (.call 8 [(.var 1), (.cst (.int 1)), (.cst (.int 1000))])),
      (.ret (.call 21 [(.var 0), (.var 1)]))]⟩
def D26 : FnD := ⟨2, 4, [
      (.ife (.cmp .eq (.var 1) (.cst (.int 0))) [(.ret (.cst (.int 1)))] []),
      (.ife (.cmp .gt (.var 1) (.var 0)) [(.ret (.cst (.int 0)))] []),
      (.asg (.var 2) (.cst (.int 1))),
      (.forr (.var 3) (.r1 (.var 1)) [(.asg (.var 2) (.bin .fdv (.bin .mul (.var 2) (.bin .sub (.var 0) (.var 3))) (.bin .add (.var 3) (.cst (.int 1)))))]),
      (.ret (.var 2))]⟩
def D27 : FnD := ⟨2, 4, [
      (.ret (.bi .tuple [(.lc [2, 3] (.tup [(.var 2), (.var 3)]) (.enu (.var 0)) none (.bin .mul (.call 4 [(.var 2), (.var 1)]) (.var 3)))]))]⟩
def D28 : FnD := ⟨3, 6, [
      (.asg (.var 3) (.lst [])),
      (.forr (.var 4) (.r1 (.bin .add (.var 2) (.cst (.int 1)))) [(.asg (.var 5) (.bin .sub (.cst (.int 1)) (.bin .mul (.cst (.int 2)) (.bin .mod (.var 4) (.cst (.int 2)))))), (.expr (.meth .append (.var 3) [(.bin .mul (.bin .mul (.var 5) (.call 26 [(.bin .sub (.bin .add (.var 2) (.var 0)) (.cst (.int 1))), (.bin .sub (.var 2) (.var 4))])) (.call 26 [(.bin .sub (.bin .add (.var 2) (.var 1)) (.cst (.int 1))), (.var 4)]))]))]),
      (.ret (.var 3))]⟩
def D29 : FnD := ⟨4, 12, [
      .nev,
      (.forr (.tup [(.var 7), (.var 8)]) (.enu (.call 28 [(.fld (.var 0) 5 0), (.fld (.var 1) 5 0), (.var 2)])) [(.ife (.cmp .ne (.var 8) (.cst (.int 0))) [(.asg (.var 9) (.call 12 [(.call 27 [(.var 4), (.var 7)]), (.call 27 [(.var 5), (.bin .sub (.var 2) (.var 7))])])), (.asg (.var 6) (.lc [10, 11] (.tup [(.var 10), (.var 11)]) (.zip (.var 6) (.var 9)) none (.bin .add (.var 10) (.bin .mul (.var 8) (.var 11)))))] [])]),
      (.ret (.bi .tuple [(.var 6)]))]⟩
def D30 : FnD := ⟨1, 2, [
      (.ret (.sl (.bin .add (.tup [(.cst (.int 1))]) (.bi .tuple [(.lc [1] (.var 1) (.r2 (.cst (.int 1)) (.var 0)) none (.bin .sub (.cst (.int 0)) (.bin .mul (.cst (.int 24)) (.call 6 [(.var 1), (.cst (.int 1))]))))])) none (some (.var 0))))]⟩
def D31 : FnD := ⟨2, 7, [
      .nev,
      (.asg (.var 3) (.call 12 [(.var 2), (.call 30 [(.var 1)])])),
      .nev]⟩
def D32 : FnD := ⟨1, 1, [
      (.expr (.call 8 [(.var 0), (.cst (.int 0)), (.cst (.int 10))]))]⟩
def D33 : FnD := ⟨2, 2, [
      (.expr (.call 14 [(.var 0)])),
      (.expr (.call 8 [(.var 1), (.cst (.int 0)), (.cst (.int 100))])),
      (.ret (.call 27 [(.var 0), (.var 1)]))]⟩
def D34 : FnD := ⟨3, 3, [
      (.expr (.call 8 [(.var 0), (.cst (.int 0)), (.cst (.int 240))])),
      (.expr (.call 8 [(.var 1), (.cst (.int 0)), (.cst (.int 240))])),
      (.expr (.call 32 [(.var 2)])),
      (.ret (.bi .tuple [(.call 28 [(.var 0), (.var 1), (.var 2)])]))]⟩
def D35 : FnD := ⟨3, 5, [
      (.expr (.call 22 [(.var 0)])),
      (.expr (.call 22 [(.var 1)])),
      (.expr (.call 32 [(.var 2)])),
      (.asg (.var 3) (.call 20 [(.var 0), (.var 1)])),
      (.ret (.mk 0 [(.bin .add (.fld (.var 3) 5 0) (.bin .mul (.cst (.int 2)) (.var 2))), (.fld (.var 3) 1 0), (.call 16 [(.var 3)]), .lam]))]⟩
def D36 : FnD := ⟨1, 2, [
      (.expr (.call 22 [(.var 0)])),
      (.ret (.mk 0 [(.bin .add (.fld (.var 0) 5 0) (.cst (.int 2))), (.fld (.var 0) 1 0), (.call 16 [(.var 0)]), .lam]))]⟩
def D37 : FnD := ⟨1, 3, [
      (.asg (.var 1) (.lst [(.cst (.int 1))])),
      (.forr (.var 2) (.r1 (.var 0)) [(.expr (.meth .append (.var 1) [(.bin .fdv (.bin .mul (.ix (.var 1) (.neg (.cst (.int 1)))) (.bin .sub (.var 0) (.var 2))) (.bin .add (.var 2) (.cst (.int 1))))]))]),
      (.ret (.var 1))]⟩
def D38 : FnD := ⟨2, 2, [
      (.ret (.call 7 [(.bin .add (.bin .mul (.ix (.var 0) (.cst (.int 0))) (.ix (.var 1) (.cst (.int 1)))) (.bin .mul (.ix (.var 1) (.cst (.int 0))) (.ix (.var 0) (.cst (.int 1))))), (.bin .mul (.ix (.var 0) (.cst (.int 1))) (.ix (.var 1) (.cst (.int 1))))]))]⟩
def D39 : FnD := ⟨1, 6, [
      (.asg (.var 1) (.lst [(.tup [(.cst (.int 1)), (.cst (.int 1))])])),
      (.forr (.var 2) (.r2 (.cst (.int 1)) (.bin .add (.var 0) (.cst (.int 1)))) [(.asg (.var 3) (.tup [(.cst (.int 0)), (.cst (.int 1))])), (.forr (.tup [(.var 4), (.var 5)]) (.zip (.call 37 [(.bin .add (.var 2) (.cst (.int 1)))]) (.var 1)) [(.asg (.var 3) (.call 38 [(.var 3), (.tup [(.bin .mul (.var 4) (.ix (.var 5) (.cst (.int 0)))), (.ix (.var 5) (.cst (.int 1)))])]))]), (.expr (.meth .append (.var 1) [(.call 7 [(.bin .sub (.cst (.int 0)) (.ix (.var 3) (.cst (.int 0)))), (.bin .mul (.ix (.var 3) (.cst (.int 1))) (.bin .add (.var 2) (.cst (.int 1))))])]))]),
      (.ret (.var 1))]⟩
def D40 : FnD := ⟨2, 2, [
      (.ret (.call 7 [(.bin .sub (.cst (.int 0)) (.ix (.var 1) (.cst (.int 0)))), (.bin .mul (.bin .mul (.cst (.int 2)) (.var 0)) (.ix (.var 1) (.cst (.int 1))))]))]⟩
def D41 : FnD := ⟨3, 6, [
      (.asg (.var 3) (.bin .add (.lst [(.var 0)]) (.bin .mul (.lst [(.cst (.int 0))]) (.var 1)))),
      (.forr (.var 4) (.r2 (.cst (.int 1)) (.var 1)) [(.forr (.var 5) (.r3 (.var 4) (.var 1) (.var 4)) [(.augS (.var 3) (.var 5) .add (.callv 2 [(.var 4), (.bin .fdv (.var 5) (.var 4))]))])]),
      (.ret (.bi .tuple [(.sl (.var 3) none (some (.var 1)))]))]⟩
def D42 : FnD := ⟨2, 3, [
      (.ret (.bin .add (.sl (.var 0) none (some (.cst (.int 1)))) (.bi .tuple [(.lc [2] (.var 2) (.ex (.sl (.var 0) (some (.cst (.int 1))) none)) none (.bin .mul (.var 1) (.var 2)))])))]⟩
def D43 : FnD := ⟨1, 6, [
      (.asg (.tup [(.var 1), (.var 2)]) (.call 40 [(.var 0), (.ix (.call 39 [(.var 0)]) (.var 0))])),
      (.ret (.mk 0 [(.var 0), (.cst (.int 1)), (.call 15 [(.cst (.int 1))]), .lam]))]⟩
def D44 : FnD := ⟨1, 1, [
      (.ife (.or (.not (.call 1 [(.var 0), (.cst (.int 4)), (.cst (.int 60))])) (.cmp .eq (.bin .mod (.var 0) (.cst (.int 2))) (.cst (.int 1)))) [(.rse 6 (some (.var 0)))] []),
      (.ret (.call 43 [(.var 0)]))]⟩
def D45 : FnD := ⟨2, 5, [
      (.asg (.var 2) (.ite (.cmp .lt (.var 1) (.bi .len [(.var 0)])) (.bi .int [(.ix (.var 0) (.var 1))]) (.bin .add (.bin .mul (.cst (.int 157)) (.var 1)) (.cst (.int 61))))),
      (.asg (.var 3) (.bin .mod (.bi .int [(.bi .abs [(.var 2)])]) (.bin .pow (.bin .pow (.cst (.int 10)) (.cst (.int 54))) (.cst (.int 6))))),
      (.asg (.var 4) (.bin .add (.bin .add (.bin .add (.bin .mul (.bin .mod (.var 3) (.cst (.int 2305843009213693921))) (.cst (.int 73))) (.bin .mul (.cst (.int 757)) (.var 1))) (.bin .mul (.cst (.int 43)) (.bi .int [(.cmp .lt (.var 2) (.cst (.int 0)))]))) (.cst (.int 37)))),
      (.ret (.lst [(.bi .max2 [(.cst (.int 0)), (.bin .sub (.var 3) (.bin .pow (.cst (.int 10)) (.cst (.int 16))))]), (.var 4), (.cst (.int 0))]))]⟩
def D46 : FnD := ⟨2, 5, [
      (.ife (.cmp .gt (.ix (.var 0) (.cst (.int 0))) (.cst (.int 0))) [(.asg (.var 2) (.bin .mod (.ix (.var 0) (.cst (.int 0))) (.var 1))), (.asg (.sub (.var 0) (.cst (.int 0))) (.bin .fdv (.ix (.var 0) (.cst (.int 0))) (.var 1))), (.ret (.bi .int [(.var 2)]))] []),
      (.asg (.sub (.var 0) (.cst (.int 2))) (.bin .add (.ix (.var 0) (.cst (.int 2))) (.cst (.int 1)))),
      (.asg (.var 3) (.bin .mod (.bin .add (.ix (.var 0) (.cst (.int 1))) (.bin .mul (.cst (.int 86028157)) (.ix (.var 0) (.cst (.int 2))))) (.cst (.int 2305843009213693951)))),
      (.asg (.var 4) (.bin .add (.bin .mul (.bin .mod (.bin .add (.bin .mul (.var 3) (.var 3)) (.bin .mul (.cst (.int 191)) (.ix (.var 0) (.cst (.int 2))))) (.cst (.int 2305843009213693907))) (.cst (.int 15485867))) (.var 3))),
      (.ret (.bin .mod (.bi .int [(.bin .fdv (.var 4) (.cst (.int 65579)))]) (.var 1)))]⟩
def D47 : FnD := ⟨2, 2, [
      (.ret (.ix (.var 1) (.call 46 [(.var 0), (.bi .len [(.var 1)])])))]⟩
def D48 : FnD := ⟨3, 3, [
      (.ife (.cmp .gt (.call 46 [(.var 0), (.cst (.int 3))]) (.cst (.int 0))) [(.ret (.tup [(.var 1), (.cst (.bl false))]))] []),
      (.ret (.tup [(.call 47 [(.var 0), (.var 2)]), (.cst (.bl true))]))]⟩
def D49 : FnD := ⟨1, 4, [
      (.asg (.var 1) (.lc [2, 3] (.tup [(.var 2), (.var 3)]) (.ex (.var 0)) (some (.var 3)) (.var 2))),
      (.ret (.ite (.cmp .ne (.var 1) (.lst [])) (.ix (.var 1) (.cst (.int 0))) (.cst (.str (⟨#[110, 111, 110, 101]⟩ : PySem.Str)))))]⟩
def D50 : FnD := ⟨1, 2, [
      .nev,
      (.ret (.cst (.str (⟨#[110, 111, 110, 101]⟩ : PySem.Str))))]⟩
def D51 : FnD := ⟨1, 18, [
      (.asg (.var 1) (.lst [(.cst .non), (.cst (.int 0)), (.tup [(.cst (.int 1)), (.cst (.int 240))]), (.cst (.str (⟨#[102, 111, 114, 109]⟩ : PySem.Str))), .edc, (.cst (.bl true))])),
      (.asg (.tup [(.var 2), (.var 3)]) (.call 48 [(.var 0), (.call 44 [(.cst (.int 4))]), (.var 1)])),
      (.asg (.tup [(.var 4), (.var 5)]) (.call 48 [(.var 0), (.call 44 [(.cst (.int 8))]), (.var 1)])),
      (.asg (.tup [(.var 6), (.var 7)]) (.call 48 [(.var 0), (.call 47 [(.var 0), (.lst [(.cst (.int 0)), (.cst (.int 1)), (.cst (.int 10))])]), (.lst [(.neg (.cst (.int 1))), (.cst (.int 11)), (.cst .non), (.cst (.bl true)), (.cst (.str (⟨#[49]⟩ : PySem.Str))), (.tup [(.cst (.int 1))])])])),
      (.asg (.var 8) (.lst [(.tup [(.cst (.str (⟨#[102, 111, 114, 109]⟩ : PySem.Str))), (.var 3)]), (.tup [(.cst (.str (⟨#[102, 111, 114, 109]⟩ : PySem.Str))), (.var 5)]), (.tup [(.bin .add (.cst (.str (⟨#[99, 111, 117, 110, 116, 32]⟩ : PySem.Str))) (.bi .repr [(.var 6)])), (.var 7)])])),
      (.ife (.cmp .ne (.met [⟨[1], (⟨#[102, 111, 114, 109]⟩ : PySem.Str), false⟩, ⟨[2], (⟨#[115, 105, 103, 110]⟩ : PySem.Str), false⟩, ⟨[3], (⟨#[116, 97, 98, 108, 101]⟩ : PySem.Str), false⟩, ⟨[4], (⟨#[114, 111, 119]⟩ : PySem.Str), false⟩, ⟨[5], (⟨#[111, 112, 101, 114, 97, 116, 105, 111, 110]⟩ : PySem.Str), false⟩, ⟨[6], (⟨#[99, 111, 117, 110, 116, 32]⟩ : PySem.Str), true⟩, ⟨[7], (⟨#[109, 97, 110, 121, 32]⟩ : PySem.Str), true⟩, ⟨[8], (⟨#[114, 101, 102, 117, 115, 101, 100, 32]⟩ : PySem.Str), true⟩] (⟨#[110, 111, 110, 101]⟩ : PySem.Str) (.call 35 [(.var 2), (.var 4), (.var 6)])) (.call 49 [(.var 8)])) [(.ret (.cst (.bl false)))] []),
      (.ife (.cmp .ne (.met [⟨[1], (⟨#[102, 111, 114, 109]⟩ : PySem.Str), false⟩, ⟨[2], (⟨#[115, 105, 103, 110]⟩ : PySem.Str), false⟩, ⟨[3], (⟨#[116, 97, 98, 108, 101]⟩ : PySem.Str), false⟩, ⟨[4], (⟨#[114, 111, 119]⟩ : PySem.Str), false⟩, ⟨[5], (⟨#[111, 112, 101, 114, 97, 116, 105, 111, 110]⟩ : PySem.Str), false⟩, ⟨[6], (⟨#[99, 111, 117, 110, 116, 32]⟩ : PySem.Str), true⟩, ⟨[7], (⟨#[109, 97, 110, 121, 32]⟩ : PySem.Str), true⟩, ⟨[8], (⟨#[114, 101, 102, 117, 115, 101, 100, 32]⟩ : PySem.Str), true⟩] (⟨#[110, 111, 110, 101]⟩ : PySem.Str) (.call 36 [(.var 2)])) (.call 49 [(.sl (.var 8) none (some (.cst (.int 1))))])) [(.ret (.cst (.bl false)))] []),
      (.asg (.tup [(.var 9), (.var 10)]) (.call 48 [(.var 0), (.call 47 [(.var 0), (.lst [(.cst (.int 0)), (.cst (.int 1)), (.cst (.int 240))])]), (.lst [(.neg (.cst (.int 1))), (.cst (.int 241)), (.cst .non), (.cst (.bl true)), (.cst (.str (⟨#[52]⟩ : PySem.Str)))])])),
      (.asg (.tup [(.var 11), (.var 12)]) (.call 48 [(.var 0), (.call 47 [(.var 0), (.lst [(.cst (.int 0)), (.cst (.int 2)), (.cst (.int 240))])]), (.lst [(.neg (.cst (.int 1))), (.cst (.int 241)), (.cst .non), (.cst (.bl false)), (.cst (.str (⟨#[52]⟩ : PySem.Str)))])])),
      (.asg (.var 13) (.lst [(.tup [(.bin .add (.cst (.str (⟨#[99, 111, 117, 110, 116, 32]⟩ : PySem.Str))) (.bi .repr [(.var 9)])), (.var 10)]), (.tup [(.bin .add (.cst (.str (⟨#[99, 111, 117, 110, 116, 32]⟩ : PySem.Str))) (.bi .repr [(.var 11)])), (.var 12)]), (.tup [(.bin .add (.cst (.str (⟨#[99, 111, 117, 110, 116, 32]⟩ : PySem.Str))) (.bi .repr [(.var 6)])), (.var 7)])])),
      (.ife (.cmp .ne (.met [⟨[1], (⟨#[102, 111, 114, 109]⟩ : PySem.Str), false⟩, ⟨[2], (⟨#[115, 105, 103, 110]⟩ : PySem.Str), false⟩, ⟨[3], (⟨#[116, 97, 98, 108, 101]⟩ : PySem.Str), false⟩, ⟨[4], (⟨#[114, 111, 119]⟩ : PySem.Str), false⟩, ⟨[5], (⟨#[111, 112, 101, 114, 97, 116, 105, 111, 110]⟩ : PySem.Str), false⟩, ⟨[6], (⟨#[99, 111, 117, 110, 116, 32]⟩ : PySem.Str), true⟩, ⟨[7], (⟨#[109, 97, 110, 121, 32]⟩ : PySem.Str), true⟩, ⟨[8], (⟨#[114, 101, 102, 117, 115, 101, 100, 32]⟩ : PySem.Str), true⟩] (⟨#[110, 111, 110, 101]⟩ : PySem.Str) (.call 34 [(.var 9), (.var 11), (.var 6)])) (.call 49 [(.var 13)])) [(.ret (.cst (.bl false)))] []),
      (.asg (.tup [(.var 14), (.var 15)]) (.call 48 [(.var 0), (.tup [(.cst (.int 1)), (.cst (.int 2)), (.cst (.int 3))]), (.lst [(.cst .non), (.tup []), (.lst [(.cst (.int 1)), (.cst (.int 2))]), (.tup [(.cst (.int 1)), (.cst (.bl true))]), (.cst (.str (⟨#[49, 50]⟩ : PySem.Str))), (.bin .mul (.tup [(.cst (.int 0))]) (.cst (.int 1002)))])])),
      (.asg (.tup [(.var 16), (.var 17)]) (.call 48 [(.var 0), (.call 47 [(.var 0), (.lst [(.cst (.int 0)), (.cst (.int 1)), (.cst (.int 100))])]), (.lst [(.neg (.cst (.int 1))), (.cst (.int 101)), (.cst .non), (.cst (.bl true)), (.cst (.str (⟨#[49]⟩ : PySem.Str)))])])),
      (.ret (.cmp .eq (.met [⟨[1], (⟨#[102, 111, 114, 109]⟩ : PySem.Str), false⟩, ⟨[2], (⟨#[115, 105, 103, 110]⟩ : PySem.Str), false⟩, ⟨[3], (⟨#[116, 97, 98, 108, 101]⟩ : PySem.Str), false⟩, ⟨[4], (⟨#[114, 111, 119]⟩ : PySem.Str), false⟩, ⟨[5], (⟨#[111, 112, 101, 114, 97, 116, 105, 111, 110]⟩ : PySem.Str), false⟩, ⟨[6], (⟨#[99, 111, 117, 110, 116, 32]⟩ : PySem.Str), true⟩, ⟨[7], (⟨#[109, 97, 110, 121, 32]⟩ : PySem.Str), true⟩, ⟨[8], (⟨#[114, 101, 102, 117, 115, 101, 100, 32]⟩ : PySem.Str), true⟩] (⟨#[110, 111, 110, 101]⟩ : PySem.Str) (.call 33 [(.var 14), (.var 16)])) (.call 49 [(.lst [(.tup [(.cst (.str (⟨#[114, 111, 119]⟩ : PySem.Str))), (.var 15)]), (.tup [(.bin .add (.cst (.str (⟨#[99, 111, 117, 110, 116, 32]⟩ : PySem.Str))) (.bi .repr [(.var 16)])), (.var 17)])])])))]⟩
def D52 : FnD := ⟨1, 6, [
      (.forr (.var 1) (.r1 (.bi .max2 [(.cst (.int 1)), (.bi .min2 [(.cst (.int 8)), (.bi .len [(.var 0)])])])) [(.asg (.var 2) (.call 45 [(.var 0), (.var 1)])), (.forr (.var 3) (.r1 (.cst (.int 3))) [(.ife (.not (.call 51 [(.var 2)])) [(.ret (.cst (.bl false)))] [])])]),
      (.asg (.tup [(.var 4), (.var 5)]) (.tup [(.call 25 [(.call 25 [(.call 24 [(.cst (.int 1))]), (.cst (.int 1000))]), (.cst (.int 1000))]), (.call 25 [(.call 24 [(.cst (.int 1))]), (.cst (.int 3))])])),
      (.ife (.cmp .ne (.met [⟨[1], (⟨#[102, 111, 114, 109]⟩ : PySem.Str), false⟩, ⟨[2], (⟨#[115, 105, 103, 110]⟩ : PySem.Str), false⟩, ⟨[3], (⟨#[116, 97, 98, 108, 101]⟩ : PySem.Str), false⟩, ⟨[4], (⟨#[114, 111, 119]⟩ : PySem.Str), false⟩, ⟨[5], (⟨#[111, 112, 101, 114, 97, 116, 105, 111, 110]⟩ : PySem.Str), false⟩, ⟨[6], (⟨#[99, 111, 117, 110, 116, 32]⟩ : PySem.Str), true⟩, ⟨[7], (⟨#[109, 97, 110, 121, 32]⟩ : PySem.Str), true⟩, ⟨[8], (⟨#[114, 101, 102, 117, 115, 101, 100, 32]⟩ : PySem.Str), true⟩] (⟨#[110, 111, 110, 101]⟩ : PySem.Str) (.call 35 [(.var 4), (.var 5), (.cst (.int 1))])) (.cst (.str (⟨#[109, 97, 110, 121, 32, 49, 48, 48, 48, 48, 48, 48]⟩ : PySem.Str)))) [(.ret (.cst (.bl false)))] []),
      (.ret (.cmp .eq (.met [⟨[1], (⟨#[102, 111, 114, 109]⟩ : PySem.Str), false⟩, ⟨[2], (⟨#[115, 105, 103, 110]⟩ : PySem.Str), false⟩, ⟨[3], (⟨#[116, 97, 98, 108, 101]⟩ : PySem.Str), false⟩, ⟨[4], (⟨#[114, 111, 119]⟩ : PySem.Str), false⟩, ⟨[5], (⟨#[111, 112, 101, 114, 97, 116, 105, 111, 110]⟩ : PySem.Str), false⟩, ⟨[6], (⟨#[99, 111, 117, 110, 116, 32]⟩ : PySem.Str), true⟩, ⟨[7], (⟨#[109, 97, 110, 121, 32]⟩ : PySem.Str), true⟩, ⟨[8], (⟨#[114, 101, 102, 117, 115, 101, 100, 32]⟩ : PySem.Str), true⟩] (⟨#[110, 111, 110, 101]⟩ : PySem.Str) (.call 36 [(.var 4)])) (.cst (.str (⟨#[110, 111, 110, 101]⟩ : PySem.Str)))))]⟩
def P : List FnD := [D0, D1, D2, D3, D4, D5, D6, D7, D8, D9, D10, D11, D12, D13, D14, D15, D16, D17, D18, D19, D20, D21, D22, D23, D24, D25, D26, D27, D28, D29, D30, D31, D32, D33, D34, D35, D36, D37, D38, D39, D40, D41, D42, D43, D44, D45, D46, D47, D48, D49, D50, D51, D52]
theorem c0 (k : Nat) (vs : List MV) (h : Hm) : calls P (k + 1) 0 vs h = runFn (calls P k) D0 vs h := rfl
theorem c1 (k : Nat) (vs : List MV) (h : Hm) : calls P (k + 1) 1 vs h = runFn (calls P k) D1 vs h := rfl
theorem c2 (k : Nat) (vs : List MV) (h : Hm) : calls P (k + 1) 2 vs h = runFn (calls P k) D2 vs h := rfl
theorem c3 (k : Nat) (vs : List MV) (h : Hm) : calls P (k + 1) 3 vs h = runFn (calls P k) D3 vs h := rfl
theorem c4 (k : Nat) (vs : List MV) (h : Hm) : calls P (k + 1) 4 vs h = runFn (calls P k) D4 vs h := rfl
theorem c5 (k : Nat) (vs : List MV) (h : Hm) : calls P (k + 1) 5 vs h = runFn (calls P k) D5 vs h := rfl
theorem c6 (k : Nat) (vs : List MV) (h : Hm) : calls P (k + 1) 6 vs h = runFn (calls P k) D6 vs h := rfl
theorem c7 (k : Nat) (vs : List MV) (h : Hm) : calls P (k + 1) 7 vs h = runFn (calls P k) D7 vs h := rfl
theorem c8 (k : Nat) (vs : List MV) (h : Hm) : calls P (k + 1) 8 vs h = runFn (calls P k) D8 vs h := rfl
theorem c9 (k : Nat) (vs : List MV) (h : Hm) : calls P (k + 1) 9 vs h = runFn (calls P k) D9 vs h := rfl
theorem c10 (k : Nat) (vs : List MV) (h : Hm) : calls P (k + 1) 10 vs h = runFn (calls P k) D10 vs h := rfl
theorem c11 (k : Nat) (vs : List MV) (h : Hm) : calls P (k + 1) 11 vs h = runFn (calls P k) D11 vs h := rfl
theorem c12 (k : Nat) (vs : List MV) (h : Hm) : calls P (k + 1) 12 vs h = runFn (calls P k) D12 vs h := rfl
theorem c13 (k : Nat) (vs : List MV) (h : Hm) : calls P (k + 1) 13 vs h = runFn (calls P k) D13 vs h := rfl
theorem c14 (k : Nat) (vs : List MV) (h : Hm) : calls P (k + 1) 14 vs h = runFn (calls P k) D14 vs h := rfl
theorem c15 (k : Nat) (vs : List MV) (h : Hm) : calls P (k + 1) 15 vs h = runFn (calls P k) D15 vs h := rfl
theorem c16 (k : Nat) (vs : List MV) (h : Hm) : calls P (k + 1) 16 vs h = runFn (calls P k) D16 vs h := rfl
theorem c17 (k : Nat) (vs : List MV) (h : Hm) : calls P (k + 1) 17 vs h = runFn (calls P k) D17 vs h := rfl
theorem c18 (k : Nat) (vs : List MV) (h : Hm) : calls P (k + 1) 18 vs h = runFn (calls P k) D18 vs h := rfl
theorem c19 (k : Nat) (vs : List MV) (h : Hm) : calls P (k + 1) 19 vs h = runFn (calls P k) D19 vs h := rfl
theorem c20 (k : Nat) (vs : List MV) (h : Hm) : calls P (k + 1) 20 vs h = runFn (calls P k) D20 vs h := rfl
theorem c21 (k : Nat) (vs : List MV) (h : Hm) : calls P (k + 1) 21 vs h = runFn (calls P k) D21 vs h := rfl
theorem c22 (k : Nat) (vs : List MV) (h : Hm) : calls P (k + 1) 22 vs h = runFn (calls P k) D22 vs h := rfl
theorem c23 (k : Nat) (vs : List MV) (h : Hm) : calls P (k + 1) 23 vs h = runFn (calls P k) D23 vs h := rfl
theorem c24 (k : Nat) (vs : List MV) (h : Hm) : calls P (k + 1) 24 vs h = runFn (calls P k) D24 vs h := rfl
theorem c25 (k : Nat) (vs : List MV) (h : Hm) : calls P (k + 1) 25 vs h = runFn (calls P k) D25 vs h := rfl
theorem c26 (k : Nat) (vs : List MV) (h : Hm) : calls P (k + 1) 26 vs h = runFn (calls P k) D26 vs h := rfl
theorem c27 (k : Nat) (vs : List MV) (h : Hm) : calls P (k + 1) 27 vs h = runFn (calls P k) D27 vs h := rfl
theorem c28 (k : Nat) (vs : List MV) (h : Hm) : calls P (k + 1) 28 vs h = runFn (calls P k) D28 vs h := rfl
theorem c29 (k : Nat) (vs : List MV) (h : Hm) : calls P (k + 1) 29 vs h = runFn (calls P k) D29 vs h := rfl
theorem c30 (k : Nat) (vs : List MV) (h : Hm) : calls P (k + 1) 30 vs h = runFn (calls P k) D30 vs h := rfl
theorem c31 (k : Nat) (vs : List MV) (h : Hm) : calls P (k + 1) 31 vs h = runFn (calls P k) D31 vs h := rfl
theorem c32 (k : Nat) (vs : List MV) (h : Hm) : calls P (k + 1) 32 vs h = runFn (calls P k) D32 vs h := rfl
theorem c33 (k : Nat) (vs : List MV) (h : Hm) : calls P (k + 1) 33 vs h = runFn (calls P k) D33 vs h := rfl
theorem c34 (k : Nat) (vs : List MV) (h : Hm) : calls P (k + 1) 34 vs h = runFn (calls P k) D34 vs h := rfl
theorem c35 (k : Nat) (vs : List MV) (h : Hm) : calls P (k + 1) 35 vs h = runFn (calls P k) D35 vs h := rfl
theorem c36 (k : Nat) (vs : List MV) (h : Hm) : calls P (k + 1) 36 vs h = runFn (calls P k) D36 vs h := rfl
theorem c37 (k : Nat) (vs : List MV) (h : Hm) : calls P (k + 1) 37 vs h = runFn (calls P k) D37 vs h := rfl
theorem c38 (k : Nat) (vs : List MV) (h : Hm) : calls P (k + 1) 38 vs h = runFn (calls P k) D38 vs h := rfl
theorem c39 (k : Nat) (vs : List MV) (h : Hm) : calls P (k + 1) 39 vs h = runFn (calls P k) D39 vs h := rfl
theorem c40 (k : Nat) (vs : List MV) (h : Hm) : calls P (k + 1) 40 vs h = runFn (calls P k) D40 vs h := rfl
theorem c41 (k : Nat) (vs : List MV) (h : Hm) : calls P (k + 1) 41 vs h = runFn (calls P k) D41 vs h := rfl
theorem c42 (k : Nat) (vs : List MV) (h : Hm) : calls P (k + 1) 42 vs h = runFn (calls P k) D42 vs h := rfl
theorem c43 (k : Nat) (vs : List MV) (h : Hm) : calls P (k + 1) 43 vs h = runFn (calls P k) D43 vs h := rfl
theorem c44 (k : Nat) (vs : List MV) (h : Hm) : calls P (k + 1) 44 vs h = runFn (calls P k) D44 vs h := rfl
theorem c45 (k : Nat) (vs : List MV) (h : Hm) : calls P (k + 1) 45 vs h = runFn (calls P k) D45 vs h := rfl
theorem c46 (k : Nat) (vs : List MV) (h : Hm) : calls P (k + 1) 46 vs h = runFn (calls P k) D46 vs h := rfl
theorem c47 (k : Nat) (vs : List MV) (h : Hm) : calls P (k + 1) 47 vs h = runFn (calls P k) D47 vs h := rfl
theorem c48 (k : Nat) (vs : List MV) (h : Hm) : calls P (k + 1) 48 vs h = runFn (calls P k) D48 vs h := rfl
theorem c49 (k : Nat) (vs : List MV) (h : Hm) : calls P (k + 1) 49 vs h = runFn (calls P k) D49 vs h := rfl
theorem c50 (k : Nat) (vs : List MV) (h : Hm) : calls P (k + 1) 50 vs h = runFn (calls P k) D50 vs h := rfl
theorem c51 (k : Nat) (vs : List MV) (h : Hm) : calls P (k + 1) 51 vs h = runFn (calls P k) D51 vs h := rfl
theorem c52 (k : Nat) (vs : List MV) (h : Hm) : calls P (k + 1) 52 vs h = runFn (calls P k) D52 vs h := rfl
/-! ### dice -/
def D (a s n : Int) : MO := .lst [.int a, .int s, .int n]
theorem d0 (a s n : Int) (p t : Hm) : ixV (.ref p.length) (.int 0) (p ++ D a s n :: t) = some (.int a) := by
  simp -implicitDefEqProofs only [ixV, seq, items, hx_get0, List.getElem?_cons_zero, D]; rfl
theorem d1 (a s n : Int) (p t : Hm) : ixV (.ref p.length) (.int 1) (p ++ D a s n :: t) = some (.int s) := by
  simp -implicitDefEqProofs only [ixV, seq, items, hx_get0, List.getElem?_cons_zero, D]; rfl
theorem d2 (a s n : Int) (p t : Hm) : ixV (.ref p.length) (.int 2) (p ++ D a s n :: t) = some (.int n) := by
  simp -implicitDefEqProofs only [ixV, seq, items, hx_get0, List.getElem?_cons_zero, D]; rfl
theorem w0 (a s n a' : Int) (p t : Hm) : setSub (.ref p.length) (.int 0) (.int a') (p ++ D a s n :: t) = some (p ++ D a' s n :: t) := by
  simp -implicitDefEqProofs only [setSub, hx_get0, List.getElem?_cons_zero, D, hx_set0]; rfl
theorem w2 (a s n n' : Int) (p t : Hm) : setSub (.ref p.length) (.int 2) (.int n') (p ++ D a s n :: t) = some (p ++ D a s n' :: t) := by
  simp -implicitDefEqProofs only [setSub, hx_get0, List.getElem?_cons_zero, D, hx_set0]; rfl
theorem fmod_pos (i j : Int) (h : 0 < j) : 0 ≤ i.fmod j ∧ i.fmod j < j := by
  rw [Int.fmod_eq_emod_of_nonneg _ (by omega)]
  exact ⟨Int.emod_nonneg _ (by omega), Int.emod_lt_of_pos _ h⟩
theorem bi_fdvK (a b : Int) (h : Hm) (hf : fdvOk b = true) : bop .fdv (.int a) (.int b) h = some (.int (a.fdiv b)) := by
  show (if fdvOk b then some (MV.int (a.fdiv b)) else none) = _
  rw [hf]; rfl
theorem roll_ok (k : Nat) (a s n total : Int) (p t : Hm) (ht : 0 < total) (hf : fdvOk total = true) : ∃ v a' n', 0 ≤ v ∧ v < total ∧ calls P (k + 1) 46 [.ref p.length, .int total] (p ++ D a s n :: t) = some (.ok (.int v) (p ++ D a' s n' :: t)) := by
  have hne : total ≠ 0 := by omega
  by_cases ha : 0 < a
  · refine ⟨a.fmod total, a.fdiv total, n, (fmod_pos a total ht).1, (fmod_pos a total ht).2, ?_⟩
    rw [c46]
    have bm := bi_mod a total (p ++ D a s n :: t) hne
    have bd := bi_fdvK a total (p ++ D a s n :: t) hf
    simp -implicitDefEqProofs only [runFn, stoL, sto, MV.nol, nolL, if_true, List.length_cons, List.length_nil, List.map_cons, List.map_nil, List.cons_append, List.nil_append, Nat.reduceSub, Nat.reduceAdd, Nat.zero_add, List.replicate, D46]
    simp -implicitDefEqProofs (disch := first | omega | assumption | rfl | decide | (simp -implicitDefEqProofs only [frz, MV.pure, pureL, MV.nol, nolL, Bool.and_self, pureL_ints, pureL_nI, nolL_ints]; done) | (simp -implicitDefEqProofs only [List.length_map, List.length_append, List.length_cons, List.length_nil, List.length_reverse]; omega)) only [stoL, sto, MV.nol, nolL, MV.pure, pureL, e_var, e_cst, e_bin, e_neg, e_not, e_and, e_or, e_ite, e_cmp, e_chn, e_tup, e_lst, e_ix, e_sl, e_rev, e_call, e_bi, e_isi, e_meth, s_asg0, s_par0, s_aug0, s_augS0, s_expr0, s_ret0, s_retN0, s_ife0, s_pass0, s_brk0, s_cnt0, es_nil, es_cons, eo_none, eo_some, ec_none, ec_some, et_var, et_tup, et_sub, ets_nil, ets_cons, eb_nil, eb_cons, truth, endFn, handBack, froz, frozL, frz, stoAll, unl, nl, nolL_ints, pureL_ints, frozL_ints, intsOf_ints, frz_ints, pureL_nI, nolL_nI, frozL_nI, hx_get0, hx_getS, hx_set0, hx_setS, hx_take, hx_take1, hx_take2, hx_take3, hx_take4, hx_get3, hx_len, hx_app, hx_ge, hx_ge0, itemsL, items, seq, m_app0, m_app1, m_app2, add_ll, add_rl0, add_rl1, evalI, cmpOf, bv_tup, bv_tupt, bv_tupf, bv_lenl, bv_lent, bv_lenf, bv_lens, bv_lenr0, bv_lenr1, bv_int, bv_intb, List.getElem?_nil, List.take_succ_cons, List.take_nil, List.take_length, List.take_zero, and_true, true_and, and_false, false_and, List.getElem?_cons_zero, List.getElem?_cons_succ, List.set_cons_zero, List.set_cons_succ, List.length_cons, List.length_nil, List.cons_append, List.nil_append, List.append_nil, List.map_cons, List.map_nil, List.length_map, List.replicate, List.all_cons, List.all_nil, Nat.reduceSub, Nat.reduceAdd, Nat.reduceLT, Nat.reduceLeDiff, Nat.zero_add, Nat.add_zero, and_self, if_true, if_false, ite_true, ite_false, decide_true, decide_false, Bool.not_true, Bool.not_false, Bool.and_true, Bool.true_and, Bool.and_false, Bool.false_and, Bool.or_true, Bool.true_or, Bool.or_false, Bool.false_or, Bool.and_self, bnd_ok, bnd_ex, exS_ok, exS_ex, lift_some, noX_ok, thenS_rt, thenS_nx, thenS_bk, thenS_ct, thenS_ex, Option.map_some, Option.bind_some, Option.some.injEq, reduceCtorEq, ite_self, Bool.false_eq_true, not_true_eq_false, not_false_eq_true, eq_self, Int.reduceSub, Int.reduceAdd, Int.reduceMul, Int.reduceNeg, bi_add, bi_sub, ci_le, ci_lt, ci_ge, ci_gt, ci_eq, ci_ne, d0, ha, bm, bd, w0]
  · obtain ⟨o, ho⟩ : ∃ o, o = (s + 86028157 * (n + 1)).fmod 2305843009213693951 := ⟨_, rfl⟩
    obtain ⟨q, hq⟩ : ∃ q, q = (o * o + 191 * (n + 1)).fmod 2305843009213693907 * 15485867 + o := ⟨_, rfl⟩
    refine ⟨(q.fdiv 65579).fmod total, a, n + 1, (fmod_pos _ total ht).1, (fmod_pos _ total ht).2, ?_⟩
    rw [c46]
    have hoo := fmod_pos (s + 86028157 * (n + 1)) 2305843009213693951 (by decide)
    rw [← ho] at hoo
    have m1 : ∀ hh, bop .mul (.int 86028157) (.int (n + 1)) hh = some (.int (86028157 * (n + 1))) := fun hh => bi_mul _ _ _ (.inl (by decide))
    have m2 : ∀ hh, bop .mul (.int o) (.int o) hh = some (.int (o * o)) := fun hh => bi_mul _ _ _ (.inl (by omega))
    have m3 : ∀ hh, bop .mul (.int 191) (.int (n + 1)) hh = some (.int (191 * (n + 1))) := fun hh => bi_mul _ _ _ (.inl (by decide))
    have m4 : ∀ (i : Int) hh, bop .mul (.int i) (.int 15485867) hh = some (.int (i * 15485867)) := fun i hh => bi_mul _ _ _ (.inr (by decide))
    have o1 : ∀ hh, bop .mod (.int (s + 86028157 * (n + 1))) (.int 2305843009213693951) hh = some (.int o) := fun hh => by rw [bi_mod _ _ _ (by decide), ho]
    have o2 : ∀ hh, bop .mod (.int (o * o + 191 * (n + 1))) (.int 2305843009213693907) hh = some (.int ((o * o + 191 * (n + 1)).fmod 2305843009213693907)) := fun hh => bi_mod _ _ _ (by decide)
    have o3 : ∀ hh, bop .fdv (.int q) (.int 65579) hh = some (.int (q.fdiv 65579)) := fun hh => bi_fdv _ _ _ (by decide) (by decide)
    have o4 : ∀ hh, bop .mod (.int (q.fdiv 65579)) (.int total) hh = some (.int ((q.fdiv 65579).fmod total)) := fun hh => bi_mod _ _ _ hne
    simp -implicitDefEqProofs only [runFn, stoL, sto, MV.nol, nolL, if_true, List.length_cons, List.length_nil, List.map_cons, List.map_nil, List.cons_append, List.nil_append, Nat.reduceSub, Nat.reduceAdd, Nat.zero_add, List.replicate, D46]
    simp -implicitDefEqProofs (disch := first | omega | assumption | rfl | decide | (simp -implicitDefEqProofs only [frz, MV.pure, pureL, MV.nol, nolL, Bool.and_self, pureL_ints, pureL_nI, nolL_ints]; done) | (simp -implicitDefEqProofs only [List.length_map, List.length_append, List.length_cons, List.length_nil, List.length_reverse]; omega)) only [stoL, sto, MV.nol, nolL, MV.pure, pureL, e_var, e_cst, e_bin, e_neg, e_not, e_and, e_or, e_ite, e_cmp, e_chn, e_tup, e_lst, e_ix, e_sl, e_rev, e_call, e_bi, e_isi, e_meth, s_asg0, s_par0, s_aug0, s_augS0, s_expr0, s_ret0, s_retN0, s_ife0, s_pass0, s_brk0, s_cnt0, es_nil, es_cons, eo_none, eo_some, ec_none, ec_some, et_var, et_tup, et_sub, ets_nil, ets_cons, eb_nil, eb_cons, truth, endFn, handBack, froz, frozL, frz, stoAll, unl, nl, nolL_ints, pureL_ints, frozL_ints, intsOf_ints, frz_ints, pureL_nI, nolL_nI, frozL_nI, hx_get0, hx_getS, hx_set0, hx_setS, hx_take, hx_take1, hx_take2, hx_take3, hx_take4, hx_get3, hx_len, hx_app, hx_ge, hx_ge0, itemsL, items, seq, m_app0, m_app1, m_app2, add_ll, add_rl0, add_rl1, evalI, cmpOf, bv_tup, bv_tupt, bv_tupf, bv_lenl, bv_lent, bv_lenf, bv_lens, bv_lenr0, bv_lenr1, bv_int, bv_intb, List.getElem?_nil, List.take_succ_cons, List.take_nil, List.take_length, List.take_zero, and_true, true_and, and_false, false_and, List.getElem?_cons_zero, List.getElem?_cons_succ, List.set_cons_zero, List.set_cons_succ, List.length_cons, List.length_nil, List.cons_append, List.nil_append, List.append_nil, List.map_cons, List.map_nil, List.length_map, List.replicate, List.all_cons, List.all_nil, Nat.reduceSub, Nat.reduceAdd, Nat.reduceLT, Nat.reduceLeDiff, Nat.zero_add, Nat.add_zero, and_self, if_true, if_false, ite_true, ite_false, decide_true, decide_false, Bool.not_true, Bool.not_false, Bool.and_true, Bool.true_and, Bool.and_false, Bool.false_and, Bool.or_true, Bool.true_or, Bool.or_false, Bool.false_or, Bool.and_self, bnd_ok, bnd_ex, exS_ok, exS_ex, lift_some, noX_ok, thenS_rt, thenS_nx, thenS_bk, thenS_ct, thenS_ex, Option.map_some, Option.bind_some, Option.some.injEq, reduceCtorEq, ite_self, Bool.false_eq_true, not_true_eq_false, not_false_eq_true, eq_self, Int.reduceSub, Int.reduceAdd, Int.reduceMul, Int.reduceNeg, bi_add, bi_sub, ci_le, ci_lt, ci_ge, ci_gt, ci_eq, ci_ne, d0, d1, d2, ha, w2, m1, o1, m2, m3, o2, m4, ← hq, o3, o4]
/-- one of a list's values -/
theorem pick_ok (k : Nat) (a s n : Int) (xs : List MV) (p t : Hm) (hx : 1 ≤ xs.length) (hx2 : xs.length ≤ 1000) (hp : pureL xs = true) : ∃ v a' n', v ∈ xs ∧ calls P (k + 2) 47 [.ref p.length, .lst xs] (p ++ D a s n :: t) = some (.ok v (p ++ D a' s n' :: t)) := by
  obtain ⟨v, a', n', v0, v1, e⟩ := roll_ok k a s n xs.length p (t ++ [.lst xs]) (by omega) (fdvOk_nat _ (by omega) (by omega))
  obtain ⟨j, rfl⟩ : ∃ j : Nat, v = j := ⟨v.toNat, by omega⟩
  have hj : j < xs.length := by omega
  have pe : ∀ {xs : List MV} {j : Nat} (h : j < xs.length), pureL xs = true → xs[j].pure = true := fun {xs} => by
    induction xs with
    | nil => intro j h; simp at h
    | cons x xs ih =>
      intro j h hp
      simp -implicitDefEqProofs only [pureL, Bool.and_eq_true] at hp
      cases j with
      | zero => exact hp.1
      | succ j => exact ih (by simpa using h) hp.2
  have hv := pe hj hp
  refine ⟨xs[j], a', n', List.getElem_mem hj, ?_⟩
  rw [c47]
  have hu : unl xs[j] = some xs[j] := by
    cases hq : xs[j] <;> first | rfl | (rw [hq] at hv; cases hv)
  have el : ∀ d : MO, biV .len [.ref (p.length + (t.length + 1))] (p ++ d :: (t ++ [.lst xs])) = some (.int xs.length) := fun d => by
    simp -implicitDefEqProofs only [biV, seq, items, hx_get3, Option.map_some]
  have ei : ∀ d : MO, ixV (.ref (p.length + (t.length + 1))) (.int j) (p ++ d :: (t ++ [.lst xs])) = some xs[j] := fun d => by
    simp -implicitDefEqProofs only [ixV, seq, items, hx_get3, atI_nat, List.getElem?_eq_getElem hj, Option.bind_some, hu]
  have hb : ∀ l, handBack (p.length + (t.length + 1)) xs[j] (p ++ D a' s n' :: (t ++ l)) = some (.ok xs[j] (p ++ D a' s n' :: t)) := fun l => by
    unfold handBack
    split
    · rename_i k hk; rw [hk] at hv; cases hv
    · rw [froz_pure _ _ _ hv, hx_take3]
  simp -implicitDefEqProofs only [runFn, D47, stoL, sto, MV.nol, hp, hx_app, hx_len, if_true, List.length_cons, List.length_nil, List.map_cons, List.map_nil, List.cons_append, List.nil_append, Nat.reduceSub, List.replicate, eb_cons, eb_nil, s_ret0, e_ix, e_var, e_call, e_bi, es_cons, es_nil, List.getElem?_cons_zero, List.getElem?_cons_succ, bnd_ok, el, lift_some, e, ei, exS_ok, thenS_rt, endFn, hb]
/-- 10 ** 54 and the like are never written out -/
theorem pow6 (b : Int) (h : Hm) (hk : powOk b 6 = true) : bop .pow (.int b) (.int 6) h = some (.int (b ^ 6)) := by
  show (if powOk b 6 then some (MV.int (b ^ (6 : Int).toNat)) else none) = _
  rw [hk]; rfl
theorem dice_ok (k : Nat) (ns : List Int) (spot : Nat) (h : Hm) : ∃ a s, calls P (k + 1) 45 [.scr ns, .int spot] h = some (.ok (.lst [.int a, .int s, .int 0]) h) := by
  have p1 : ∀ h, bop .pow (.int 10) (.int 54) h = some (.int (10 ^ 54)) := fun h => by rfl
  have pk : powOk (10 ^ 54) 6 = true := by decide +kernel
  have p2 : ∀ h, bop .pow (.int (10 ^ 54)) (.int 6) h = some (.int ((10 ^ 54) ^ 6)) := fun h => pow6 _ h pk
  have p3 : ∀ h, bop .pow (.int 10) (.int 16) h = some (.int (10 ^ 16)) := fun h => by rfl
  have hb : ((10 ^ 54) ^ 6 : Int) ≠ 0 := by decide +kernel
  generalize ((10 ^ 54) ^ 6 : Int) = big at p2 hb
  generalize ((10 ^ 54) : Int) = b1 at p1 p2
  generalize ((10 ^ 16) : Int) = b2 at p3
  have q3 : ∀ (i : Int) h, bop .mod (.int i) (.int big) h = some (.int (i.fmod big)) := fun i h => bi_mod _ _ _ hb
  have q4 : ∀ (i : Int) h, bop .mod (.int i) (.int 2305843009213693921) h = some (.int (i.fmod 2305843009213693921)) := fun i h => bi_mod _ _ _ (by decide)
  have q5 : ∀ (i : Int) h, bop .mul (.int i) (.int 73) h = some (.int (i * 73)) := fun i h => bi_mul _ _ _ (.inr (by decide))
  have q6 : ∀ (i : Int) h, bop .mul (.int 757) (.int i) h = some (.int (757 * i)) := fun i h => bi_mul _ _ _ (.inl (by decide))
  have q7 : ∀ (i : Int) h, bop .mul (.int 43) (.int i) h = some (.int (43 * i)) := fun i h => bi_mul _ _ _ (.inl (by decide))
  have q8 : ∀ (i : Int) h, bop .mul (.int 157) (.int i) h = some (.int (157 * i)) := fun i h => bi_mul _ _ _ (.inl (by decide))
  have ba : ∀ i h, biV .abs [.int i] h = some (.int (if i < 0 then -i else i)) := fun _ _ => rfl
  have bm : ∀ i j h, biV .max2 [.int i, .int j] h = some (.int (if j > i then j else i)) := fun _ _ _ => rfl
  by_cases hs : spot < ns.length
  · have g : ∀ hh, ixV (.scr ns) (.int spot) hh = some (.int ns[spot]) := fun hh => by
      simp -implicitDefEqProofs only [ixV, seq, items, atI_nat, List.getElem?_map, List.getElem?_eq_getElem hs, Option.map_some, Option.bind_some, unl]
    have hs' : ((spot : Int) < (ns.length : Int)) := by omega
    refine ⟨?_, ?_, ?_⟩
    rotate_left 2
    · rw [c45]
      simp -implicitDefEqProofs only [runFn, stoL, sto, MV.nol, nolL, if_true, List.length_cons, List.length_nil, List.map_cons, List.map_nil, List.cons_append, List.nil_append, Nat.reduceSub, Nat.reduceAdd, Nat.zero_add, List.replicate, D45]
      simp -implicitDefEqProofs (disch := first | omega | assumption | rfl | decide | (simp -implicitDefEqProofs only [frz, MV.pure, pureL, MV.nol, nolL, Bool.and_self, pureL_ints, pureL_nI, nolL_ints]; done) | (simp -implicitDefEqProofs only [List.length_map, List.length_append, List.length_cons, List.length_nil, List.length_reverse]; omega)) only [stoL, sto, MV.nol, nolL, MV.pure, pureL, e_var, e_cst, e_bin, e_neg, e_not, e_and, e_or, e_ite, e_cmp, e_chn, e_tup, e_lst, e_ix, e_sl, e_rev, e_call, e_bi, e_isi, e_meth, s_asg0, s_par0, s_aug0, s_augS0, s_expr0, s_ret0, s_retN0, s_ife0, s_pass0, s_brk0, s_cnt0, es_nil, es_cons, eo_none, eo_some, ec_none, ec_some, et_var, et_tup, et_sub, ets_nil, ets_cons, eb_nil, eb_cons, truth, endFn, handBack, froz, frozL, frz, stoAll, unl, nl, nolL_ints, pureL_ints, frozL_ints, intsOf_ints, frz_ints, pureL_nI, nolL_nI, frozL_nI, hx_get0, hx_getS, hx_set0, hx_setS, hx_take, hx_take1, hx_take2, hx_take3, hx_take4, hx_get3, hx_len, hx_app, hx_ge, hx_ge0, itemsL, items, seq, m_app0, m_app1, m_app2, add_ll, add_rl0, add_rl1, evalI, cmpOf, bv_tup, bv_tupt, bv_tupf, bv_lenl, bv_lent, bv_lenf, bv_lens, bv_lenr0, bv_lenr1, bv_int, bv_intb, List.getElem?_nil, List.take_succ_cons, List.take_nil, List.take_length, List.take_zero, and_true, true_and, and_false, false_and, List.getElem?_cons_zero, List.getElem?_cons_succ, List.set_cons_zero, List.set_cons_succ, List.length_cons, List.length_nil, List.cons_append, List.nil_append, List.append_nil, List.map_cons, List.map_nil, List.length_map, List.replicate, List.all_cons, List.all_nil, Nat.reduceSub, Nat.reduceAdd, Nat.reduceLT, Nat.reduceLeDiff, Nat.zero_add, Nat.add_zero, and_self, if_true, if_false, ite_true, ite_false, decide_true, decide_false, Bool.not_true, Bool.not_false, Bool.and_true, Bool.true_and, Bool.and_false, Bool.false_and, Bool.or_true, Bool.true_or, Bool.or_false, Bool.false_or, Bool.and_self, bnd_ok, bnd_ex, exS_ok, exS_ex, lift_some, noX_ok, thenS_rt, thenS_nx, thenS_bk, thenS_ct, thenS_ex, Option.map_some, Option.bind_some, Option.some.injEq, reduceCtorEq, ite_self, Bool.false_eq_true, not_true_eq_false, not_false_eq_true, eq_self, Int.reduceSub, Int.reduceAdd, Int.reduceMul, Int.reduceNeg, bi_add, bi_sub, ci_le, ci_lt, ci_ge, ci_gt, ci_eq, ci_ne, hs', g, p1, p2, p3, q3, q4, q5, q6, q7, q8, ba, bm]
      rfl
  · have hs' : ¬ ((spot : Int) < (ns.length : Int)) := by omega
    refine ⟨?_, ?_, ?_⟩
    rotate_left 2
    · rw [c45]
      simp -implicitDefEqProofs only [runFn, stoL, sto, MV.nol, nolL, if_true, List.length_cons, List.length_nil, List.map_cons, List.map_nil, List.cons_append, List.nil_append, Nat.reduceSub, Nat.reduceAdd, Nat.zero_add, List.replicate, D45]
      simp -implicitDefEqProofs (disch := first | omega | assumption | rfl | decide | (simp -implicitDefEqProofs only [frz, MV.pure, pureL, MV.nol, nolL, Bool.and_self, pureL_ints, pureL_nI, nolL_ints]; done) | (simp -implicitDefEqProofs only [List.length_map, List.length_append, List.length_cons, List.length_nil, List.length_reverse]; omega)) only [stoL, sto, MV.nol, nolL, MV.pure, pureL, e_var, e_cst, e_bin, e_neg, e_not, e_and, e_or, e_ite, e_cmp, e_chn, e_tup, e_lst, e_ix, e_sl, e_rev, e_call, e_bi, e_isi, e_meth, s_asg0, s_par0, s_aug0, s_augS0, s_expr0, s_ret0, s_retN0, s_ife0, s_pass0, s_brk0, s_cnt0, es_nil, es_cons, eo_none, eo_some, ec_none, ec_some, et_var, et_tup, et_sub, ets_nil, ets_cons, eb_nil, eb_cons, truth, endFn, handBack, froz, frozL, frz, stoAll, unl, nl, nolL_ints, pureL_ints, frozL_ints, intsOf_ints, frz_ints, pureL_nI, nolL_nI, frozL_nI, hx_get0, hx_getS, hx_set0, hx_setS, hx_take, hx_take1, hx_take2, hx_take3, hx_take4, hx_get3, hx_len, hx_app, hx_ge, hx_ge0, itemsL, items, seq, m_app0, m_app1, m_app2, add_ll, add_rl0, add_rl1, evalI, cmpOf, bv_tup, bv_tupt, bv_tupf, bv_lenl, bv_lent, bv_lenf, bv_lens, bv_lenr0, bv_lenr1, bv_int, bv_intb, List.getElem?_nil, List.take_succ_cons, List.take_nil, List.take_length, List.take_zero, and_true, true_and, and_false, false_and, List.getElem?_cons_zero, List.getElem?_cons_succ, List.set_cons_zero, List.set_cons_succ, List.length_cons, List.length_nil, List.cons_append, List.nil_append, List.append_nil, List.map_cons, List.map_nil, List.length_map, List.replicate, List.all_cons, List.all_nil, Nat.reduceSub, Nat.reduceAdd, Nat.reduceLT, Nat.reduceLeDiff, Nat.zero_add, Nat.add_zero, and_self, if_true, if_false, ite_true, ite_false, decide_true, decide_false, Bool.not_true, Bool.not_false, Bool.and_true, Bool.true_and, Bool.and_false, Bool.false_and, Bool.or_true, Bool.true_or, Bool.or_false, Bool.false_or, Bool.and_self, bnd_ok, bnd_ex, exS_ok, exS_ex, lift_some, noX_ok, thenS_rt, thenS_nx, thenS_bk, thenS_ct, thenS_ex, Option.map_some, Option.bind_some, Option.some.injEq, reduceCtorEq, ite_self, Bool.false_eq_true, not_true_eq_false, not_false_eq_true, eq_self, Int.reduceSub, Int.reduceAdd, Int.reduceMul, Int.reduceNeg, bi_add, bi_sub, ci_le, ci_lt, ci_ge, ci_gt, ci_eq, ci_ne, hs', p1, p2, p3, q3, q4, q5, q6, q7, q8, ba, bm]
      rfl

theorem mulOk_l (i j : Int) (h : i.natAbs < 18446744073709551616) : mulOk i j = true := mulOk_l' j h
theorem mulOk_r (i j : Int) (h : j.natAbs < 18446744073709551616) : mulOk i j = true := mulOk_r' i h

--CUT
theorem pickJ (k : Nat) (a s n : Int) (xs : List MV) (p t : Hm) (j : Nat) (hj' : t[j]? = some (.lst xs)) (hx : 1 ≤ xs.length) (hx2 : xs.length ≤ 1000) (hp : pureL xs = true) : ∃ v a' n', v ∈ xs ∧ calls P (k + 2) 47 [.ref p.length, .ref (p.length + (j + 1))] (p ++ D a s n :: t) = some (.ok v (p ++ D a' s n' :: t)) := by
  obtain ⟨v, a', n', v0, v1, e⟩ := roll_ok k a s n xs.length p t (by omega) (fdvOk_nat _ (by omega) (by omega))
  obtain ⟨i, rfl⟩ : ∃ i : Nat, v = i := ⟨v.toNat, by omega⟩
  have hi : i < xs.length := by omega
  have hv : xs[i].pure = true := pureL_of hp (List.getElem_mem hi)
  refine ⟨xs[i], a', n', List.getElem_mem hi, ?_⟩
  rw [c47]
  have hu : unl xs[i] = some xs[i] := by
    cases hq : xs[i] <;> first | rfl | (rw [hq] at hv; cases hv)
  have gt : ∀ d : MO, (p ++ d :: t)[p.length + (j + 1)]? = some (.lst xs) := fun d => by
    rw [hx_getS, List.getElem?_cons_succ]; exact hj'
  have el : ∀ d : MO, biV .len [.ref (p.length + (j + 1))] (p ++ d :: t) = some (.int xs.length) := fun d => by
    simp -implicitDefEqProofs only [biV, seq, items, gt, Option.map_some]
  have ei : ∀ d : MO, ixV (.ref (p.length + (j + 1))) (.int i) (p ++ d :: t) = some xs[i] := fun d => by
    simp -implicitDefEqProofs only [ixV, seq, items, gt, atI_nat, List.getElem?_eq_getElem hi, Option.bind_some, hu]
  have hb : handBack (p.length + (t.length + 1)) xs[i] (p ++ D a' s n' :: t) = some (.ok xs[i] (p ++ D a' s n' :: t)) := by
    unfold handBack
    split
    · rename_i k hk; rw [hk] at hv; cases hv
    · rw [froz_pure _ _ _ hv, hx_take2]
  simp -implicitDefEqProofs only [runFn, D47, stoL, sto, MV.nol, hx_len, if_true, List.length_cons, List.length_nil, List.map_cons, List.map_nil, List.cons_append, List.nil_append, Nat.reduceSub, List.replicate, eb_cons, eb_nil, s_ret0, e_ix, e_var, e_call, e_bi, es_cons, es_nil, List.getElem?_cons_zero, List.getElem?_cons_succ, bnd_ok, el, lift_some, e, ei, exS_ok, thenS_rt, endFn, hb]
theorem oneB (k : Nat) (a s n : Int) (r : MV) (xs : List MV) (p t : Hm) (j : Nat) (hr : r.pure = true) (hj' : t[j]? = some (.lst xs)) (hx : 1 ≤ xs.length) (hx2 : xs.length ≤ 1000) (hp : pureL xs = true) : ∃ v b a' n', (v = r ∧ b = false ∨ v ∈ xs ∧ b = true) ∧ execB (calls P (k + 2)) D48.body [some (.ref p.length), some r, some (.ref (p.length + (j + 1)))] (p ++ D a s n :: t) = some (.rt (.tup [v, .bl b]) (p ++ D a' s n' :: t)) := by
  obtain ⟨v, a1, n1, v0, v1, e⟩ := roll_ok (k + 1) a s n 3 p t (by omega) (by decide)
  have fr : ∀ {v : MV}, v.pure = true → frz v = v := fun {v} h => by cases v <;> first | rfl | (simp -implicitDefEqProofs only [MV.pure] at h; cases h)
  by_cases h0 : 0 < v
  · refine ⟨r, false, a1, n1, .inl ⟨rfl, rfl⟩, ?_⟩
    have cg : ∀ hh, cop .gt (.int v) (.int 0) hh = some true := fun hh => by
      show some (decide (0 < v)) = some true
      rw [decide_eq_true h0]
    simp -implicitDefEqProofs only [D48, eb_cons, eb_nil, s_ife0, s_ret0, e_cmp, e_call, e_tup, e_var, e_cst, es_cons, es_nil, List.getElem?_cons_zero, List.getElem?_cons_succ, bnd_ok, e, cg, lift_some, Option.map_some, truth, exS_ok, List.map_cons, List.map_nil, fr hr, thenS_rt, thenS_nx]
    first | done | rfl
  · obtain ⟨w, a2, n2, m2, e2⟩ := pickJ k a1 s n1 xs p t j hj' hx hx2 hp
    refine ⟨w, true, a2, n2, .inr ⟨m2, rfl⟩, ?_⟩
    have cg : ∀ hh, cop .gt (.int v) (.int 0) hh = some false := fun hh => by
      show some (decide (0 < v)) = some false
      rw [decide_eq_false h0]
    have hw : frz w = w := fr (pureL_of hp m2)
    simp -implicitDefEqProofs only [D48, eb_cons, eb_nil, s_ife0, s_ret0, e_cmp, e_call, e_tup, e_var, e_cst, es_cons, es_nil, List.getElem?_cons_zero, List.getElem?_cons_succ, bnd_ok, e, e2, cg, lift_some, Option.map_some, truth, exS_ok, List.map_cons, List.map_nil, hw, thenS_rt, thenS_nx]
    first | done | rfl
theorem one_run (k : Nat) {vs ws : List MV} {h h1 : Hm} (st : stoL vs h = some (ws, h1)) (hl : vs.length = 3) {w1 w2 w3 : MV} (hw : ws = [w1, w2, w3] := by rfl) : runFn (calls P k) D48 vs h = endFn h.length (execB (calls P k) D48.body [some w1, some w2, some w3] h1) := by
  subst hw
  have hn : vs.length = D48.np := hl
  simp -implicitDefEqProofs only [runFn, if_pos hn, st]
  rfl
def DI (o : MO) : Prop := ∃ a s n, o = D a s n
theorem draws (k : Nat) : DrOk (calls P (k + 3)) ⟨46, 47, 48⟩ DI where
  roll := fun o n p t ⟨a, s, m, ho⟩ h1 h2 => by
    subst ho
    obtain ⟨v, a', n', q1, q2, e⟩ := roll_ok (k + 2) a s m n p t h1 (by
      unfold fdvOk
      rw [decide_eq_true (show n ≠ 0 by omega), decide_eq_true (show n.natAbs < 1073741824 by omega)]
      simp)
    exact ⟨v, _, ⟨a', s, n', rfl⟩, q1, q2, e⟩
  pick := fun o xs p t ⟨a, s, m, ho⟩ h1 h2 hp => by
    subst ho
    obtain ⟨v, a', n', q1, e⟩ := pick_ok (k + 1) a s m xs p t h1 h2 hp
    exact ⟨v, _, ⟨a', s, n', rfl⟩, q1, e⟩
  pickR := fun o xs p t j ⟨a, s, m, ho⟩ hj h1 h2 hp => by
    subst ho
    obtain ⟨v, a', n', q1, e⟩ := pickJ (k + 1) a s m xs p t j hj h1 h2 hp
    rw [Nat.add_comm 1 j]
    exact ⟨v, _, ⟨a', s, n', rfl⟩, q1, e⟩
  one := fun o r xs p t ⟨a, s, m, ho⟩ hr h1 h2 hp => by
    subst ho
    obtain ⟨v, b, a', n', q1, e⟩ := oneB k a s m r xs p (t ++ [.lst xs]) t.length hr (by simp) h1 h2 hp
    have pv : v.pure = true := q1.elim (fun q => q.1 ▸ hr) fun q => pureL_of hp q.1
    refine ⟨v, b, _, ⟨a', s, n', rfl⟩, q1, ?_⟩
    have st : stoL [.ref p.length, r, .lst xs] (p ++ D a s m :: t) = some ([.ref p.length, r, .ref (p.length + (t.length + 1))], p ++ D a s m :: (t ++ [.lst xs])) := by
      simp -implicitDefEqProofs only [stoL, sto_pure hr]
      simp -implicitDefEqProofs only [sto, MV.nol, if_true, hp, List.append_assoc, List.cons_append, List.length_append, List.length_cons]
    have hl : (p ++ D a s m :: t).length = p.length + (t.length + 1) := by simp
    rw [c48, one_run (k + 2) st rfl, e, hl]
    have fz := froz_pure (p.length + (t.length + 1)) (p ++ D a' s n' :: (t ++ [.lst xs])) (.tup [v, .bl b]) (by simp -implicitDefEqProofs [MV.pure, pureL, pv])
    simp -implicitDefEqProofs only [endFn, handBack, fz, hx_take3]
  oneR := fun o r xs p t j ⟨a, s, m, ho⟩ hr hj h1 h2 hp => by
    subst ho
    obtain ⟨v, b, a', n', q1, e⟩ := oneB k a s m r xs p t j hr hj h1 h2 hp
    have pv : v.pure = true := q1.elim (fun q => q.1 ▸ hr) fun q => pureL_of hp q.1
    refine ⟨v, b, _, ⟨a', s, n', rfl⟩, q1, ?_⟩
    rw [Nat.add_comm 1 j]
    have st : stoL [.ref p.length, r, .ref (p.length + (j + 1))] (p ++ D a s m :: t) = some ([.ref p.length, r, .ref (p.length + (j + 1))], p ++ D a s m :: t) := by
      simp -implicitDefEqProofs only [stoL, sto_pure hr]
      simp -implicitDefEqProofs only [sto, MV.nol, if_true]
    have hl : (p ++ D a s m :: t).length = p.length + (t.length + 1) := by simp
    rw [c48, one_run (k + 2) st rfl, e, hl]
    have fz := froz_pure (p.length + (t.length + 1)) (p ++ D a' s n' :: t) (.tup [v, .bl b]) (by simp -implicitDefEqProofs [MV.pure, pureL, pv])
    simp -implicitDefEqProofs only [endFn, handBack, fz, hx_take2]

theorem clP : (P.all fun d => clB d.body) = true := by kernel_rfl

--CUT
theorem rest : isTrue (dB (D52.body.drop 1) (callsD P 39) (List.replicate D52.ns none) []) = true := by decide +kernel
--CUT
def s51_0_1 : List Cm := [.sg (.st (D51.body.getD 0 .pass)),
  .sg (.one 2 3 (.val (.call 44 [(.cst (.int 4))])) (.var 1)),
  .sg (.one 4 5 (.val (.call 44 [(.cst (.int 8))])) (.var 1)),
  .sg (.one 6 7 (.pick (.lst [(.cst (.int 0)), (.cst (.int 1)), (.cst (.int 10))])) (.lst [(.neg (.cst (.int 1))), (.cst (.int 11)), (.cst .non), (.cst (.bl true)), (.cst (.str (⟨#[49]⟩ : PySem.Str))), (.tup [(.cst (.int 1))])])),
  .res 3,
  .res 5,
  .res 6]
def s51_0_2 : List Cm := [.sg (.st (D51.body.getD 4 .pass)),
  .sg (.st (D51.body.getD 5 .pass)),
  .kill [1, 3, 4, 5],
  .sg (.st (D51.body.getD 6 .pass)),
  .kill [2, 8]]
def s51_1_1 : List Cm := [.sg (.one 9 10 (.pick (.lst [(.cst (.int 0)), (.cst (.int 1)), (.cst (.int 240))])) (.lst [(.neg (.cst (.int 1))), (.cst (.int 241)), (.cst .non), (.cst (.bl true)), (.cst (.str (⟨#[52]⟩ : PySem.Str)))])),
  .sg (.one 11 12 (.pick (.lst [(.cst (.int 0)), (.cst (.int 2)), (.cst (.int 240))])) (.lst [(.neg (.cst (.int 1))), (.cst (.int 241)), (.cst .non), (.cst (.bl false)), (.cst (.str (⟨#[52]⟩ : PySem.Str)))])),
  .res 9,
  .res 11]
def s51_1_2 : List Cm := [.sg (.st (D51.body.getD 9 .pass)),
  .sg (.st (D51.body.getD 10 .pass)),
  .kill [6, 7, 9, 10, 11, 12, 13]]
def s51_2_1 : List Cm := [.sg (.one 14 15 (.val (.tup [(.cst (.int 1)), (.cst (.int 2)), (.cst (.int 3))])) (.lst [(.cst .non), (.tup []), (.lst [(.cst (.int 1)), (.cst (.int 2))]), (.tup [(.cst (.int 1)), (.cst (.bl true))]), (.cst (.str (⟨#[49, 50]⟩ : PySem.Str))), (.bin .mul (.tup [(.cst (.int 0))]) (.cst (.int 1002)))])),
  .sg (.one 16 17 (.pick (.lst [(.cst (.int 0)), (.cst (.int 1)), (.cst (.int 100))])) (.lst [(.neg (.cst (.int 1))), (.cst (.int 101)), (.cst .non), (.cst (.bl true)), (.cst (.str (⟨#[49]⟩ : PySem.Str)))])),
  .res 14,
  .res 16]
def s51_2_2 : List Cm := [.sg (.st (D51.body.getD 13 .pass))]
def L51_1 : List NSt := [
  ⟨[none, none, none, none, none, none, some (.int 0), some (.bl false), none, none, none, none, none, none, none, none, none, none], [], []⟩,
  ⟨[none, none, none, none, none, none, some (.int 1), some (.bl false), none, none, none, none, none, none, none, none, none, none], [], []⟩,
  ⟨[none, none, none, none, none, none, some (.int 10), some (.bl false), none, none, none, none, none, none, none, none, none, none], [], []⟩,
  ⟨[none, none, none, none, none, none, some (.int (-1)), some (.bl true), none, none, none, none, none, none, none, none, none, none], [], []⟩,
  ⟨[none, none, none, none, none, none, some (.int 11), some (.bl true), none, none, none, none, none, none, none, none, none, none], [], []⟩,
  ⟨[none, none, none, none, none, none, some .non, some (.bl true), none, none, none, none, none, none, none, none, none, none], [], []⟩,
  ⟨[none, none, none, none, none, none, some (.bl true), some (.bl true), none, none, none, none, none, none, none, none, none, none], [], []⟩,
  ⟨[none, none, none, none, none, none, some (.str (⟨#[49]⟩ : PySem.Str)), some (.bl true), none, none, none, none, none, none, none, none, none, none], [], []⟩,
  ⟨[none, none, none, none, none, none, some (.tup [(.int 1)]), some (.bl true), none, none, none, none, none, none, none, none, none, none], [], []⟩]
def L51_2 : List NSt := [
  ⟨[none, none, none, none, none, none, none, none, none, none, none, none, none, none, none, none, none, none], [], []⟩]
theorem hb51 : D51.body = msC ⟨46, 47, 48⟩ ((s51_0_1 ++ (s51_0_2 ++ (s51_1_1 ++ (s51_1_2 ++ (s51_2_1 ++ (s51_2_2 ++ ([] : List Cm)))))))) := rfl
theorem q51_0_0 : toInD (callsD P 38) s51_0_2 ((((toCD (callsD P 38) s51_0_1 [⟨List.replicate 18 none, [], []⟩]).getD []).drop (221 * 0)).take 221) L51_1 = true := by decide +kernel
theorem q51_0_1 : toInD (callsD P 38) s51_0_2 ((((toCD (callsD P 38) s51_0_1 [⟨List.replicate 18 none, [], []⟩]).getD []).drop (221 * 1)).take 221) L51_1 = true := by decide +kernel
theorem q51_1_0 : toInD (callsD P 38) s51_1_2 ((((toCD (callsD P 38) s51_1_1 L51_1).getD []).drop (288 * 0)).take 288) L51_2 = true := by decide +kernel
theorem q51_1_1 : toInD (callsD P 38) s51_1_2 ((((toCD (callsD P 38) s51_1_1 L51_1).getD []).drop (288 * 1)).take 288) L51_2 = true := by decide +kernel
theorem q51_2_0 : toInD (callsD P 38) s51_2_2 ((((toCD (callsD P 38) s51_2_1 L51_2).getD []).drop (56 * 0)).take 56) [] = true := by decide +kernel
theorem g51_2 : ∀ s ∈ L51_2, Good (calls P 38) ⟨46, 47, 48⟩ DI ((s51_2_1 ++ (s51_2_2 ++ ([] : List Cm)))) s := parts_okD (fun h0 => callsD_tr clP 38) (draws 35) (l := []) 56 1 (by decide) (by decide +kernel) (fun i hi => by match i, hi with | 0, _ => exact q51_2_0 | n + 1, hi => omega) (fun s m => nomatch m)
theorem g51_1 : ∀ s ∈ L51_1, Good (calls P 38) ⟨46, 47, 48⟩ DI ((s51_1_1 ++ (s51_1_2 ++ (s51_2_1 ++ (s51_2_2 ++ ([] : List Cm)))))) s := parts_okD (fun h0 => callsD_tr clP 38) (draws 35) (l := L51_2) 288 2 (by decide) (by decide +kernel) (fun i hi => by match i, hi with | 0, _ => exact q51_1_0 | 1, _ => exact q51_1_1 | n + 2, hi => omega) (g51_2)
theorem g51_0 : ∀ s ∈ [⟨List.replicate 18 none, [], []⟩], Good (calls P 38) ⟨46, 47, 48⟩ DI ((s51_0_1 ++ (s51_0_2 ++ (s51_1_1 ++ (s51_1_2 ++ (s51_2_1 ++ (s51_2_2 ++ ([] : List Cm)))))))) s := parts_okD (fun h0 => callsD_tr clP 38) (draws 35) (l := L51_1) 221 2 (by decide) (by decide +kernel) (fun i hi => by match i, hi with | 0, _ => exact q51_0_0 | 1, _ => exact q51_0_1 | n + 2, hi => omega) (g51_1)
theorem rg51 (p g : Hm) (o : MO) (hd : DI o) : ∃ o', DI o' ∧ calls P 39 51 [.ref p.length] (p ++ o :: g) = some (.ok (.bl true) (p ++ o' :: g)) := right_good (k := 38) (fd := D51) rfl ((s51_0_1 ++ (s51_0_2 ++ (s51_1_1 ++ (s51_1_2 ++ (s51_2_1 ++ (s51_2_2 ++ ([] : List Cm)))))))) hb51 rfl (by decide) (g51_0 _ (List.mem_singleton.mpr rfl)) p g o hd

--CUT
theorem asks : AskOk (calls P 39) DI (.not (.call 51 [.var 2])) := ask_not fun p o hd => rg51 p [] o hd
theorem run (ns : List Int) (hl : ns.length ≤ 63) (hb : ∀ z ∈ ns, PySem.Builtin.Int.intBits z ≤ 1048576) : ∃ h, calls P 40 52 [.scr ns] [] = some (.ok (.bl true) h) := by
  rw [c52]
  exact law_dr (F := calls P 39) (DI := DI) (fd := D52) (ns := 2) (m := 3) (dice := 45) (rest := D52.body.drop 1) ns hl rfl (by decide) rfl rfl (fun spot h => by
    obtain ⟨a, s, e⟩ := dice_ok 38 ns spot h
    exact ⟨_, ⟨a, s, 0, rfl⟩, rfl, e⟩) asks (rest_okD (fun h0 => callsD_tr clP 39) (by kernel_rfl) rest)

theorem comp_ok : fs.map (compF (cgOf fs cs cd os)) = P.map some := by kernel_rfl
theorem sc_ok : fs.all scopeOk = true := by kernel_rfl
theorem T : Tbl (cgOf fs cs cd os) P fs := tbl_of sc_ok comp_ok
theorem hB : ∀ f ∈ fs, BindOk f := allB_of (show AllB fs from ⟨(fun _ _ _ _ _ _ us hl => match us, hl with | [_], _ => rfl),
  (fun _ _ _ _ _ _ us hl => match us, hl with | [_, _, _], _ => rfl),
  (fun _ _ _ _ _ _ us hl => match us, hl with | [_, _], _ => rfl),
  (fun _ _ _ _ _ _ us hl => match us, hl with | [_, _], _ => rfl),
  (fun _ _ _ _ _ _ us hl => match us, hl with | [_, _], _ => rfl),
  (fun _ _ _ _ _ _ us hl => match us, hl with | [_], _ => rfl),
  (fun _ _ _ _ _ _ us hl => match us, hl with | [_, _], _ => rfl),
  (fun _ _ _ _ _ _ us hl => match us, hl with | [_, _], _ => rfl),
  (fun _ _ _ _ _ _ us hl => match us, hl with | [_, _, _], _ => rfl),
  (fun _ _ _ _ _ _ us hl => match us, hl with | [_], _ => rfl),
  (fun _ _ _ _ _ _ us hl => match us, hl with | [_], _ => rfl),
  (fun _ _ _ _ _ _ us hl => match us, hl with | [_, _], _ => rfl),
  (fun _ _ _ _ _ _ us hl => match us, hl with | [_, _], _ => rfl),
  (fun _ _ _ _ _ _ us hl => match us, hl with | [_, _], _ => rfl),
  (fun _ _ _ _ _ _ us hl => match us, hl with | [_], _ => rfl),
  (fun _ _ _ _ _ _ us hl => match us, hl with | [_], _ => rfl),
  (fun _ _ _ _ _ _ us hl => match us, hl with | [_], _ => rfl),
  (fun _ _ _ _ _ _ us hl => match us, hl with | [_], _ => rfl),
  (fun _ _ _ _ _ _ us hl => match us, hl with | [_, _], _ => rfl),
  (fun _ _ _ _ _ _ us hl => match us, hl with | [_], _ => rfl),
  (fun _ _ _ _ _ _ us hl => match us, hl with | [_, _], _ => rfl),
  (fun _ _ _ _ _ _ us hl => match us, hl with | [_, _], _ => rfl),
  (fun _ _ _ _ _ _ us hl => match us, hl with | [_], _ => rfl),
  (fun _ _ _ _ _ _ us hl => match us, hl with | [_], _ => rfl),
  (fun _ _ _ _ _ _ us hl => match us, hl with | [_], _ => rfl),
  (fun _ _ _ _ _ _ us hl => match us, hl with | [_, _], _ => rfl),
  (fun _ _ _ _ _ _ us hl => match us, hl with | [_, _], _ => rfl),
  (fun _ _ _ _ _ _ us hl => match us, hl with | [_, _], _ => rfl),
  (fun _ _ _ _ _ _ us hl => match us, hl with | [_, _, _], _ => rfl),
  (fun _ _ _ _ _ _ us hl => match us, hl with | [_, _, _, _], _ => rfl),
  (fun _ _ _ _ _ _ us hl => match us, hl with | [_], _ => rfl),
  (fun _ _ _ _ _ _ us hl => match us, hl with | [_, _], _ => rfl),
  (fun _ _ _ _ _ _ us hl => match us, hl with | [_], _ => rfl),
  (fun _ _ _ _ _ _ us hl => match us, hl with | [_, _], _ => rfl),
  (fun _ _ _ _ _ _ us hl => match us, hl with | [_, _, _], _ => rfl),
  (fun _ _ _ _ _ _ us hl => match us, hl with | [_, _, _], _ => rfl),
  (fun _ _ _ _ _ _ us hl => match us, hl with | [_], _ => rfl),
  (fun _ _ _ _ _ _ us hl => match us, hl with | [_], _ => rfl),
  (fun _ _ _ _ _ _ us hl => match us, hl with | [_, _], _ => rfl),
  (fun _ _ _ _ _ _ us hl => match us, hl with | [_], _ => rfl),
  (fun _ _ _ _ _ _ us hl => match us, hl with | [_, _], _ => rfl),
  (fun _ _ _ _ _ _ us hl => match us, hl with | [_, _, _], _ => rfl),
  (fun _ _ _ _ _ _ us hl => match us, hl with | [_, _], _ => rfl),
  (fun _ _ _ _ _ _ us hl => match us, hl with | [_], _ => rfl),
  (fun _ _ _ _ _ _ us hl => match us, hl with | [_], _ => rfl),
  (fun _ _ _ _ _ _ us hl => match us, hl with | [_, _], _ => rfl),
  (fun _ _ _ _ _ _ us hl => match us, hl with | [_, _], _ => rfl),
  (fun _ _ _ _ _ _ us hl => match us, hl with | [_, _], _ => rfl),
  (fun _ _ _ _ _ _ us hl => match us, hl with | [_, _, _], _ => rfl),
  (fun _ _ _ _ _ _ us hl => match us, hl with | [_], _ => rfl),
  (fun _ _ _ _ _ _ us hl => match us, hl with | [_], _ => rfl),
  (fun _ _ _ _ _ _ us hl => match us, hl with | [_], _ => rfl),
  (fun _ _ _ _ _ _ us hl => match us, hl with | [_], _ => rfl), trivial⟩)
theorem hC : ∀ c ∈ cd, CDOk c := allC_of (show AllC cd from ⟨⟨rfl, fun d h => nomatch h⟩,
  ⟨rfl, fun d h => nomatch h⟩,
  ⟨rfl, fun d h => nomatch h⟩,
  ⟨rfl, fun d h => nomatch h⟩,
  ⟨rfl, fun d h => nomatch h⟩,
  ⟨rfl, fun d h => nomatch h⟩,
  ⟨rfl, fun d h => by cases h; exact ⟨by kernel_rfl, (fun _ _ _ _ _ _ _ _ _ _ => rfl), PySem.W.kxs_IndexError, PySem.F.excBase_IndexError, (fun _ => by kernel_rfl), by decide +kernel⟩⟩,
  ⟨rfl, fun d h => by cases h; exact ⟨by kernel_rfl, (fun _ _ _ _ _ _ _ _ _ _ => rfl), PySem.W.kxs_OverflowError, PySem.F.excBase_OverflowError, (fun _ => by kernel_rfl), by decide +kernel⟩⟩,
  ⟨rfl, fun d h => by cases h; exact ⟨by kernel_rfl, (fun _ _ _ _ _ _ _ _ _ _ => rfl), PySem.W.kxs_ArithmeticError, PySem.F.excBase_ArithmeticError, (fun _ => by kernel_rfl), by decide +kernel⟩⟩,
  trivial⟩)
theorem hO : ∀ o ∈ os, ODOk o := allO_of (show AllO os from ⟨⟨by kernel_rfl, (fun _ _ _ _ _ _ us hl => match us, hl with | [_, _, _, _, _], _ => rfl), ⟨(fun _ _ _ _ _ _ us hl => match us, hl with | [_], _ => rfl), (fun _ _ _ _ _ _ us hl => match us, hl with | [_], _ => rfl), (fun _ _ _ _ _ _ us hl => match us, hl with | [_], _ => rfl), (fun _ _ _ _ _ _ us hl => match us, hl with | [_], _ => rfl), trivial⟩⟩,
  trivial⟩)
abbrev R : PySem.W.OpenRow := PySem.W.OpenLaw.row PySem.Challenge.rw_turnseries_k82_errors_of_brackets
abbrev exx : PySem.W.Frag → Bool := exOf PySem.Challenge.rw_turnseries_k82_errors_of_brackets.prog.main.file cs cd os fs
abbrev hk : PySem.W.Hook := hookM 6 (faL fs cd os) (fnL fs) (tfOf fs) exx (inisOf cd ++ iosOf os)
def ob (s : PySem.W.SharedT) : AlM := obsM 6 (faL fs cd os) (fnL fs) (tfOf fs) exx (inisOf cd ++ iosOf os) (HandSHeadRun.getT s)
theorem ob_eq (s : PySem.W.SharedT) : ob s = hk.obs s.abs := obsM_eq (HandSHeadRun.getT_eq s)
def loose : List PySem.Str := (["SeriesError", "InvalidForm", "InvalidSign", "InvalidTable", "InvalidRow", "InvalidOperation", "InvalidCount", "TooMany", "Refused", "is_integer", "is_within", "common_of", "multiple_of", "power_of", "divisors_in", "power_sum_in", "lowest", "require_within", "free_part", "sign_from", "times_in", "times_in_signs", "MAX_LENGTH", "times_in_rows", "spread_in", "require_row", "MAX_LEVEL", "MOST_TERMS", "MOST_STEP", "Form"] : List PySem.Str) ++ (["by_sign", "character_of", "require_level", "times_character", "constant_in", "times_forms", "spread_form", "require_form", "require_integer", "constant", "spread", "MOST_ORDER", "MOST_DERIVED", "MAX_WEIGHT_brackets", "TWELVE", "STEP", "choices", "derived_in", "terms_in", "bracket_row", "lead_row", "steady_row", "require_order", "derived_row", "bracket_terms", "bracket", "steady", "MAX_WEIGHT_sums", "LEAST_WEIGHT", "choices_in"] : List PySem.Str) ++ (["plus_fractions", "bernoullis_to", "beginning_in", "divisor_row", "scaled_row", "sums_form", "sums_of_powers", "_law_dice", "_law_roll", "_law_pick", "_law_one", "_law_first", "_law_met", "_law_right"] : List PySem.Str)
theorem runH (w : PySem.World) : HandSHeadRun.RunEq R (PySem.W.view R.prog [83]) hk ob 16000 loose w := by
  intro os
  kernel_rfl
end Mi.k82
open PySem PySem.W PySem.Calls PyProof.Rows
theorem PySem.Challenge.cw_turnseries_k82_errors_of_brackets_holds : PySem.Challenge.rw_turnseries_k82_errors_of_brackets.Holds := by
  w_on; o_law
  refine HandSHeadRun.head_any (r := OpenLaw.row PySem.Challenge.rw_turnseries_k82_errors_of_brackets) (q := view (OpenLaw.row PySem.Challenge.rw_turnseries_k82_errors_of_brackets).prog [83]) (H := Mi.k82.hk) (ob := Mi.k82.ob) (M := 16000) (loose := Mi.k82.loose) (d := HandSHeadRun.topDef (OpenLaw.row PySem.Challenge.rw_turnseries_k82_errors_of_brackets).prog 83) (kwd := []) Mi.k82.ob_eq
    (by kernel_rfl) (fun s => by kernel_rfl) Mi.k82.runH (by kernel_rfl) (by kernel_rfl) (by kernel_rfl) (by rfl) (by first | assumption | decide +kernel) (by decide +kernel) ⟨rfl, rfl, rfl, rfl, rfl, by decide +kernel⟩ ?hw ?hc
  case hw => w_witness2
  case hc =>
    refine Mi.walk_w (l := PySem.Challenge.rw_turnseries_k82_errors_of_brackets) (n := 63) (k := 3 * 40) (γ := true) (x := "script") rfl (by decide) (by kernel_rfl) ⟨rfl, by decide, by decide⟩ ?F
    intro w mg fa h Y G hmg0
    obtain ⟨K, KX, c⟩ := Y
    have hmg : mg ("law" : PySem.Str) = some (.ref fa) := by
      have e : (HandSHeadRun.topDef (OpenLaw.row PySem.Challenge.rw_turnseries_k82_errors_of_brackets).prog 83).name = ("law" : PySem.Str) := by kernel_rfl
      rw [← e]
      exact hmg0
    exact Mi.law_pack (Pg := PySem.Challenge.rw_turnseries_k82_errors_of_brackets.prog) (f := ⟨"law", Mi.k82.top 83, ["script", "spot", "dice", "turn", "great", "wide"], ["script"], true, true, "law"⟩) (i := 52) (d := 40) Mi.k82.T Mi.k82.hB Mi.k82.hC Mi.k82.hO (by kernel_rfl) rfl rfl Mi.k82.run KX G c hmg
