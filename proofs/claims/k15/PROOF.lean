import PyProof.Rows.All
import Wide.All
import OpenK.AllK
import Wide.FinOn
import PyProof.Draws
import PyProof.EnumMake
import PyProof.ListMulRoad
import PyProof.FactsAll.tuple_2
import KE.GoesEnum
import HandS.Base
import HandS.Call
import HandS.List
import HandS.Iter
import HandS.TupMul
import HandS.TupAny
import HandS.NoneIn
import HandS.ForMost
import HandS.ForExc
import HandS.Wide
import HandS.Flow
import HandS.Style
import HandS.IsInst
import HandS.Conv
import HandS.Zip
import HandS.Rev
import HandS.SortInts
import HandS.Words
import HandS.WordsExc
import HandS.Defaults
import KE.KStateDown
import Lean
import HandS.Head0
import HandS.Head1
import HandS.Head2
import HandS.HeadEnd
import HandS.HeadHook1
import HandS.HeadHook2
import PySem.Challenge.RW_turnseries_k15_whole_signs_brought_and_m
set_option Elab.async false
set_option linter.all false
set_option maxRecDepth 100000
set_option maxHeartbeats 0
set_option autoImplicit false
/-! MiA: enumerate of tuples, tuple * int, unpacking by value. -/
namespace Mi
open PySem PySem.Spec PyProof.Rows L2
open AutoSeq1 (wpAny_loadPart')
theorem meets_enumerate_new1 {v : Value} {o : Obj} {H : Heap → Prop} (B : Begins v o H) :
    Meets (Builtin.«enumerate.__new__» ⟨[.type "enumerate", v], []⟩) (fun _ R s => H s.heap ∧
      R (.ok (.ret (.ref (s.heap.push o).objs.size))) { s with heap := (s.heap.push o).push { cls := .type "enumerate", data := .fields #[.none, .bool false, .ref s.heap.objs.size, rawInt 0, .none, .none] } }) :=
  .of_wp fun prog w A R s h => by
    obtain ⟨hp, g, d, tk, os⟩ := s; obtain ⟨h1, h⟩ := h
    have hsub := sub_enumerate
    have q1 : ∀ {A' : Around} {E : Value → Shared → Prop} {Q : Value → Shared → Prop}, Q (.ref hp.objs.size) ⟨hp.push o, g, d, tk, os⟩ → wpAny (model prog w) A' (pyIter v) Q E ⟨hp, g, d, tk, os⟩ :=
      fun q => B.iter prog w _ _ ⟨hp, g, d, tk, os⟩ _ h1 q
    wp_walk using q1
    refine wpAny_stack_any fun st => wpAny_pure ?_
    split
    · rename_i c _ _ _ _ _
      cases (c == Value.type "enumerate")
      · wp_walk using q1
        exact ⟨_, rfl, h⟩
      · wp_walk using q1
        exact ⟨_, rfl, h⟩
    · wp_walk using q1
      exact ⟨_, rfl, h⟩
section
variable {prog : Program} {w : World} {A : Around} {E : Value → Shared → Prop} {s : Shared}
theorem call_enumerate_tuple {l : Addr} {items : Array Value} {Q : Value → Shared → Prop} (hL : s.heap.IsTuple l items)
    (h : ∀ h', IsEnum h' (s.heap.objs.size + 1) s.heap.objs.size 0 .none → h'.IsTupleIter s.heap.objs.size l 0 → h'.objs.size = s.heap.objs.size + 2 →
      (∀ b o, s.heap.get? b = some o → h'.get? b = some o) → Q (.ref (s.heap.objs.size + 1)) { s with heap := h' }) :
    wpAny (model prog w) A (call (.type "enumerate") [.ref l]) Q E s := by
  refine callType_new F.called_enumerate (by decide) (F.typeCall_enumerate_1 _) (F.newCall_enumerate_1 _) (fun obj => F.args_object_init_2 obj _) F.entry_enumerate_new
    (meets_enumerate_new1 (begins_tuple l items)) ⟨hL, ?_⟩
  have hz : (s.heap.push { cls := .type "tuple_iterator", data := .fields #[.ref l, .int 0 0] }).objs.size = s.heap.objs.size + 1 := Heap.size_push ..
  show _ ∧ _
  rw [hz]
  have he : IsEnum ((s.heap.push { cls := .type "tuple_iterator", data := .fields #[.ref l, .int 0 0] }).push
      { cls := .type "enumerate", data := .fields #[.none, .bool false, .ref s.heap.objs.size, rawInt 0, .none, .none] }) (s.heap.objs.size + 1) s.heap.objs.size 0 .none := by
    have := Heap.get?_push_size (s.heap.push { cls := .type "tuple_iterator", data := .fields #[.ref l, .int 0 0] })
      (o := { cls := .type "enumerate", data := .fields #[.none, .bool false, .ref s.heap.objs.size, rawInt 0, .none, .none] }) rfl
    rw [hz] at this; exact this
  refine ⟨⟨_, he, rfl⟩, h _ he ⟨_, Heap.get?_push_of_some _ (Heap.get?_push_size _ rfl), rfl, rfl⟩ (by rw [Heap.size_push, hz]) fun b o x => Heap.get?_push_of_some _ (Heap.get?_push_of_some _ x)⟩
end
theorem pyNext_enumT_end {prog : Program} {w : World} {A : Around} {E : Value → Shared → Prop} {s : Shared} {e it l : Addr} {i : Nat} {items : Array Value} {old : Value} {Q : Option Value → Shared → Prop} (hh : A.handled = none)
    (he : IsEnum s.heap e it i old) (hit : s.heap.IsTupleIter it l i) (hl : s.heap.IsTuple l items) (hx : items[i]? = none)
    (hQ : ∀ h', Heap.ExtBut it s.heap h' → Q none { s with heap := h' }) : wpAny (model prog w) A (pyNext (.ref e)) Q E s := by
  have hT : s.TypeIs (.ref e) "enumerate" := ⟨_, he, rfl⟩
  unfold pyNext
  refine wpAny_bind (wpAny_attempt (wpAny_callSpecial?_slot (name := Str.ofString "__next__") hT F.slot_enumerate_next
    (wpAny_call_entry F.slot_enumerate_next hT F.entry_enumerate_next ?_ (F.args_enumerate_next_1 _))))
  show wpAny _ _ (field (.ref e) 2 >>= _) _ _ _
  refine wpAny_bind (wpAny_field he rfl (x := .ref it) rfl ?_)
  refine wpAny_bind (wpAny_nextOf_tuple_end hh hit hl hx fun h' x he' hx' => ?_)
  obtain ⟨o, ho, hc⟩ := hx'
  refine wpAny_bind (wpAny_isInstance (T := "StopIteration") (b := true) ⟨o, ho, hc⟩ isSubtype_stop ?_)
  exact wpAny_pure (hQ _ he')
/-- the tuple at a, each item in a new pair -/
def IteT (K : PySem.W.Frag) (a : Addr) : It :=
  ⟨fun i H => ∃ (xs : List V) (x : V), SqT K H a xs ∧ xs[i]? = some x, fun i H v H' => ∃ T x, v = .ref T ∧ H T = none ∧ H' = upd H T (.tup [.int (i : Nat), x]) ∧ ∀ xs, SqT K H a xs → xs[i]? = some x, fun i H => ∃ xs : List V, SqT K H a xs ∧ xs.length ≤ i⟩
theorem turn_enumT {P : Program} {w : World} {K : PySem.W.Frag} {elts : List Expr} {kk : Nat} {tpos : Pos} (a e it : Addr) (hai : a ≠ it) (hea : e ≠ a) :
    Turn P w K (.Tuple elts kk tpos) (IteT K a) [e, it] e (fun i h => (∃ old, IsEnum h e it ((i : Nat) : Int) old) ∧ h.IsTupleIter it a i ∧ e ≠ it) where
  mem := by simp
  obj := fun i h st b hb => by
    obtain ⟨⟨old, he⟩, ⟨o, ho, hc, hd⟩, _⟩ := st
    have e' : b = e ∨ b = it := by simpa using hb
    rcases e' with z | z
    · rw [z]; exact ⟨_, he, fun v q => nomatch q⟩
    · rw [z]; exact ⟨o, ho, fun v q => by rw [hd] at q; cases q⟩
  keep := fun i h h' st k => let ⟨⟨old, he⟩, hi, hne⟩ := st; ⟨⟨old, k e (by simp) _ he⟩, hi.at fun o q => k it (by simp) o q, hne⟩
  item := by
    intro X hP hw hK hc i pins s σ H E I hf st hg
    subst hP hw hK
    obtain ⟨⟨old, he⟩, hit, hne⟩ := st
    obtain ⟨xs, x, hq, hx⟩ := hg
    obtain ⟨its, rv, p, hz⟩ := I.tuple hq
    obtain ⟨u, hu, ru⟩ := rv.get hx
    have hel : e < s.heap.objs.size := Heap.lt_size he
    have hil : it < s.heap.objs.size := by obtain ⟨_, q, _⟩ := hit; exact Heap.lt_size q
    have pt : s.heap.IsTuple a its.toArray := p
    have hlt : i < its.toArray.size := by
      have := (List.getElem?_eq_some_iff.mp hu).1
      simpa using this
    refine wpAny_pyNext_enum_itemD (Draws.tuple (prog := X.prog) (w := X.w) (A := X.A.in1) (I.ok.hd hc) it a hai its.toArray) he ⟨hit, pt⟩ hlt hne (by simp [hne, hea]) fun y h' tk hy ho hst' hT hsz hk => ?_
    have ey : y = u := by
      have h1 : its.toArray[i]? = some u := by simpa using hu
      rw [h1] at hy
      exact (Option.some.inj hy).symm
    subst ey
    refine ⟨_, rfl, wpAny_letOwnedTupleGo_enum (s := { s with heap := h', toks := tk + 1 }) ho fun h'' he' sb => ?_⟩
    have hT2 : h''.get? s.heap.objs.size = some { cls := .type "tuple", data := .seq #[.int i tk, y] } := (sb.2 _ (Nat.ne_of_gt hel)).trans hT
    have new : ObjOk X.prog X.w (upd H s.heap.objs.size (.tup [.int (i : Nat), x])) h'' s.heap.objs.size (.tup [.int (i : Nat), x]) :=
      ⟨by show 2 ≤ sizeLine; decide, [.int i tk, y], .cons ⟨_, rfl⟩ (.cons ru .nil), ⟨_, hT2, rfl, _, rfl⟩⟩
    have I1 : Inv X pins σ (upd H s.heap.objs.size (.tup [.int (i : Nat), x])) { s with heap := h'', toks := tk + 1 } :=
      I.turnedNew (ch := [e, it]) (fun b ob hb q => (sb.2 b (fun z => hb (by simp [z]))).trans (hk b ob (fun z => hb (by simp [z])) (fun z => hb (by simp [z])) q)) hf (Nat.le_refl _) new
    refine ⟨.ref s.heap.objs.size, _, I1, rfl, ⟨_, x, rfl, I.hok.fresh (Nat.le_refl _), rfl, fun ys hy => by rw [I.tuple_inj hy hq]; exact hx⟩, ⟨⟨y, ?_⟩, hst'.1.at fun o q => (sb.2 it (Ne.symm hne)).trans q, hne⟩, fun b hb => ?_⟩
    · have e1 : ((i + 1 : Nat) : Int) = (i : Int) + 1 := by omega
      rw [e1]; exact he'
    · have hb' : b < s.heap.objs.size := by
        have e' : b = e ∨ b = it := by simpa using hb
        rcases e' with z | z
        · rw [z]; exact hel
        · rw [z]; exact hil
      rw [upd_ne (Nat.ne_of_lt hb')]
      exact (hf b hb).1
  done := by
    intro X hP hw hK hc i pins s σ H E I hf st hg
    subst hP hw hK
    obtain ⟨⟨old, he⟩, hit, hne⟩ := st
    obtain ⟨xs, hq, hx⟩ := hg
    obtain ⟨its, rv, p, hz⟩ := I.tuple hq
    obtain ⟨f0, f1, f2, f3, f4, f5⟩ := hf it (by simp)
    have hl := rv.length
    have pt : s.heap.IsTuple a its.toArray := p
    exact pyNext_enumT_end (I.ok.hd hc) he hit pt (by simp; omega) fun h' eb => ⟨rfl, I.turned (t' := s.toks) (fun b o hb q => eb b o hb q) f0 f1 f3 f4 f5⟩
  self := fun A i s Q E st h => let ⟨⟨_, he⟩, _⟩ := st; wpAny_pyIter_enum he h
/-- enumerate of a list, of a tuple -/
def iEnumA (K : PySem.W.Frag) (ta : TA) : TI := fun σ H R => ta σ H fun vs H1 => ∃ a xs, vs = [.ref a] ∧ ((SqL K H1 a xs ∧ R (Ite K a) H1) ∨ (SqT K H1 a xs ∧ R (IteT K a) H1))
theorem pi_enumA {X : Cx} {e : Expr} {ta : TA} {p pos tpos : Pos} {elts : List Expr} {kk : Nat} (hg : Gl X "enumerate") (hm : X.mg "enumerate" = none) (ha : PA X [e] ta) (hs : starEach [e] X.env = [(false, eval e X.env)]) :
    PI X (.Tuple elts kk tpos) (.Call (.Name "enumerate" p) [e] [] pos) (iEnumA X.K ta) := by
  refine ⟨fun pins s σ H R I h => ?_⟩
  refine Call_ (ld_blt I hg hm boot_enumerate (PyProof.Rows.callWith_type1 (thn (ha.run pos pins s σ H _ I h) fun us s1 ⟨vs, H1, I1, r1, q1⟩ => ?_) hs rfl))
  obtain ⟨a, xs, ex, q⟩ := q1
  subst ex
  cases r1 with
  | cons r rr =>
    cases rr
    cases r
    have fp : ∀ b ∈ [s1.heap.objs.size + 1, s1.heap.objs.size], FpOk X pins H1 b := fun b hb => by
      have e' : b = s1.heap.objs.size + 1 ∨ b = s1.heap.objs.size := by simpa using hb
      have hle : s1.heap.objs.size ≤ b := by
        rcases e' with z | z
        · rw [z]; exact Nat.le_add_right _ _
        · rw [z]; exact Nat.le_refl _
      exact I1.fpOk hle (I1.hok.fresh hle)
    rcases q with ⟨hq, q⟩ | ⟨hq, q⟩
    · obtain ⟨its, rv, p', hz⟩ := I1.list hq
      refine call_enumerate_list p'.isList fun h' he hit hsz hk => wpAny_pyIter_enum he ?_
      have I2 : Inv X pins σ H1 { s1 with heap := h' } := I1.kept (t' := s1.toks) hk
      exact ⟨s1.heap.objs.size + 1, [s1.heap.objs.size + 1, s1.heap.objs.size], _, _, H1, rfl, I2, turn_enum a (s1.heap.objs.size + 1) s1.heap.objs.size, ⟨⟨.none, he⟩, hit, Nat.succ_ne_self _⟩, fp, q⟩
    · obtain ⟨its, rv, p', hz⟩ := I1.tuple hq
      have pt : s1.heap.IsTuple a its.toArray := p'
      obtain ⟨o, ho, _⟩ := id p'
      have hl : a < s1.heap.objs.size := Heap.lt_size ho
      refine call_enumerate_tuple pt fun h' he hit hsz hk => wpAny_pyIter_enum he ?_
      have I2 : Inv X pins σ H1 { s1 with heap := h' } := I1.kept (t' := s1.toks) hk
      exact ⟨s1.heap.objs.size + 1, [s1.heap.objs.size + 1, s1.heap.objs.size], _, _, H1, rfl, I2, turn_enumT a (s1.heap.objs.size + 1) s1.heap.objs.size (Nat.ne_of_lt hl) (Nat.ne_of_gt (Nat.lt_succ_of_lt hl)), ⟨⟨.none, he⟩, hit, Nat.succ_ne_self _⟩, fp, q⟩

/-! ### tuple * int -/
theorem tuple_mul_same (l : Addr) (items : Array Value) (n : Nat) (dd : Option Addr) (sl : Array (Option Value)) (x : Int) (u : Tok) (c0 : (decide (x < -(2 ^ 63)) || decide (x ≥ 2 ^ 63)) = false) (c1 : (items.isEmpty || x == 1) = true) :
    Meets (Builtin.«tuple.__mul__» ⟨[.ref l, .int x u], []⟩) (fun _ R s => s.heap.get? l = some { cls := .type "tuple", dict := dd, data := .seq items n, slots := sl } ∧ R (.ok (.ret (Value.ref l))) s) :=
  .of_wp fun prog w A R s h => by
    obtain ⟨hp, g, d, tk, os⟩ := s
    obtain ⟨hl, h⟩ := h
    have f1 := AutoSeq1.idx_int
    wp_walk using wpAny_loadPart' hl
    repeat (first
      | (refine wpAny_ite_false (decide_eq_false (by rw [c0]; exact Bool.false_ne_true)) ?_; wp_walk using wpAny_loadPart' hl)
      | (refine wpAny_ite_true (decide_eq_true c1) ?_; wp_walk using wpAny_loadPart' hl))
    exact ⟨_, rfl, h⟩
theorem tuple_mul_none (l : Addr) (items : Array Value) (n : Nat) (dd : Option Addr) (sl : Array (Option Value)) (x : Int) (u : Tok) (c0 : (decide (x < -(2 ^ 63)) || decide (x ≥ 2 ^ 63)) = false) (c1 : (items.isEmpty || x == 1) = false) (c2 : (decide (x ≤ 0) || items.isEmpty) = true) :
    Meets (Builtin.«tuple.__mul__» ⟨[.ref l, .int x u], []⟩) (fun _ R s => s.heap.get? l = some { cls := .type "tuple", dict := dd, data := .seq items n, slots := sl } ∧
      R (.ok (.ret (Value.ref s.heap.objs.size))) { s with heap := s.heap.push { cls := Value.type "tuple", data := Data.seq #[] }, toks := s.toks }) :=
  .of_wp fun prog w A R s h => by
    obtain ⟨hp, g, d, tk, os⟩ := s
    obtain ⟨hl, h⟩ := h
    have f1 := AutoSeq1.idx_int
    wp_walk using wpAny_loadPart' hl
    repeat (first
      | (refine wpAny_ite_false (decide_eq_false (by rw [c0]; exact Bool.false_ne_true)) ?_; wp_walk using wpAny_loadPart' hl)
      | (refine wpAny_ite_false (decide_eq_false (by rw [c1]; exact Bool.false_ne_true)) ?_; wp_walk using wpAny_loadPart' hl)
      | (refine wpAny_ite_true (decide_eq_true c2) ?_; wp_walk using wpAny_loadPart' hl))
    exact ⟨_, rfl, h⟩
def rRepA (K : PySem.W.Frag) : R2 := fun x y H Q => ∃ l k xs, x = .ref l ∧ y = .int k ∧ SqT K H l xs ∧ -9223372036854775808 ≤ k ∧ k < 9223372036854775808 ∧ xs.length * k.toNat ≤ sizeLine ∧
  ((xs = [] ∨ k = 1) → Q (.ref l) H) ∧ (¬ (xs = [] ∨ k = 1) → ∀ p, H p = none → Q (.ref p) (upd H p (.tup (List.replicate k.toNat xs).flatten)))
section
variable {X : Cx}
theorem op_repA : OpR X (binaryOp .Mult) (rRepA X.K) := by
  intro pins s σ H x y v u Q I rx ry h
  obtain ⟨l, k, xs, rfl, rfl, hT, h1, h2, hz, q1, q2⟩ := h
  cases rx
  obtain ⟨t, rfl⟩ := ry
  obtain ⟨its, r, ⟨⟨cls, dd, data, sl⟩, ho, hc, n, hd⟩, hs⟩ := I.tuple hT
  simp only at hc hd
  subst hc hd
  have hle : its.length = xs.length := r.length.symm
  have hsz0 : its.toArray.size = xs.length := by rw [List.size_toArray, hle]
  have c0 : (decide (k < -(2 ^ 63)) || decide (k ≥ 2 ^ 63)) = false := by
    rw [decide_eq_false (by omega), decide_eq_false (by omega)] <;> rfl
  have hemp : its.toArray.isEmpty = decide (xs = []) := by
    cases its with
    | nil =>
      have : xs = [] := List.eq_nil_of_length_eq_zero hle.symm
      rw [this] <;> rfl
    | cons a b =>
      have : xs ≠ [] := fun e => by rw [e] at hle; cases hle
      rw [decide_eq_false this] <;> rfl
  have road : ∀ {Q' : Value → Shared → Prop}, wpAny (model X.prog X.w) X.A (call (.builtin "tuple.__mul__") [.ref l, .int k t]) Q' X.xe s → wpAny (model X.prog X.w) X.A (binaryOp .Mult (.ref l) (.int k t)) Q' X.xe s := fun hcall =>
    wpAny_binaryOp_repeat_ref (T := "tuple") (U := "int") (by decide) ⟨_, ho, rfl⟩ (fun s' => typeIs_int s' k t) noFill_tuple_mul F.fills_int_mul F.slot_int_rmul repeat_tuple F.slot_int_index.lookup
      (call_meets F.slot_int_rmul (typeIs_int s k t) F.entry_int_rmul (F.args_int_rmul_2 _ _) (int_rmul_tuple k t l its.toArray n dd sl) ⟨ho, rfl, ⟨_, ho, rfl⟩, hcall⟩)
  by_cases hsame : xs = [] ∨ k = 1
  · have c1 : (its.toArray.isEmpty || k == 1) = true := by
      rw [hemp]
      rcases hsame with e | e
      · rw [decide_eq_true e] <;> rfl
      · rw [e]; simp
    refine road (call_meets F.slot_tuple_mul ⟨_, ho, rfl⟩ F.entry_tuple_mul (F.args_tuple_mul_2 _ _) (tuple_mul_same l its.toArray n dd sl k t c0 c1) ⟨ho, ?_⟩)
    exact ⟨.ref l, H, I, rfl, q1 hsame⟩
  · have hn := not_or.mp hsame
    have c1 : (its.toArray.isEmpty || k == 1) = false := by
      rw [hemp, decide_eq_false hn.1, Bool.false_or]
      exact beq_eq_false_iff_ne.mpr hn.2
    have q3 := q2 hsame
    by_cases hk : k ≤ 0
    · have c2 : (decide (k ≤ 0) || its.toArray.isEmpty) = true := by rw [decide_eq_true hk] <;> rfl
      refine road (call_meets F.slot_tuple_mul ⟨_, ho, rfl⟩ F.entry_tuple_mul (F.args_tuple_mul_2 _ _) (tuple_mul_none l its.toArray n dd sl k t c0 c1 c2) ⟨ho, ?_⟩)
      have e0 : (List.replicate k.toNat xs).flatten = [] := by
        have : k.toNat = 0 := by omega
        rw [this] <;> rfl
      rw [e0] at q3
      refine ⟨.ref s.heap.objs.size, _, I.laid (t' := s.toks) (o := .tup []) (fun b ob q => Heap.get?_push_of_some _ q) (Nat.le_refl _) ?_, rfl, q3 _ (I.hok.fresh (Nat.le_refl _))⟩
      exact ⟨Nat.zero_le _, [], .nil, IsTup.new _ _⟩
    · have c2 : (decide (k ≤ 0) || its.toArray.isEmpty) = false := by
        rw [hemp, decide_eq_false hn.1, decide_eq_false hk] <;> rfl
      have hm : ((its.toArray.size : Nat) : Int) * k ≤ 16777216 := by
        rw [hsz0]
        have e : k = (k.toNat : Int) := by omega
        rw [e, ← Int.natCast_mul]
        rw [sizeLine_eq] at hz
        omega
      have flen : (List.replicate k.toNat its).flatten.length ≤ sizeLine := by
        rw [PyProof.Rows.lm_len_rep_flat, hle, Nat.mul_comm]
        exact hz
      have c4 : Builtin.Tuple.tupleTooMany (((its.toArray.size : Nat) : Int) * k) = false := by
        unfold Builtin.Tuple.tupleTooMany
        rw [sizeLine_eq]
        exact decide_eq_false (by omega)
      refine road (call_meets F.slot_tuple_mul ⟨_, ho, rfl⟩ F.entry_tuple_mul (F.args_tuple_mul_2 _ _) (tuple_mulW l its.toArray n dd sl k t c0 c1 c2 (by omega) c4 (by rw [size_rep, List.size_toArray]; exact flen)) ⟨ho, ?_⟩)
      rw [size_rep]
      refine ⟨.ref s.heap.objs.size, _, I.laid (t' := s.toks) (o := .tup (List.replicate k.toNat xs).flatten) (fun b ob q => Heap.get?_push_of_some _ q) (Nat.le_refl _) ?_, rfl, q3 _ (I.hok.fresh (Nat.le_refl _))⟩
      exact ⟨by rw [PyProof.Rows.lm_len_rep_flat, Nat.mul_comm]; exact hz, _, r.rep k.toNat, IsTup.new _ _⟩
/-- (a, b, ..) = a tuple or a list of that length -/
def gSeq (K : PySem.W.Frag) (n : Nat) (t : TGs) : TG := fun v σ H Q => ∃ a xs, v = .ref a ∧ (SqL K H a xs ∨ SqT K H a xs) ∧ xs.length = n ∧ t xs σ H Q
theorem pg_seq {es : List Expr} {k : Nat} {t : TGs} {n : Nat} {pos : Pos} (hc : X.calm = true) (h : PGs X es t)
    (hn : (assignEach es X.env).length = n) (hst : (assignEach es X.env).findIdx? (·.1) = none) : PG X (.Tuple es k pos) (gSeq X.K n t) := by
  refine ⟨fun pins s σ H v u Q I r hw => ?_⟩
  obtain ⟨a, xs, e1, hq, hl, hw⟩ := hw
  rcases hq with hq | hq
  · exact (pg_unl hc h hn hst).run pins s σ H v u Q I r ⟨a, xs, e1, hq, hl, hw⟩
  · exact (pg_tup hc h hn hst).run pins s σ H v u Q I r ⟨a, xs, e1, hq, hl, hw⟩
end
end Mi

/-! Mi: a small total language and what it computes; later files show that the program's own text computes the same. -/
namespace Mi
open PySem

/-- a value: tuples and frozen lists by value, a fresh list (lst), a list of the small heap (ref), a def (fn) -/
inductive MV where
  | non | bl (b : Bool) | int (i : Int) | str (s : Str)
  | tup (xs : List MV) | lst (xs : List MV) | fz (xs : List MV) | scr (ns : List Int) | ref (n : Nat) | fn (f : Nat)
  deriving Inhabited

mutual
/-- no list of the small heap within -/
def MV.pure : MV → Bool
  | .tup xs => pureL xs
  | .fz xs => pureL xs
  | .lst _ => false
  | .ref _ => false
  | _ => true
def pureL : List MV → Bool
  | [] => true
  | x :: xs => x.pure && pureL xs
end

mutual
/-- no fresh list within -/
def MV.nol : MV → Bool
  | .tup xs => nolL xs
  | .fz xs => nolL xs
  | .lst _ => false
  | _ => true
def nolL : List MV → Bool
  | [] => true
  | x :: xs => x.nol && nolL xs
end

/-- an object of the small heap -/
inductive MO where
  | lst (xs : List MV)
  | scr (ns : List Int)
  | dct (kvs : List (L2.Key × MV))
  deriving Inhabited

abbrev Hm := List MO
abbrev Loc := List (Option MV)

/-- an exception: its class by number, what it keeps -/
structure MEx where
  cls : Nat
  arg : Option MV
  deriving Inhabited

inductive Res (α : Type) where
  | ok (a : α) (h : Hm)
  | ex (e : MEx) (h : Hm)
abbrev RO (α : Type) := Option (Res α)
def bnd {α β : Type} (x : RO α) (f : α → Hm → RO β) : RO β := match x with
  | some (.ok a h) => f a h
  | some (.ex e h) => some (.ex e h)
  | none => none
@[simp] theorem bnd_ok {α β : Type} (a : α) (h : Hm) (f : α → Hm → RO β) : bnd (some (.ok a h)) f = f a h := rfl
@[simp] theorem bnd_ex {α β : Type} (e : MEx) (h : Hm) (f : α → Hm → RO β) : bnd (some (.ex e h)) f = some (.ex e h) := rfl
@[simp] theorem bnd_none {α β : Type} (f : α → Hm → RO β) : bnd none f = none := rfl

/-- how a statement ends -/
inductive SRes where
  | nx (σ : Loc) (h : Hm)
  | rt (v : MV) (h : Hm)
  | bk (σ : Loc) (h : Hm)
  | ct (σ : Loc) (h : Hm)
  | ex (e : MEx) (σ : Loc) (h : Hm)

inductive BO where | add | sub | mul | fdv | mod | pow
  deriving DecidableEq, Inhabited
inductive CO where | eq | ne | lt | le | gt | ge | isN | notN | isT | notT | isin | notin
  deriving DecidableEq, Inhabited
inductive TyN where | int | bool | str | tuple | list | dict
  deriving DecidableEq, Inhabited
/-- built-in functions -/
inductive BI where | abs | max2 | min2 | int | len | sum | all | any | tuple | list | sorted | max1 | min1
  deriving DecidableEq, Inhabited
/-- methods of lists -/
inductive LM where | append | pop0 | pop1
  deriving DecidableEq, Inhabited

mutual
inductive ME where
  | var (i : Nat)
  | cst (v : MV)
  | bin (op : BO) (a b : ME)
  | neg (a : ME)
  | not (a : ME)
  | and (a b : ME)
  | or (a b : ME)
  | ite (c a b : ME)
  | cmp (op : CO) (a b : ME)
  | chn (o1 o2 : CO) (a b c : ME)
  | tup (es : List ME)
  | lst (es : List ME)
  | ix (a b : ME)
  | sl (a : ME) (lo hi : Option ME)
  | rev (a : ME)
  | call (f : Nat) (es : List ME)
  | bi (b : BI) (es : List ME)
  | isi (a : ME) (ts : List TyN)
  | meth (m : LM) (o : ME) (es : List ME)
  | lc (own : List Nat) (tg : MT) (it : MI) (c : Option ME) (elt : ME)
inductive MT where
  | var (i : Nat)
  | tup (ts : List MT)
  | sub (a i : ME)
inductive MI where
  | ex (a : ME)
  | r1 (a : ME)
  | r2 (a b : ME)
  | r3 (a b c : ME)
  | enu (a : ME)
  | zip (a b : ME)
end
instance : Inhabited ME := ⟨.cst .non⟩
instance : Inhabited MT := ⟨.var 0⟩
instance : Inhabited MI := ⟨.ex default⟩

inductive MS where
  | asg (t : MT) (e : ME)
  | par (is : List Nat) (es : List ME)
  | aug (i : Nat) (op : BO) (e : ME)
  | augS (a i : ME) (op : BO) (e : ME)
  | expr (e : ME)
  | ret (e : ME)
  | retN
  | ife (c : ME) (a b : List MS)
  | whl (c : ME) (b : List MS)
  | forr (t : MT) (it : MI) (b : List MS)
  | pass
  | brk
  | cnt
  | nev
  deriving Inhabited

/-! ### values -/
def sizeMax : Nat := 16777216
/-- what a list holds -/
def items (h : Hm) : MV → Option (List MV)
  | .lst xs => some xs
  | .fz xs => some xs
  | .scr ns => some (ns.map .int)
  | .ref n => match h[n]? with
    | some (.lst xs) => some xs
    | some (.scr ns) => some (ns.map .int)
    | _ => none
  | _ => none
/-- what a list or a tuple holds -/
def seq (h : Hm) : MV → Option (List MV)
  | .tup xs => some xs
  | v => items h v
/-- of a list that is no frozen script -/
def itemsL (h : Hm) : MV → Option (List MV)
  | .lst xs => some xs
  | .fz xs => some xs
  | .ref n => match h[n]? with
    | some (.lst xs) => some xs
    | _ => none
  | _ => none

mutual
/-- as data: for == -/
def toD (h : Hm) : MV → Option PyData
  | .non => some .none
  | .bl b => some (.bool b)
  | .int i => some (.int i)
  | .str s => some (.str s)
  | .tup xs => (toDs h xs).map .tuple
  | .lst xs => (toDs h xs).map .list
  | .fz xs => (toDs h xs).map .list
  | .scr ns => some (.list (ns.map .int))
  | .ref n => match h[n]? with
    | some (.lst xs) => (toDp xs).map .list
    | some (.scr ns) => some (.list (ns.map .int))
    | _ => none
  | .fn _ => none
def toDs (h : Hm) : List MV → Option (List PyData)
  | [] => some []
  | x :: xs => match toD h x, toDs h xs with
    | some d, some ds => some (d :: ds)
    | _, _ => none
/-- of values without references -/
def toP : MV → Option PyData
  | .non => some .none
  | .bl b => some (.bool b)
  | .int i => some (.int i)
  | .str s => some (.str s)
  | .tup xs => (toDp xs).map .tuple
  | .lst xs => (toDp xs).map .list
  | .fz xs => (toDp xs).map .list
  | .scr ns => some (.list (ns.map .int))
  | .ref _ => none
  | .fn _ => none
def toDp : List MV → Option (List PyData)
  | [] => some []
  | x :: xs => match toP x, toDp xs with
    | some d, some ds => some (d :: ds)
    | _, _ => none
end

def truth (h : Hm) : MV → Option Bool
  | .non => some false
  | .bl b => some b
  | .int i => some (i != 0)
  | .str s => if s.length ≤ sizeMax then some ((s.length : Int) != 0) else none
  | .tup xs => some (!xs.isEmpty)
  | .fn _ => none
  | v => match items h v with
    | some xs => some (!xs.isEmpty)
    | none => none

def mulOk (i j : Int) : Bool := decide (i.natAbs < 18446744073709551616) || decide (j.natAbs < 18446744073709551616) || decide (i.natAbs.log2 + j.natAbs.log2 < 1000000)
def fdvOk (j : Int) : Bool := (decide (0 < j) && decide (j.natAbs.log2 < 9000)) || (decide (j ≠ 0) && decide (j.natAbs < 1073741824)) || (decide (j ≠ 0) && decide (j.natAbs.log2 < 9000))
def powOk (i j : Int) : Bool := decide (0 ≤ j) && decide ((i.natAbs.log2 + 1 : Nat) * j ≤ 134217728)

def bop (op : BO) (x y : MV) (h : Hm) : Option MV := match op, x, y with
  | .add, .int i, .int j => some (.int (i + j))
  | .sub, .int i, .int j => some (.int (i - j))
  | .mul, .int i, .int j => if mulOk i j then some (.int (i * j)) else none
  | .fdv, .int i, .int j => if fdvOk j then some (.int (i.fdiv j)) else none
  | .mod, .int i, .int j => if j ≠ 0 then some (.int (i.fmod j)) else none
  | .pow, .int i, .int j => if powOk i j then some (.int (i ^ j.toNat)) else none
  | .add, .str a, .str b => if a.length + b.length ≤ sizeMax then some (.str (a ++ b)) else none
  | .add, .tup xs, .tup ys => if xs.length + ys.length ≤ sizeMax then some (.tup (xs ++ ys)) else none
  | .mul, .tup xs, .int k => if -9223372036854775808 ≤ k ∧ k < 9223372036854775808 ∧ xs.length * k.toNat ≤ sizeMax then some (.tup (List.replicate k.toNat xs).flatten) else none
  | .add, a, b => match itemsL h a, itemsL h b with
    | some xs, some ys => if xs.length + ys.length ≤ sizeMax then some (.lst (xs ++ ys)) else none
    | _, _ => none
  | .mul, a, .int k => match itemsL h a with
    | some xs => if -9223372036854775808 ≤ k ∧ k < 9223372036854775808 ∧ xs.length * k.toNat ≤ sizeMax then some (.lst (List.replicate k.toNat xs).flatten) else none
    | none => none
  | _, _, _ => none

/-- name op= e, of ints -/
def augOk (op : BO) (j : Int) : Bool := match op with
  | .add => true
  | .sub => true
  | .mul => true
  | .fdv => decide (0 < j) && decide (j.natAbs.log2 < 9000)
  | .mod => decide (0 < j)
  | .pow => false
def augV (op : BO) (x y : MV) (h : Hm) : Option MV := match x, y with
  | .int a, .int b => if augOk op b then bop op (.int a) (.int b) h else none
  | _, _ => none
/-- values whose == is told without the heap -/
def flat : MV → Bool
  | .non => true
  | .bl _ => true
  | .int _ => true
  | .str _ => true
  | _ => false
def eqF : MV → MV → Bool
  | .non, .non => true
  | .bl a, .bl b => a == b
  | .bl a, .int b => (if a then 1 else 0) == b
  | .int a, .bl b => a == (if b then 1 else 0)
  | .int a, .int b => a == b
  | .str a, .str b => a == b
  | _, _ => false
def inF (x : MV) (xs : List MV) : Bool := xs.any fun y => eqF y x

def eqD (x y : MV) (h : Hm) : Option Bool := match toD h x, toD h y with
  | some d, some e => if SeqAt.shaped d && SeqAt.shaped e then some (PyData.eqv d e) else none
  | _, _ => none
def cop (op : CO) (x y : MV) (h : Hm) : Option Bool := match op, x, y with
  | .lt, .int i, .int j => some (decide (i < j))
  | .le, .int i, .int j => some (decide (i ≤ j))
  | .gt, .int i, .int j => some (decide (j < i))
  | .ge, .int i, .int j => some (decide (j ≤ i))
  | .eq, .int i, .int j => some (decide (i = j))
  | .ne, .int i, .int j => some (!decide (i = j))
  | .eq, a, b => eqD a b h
  | .ne, a, b => (eqD a b h).map (!·)
  | .isin, a, b => match seq h b with
    | some xs => if flat a && xs.all flat then some (inF a xs) else none
    | none => none
  | .notin, a, b => match seq h b with
    | some xs => if flat a && xs.all flat then some (!inF a xs) else none
    | none => none
  | .isN, a, .non => match a with
    | .non => some true
    | _ => some false
  | .notN, a, .non => match a with
    | .non => some false
    | _ => some true
  | .isN, .bl a, .bl b => some (decide (a = b))
  | .notN, .bl a, .bl b => some (!decide (a = b))
  | _, _, _ => none

def tyOf (h : Hm) : MV → Option TyN
  | .bl _ => some .bool
  | .int _ => some .int
  | .str _ => some .str
  | .tup _ => some .tuple
  | .lst _ => some .list
  | .fz _ => some .list
  | .scr _ => some .list
  | .ref n => match h[n]? with
    | some (.lst _) => some .list
    | some (.scr _) => some .list
    | some (.dct _) => some .dict
    | none => none
  | _ => none
def isTy (h : Hm) (v : MV) (t : TyN) : Option Bool := match v with
  | .non => some false
  | v => (tyOf h v).map fun u => decide (u = t) || (decide (u = .bool) && decide (t = .int))

/-- a fresh list that goes into another thing is frozen -/
def frz : MV → MV
  | .lst xs => .fz xs
  | v => v
/-- what is no fresh list -/
def unl : MV → Option MV
  | .lst _ => none
  | v => some v
def nl : MV → Bool
  | .lst _ => false
  | _ => true
def nthU (o : Option MV) : Option (Option MV) := match o with
  | none => some none
  | some x => (unl x).map some
/-- list[i], tuple[i] -/
def ixV (x y : MV) (h : Hm) : Option MV := match x, y with
  | .str s, .int i => if s.length ≤ sizeMax then (L2.atI s.cps.toList i).map fun c => .str ⟨#[c]⟩ else none
  | a, .int i => match seq h a with
    | some xs => (L2.atI xs i).bind unl
    | none => none
  | _, _ => none
def cut {α : Type} (xs : List α) (lo hi : Option Int) : List α := (xs.drop (HT.sIx xs.length 0 lo)).take (HT.sIx xs.length xs.length hi - HT.sIx xs.length 0 lo)
def slV (x : MV) (lo hi : Option Int) (h : Hm) : Option MV := match x with
  | .tup xs => some (.tup (cut xs lo hi))
  | a => match items h a with
    | some xs => some (.lst (cut xs lo hi))
    | none => none

def intsOf : List MV → Option (List Int)
  | [] => some []
  | .int i :: r => (intsOf r).map (i :: ·)
  | _ :: _ => none
def blsOf : List MV → Option (List Bool)
  | [] => some []
  | .bl i :: r => (blsOf r).map (i :: ·)
  | _ :: _ => none
def insI (x : Int) : List Int → List Int
  | [] => [x]
  | y :: r => if x ≤ y then x :: y :: r else y :: insI x r
def sortI : List Int → List Int
  | [] => []
  | x :: r => insI x (sortI r)

def biV (b : BI) (vs : List MV) (h : Hm) : Option MV := match b, vs with
  | .abs, [.int i] => some (.int (if i < 0 then -i else i))
  | .max2, [.int i, .int j] => some (.int (if j > i then j else i))
  | .min2, [.int i, .int j] => some (.int (if j < i then j else i))
  | .int, [.int i] => some (.int i)
  | .int, [.bl k] => some (.int (if k then 1 else 0))
  | .len, [.str s] => if s.length ≤ sizeMax then some (.int s.length) else none
  | .len, [a] => (seq h a).map fun xs => .int xs.length
  | .sum, [a] => match items h a with
    | some xs => (intsOf xs).map fun ns => .int ns.sum
    | none => none
  | .all, [a] => match items h a with
    | some xs => (blsOf xs).map fun bs => .bl (bs.all id)
    | none => none
  | .any, [a] => match items h a with
    | some xs => (blsOf xs).map fun bs => .bl (bs.any id)
    | none => none
  | .tuple, [.tup xs] => some (.tup xs)
  | .tuple, [a] => (items h a).map .tup
  | .list, [a] => (seq h a).map .lst
  | .sorted, [a] => match items h a with
    | some xs => (intsOf xs).map fun ns => .lst ((sortI ns).map .int)
    | none => none
  | _, _ => none

/-- a range's ints -/
def rng (lo : Int) (n : Nat) : List MV := (List.range n).map fun (i : Nat) => .int (lo + i)
def rngC (lo c : Int) (n : Nat) : List MV := (List.range n).map fun (i : Nat) => .int (lo + i * c)
def rngN (i j c : Int) : Nat := (Builtin.Range.rangeSize i j c).toNat
def small (i : Int) : Bool := decide (-4611686018427387904 ≤ i) && decide (i < 4611686018427387904)
def enumV (xs : List MV) : List MV := (List.range xs.length).zipWith (fun (i : Nat) x => .tup [.int i, x]) xs
def zipV (xs ys : List MV) : List MV := xs.zipWith (fun x y => .tup [x, y]) ys
/-- where the items of a loop stand: a tuple, a list of its own, a list of the small heap as it is at each turn -/
inductive Cmp where
  | tv (vs : List MV)
  | lv (vs : List MV)
  | at_ (n : Nat)
inductive Src where
  | one (c : Cmp)
  | rg (vs : List MV)
  | enu (c : Cmp)
  | zip (c d : Cmp)
def cmpOf (v : MV) (h : Hm) : Option Cmp := match v with
  | .tup xs => some (.tv xs)
  | .lst xs => some (.lv xs)
  | .fz xs => some (.lv xs)
  | .scr ns => some (.lv (ns.map .int))
  | .ref n => match items h (.ref n) with
    | some _ => some (.at_ n)
    | none => none
  | _ => none
/-- the i-th item: there | none left | no list there -/
def Cmp.nth (c : Cmp) (i : Nat) (h : Hm) : Option (Option MV) := match c with
  | .tv vs => nthU vs[i]?
  | .lv vs => nthU vs[i]?
  | .at_ n => match items h (.ref n) with
    | some xs => nthU xs[i]?
    | none => none
def Src.nth (s : Src) (i : Nat) (h : Hm) : Option (Option MV) := match s with
  | .one c => c.nth i h
  | .rg vs => nthU vs[i]?
  | .enu c => (c.nth i h).map fun o => o.map fun x => .tup [.int i, x]
  | .zip c d => match c.nth i h, d.nth i h with
    | some (some x), some (some y) => some (some (.tup [x, y]))
    | some none, some _ => some none
    | some _, some none => some none
    | _, _ => none
def Cmp.isL (c : Cmp) : Bool := match c with
  | .tv _ => false
  | _ => true
def Cmp.len (c : Cmp) (h : Hm) : Nat := match c with
  | .tv vs => vs.length
  | .lv vs => vs.length
  | .at_ n => ((items h (.ref n)).getD []).length
def Src.len (s : Src) (h : Hm) : Nat := match s with
  | .one c => c.len h
  | .rg vs => vs.length
  | .enu c => c.len h
  | .zip c d => min (c.len h) (d.len h)

/-! ### storing -/
/-- a fresh list is laid into the heap -/
def sto (v : MV) (h : Hm) : Option (MV × Hm) := match v with
  | .lst xs => if pureL xs then some (.ref h.length, h ++ [.lst xs]) else none
  | v => if v.nol then some (v, h) else none
/-- a def's arguments: fresh lists are laid -/
def stoL : List MV → Hm → Option (List MV × Hm)
  | [], h => some ([], h)
  | v :: vs, h => match sto v h with
    | some (w, h1) => match stoL vs h1 with
      | some (ws, h2) => some (w :: ws, h2)
      | none => none
    | none => none
def setSub (o i v : MV) (h : Hm) : Option Hm := match o, i with
  | .ref n, .int k => match h[n]? with
    | some (.lst xs) => match L2.ixN xs.length k with
      | some j => if v.pure then some (h.set n (.lst (xs.set j v))) else none
      | none => none
    | _ => none
  | _, _ => none
def getSub (o i : MV) (h : Hm) : Option MV := match o, i with
  | .ref n, .int k => match h[n]? with
    | some (.lst xs) => (L2.atI xs k).bind unl
    | _ => none
  | _, _ => none
def methV (m : LM) (o : MV) (vs : List MV) (h : Hm) : Option (MV × Hm) := match o with
  | .ref n => match h[n]? with
    | some (.lst xs) => match m, vs with
      | .append, [v] => if (frz v).pure ∧ xs.length < sizeMax then some (.non, h.set n (.lst (xs ++ [frz v]))) else none
      | .pop0, [] => match xs[xs.length - 1]? with
        | some y => some (y, h.set n (.lst xs.dropLast))
        | none => none
      | .pop1, [.int i] => if -9223372036854775808 ≤ i ∧ i < 9223372036854775808 then match seqIndex? i xs.length with
          | some k => match xs[k]? with
            | some y => some (y, h.set n (.lst (xs.eraseIdx k)))
            | none => none
          | none => none
        else none
      | _, _ => none
    | _ => none
  | _ => none

mutual
/-- references from n on become frozen lists -/
def froz (n : Nat) (h : Hm) : MV → Option MV
  | .tup xs => (frozL n h xs).map .tup
  | .fz xs => (frozL n h xs).map .fz
  | .lst xs => (frozL n h xs).map .lst
  | .ref k => if k < n then some (.ref k) else match h[k]? with
    | some (.lst xs) => some (.fz xs)
    | _ => none
  | v => some v
def frozL (n : Nat) (h : Hm) : List MV → Option (List MV)
  | [] => some []
  | x :: xs => match froz n h x, frozL n h xs with
    | some y, some ys => some (y :: ys)
    | _, _ => none
end
/-- what a def hands back: its own lists are let go -/
def handBack (n : Nat) (v : MV) (h : Hm) : RO MV := match v with
  | .ref k => if k < n then some (.ok v (h.take n)) else match h[k]? with
    | some (.lst xs) => some (.ok (.lst xs) (h.take n))
    | _ => none
  | v => match froz n h v with
    | some w => some (.ok w (h.take n))
    | none => none
def wipeL (σ : Loc) : List Nat → Loc
  | [] => σ
  | v :: vs => (wipeL σ vs).set v none
def lift {α : Type} (x : Option α) (h : Hm) : RO α := match x with
  | some a => some (.ok a h)
  | none => none
@[simp] theorem lift_some {α : Type} (a : α) (h : Hm) : lift (some a) h = some (.ok a h) := rfl
@[simp] theorem lift_none {α : Type} (h : Hm) : lift (none : Option α) h = none := rfl

def iterMax : Nat := 1099511627776
/-- a while -/
def iterW (c : Loc → Hm → RO Bool) (b : Loc → Hm → Option SRes) : Nat → Loc → Hm → Option SRes
  | 0, _, _ => none
  | n + 1, σ, h => match c σ h with
    | some (.ok true h1) => match b σ h1 with
      | some (.nx σ2 h2) => iterW c b n σ2 h2
      | some (.ct σ2 h2) => iterW c b n σ2 h2
      | some (.bk σ2 h2) => some (.nx σ2 h2)
      | r => r
    | some (.ok false h1) => some (.nx σ h1)
    | some (.ex e h1) => some (.ex e σ h1)
    | none => none
/-- a for -/
def iterF (s : Src) (g : MV → Loc → Hm → Option (Loc × Hm)) (b : Loc → Hm → Option SRes) : Nat → Nat → Loc → Hm → Option SRes
  | 0, _, _, _ => none
  | n + 1, i, σ, h => match s.nth i h with
    | some none => some (.nx σ h)
    | some (some v) => match g v σ h with
      | some (σ1, h1) => match b σ1 h1 with
        | some (.nx σ2 h2) => iterF s g b n (i + 1) σ2 h2
        | some (.ct σ2 h2) => iterF s g b n (i + 1) σ2 h2
        | some (.bk σ2 h2) => some (.nx σ2 h2)
        | r => r
      | none => none
    | none => none
def noX {α : Type} (x : RO α) : RO α := match x with
  | some (.ok a h) => some (.ok a h)
  | _ => none
@[simp] theorem noX_ok {α : Type} (a : α) (h : Hm) : noX (some (.ok a h)) = some (.ok a h) := rfl
/-- a comprehension -/
def iterC (s : Src) (g : MV → Hm → Option (Loc × Hm)) (c : Loc → Hm → RO Bool) (e : Loc → Hm → RO MV) : Nat → Nat → List MV → Hm → RO (List MV)
  | 0, _, _, _ => none
  | n + 1, i, acc, h => match s.nth i h with
    | some none => some (.ok acc h)
    | some (some v) => match g v h with
      | some (σ1, h1) => bnd (noX (c σ1 h1)) fun k h2 => match k with
        | true => bnd (noX (e σ1 h2)) fun y h3 => if acc.length < sizeMax ∧ (frz y).nol = true then iterC s g c e n (i + 1) (acc ++ [frz y]) h3 else none
        | false => iterC s g c e n (i + 1) acc h2
      | none => none
    | none => none

/-! ### what a text does -/
/-- the defs: f of values -/
abbrev Calls := Nat → List MV → Hm → RO MV
def asI (v : MV) : Option Int := match v with
  | .int i => some i
  | _ => none

mutual
def evalE (F : Calls) : ME → Loc → Hm → RO MV
  | .var i, σ, h => match σ[i]? with
    | some (some v) => some (.ok v h)
    | _ => none
  | .cst v, _, h => some (.ok v h)
  | .bin op a b, σ, h => bnd (evalE F a σ h) fun x h1 => bnd (evalE F b σ h1) fun y h2 => lift (bop op x y h2) h2
  | .neg a, σ, h => bnd (evalE F a σ h) fun x h1 => match x with
    | .int i => some (.ok (.int (-i)) h1)
    | _ => none
  | .not a, σ, h => bnd (evalE F a σ h) fun x h1 => match truth h1 x with
    | some b => some (.ok (.bl (!b)) h1)
    | none => none
  | .and a b, σ, h => bnd (evalE F a σ h) fun x h1 => match truth h1 x with
    | some true => evalE F b σ h1
    | some false => some (.ok x h1)
    | none => none
  | .or a b, σ, h => bnd (evalE F a σ h) fun x h1 => match truth h1 x with
    | some true => some (.ok x h1)
    | some false => evalE F b σ h1
    | none => none
  | .ite c a b, σ, h => bnd (evalE F c σ h) fun x h1 => match truth h1 x with
    | some true => evalE F a σ h1
    | some false => evalE F b σ h1
    | none => none
  | .cmp op a b, σ, h => bnd (evalE F a σ h) fun x h1 => bnd (evalE F b σ h1) fun y h2 => lift ((cop op x y h2).map .bl) h2
  | .chn o1 o2 a b c, σ, h => bnd (evalE F a σ h) fun x h1 => bnd (evalE F b σ h1) fun y h2 => match cop o1 x y h2 with
    | some true => bnd (evalE F c σ h2) fun z h3 => lift ((cop o2 y z h3).map .bl) h3
    | some false => some (.ok (.bl false) h2)
    | none => none
  | .tup es, σ, h => bnd (evalEs F es σ h) fun vs h1 => some (.ok (.tup (vs.map frz)) h1)
  | .lst es, σ, h => bnd (evalEs F es σ h) fun vs h1 => some (.ok (.lst (vs.map frz)) h1)
  | .ix a b, σ, h => bnd (evalE F a σ h) fun x h1 => bnd (evalE F b σ h1) fun y h2 => lift (ixV x y h2) h2
  | .sl a lo hi, σ, h => bnd (evalE F a σ h) fun x h1 => bnd (evalO F lo σ h1) fun i h2 => bnd (evalO F hi σ h2) fun j h3 => lift (slV x i j h3) h3
  | .rev a, σ, h => bnd (evalE F a σ h) fun x h1 => match items h1 x with
    | some xs => some (.ok (.lst xs.reverse) h1)
    | none => none
  | .call f es, σ, h => bnd (evalEs F es σ h) fun vs h1 => F f vs h1
  | .bi b es, σ, h => bnd (evalEs F es σ h) fun vs h1 => lift (biV b vs h1) h1
  | .isi a ts, σ, h => bnd (evalE F a σ h) fun x h1 => match ts.mapM (isTy h1 x) with
    | some bs => some (.ok (.bl (bs.any id)) h1)
    | none => none
  | .meth m o es, σ, h => bnd (evalE F o σ h) fun x h1 => match itemsL h1 x with
    | some _ => bnd (evalEs F es σ h1) fun vs h2 => match methV m x vs h2 with
      | some (v, h3) => some (.ok v h3)
      | none => none
    | none => none
  | .lc own tg it c elt, σ, h => bnd (evalI F it σ h) fun s h1 => bnd (iterC s (fun v h => evalT F tg v (wipeL σ own) h)
      (fun σ h => evalC F c σ h) (fun σ h => evalE F elt σ h) (s.len h1 + 1) 0 [] h1) fun acc h2 => some (.ok (.lst acc) h2)
def evalEs (F : Calls) : List ME → Loc → Hm → RO (List MV)
  | [], _, h => some (.ok [] h)
  | e :: es, σ, h => bnd (evalE F e σ h) fun v h1 => bnd (evalEs F es σ h1) fun vs h2 => some (.ok (v :: vs) h2)
/-- a slice's bound -/
def evalO (F : Calls) : Option ME → Loc → Hm → RO (Option Int)
  | none, _, h => some (.ok none h)
  | some e, σ, h => bnd (evalE F e σ h) fun v h1 => match v with
    | .int i => some (.ok (some i) h1)
    | _ => none
/-- a comprehension's test -/
def evalC (F : Calls) : Option ME → Loc → Hm → RO Bool
  | none, _, h => some (.ok true h)
  | some e, σ, h => bnd (evalE F e σ h) fun v h1 => lift (truth h1 v) h1
def evalT (F : Calls) : MT → MV → Loc → Hm → Option (Loc × Hm)
  | .var i, v, σ, h => match sto v h with
    | some (w, h1) => some (σ.set i (some w), h1)
    | none => none
  | .tup ts, v, σ, h => match seq h v with
    | some xs => if xs.length = ts.length ∧ xs.all nl = true then evalTs F ts xs σ h else none
    | none => none
  | .sub a i, v, σ, h => match evalE F a σ h with
    | some (.ok x h1) => match evalE F i σ h1 with
      | some (.ok y h2) => match setSub x y (frz v) h2 with
        | some h3 => some (σ, h3)
        | none => none
      | _ => none
    | _ => none
def evalTs (F : Calls) : List MT → List MV → Loc → Hm → Option (Loc × Hm)
  | [], _, σ, h => some (σ, h)
  | t :: ts, x :: xs, σ, h => match evalT F t x σ h with
    | some (σ1, h1) => evalTs F ts xs σ1 h1
    | none => none
  | _ :: _, [], _, _ => none
def evalI (F : Calls) : MI → Loc → Hm → RO Src
  | .ex a, σ, h => bnd (evalE F a σ h) fun x h1 => lift ((cmpOf x h1).map .one) h1
  | .r1 a, σ, h => bnd (evalE F a σ h) fun x h1 => match x with
    | .int j => if small j then some (.ok (.rg (rng 0 j.toNat)) h1) else none
    | _ => none
  | .r2 a b, σ, h => bnd (evalE F a σ h) fun x h1 => bnd (evalE F b σ h1) fun y h2 => match x, y with
    | .int i, .int j => if small i && small j then some (.ok (.rg (rng i (j - i).toNat)) h2) else none
    | _, _ => none
  | .r3 a b c, σ, h => bnd (evalE F a σ h) fun x h1 => bnd (evalE F b σ h1) fun y h2 => bnd (evalE F c σ h2) fun z h3 => match x, y, z with
    | .int i, .int j, .int k => if small i && small j && decide (k ≠ 0) && decide (k.natAbs < 1073741824) && Builtin.Range.small i j k && decide (0 ≤ Builtin.Range.rangeSize i j k) then some (.ok (.rg (rngC i k (rngN i j k))) h3) else none
    | _, _, _ => none
  | .enu a, σ, h => bnd (evalE F a σ h) fun x h1 => lift ((cmpOf x h1).map .enu) h1
  | .zip a b, σ, h => bnd (evalE F a σ h) fun x h1 => bnd (evalE F b σ h1) fun y h2 => match cmpOf x h2, cmpOf y h2 with
    | some c, some d => if c.isL = d.isL then some (.ok (.zip c d) h2) else none
    | _, _ => none
end

/-- values laid and stored at slots -/
def stoAll : List Nat → List MV → Loc → Hm → Option (Loc × Hm)
  | [], [], σ, h => some (σ, h)
  | i :: is, v :: vs, σ, h => match sto v h with
    | some (w, h1) => stoAll is vs (σ.set i (some w)) h1
    | none => none
  | _, _, _, _ => none
def exS {α : Type} (σ : Loc) (x : RO α) (f : α → Hm → Option SRes) : Option SRes := match x with
  | some (.ok a h) => f a h
  | some (.ex e h) => some (.ex e σ h)
  | none => none
@[simp] theorem exS_ok {α : Type} (σ : Loc) (a : α) (h : Hm) (f : α → Hm → Option SRes) : exS σ (some (.ok a h)) f = f a h := rfl
@[simp] theorem exS_ex {α : Type} (σ : Loc) (e : MEx) (h : Hm) (f : α → Hm → Option SRes) : exS σ (some (.ex e h)) f = some (.ex e σ h) := rfl
@[simp] theorem exS_none {α : Type} (σ : Loc) (f : α → Hm → Option SRes) : exS σ none f = none := rfl
def thenS (x : Option SRes) (f : Loc → Hm → Option SRes) : Option SRes := match x with
  | some (.nx σ h) => f σ h
  | r => r
@[simp] theorem thenS_nx (σ : Loc) (h : Hm) (f : Loc → Hm → Option SRes) : thenS (some (.nx σ h)) f = f σ h := rfl
@[simp] theorem thenS_rt (v : MV) (h : Hm) (f : Loc → Hm → Option SRes) : thenS (some (.rt v h)) f = some (.rt v h) := rfl
@[simp] theorem thenS_bk (σ : Loc) (h : Hm) (f : Loc → Hm → Option SRes) : thenS (some (.bk σ h)) f = some (.bk σ h) := rfl
@[simp] theorem thenS_ct (σ : Loc) (h : Hm) (f : Loc → Hm → Option SRes) : thenS (some (.ct σ h)) f = some (.ct σ h) := rfl
@[simp] theorem thenS_ex (e : MEx) (σ : Loc) (h : Hm) (f : Loc → Hm → Option SRes) : thenS (some (.ex e σ h)) f = some (.ex e σ h) := rfl
@[simp] theorem thenS_none (f : Loc → Hm → Option SRes) : thenS none f = none := rfl

mutual
def execS (F : Calls) : MS → Loc → Hm → Option SRes
  | .asg t e, σ, h => exS σ (evalE F e σ h) fun v h1 => match evalT F t v σ h1 with
    | some (σ1, h2) => some (.nx σ1 h2)
    | none => none
  | .par is es, σ, h => exS σ (evalEs F es σ h) fun vs h1 => match stoAll is vs σ h1 with
    | some (σ1, h2) => some (.nx σ1 h2)
    | none => none
  | .aug i op e, σ, h => match σ[i]? with
    | some (some x) => exS σ (evalE F e σ h) fun y h1 => match augV op x y h1 with
      | some v => some (.nx (σ.set i (some v)) h1)
      | none => none
    | _ => none
  | .augS a i op e, σ, h => exS σ (evalE F a σ h) fun o h1 => exS σ (evalE F i σ h1) fun k h2 => match getSub o k h2 with
    | some x => exS σ (evalE F e σ h2) fun y h3 => match augV op x y h3 with
      | some v => match setSub o k v h3 with
        | some h4 => some (.nx σ h4)
        | none => none
      | none => none
    | none => none
  | .expr e, σ, h => exS σ (evalE F e σ h) fun _ h1 => some (.nx σ h1)
  | .ret e, σ, h => exS σ (evalE F e σ h) fun v h1 => some (.rt v h1)
  | .retN, _, h => some (.rt .non h)
  | .ife c a b, σ, h => exS σ (evalE F c σ h) fun x h1 => match truth h1 x with
    | some true => execB F a σ h1
    | some false => execB F b σ h1
    | none => none
  | .whl c b, σ, h => iterW (fun σ h => evalC F (some c) σ h) (fun σ h => execB F b σ h) iterMax σ h
  | .forr t it b, σ, h => exS σ (evalI F it σ h) fun s h1 => iterF s (fun v σ h => evalT F t v σ h) (fun σ h => execB F b σ h) (s.len h1 + 1) 0 σ h1
  | .pass, σ, h => some (.nx σ h)
  | .brk, σ, h => some (.bk σ h)
  | .cnt, σ, h => some (.ct σ h)
  | .nev, _, _ => none
def execB (F : Calls) : List MS → Loc → Hm → Option SRes
  | [], σ, h => some (.nx σ h)
  | s :: r, σ, h => thenS (execS F s σ h) fun σ1 h1 => execB F r σ1 h1
end

/-- a def: its parameters' number, its slots' number, its body -/
structure FnD where
  np : Nat
  ns : Nat
  body : List MS
  deriving Inhabited
/-- what a body's end is -/
def endFn (n : Nat) (x : Option SRes) : RO MV := match x with
  | some (.rt v h1) => handBack n v h1
  | some (.nx _ h1) => some (.ok .non (h1.take n))
  | some (.ex e _ h1) => match e.arg with
    | some v => match froz n h1 v with
      | some w => some (.ex ⟨e.cls, some w⟩ (h1.take n))
      | none => none
    | none => some (.ex e (h1.take n))
  | _ => none
def runFn (F : Calls) (d : FnD) (vs : List MV) (h : Hm) : RO MV :=
  if vs.length = d.np then match stoL vs h with
    | some (ws, h1) => endFn h.length (execB F d.body (ws.map some ++ List.replicate (d.ns - d.np) none) h1)
    | none => none
  else none
/-- the defs of a program, calls at most k deep -/
def calls (P : List FnD) : Nat → Calls
  | 0 => fun _ _ _ => none
  | k + 1 => fun f vs h => match P[f]? with
    | some d => runFn (calls P k) d vs h
    | none => none
end Mi

/-! Mi1: how the small language's values and heaps stand for those of the layer. -/
namespace Mi
open PySem PySem.Spec PyProof.Rows L2

/-- the ground: where the defs and the exceptions' classes stand -/
structure GE where
  K : PySem.W.Frag
  fa : Nat → Option Addr
  ca : Nat → Option (Addr × Str)

/-- where the small heap's objects stand; b: addresses that nothing else may name (fresh lists that are still owned) -/
structure Rh where
  l : List Addr
  b : Addr → Prop
def Rh.out (ρ : Rh) (a : Addr) : Prop := a ∉ ρ.l ∧ ¬ ρ.b a
/-- a list that nobody may write: the script -/
def SqF (K : PySem.W.Frag) (ρ : Rh) (H : Hp) (a : Addr) (vs : List V) : Prop :=
  (∃ o, H a = some (.frz o (.lst vs)) ∧ a ∉ ρ.l) ∨
    ∃ (o : Obj) (its : Array Value) (n : Nat), K.lookup a = some o ∧ o.cls = .type "list" ∧ o.dict = none ∧ o.data = .seq its n ∧ its.size ≤ sizeLine ∧ Vals vs its.toList
theorem SqF.sq {K : PySem.W.Frag} {ρ : Rh} {H : Hp} {a : Addr} {vs : List V} (h : SqF K ρ H a vs) : SqL K H a vs := h.elim (fun ⟨o, e, _⟩ => .inl (.inr ⟨o, e⟩)) .inr
mutual
inductive RV (g : GE) (ρ : Rh) (H : Hp) : MV → V → Prop
  | non : RV g ρ H .non .non
  | bl (b : Bool) : RV g ρ H (.bl b) (.bl b)
  | int (i : Int) : RV g ρ H (.int i) (.int i)
  | str (s : Str) : RV g ρ H (.str s) (.str s)
  | tup {xs : List MV} {a : Addr} {vs : List V} : SqT g.K H a vs → RVs g ρ H xs vs → RV g ρ H (.tup xs) (.ref a)
  | lst {xs : List MV} {a : Addr} {vs : List V} : H a = some (.lst vs) → a ∉ ρ.l → RVs g ρ H xs vs → RV g ρ H (.lst xs) (.ref a)
  | fz {xs : List MV} {a : Addr} {vs : List V} : H a = some (.lst vs) → ρ.out a → RVs g ρ H xs vs → RV g ρ H (.fz xs) (.ref a)
  | scr {ns : List Int} {a : Addr} : SqF g.K ρ H a (ns.map V.int) → RV g ρ H (.scr ns) (.ref a)
  | ref {n : Nat} {a : Addr} : ρ.l[n]? = some a → RV g ρ H (.ref n) (.ref a)
  | fn {f : Nat} {a : Addr} : g.fa f = some a → RV g ρ H (.fn f) (.ref a)
inductive RVs (g : GE) (ρ : Rh) (H : Hp) : List MV → List V → Prop
  | nil : RVs g ρ H [] []
  | cons {x : MV} {v : V} {xs : List MV} {vs : List V} : RV g ρ H x v → RVs g ρ H xs vs → RVs g ρ H (x :: xs) (v :: vs)
end

section
variable {g : GE} {ρ ρ' : Rh} {H H' : Hp}
theorem RVs.length : ∀ {xs : List MV} {vs : List V}, RVs g ρ H xs vs → xs.length = vs.length
  | _, _, .nil => rfl
  | _, _, .cons _ t => congrArg (· + 1) (RVs.length t)
theorem RVs.get : ∀ {xs : List MV} {vs : List V} {i : Nat} {x : MV}, RVs g ρ H xs vs → xs[i]? = some x → ∃ v, vs[i]? = some v ∧ RV g ρ H x v
  | _, _, _, _, .nil, e => by simp at e
  | _, _, 0, _, .cons r _, e => by simp at e; subst e; exact ⟨_, rfl, r⟩
  | _, _, i + 1, x, .cons _ t, e => by
    obtain ⟨v, h1, h2⟩ := RVs.get (i := i) (x := x) t (by simpa using e)
    exact ⟨v, by simpa using h1, h2⟩
theorem RVs.none_of {xs : List MV} {vs : List V} {i : Nat} (r : RVs g ρ H xs vs) (e : xs[i]? = none) : vs.length ≤ i := by
  have := r.length
  have h : xs.length ≤ i := List.getElem?_eq_none_iff.mp e
  omega
theorem RVs.append : ∀ {xs ys : List MV} {vs ws : List V}, RVs g ρ H xs vs → RVs g ρ H ys ws → RVs g ρ H (xs ++ ys) (vs ++ ws)
  | _, _, _, _, .nil, s => s
  | _, _, _, _, .cons r t, s => .cons r (RVs.append t s)
theorem RVs.take : ∀ {xs : List MV} {vs : List V} (n : Nat), RVs g ρ H xs vs → RVs g ρ H (xs.take n) (vs.take n)
  | _, _, 0, _ => .nil
  | _, _, _ + 1, .nil => .nil
  | _, _, n + 1, .cons r t => .cons r (RVs.take n t)
theorem RVs.drop : ∀ {xs : List MV} {vs : List V} (n : Nat), RVs g ρ H xs vs → RVs g ρ H (xs.drop n) (vs.drop n)
  | _, _, 0, r => r
  | _, _, _ + 1, .nil => .nil
  | _, _, n + 1, .cons _ t => RVs.drop n t
theorem RVs.set : ∀ {xs : List MV} {vs : List V} (i : Nat) {x : MV} {v : V}, RV g ρ H x v → RVs g ρ H xs vs → RVs g ρ H (xs.set i x) (vs.set i v)
  | _, _, _, _, _, _, .nil => .nil
  | _, _, 0, _, _, r, .cons _ t => .cons r t
  | _, _, i + 1, _, _, r, .cons q t => .cons q (RVs.set i r t)
theorem RVs.eraseIdx : ∀ {xs : List MV} {vs : List V} (i : Nat), RVs g ρ H xs vs → RVs g ρ H (xs.eraseIdx i) (vs.eraseIdx i)
  | _, _, _, .nil => .nil
  | _, _, 0, .cons _ t => t
  | _, _, i + 1, .cons q t => .cons q (RVs.eraseIdx i t)
theorem RVs.reverse : ∀ {xs : List MV} {vs : List V}, RVs g ρ H xs vs → RVs g ρ H xs.reverse vs.reverse
  | _, _, .nil => .nil
  | _, _, .cons r t => by
    rw [List.reverse_cons, List.reverse_cons]
    exact (RVs.reverse t).append (.cons r .nil)
theorem RVs.dropLast {xs : List MV} {vs : List V} (r : RVs g ρ H xs vs) : RVs g ρ H xs.dropLast vs.dropLast := by
  rw [List.dropLast_eq_take, List.dropLast_eq_take, r.length]
  exact r.take _
theorem RVs.rep {xs : List MV} {vs : List V} (r : RVs g ρ H xs vs) : ∀ n : Nat, RVs g ρ H (List.replicate n xs).flatten (List.replicate n vs).flatten
  | 0 => .nil
  | n + 1 => by
    rw [List.replicate_succ, List.replicate_succ, List.flatten_cons, List.flatten_cons]
    exact r.append (RVs.rep r n)
theorem RVs.ints : ∀ {ns : List Int}, RVs g ρ H (ns.map .int) (ns.map V.int)
  | [] => .nil
  | n :: ns => .cons (.int n) RVs.ints
theorem RVs.isEmpty {xs : List MV} {vs : List V} (r : RVs g ρ H xs vs) : xs.isEmpty = vs.isEmpty := by
  cases r <;> rfl
theorem RVs.intsOf : ∀ {xs : List MV} {vs : List V} {ns : List Int}, RVs g ρ H xs vs → Mi.intsOf xs = some ns → vs = ns.map V.int
  | _, _, ns, .nil, e => by
    have e : some [] = some ns := e
    cases e; rfl
  | _, _, ns, .cons r t, e => by
    cases r with
    | int i =>
      simp only [Mi.intsOf] at e
      obtain ⟨ms, h1, h2⟩ := Option.map_eq_some_iff.mp e
      subst h2
      rw [List.map_cons, RVs.intsOf t h1]
    | _ => cases e
theorem RVs.blsOf : ∀ {xs : List MV} {vs : List V} {ns : List Bool}, RVs g ρ H xs vs → Mi.blsOf xs = some ns → vs = ns.map V.bl
  | _, _, ns, .nil, e => by
    have e : some [] = some ns := e
    cases e; rfl
  | _, _, ns, .cons r t, e => by
    cases r with
    | bl i =>
      simp only [Mi.blsOf] at e
      obtain ⟨ms, h1, h2⟩ := Option.map_eq_some_iff.mp e
      subst h2
      rw [List.map_cons, RVs.blsOf t h1]
    | _ => cases e
end

/-- an object of the small heap stands at a -/
def ORel (g : GE) (ρ : Rh) (H : Hp) (o : MO) (a : Addr) : Prop := match o with
  | .lst xs => ∃ vs, H a = some (.lst vs) ∧ RVs g ρ H xs vs
  | .scr ns => ∃ o, H a = some (.frz o (.lst (ns.map V.int)))
  | .dct _ => False

structure Rel (g : GE) (ρ : Rh) (σm : Loc) (hm : Hm) (σ : L2.St) (H : Hp) : Prop where
  len : ρ.l.length = hm.length
  nd : ρ.l.Nodup
  obj : ∀ (i : Nat) (o : MO) (a : Addr), hm[i]? = some o → ρ.l[i]? = some a → ORel g ρ H o a
  pur : ∀ (i : Nat) (xs : List MV), hm[i]? = some (.lst xs) → pureL xs = true
  slen : σm.length = σ.length
  loc : ∀ (i : Nat) (v : MV), σm[i]? = some (some v) → ∃ x, σ[i]? = some (some x) ∧ RV g ρ H v x
  nol : ∀ (i : Nat) (v : MV), σm[i]? = some (some v) → v.nol = true
  blk : ∀ a, ρ.b a → ∃ xs, H a = some (.lst xs)

/-- what a step may do: the small heap grows, what stands outside of it is kept -/
structure Post (ρ : Rh) (H : Hp) (ρ' : Rh) (H' : Hp) : Prop where
  ext : ∀ (n : Nat) (a : Addr), ρ.l[n]? = some a → ρ'.l[n]? = some a
  new : ∀ a, a ∈ ρ'.l → a ∈ ρ.l ∨ H a = none
  newb : ∀ a, ρ'.b a → ρ.b a ∨ H a = none
  keep : ∀ a o, H a = some o → a ∉ ρ.l → H' a = some o
  more : ∀ a, H' a = none → H a = none
  blk : ∀ a, ρ.b a → ρ'.b a

theorem Post.refl {ρ : Rh} {H : Hp} : Post ρ H ρ H := ⟨fun _ _ h => h, fun _ h => .inl h, fun _ h => .inl h, fun _ _ h _ => h, fun _ h => h, fun _ h => h⟩
theorem Post.trans {ρ ρ1 ρ2 : Rh} {H H1 H2 : Hp} (a : Post ρ H ρ1 H1) (b : Post ρ1 H1 ρ2 H2) : Post ρ H ρ2 H2 where
  ext := fun n x h => b.ext n x (a.ext n x h)
  new := fun x h => by
    rcases b.new x h with q | q
    · exact a.new x q
    · exact .inr (a.more x q)
  newb := fun x h => by
    rcases b.newb x h with q | q
    · exact a.newb x q
    · exact .inr (a.more x q)
  keep := fun x o h n => by
    refine b.keep x o (a.keep x o h n) fun m => ?_
    rcases a.new x m with q | q
    · exact n q
    · rw [h] at q; cases q
  more := fun x h => a.more x (b.more x h)
  blk := fun x h => b.blk x (a.blk x h)
/-- an address outside, with something there, stays outside -/
theorem Post.outl {ρ ρ' : Rh} {H H' : Hp} (p : Post ρ H ρ' H') {a : Addr} {o : HO} (h : H a = some o) (n : a ∉ ρ.l) : a ∉ ρ'.l := fun m => by
  rcases p.new a m with q | q
  · exact n q
  · rw [h] at q; cases q
theorem Post.out {ρ ρ' : Rh} {H H' : Hp} (p : Post ρ H ρ' H') {a : Addr} {o : HO} (h : H a = some o) (n : ρ.out a) : ρ'.out a := ⟨p.outl h n.1, fun m => by
  rcases p.newb a m with q | q
  · exact n.2 q
  · rw [h] at q; cases q⟩

/-- no tuple stands in the small heap -/
def NoT (ρ : Rh) (H : Hp) : Prop := ∀ a, a ∈ ρ.l → ∀ xs, ¬ Rd H a (.tup xs)
section
variable {g : GE} {ρ ρ' : Rh} {H H' : Hp} {σm : Loc} {hm : Hm} {σ : L2.St}
theorem Rel.objAt (R : Rel g ρ σm hm σ H) {a : Addr} (h : a ∈ ρ.l) : ∃ (i : Nat) (o : MO), ρ.l[i]? = some a ∧ hm[i]? = some o ∧ ORel g ρ H o a := by
  obtain ⟨i, hi, e⟩ := List.mem_iff_getElem.mp h
  have e1 : ρ.l[i]? = some a := by rw [List.getElem?_eq_getElem hi, e]
  have hi2 : i < hm.length := by have := R.len; omega
  exact ⟨i, hm[i], e1, List.getElem?_eq_getElem hi2, R.obj i _ a (List.getElem?_eq_getElem hi2) e1⟩
theorem Rel.noT (R : Rel g ρ σm hm σ H) : NoT ρ H := fun a h xs r => by
  obtain ⟨i, o, _, _, q⟩ := R.objAt h
  cases o with
  | lst ys =>
    obtain ⟨vs, e, _⟩ := q
    rcases r with r | ⟨_, r⟩ <;> rw [e] at r <;> cases r
  | scr ns =>
    obtain ⟨ob, e⟩ := q
    rcases r with r | ⟨_, r⟩ <;> rw [e] at r <;> cases r
  | dct _ => exact q.elim
theorem Rel.there (R : Rel g ρ σm hm σ H) {a : Addr} (h : a ∈ ρ.l) : ∃ o, H a = some o := by
  obtain ⟨i, o, _, _, q⟩ := R.objAt h
  cases o with
  | lst ys => obtain ⟨vs, e, _⟩ := q; exact ⟨_, e⟩
  | scr ns => obtain ⟨ob, e⟩ := q; exact ⟨_, e⟩
  | dct _ => exact q.elim
theorem SqT.post {a : Addr} {vs : List V} (h : SqT g.K H a vs) (p : Post ρ H ρ' H') (n : NoT ρ H) : SqT g.K H' a vs := by
  rcases h with h | h
  · have m : a ∉ ρ.l := fun m => n a m vs h
    rcases h with h | ⟨o, h⟩
    · exact .inl (.inl (p.keep _ _ h m))
    · exact .inl (.inr ⟨o, p.keep _ _ h m⟩)
  · exact .inr h
theorem SqF.post {a : Addr} {vs : List V} (h : SqF g.K ρ H a vs) (p : Post ρ H ρ' H') : SqF g.K ρ' H' a vs :=
  h.elim (fun ⟨o, e, m⟩ => .inl ⟨o, p.keep _ _ e m, p.outl e m⟩) .inr
mutual
theorem RV.post (p : Post ρ H ρ' H') (n : NoT ρ H) : ∀ {v : MV} {x : V}, RV g ρ H v x → RV g ρ' H' v x
  | _, _, .non => .non
  | _, _, .bl b => .bl b
  | _, _, .int i => .int i
  | _, _, .str s => .str s
  | _, _, .tup h r => .tup (SqT.post h p n) (RVs.post p n r)
  | _, _, .lst h m r => .lst (p.keep _ _ h m) (p.outl h m) (RVs.post p n r)
  | _, _, .fz h m r => .fz (p.keep _ _ h m.1) (p.out h m) (RVs.post p n r)
  | _, _, .scr h => .scr (SqF.post h p)
  | _, _, .ref e => .ref (p.ext _ _ e)
  | _, _, .fn e => .fn e
theorem RVs.post (p : Post ρ H ρ' H') (n : NoT ρ H) : ∀ {v : List MV} {x : List V}, RVs g ρ H v x → RVs g ρ' H' v x
  | _, _, .nil => .nil
  | _, _, .cons r t => .cons (RV.post p n r) (RVs.post p n t)
end
/-- fewer addresses are kept apart -/
def Rh.less (ρ : Rh) (b : Addr → Prop) : Rh := ⟨ρ.l, b⟩
mutual
theorem RV.less {b : Addr → Prop} (s : ∀ a, b a → ρ.b a) : ∀ {v : MV} {x : V}, RV g ρ H v x → RV g (ρ.less b) H v x
  | _, _, .non => .non
  | _, _, .bl b => .bl b
  | _, _, .int i => .int i
  | _, _, .str s => .str s
  | _, _, .tup h r => .tup h (RVs.less s r)
  | _, _, .lst h m r => .lst h m (RVs.less s r)
  | _, _, .fz h m r => .fz h ⟨m.1, fun q => m.2 (s _ q)⟩ (RVs.less s r)
  | _, _, .scr h => .scr h
  | _, _, .ref e => .ref e
  | _, _, .fn e => .fn e
theorem RVs.less {b : Addr → Prop} (s : ∀ a, b a → ρ.b a) : ∀ {v : List MV} {x : List V}, RVs g ρ H v x → RVs g (ρ.less b) H v x
  | _, _, .nil => .nil
  | _, _, .cons r t => .cons (RV.less s r) (RVs.less s t)
end
theorem Rel.less (R : Rel g ρ σm hm σ H) {b : Addr → Prop} (s : ∀ a, b a → ρ.b a) : Rel g (ρ.less b) σm hm σ H := by
  refine ⟨R.len, R.nd, fun i o a h1 h2 => ?_, R.pur, R.slen, fun i v h => ?_, R.nol, fun a h => R.blk a (s a h)⟩
  · have q := R.obj i o a h1 h2
    cases o with
    | lst ys => obtain ⟨vs, e, t⟩ := q; exact ⟨vs, e, t.less s⟩
    | scr ns => exact q
    | dct _ => exact q
  · obtain ⟨x, e, r⟩ := R.loc i v h
    exact ⟨x, e, r.less s⟩
theorem RV.frz {x : MV} {v : V} (r : RV g ρ H x v) (t : ∀ a, (∃ xs, x = .lst xs) → v = .ref a → ¬ ρ.b a) : RV g ρ H (Mi.frz x) v := by
  cases r with
  | lst h m q => exact .fz h ⟨m, t _ ⟨_, rfl⟩ rfl⟩ q
  | non => exact .non
  | bl b => exact .bl b
  | int i => exact .int i
  | str s => exact .str s
  | tup h q => exact .tup h q
  | fz h m q => exact .fz h m q
  | scr h => exact .scr h
  | ref h => exact .ref h
  | fn h => exact .fn h

/-- what stands at a list's address -/
theorem Rel.items (R : Rel g ρ σm hm σ H) {v : MV} {x : V} {xs : List MV} (r : RV g ρ H v x) (e : Mi.items hm v = some xs) : ∃ a vs, x = .ref a ∧ SqL g.K H a vs ∧ RVs g ρ H xs vs := by
  cases r with
  | lst h m t => cases e; exact ⟨_, _, rfl, .of h, t⟩
  | fz h m t => cases e; exact ⟨_, _, rfl, .of h, t⟩
  | scr h => cases e; exact ⟨_, _, rfl, h.sq, RVs.ints⟩
  | @ref n a h =>
    simp only [Mi.items] at e
    split at e
    · rename_i ys q
      cases e
      obtain ⟨vs, e1, t⟩ := R.obj n _ a q h
      exact ⟨_, _, rfl, .of e1, t⟩
    · rename_i ns q
      cases e
      obtain ⟨o, e1⟩ := R.obj n _ a q h
      exact ⟨_, _, rfl, .inl (.inr ⟨o, e1⟩), RVs.ints⟩
    · cases e
  | _ => cases e
theorem Rel.itemsL (R : Rel g ρ σm hm σ H) {v : MV} {x : V} {xs : List MV} (r : RV g ρ H v x) (e : Mi.itemsL hm v = some xs) : ∃ a vs, x = .ref a ∧ H a = some (.lst vs) ∧ RVs g ρ H xs vs := by
  cases r with
  | lst h m t => cases e; exact ⟨_, _, rfl, h, t⟩
  | fz h m t => cases e; exact ⟨_, _, rfl, h, t⟩
  | @ref n a h =>
    simp only [Mi.itemsL] at e
    split at e
    · rename_i ys q
      cases e
      obtain ⟨vs, e1, t⟩ := R.obj n _ a q h
      exact ⟨_, _, rfl, e1, t⟩
    · cases e
  | _ => cases e
theorem Rel.seq (R : Rel g ρ σm hm σ H) {v : MV} {x : V} {xs : List MV} (r : RV g ρ H v x) (e : Mi.seq hm v = some xs) : ∃ a vs, x = .ref a ∧ (SqL g.K H a vs ∨ SqT g.K H a vs) ∧ RVs g ρ H xs vs := by
  cases r with
  | tup h t => cases e; exact ⟨_, _, rfl, .inr h, t⟩
  | non => cases e
  | bl _ => cases e
  | int _ => cases e
  | str _ => cases e
  | fn _ => cases e
  | lst h m t =>
    obtain ⟨a, vs, e1, h1, t1⟩ := R.items (.lst h m t) e
    exact ⟨a, vs, e1, .inl h1, t1⟩
  | scr h =>
    obtain ⟨a, vs, e1, h1, t1⟩ := R.items (.scr h) e
    exact ⟨a, vs, e1, .inl h1, t1⟩
  | fz h m t =>
    obtain ⟨a, vs, e1, h1, t1⟩ := R.items (.fz h m t) e
    exact ⟨a, vs, e1, .inl h1, t1⟩
  | ref h =>
    obtain ⟨a, vs, e1, h1, t1⟩ := R.items (.ref h) e
    exact ⟨a, vs, e1, .inl h1, t1⟩
/-- one more address is kept apart -/
def Rh.plus (ρ : Rh) (p : Addr) : Rh := ⟨ρ.l, fun a => ρ.b a ∨ a = p⟩
/-- a new object outside of the small heap -/
theorem Rel.laid {o : HO} {p : Addr} (R : Rel g ρ σm hm σ H) (n : H p = none) : Post ρ H ρ (upd H p o) ∧ Rel g ρ σm hm σ (upd H p o) ∧ ρ.out p := by
  have np : p ∉ ρ.l := fun m => by
    obtain ⟨o, e⟩ := R.there m
    rw [n] at e; cases e
  have nb : ¬ ρ.b p := fun m => by
    obtain ⟨o, e⟩ := R.blk p m
    rw [n] at e; cases e
  have P : Post ρ H ρ (upd H p o) := ⟨fun _ _ h => h, fun _ h => .inl h, fun _ h => .inl h, fun a u h _ => by rw [upd_ne (ne_of_none h n)]; exact h, fun a h => by
    by_cases e : a = p
    · subst e; exact n
    · rw [upd_ne e] at h; exact h, fun _ h => h⟩
  refine ⟨P, ⟨R.len, R.nd, fun i u a h1 h2 => ?_, R.pur, R.slen, fun i v h => ?_, R.nol, fun a h => ?_⟩, np, nb⟩
  · have q := R.obj i u a h1 h2
    cases u with
    | lst ys =>
      obtain ⟨vs, e, t⟩ := q
      exact ⟨vs, by rw [upd_ne (ne_of_none e n)]; exact e, t.post P R.noT⟩
    | scr ns =>
      obtain ⟨ob, e⟩ := q
      exact ⟨ob, by rw [upd_ne (ne_of_none e n)]; exact e⟩
    | dct _ => exact q
  · obtain ⟨x, e, r⟩ := R.loc i v h
    exact ⟨x, e, r.post P R.noT⟩
  · obtain ⟨xs, e⟩ := R.blk a h
    exact ⟨xs, by rw [upd_ne (ne_of_none e n)]; exact e⟩
/-- a new list, kept apart -/
theorem Rel.laidL {vs : List V} {p : Addr} (R : Rel g ρ σm hm σ H) (n : H p = none) : Post ρ H (ρ.plus p) (upd H p (.lst vs)) ∧ Rel g (ρ.plus p) σm hm σ (upd H p (.lst vs)) ∧ p ∉ ρ.l := by
  obtain ⟨P, R1, np⟩ := R.laid (o := .lst vs) n
  have P2 : Post ρ H (ρ.plus p) (upd H p (.lst vs)) := ⟨P.ext, P.new, fun a h => by
    rcases h with h | h
    · exact .inl h
    · subst h; exact .inr n, P.keep, P.more, fun a h => .inl h⟩
  refine ⟨P2, ⟨R.len, R.nd, fun i u a h1 h2 => ?_, R.pur, R.slen, fun i v h => ?_, R.nol, fun a h => ?_⟩, np.1⟩
  · have q := R.obj i u a h1 h2
    cases u with
    | lst ys =>
      obtain ⟨vs, e, t⟩ := q
      exact ⟨vs, by rw [upd_ne (ne_of_none e n)]; exact e, t.post P2 R.noT⟩
    | scr ns =>
      obtain ⟨ob, e⟩ := q
      exact ⟨ob, by rw [upd_ne (ne_of_none e n)]; exact e⟩
    | dct _ => exact q
  · obtain ⟨x, e, r⟩ := R.loc i v h
    exact ⟨x, e, r.post P2 R.noT⟩
  · rcases h with h | h
    · exact R1.blk a h
    · subst h; exact ⟨vs, upd_same⟩
end

/-! ### what a reading wants -/
/-- an exception of the small language as the layer has it -/
def EXR (g : GE) (ρ : Rh) (H : Hp) (e : MEx) (c : Value) (d : Option Addr) : Prop :=
  ∃ C f, g.ca e.cls = some (C, f) ∧ c = .ref C ∧ match e.arg with
    | none => d = none
    | some v => ∃ p x, d = some p ∧ H p = some (.xd [(f, x)]) ∧ p ∉ ρ.l ∧ RV g ρ H v x
/-- what a result is: how it stands for the layer's, and the addresses of fresh lists in it -/
structure Kd (α β : Type) where
  R : Rh → Hp → α → β → Prop
  T : α → β → Addr → Prop
def Fin {α β : Type} (g : GE) (W : WX) (K : Kd α β) (σm : Loc) (σ : L2.St) (ρ : Rh) (H : Hp) (r : Res α) (Q : β → Hp → Prop) : Prop := match r with
  | .ok v h => ∀ ρ' H' x, Post ρ H ρ' H' → Rel g ρ' σm h σ H' → K.R ρ' H' v x → (∀ a, K.T v x a → H a = none ∧ ρ'.b a) → Q x H'
  | .ex e h => ∀ ρ' H' c d, Post ρ H ρ' H' → Rel g ρ' σm h σ H' → EXR g ρ' H' e c d → W c d σ H'
/-- the reading of what the small language computes -/
def L {α β : Type} (g : GE) (W : WX) (K : Kd α β) (f : Loc → Hm → RO α) : L2.St → Hp → (β → Hp → Prop) → Prop := fun σ H Q =>
  ∃ ρ σm hm r, Rel g ρ σm hm σ H ∧ f σm hm = some r ∧ Fin g W K σm σ ρ H r Q

section
variable {α β γ δ : Type} {g : GE} {W : WX} {K : Kd α β} {K' : Kd γ δ} {σm : Loc} {hm : Hm} {σ : L2.St} {ρ ρ1 : Rh} {H H1 : Hp} {r : Res α} {Q : β → Hp → Prop}
theorem Fin.post (p : Post ρ H ρ1 H1) (h : Fin g W K σm σ ρ H r Q) : Fin g W K σm σ ρ1 H1 r Q := by
  cases r with
  | ok v h' => exact fun ρ' H' x q R r fr => h ρ' H' x (p.trans q) R r fun a ha => ⟨p.more a (fr a ha).1, (fr a ha).2⟩
  | ex e h' => exact fun ρ' H' c d q => h ρ' H' c d (p.trans q)
theorem L.bnd {fa : Loc → Hm → RO γ} {k : γ → Hm → RO α} {Q' : δ → Hp → Prop} (hR : Rel g ρ σm hm σ H) (he : Mi.bnd (fa σm hm) k = some r) (hF : Fin g W K σm σ ρ H r Q)
    (h : ∀ ρ1 H1 v hm1 x, Post ρ H ρ1 H1 → Rel g ρ1 σm hm1 σ H1 → K'.R ρ1 H1 v x → (∀ a, K'.T v x a → H a = none ∧ ρ1.b a) → k v hm1 = some r → Fin g W K σm σ ρ1 H1 r Q → Q' x H1) : L g W K' fa σ H Q' := by
  cases e : fa σm hm with
  | none => rw [e] at he; cases he
  | some q =>
    refine ⟨ρ, σm, hm, q, hR, e, ?_⟩
    rw [e] at he
    cases q with
    | ok v hm1 => exact fun ρ1 H1 x p R1 rv fr => h ρ1 H1 v hm1 x p R1 rv fr he (hF.post p)
    | ex ex hm1 =>
      have he : some (Res.ex ex hm1) = some r := he
      cases he
      exact hF
/-- .. at the end -/
theorem L.of {fa : Loc → Hm → RO α} (hR : Rel g ρ σm hm σ H) (he : fa σm hm = some r) (hF : Fin g W K σm σ ρ H r Q) : L g W K fa σ H Q := ⟨ρ, σm, hm, r, hR, he, hF⟩
theorem Fin.ok {v : α} {h' : Hm} {x : β} (hF : Fin g W K σm σ ρ H (.ok v h') Q) (R0 : Rel g ρ σm h' σ H) (r : K.R ρ H v x) (fr : ∀ a, K.T v x a → H a = none ∧ ρ.b a) : Q x H := hF ρ H x .refl R0 r fr
end
/-- a value that is no fresh list -/
def NL (v : MV) : Prop := ∀ xs, v ≠ .lst xs
theorem NL.frz (v : MV) : NL (Mi.frz v) := fun xs e => by cases v <;> cases e
/-- values -/
def TV (v : MV) (x : V) (a : Addr) : Prop := (∃ xs, v = .lst xs) ∧ x = .ref a
def kE (g : GE) : Kd MV V := ⟨fun ρ H v x => RV g ρ H v x, TV⟩
def TVs (vs : List MV) (xs : List V) (a : Addr) : Prop := ∃ (i : Nat) (v : MV) (x : V), vs[i]? = some v ∧ xs[i]? = some x ∧ TV v x a
/-- no two fresh lists are one -/
def Apart : List MV → List V → Prop
  | v :: vs, x :: xs => (∀ a, TV v x a → ¬ TVs vs xs a) ∧ Apart vs xs
  | _, _ => True
def kA (g : GE) : Kd (List MV) (List V) := ⟨fun ρ H v x => RVs g ρ H v x ∧ Apart v x, TVs⟩
def kB {α : Type} : Kd α α := ⟨fun _ _ v x => v = x, fun _ _ _ => False⟩
theorem Fin.okE {g : GE} {W : WX} {σm : Loc} {σ : L2.St} {ρ : Rh} {H : Hp} {h' : Hm} {v : MV} {x : V} {Q : VK} (hF : Fin g W (kE g) σm σ ρ H (.ok v h') Q) (R0 : Rel g ρ σm h' σ H) (r : RV g ρ H v x) (nl : NL v := by intro _ h; cases h) : Q x H :=
  hF ρ H x .refl R0 r fun a ⟨⟨xs, e⟩, _⟩ => absurd e (nl xs)
theorem Fin.okB {α : Type} {g : GE} {W : WX} {σm : Loc} {σ : L2.St} {ρ : Rh} {H : Hp} {h' : Hm} {v : α} {Q : α → Hp → Prop} (hF : Fin g W (kB (α := α)) σm σ ρ H (.ok v h') Q) (R0 : Rel g ρ σm h' σ H) : Q v H :=
  hF ρ H v .refl R0 rfl fun _ h => h.elim
theorem unl_of {v w : MV} (h : unl v = some w) : v = w ∧ NL w := by
  cases v <;> first | (cases h; exact ⟨rfl, fun _ e => by cases e⟩) | cases h
theorem nl_of {v : MV} (h : nl v = true) : NL v := fun xs e => by subst e; cases h
theorem nol_NL {v : MV} (h : v.nol = true) : NL v := fun xs e => by subst e; cases h
theorem pure_NL {v : MV} (h : v.pure = true) : NL v := fun xs e => by subst e; cases h
theorem frz_NL {v : MV} (h : NL v) : Mi.frz v = v := by
  cases v <;> first | rfl | exact absurd rfl (h _)
/-- fresh lists that go into other things are let go -/
theorem RVs.frz {g : GE} {ρ : Rh} {H : Hp} : ∀ {vs : List MV} {xs : List V}, RVs g ρ H vs xs → (∀ a, TVs vs xs a → ¬ ρ.b a) → RVs g ρ H (vs.map Mi.frz) xs
  | _, _, .nil, _ => .nil
  | _, _, .cons r t, n => .cons (r.frz fun a h e => n a ⟨0, _, _, rfl, rfl, h, e⟩) (RVs.frz t fun a ⟨i, v, x, h1, h2, h3⟩ => n a ⟨i + 1, v, x, by simpa using h1, by simpa using h2, h3⟩)
theorem Rel.unb {g : GE} {ρ ρ1 : Rh} {H H1 : Hp} {σm : Loc} {hm hm1 : Hm} {σ : L2.St} (R : Rel g ρ σm hm σ H) (p : Post ρ H ρ1 H1) (R1 : Rel g ρ1 σm hm1 σ H1) {T : Addr → Prop} (fr : ∀ a, T a → H a = none ∧ ρ1.b a) :
    ∃ b, (∀ a, b a → ρ1.b a) ∧ (∀ a, T a → ¬ b a) ∧ Post ρ H (ρ1.less b) H1 ∧ Rel g (ρ1.less b) σm hm1 σ H1 :=
  ⟨fun a => ρ1.b a ∧ ¬ T a, fun a h => h.1, fun a h q => q.2 h, ⟨p.ext, p.new, fun a h => p.newb a h.1, p.keep, p.more, fun a h => ⟨p.blk a h, fun q => by
    obtain ⟨xs, e⟩ := R.blk a h
    rw [(fr a q).1] at e; cases e⟩⟩, R1.less fun a h => h.1⟩
theorem TV.one {v : MV} {x : V} {a : Addr} (h : TV v x a) : TVs [v] [x] a := ⟨0, v, x, rfl, rfl, h⟩
theorem live_of {g : GE} {ρ : Rh} {σm : Loc} {hm : Hm} {σ : L2.St} {H : Hp} (R : Rel g ρ σm hm σ H) : ∀ a, ρ.b a → H a ≠ none := fun a h => by
  obtain ⟨xs, e⟩ := R.blk a h
  rw [e]; simp
abbrev LE (g : GE) (W : WX) (f : Loc → Hm → RO MV) : TE := L g W (kE g) f
abbrev LA (g : GE) (W : WX) (f : Loc → Hm → RO (List MV)) : TA := L g W (kA g) f
abbrev LT (g : GE) (W : WX) (f : Loc → Hm → RO Bool) : TT := L g W (kB (α := Bool)) f
end Mi

/-! Mi2: from the text to the small language. -/
namespace Mi
open PySem PySem.Spec PyProof.Rows L2

/-- what the names of the module stand for -/
structure CG where
  fns : List Str
  cst : List (Str × MV)
  deriving Inhabited

def slot (N : List Str) (x : Str) : Option Nat := N.findIdx? (· == x)
def isVis (sc : Scope) (x : Str) : Bool := match sc.names.lookup x with
  | some .local => true
  | some .cell => true
  | some .free => true
  | _ => false
def isGl (sc : Scope) (x : Str) : Bool := match sc.names.lookup x with
  | some .globalImplicit => true
  | _ => false
def isLoc (sc : Scope) (x : Str) : Bool := match sc.names.lookup x with
  | some .local => true
  | _ => false
def isCell (sc : Scope) (x : Str) : Bool := match sc.names.lookup x with
  | some .cell => true
  | _ => false
def okName (x : Str) : Bool := !(x == ("__debug__" : Str)) && !(x == ("__classdict__" : Str)) && !(x == ("__name__" : Str))
/-- a built-in's name: no def and no constant of the module -/
def isBlt (G : CG) (sc : Scope) (x : Str) : Bool := isGl sc x && !(G.fns.contains x) && (G.cst.lookup x).isNone && okName x
def fnNum (G : CG) (x : Str) : Option Nat := G.fns.findIdx? (· == x)

def boOf : Operator → Option BO
  | .Add => some .add
  | .Sub => some .sub
  | .Mult => some .mul
  | .FloorDiv => some .fdv
  | .Mod => some .mod
  | .Pow => some .pow
  | _ => none
def coOf : CmpOp → Option CO
  | .Eq => some .eq
  | .NotEq => some .ne
  | .Lt => some .lt
  | .LtE => some .le
  | .Gt => some .gt
  | .GtE => some .ge
  | .In => some .isin
  | .NotIn => some .notin
  | .Is => some .isN
  | .IsNot => some .notN
def biOf (x : Str) (n : Nat) : Option BI :=
  if x = ("abs" : Str) ∧ n = 1 then some .abs
  else if x = ("max" : Str) ∧ n = 2 then some .max2
  else if x = ("min" : Str) ∧ n = 2 then some .min2
  else if x = ("int" : Str) ∧ n = 1 then some .int
  else if x = ("len" : Str) ∧ n = 1 then some .len
  else if x = ("sum" : Str) ∧ n = 1 then some .sum
  else if x = ("all" : Str) ∧ n = 1 then some .all
  else if x = ("any" : Str) ∧ n = 1 then some .any
  else if x = ("tuple" : Str) ∧ n = 1 then some .tuple
  else if x = ("list" : Str) ∧ n = 1 then some .list
  else if x = ("sorted" : Str) ∧ n = 1 then some .sorted
  else none
def tyOfN (x : Str) : Option TyN :=
  if x = ("int" : Str) then some .int
  else if x = ("bool" : Str) then some .bool
  else if x = ("str" : Str) then some .str
  else if x = ("tuple" : Str) then some .tuple
  else if x = ("list" : Str) then some .list
  else none

/-- a comprehension's own names with their slots -/
def ownOf (N : List Str) (scope : Scope) : List (Str × Nat) := scope.names.filterMap fun (n, k) => if k == .local || k == .cell then (slot N n).map fun i => (n, i) else none
def tgIn (own : List Nat) : Nat → MT → Bool
  | 0, _ => false
  | n + 1, .var i => own.contains i
  | n + 1, .tup ts => ts.all (tgIn own n)
  | _ + 1, .sub _ _ => false
def topB (top : Option Scope) (x : Str) : Bool := match top with
  | none => true
  | some s => s.names.lookup x == some .cell
def isTupleE : Expr → Bool
  | .Tuple _ _ _ => true
  | _ => false
def isNameE : Expr → Bool
  | .Name _ _ => true
  | _ => false
def noStar : Expr → Bool
  | .Starred _ _ => false
  | _ => true

mutual
def compE (G : CG) (N : List Str) : Nat → Scope → Expr → Option ME
  | 0, _, _ => none
  | n + 1, sc, e => match e with
    | .Name x _ =>
      if isVis sc x && okName x then (slot N x).map .var
      else if isGl sc x && okName x then (G.cst.lookup x).map .cst
      else none
    | .Constant (.int i) _ _ => some (.cst (.int i))
    | .Constant (.bool b) _ _ => some (.cst (.bl b))
    | .Constant .none _ _ => some (.cst .non)
    | .Constant (.str s) _ _ => some (.cst (.str s))
    | .BinOp a op b _ => match boOf op, compE G N n sc a, compE G N n sc b with
      | some o, some x, some y => some (.bin o x y)
      | _, _, _ => none
    | .UnaryOp .USub a _ => (compE G N n sc a).map .neg
    | .UnaryOp .Not a _ => (compE G N n sc a).map .not
    | .BoolOp op vs _ => compB G N n sc op vs
    | .IfExp c a b _ => match compE G N n sc c, compE G N n sc a, compE G N n sc b with
      | some x, some y, some z => some (.ite x y z)
      | _, _, _ => none
    | .Compare a [op] [b] _ => match coOf op, compE G N n sc a, compE G N n sc b with
      | some o, some x, some y => some (.cmp o x y)
      | _, _, _ => none
    | .Compare a [o1, o2] [b, c] _ => match coOf o1, coOf o2, compE G N n sc a, compE G N n sc b, compE G N n sc c with
      | some p, some q, some x, some y, some z => some (.chn p q x y z)
      | _, _, _, _, _ => none
    | .Tuple es _ _ => if es.length ≤ 1000 then (compEs G N n sc es).map .tup else none
    | .List es _ => if es.length ≤ 1000 then (compEs G N n sc es).map .lst else none
    | .Subscript a (.Slice lo hi st _) _ => match st with
      | none => match compE G N n sc a, compO G N n sc lo, compO G N n sc hi with
        | some x, some l, some h => some (.sl x l h)
        | _, _, _ => none
      | some (.UnaryOp .USub (.Constant (.int i) _ _) _) => if i = 1 ∧ lo.isNone ∧ hi.isNone then (compE G N n sc a).map .rev else none
      | _ => none
    | .Subscript a b _ => match compE G N n sc a, compE G N n sc b with
      | some x, some y => some (.ix x y)
      | _, _ => none
    | .Call (.Name f _) args [] _ =>
      if isBlt G sc f then
        match args with
        | [a, .Name t _] => if f = ("isinstance" : Str) && isBlt G sc t then match compE G N n sc a, tyOfN t with
            | some x, some ty => some (.isi x [ty])
            | _, _ => none
          else match biOf f 2, compEs G N n sc args with
            | some b, some xs => some (.bi b xs)
            | _, _ => none
        | _ => match biOf f args.length, compEs G N n sc args with
          | some b, some xs => some (.bi b xs)
          | _, _ => none
      else if isGl sc f && okName f && !args.isEmpty then match fnNum G f, compEs G N n sc args with
        | some i, some xs => some (.call i xs)
        | _, _ => none
      else none
    | .Call (.Attribute o m ap) args [] pos => match compE G N n sc o, compEs G N n sc args with
      | some x, some xs =>
        if !(isNameE o && (ap.endLine == pos.line)) then none
        else if m = ("append" : Str) ∧ args.length = 1 then some (.meth .append x xs)
        else if m = ("pop" : Str) ∧ args.length = 0 then some (.meth .pop0 x xs)
        else if m = ("pop" : Str) ∧ args.length = 1 then some (.meth .pop1 x xs)
        else none
      | _, _ => none
    | .ListComp elt [⟨tg, iter, ifs, 0⟩] scope _ =>
      let own := ownOf N scope
      if blkC N sc scope own then
        match compT G N n (some scope) (relS scope sc) tg, compI G N n sc (isTupleE tg) iter, compC G N n (relS scope sc) ifs, compE G N n (relS scope sc) elt with
        | some t, some i, some c, some x => if tgIn (own.map (·.2)) n t then some (.lc (own.map (·.2)) t i c x) else none
        | _, _, _, _ => none
      else none
    | _ => none
def compB (G : CG) (N : List Str) : Nat → Scope → BoolOp → List Expr → Option ME
  | 0, _, _, _ => none
  | n + 1, sc, op, vs => match vs with
    | [] => none
    | [e] => compE G N n sc e
    | e :: r => match compE G N n sc e, compB G N n sc op r with
      | some x, some y => match op with
        | .And => some (.and x y)
        | .Or => some (.or x y)
      | _, _ => none
def compEs (G : CG) (N : List Str) : Nat → Scope → List Expr → Option (List ME)
  | 0, _, _ => none
  | n + 1, sc, es => match es with
    | [] => some []
    | e :: r => if noStar e then match compE G N n sc e, compEs G N n sc r with
        | some x, some xs => some (x :: xs)
        | _, _ => none
      else none
def compO (G : CG) (N : List Str) : Nat → Scope → Option Expr → Option (Option ME)
  | 0, _, _ => none
  | n + 1, sc, o => match o with
    | none => some none
    | some e => (compE G N n sc e).map some
def compC (G : CG) (N : List Str) : Nat → Scope → List Expr → Option (Option ME)
  | 0, _, _ => none
  | n + 1, sc, o => match o with
    | [] => some none
    | [e] => (compE G N n sc e).map some
    | _ => none
/-- top: whose cells may be targets (none: a def's own) -/
def compT (G : CG) (N : List Str) : Nat → Option Scope → Scope → Expr → Option MT
  | 0, _, _, _ => none
  | n + 1, top, sc, e => match e with
    | .Name x _ => if (isLoc sc x || (topB top x && isCell sc x)) && okName x then (slot N x).map .var else none
    | .Tuple es _ _ => (compTs G N n top sc es).map .tup
    | .Subscript a i _ => match i with
      | .Slice _ _ _ _ => none
      | i => match compE G N n sc a, compE G N n sc i with
        | some x, some y => some (.sub x y)
        | _, _ => none
    | _ => none
def compTs (G : CG) (N : List Str) : Nat → Option Scope → Scope → List Expr → Option (List MT)
  | 0, _, _, _ => none
  | n + 1, top, sc, es => match es with
    | [] => some []
    | e :: r => match compT G N n top sc e, compTs G N n top sc r with
      | some x, some xs => some (x :: xs)
      | _, _ => none
/-- tup: the loop's target is written as a tuple -/
def compI (G : CG) (N : List Str) : Nat → Scope → Bool → Expr → Option MI
  | 0, _, _, _ => none
  | n + 1, sc, tup, e => match e with
    | .Call (.Name f _) args [] _ =>
      if isBlt G sc f && args.all noStar then
        match args with
        | [a] =>
          if f = ("range" : Str) then (compE G N n sc a).map .r1
          else if f = ("enumerate" : Str) then if tup then (compE G N n sc a).map .enu else none
          else (compE G N n sc e).map .ex
        | [a, b] =>
          if f = ("range" : Str) then match compE G N n sc a, compE G N n sc b with
            | some x, some y => some (.r2 x y)
            | _, _ => none
          else if f = ("zip" : Str) then if tup then match compE G N n sc a, compE G N n sc b with
            | some x, some y => some (.zip x y)
            | _, _ => none else none
          else (compE G N n sc e).map .ex
        | [a, b, c] =>
          if f = ("range" : Str) then match compE G N n sc a, compE G N n sc b, compE G N n sc c with
            | some x, some y, some z => some (.r3 x y z)
            | _, _, _ => none
          else none
        | _ => none
      else (compE G N n sc e).map .ex
    | .Set _ _ _ => none
    | e => (compE G N n sc e).map .ex
end
/-- no comprehension -/
def noLc : Expr → Bool
  | .ListComp _ _ _ _ => false
  | .SetComp _ _ _ _ => false
  | .DictComp _ _ _ _ _ => false
  | _ => true
/-- a comprehension that is stored into a local name on its line -/
def swB (sc : Scope) : Expr → Expr → Bool
  | .ListComp _ _ s p, .Name t pos => isLoc sc t && pos.line == p.line && !(s.names.any fun (n, k) => n == t && (k == .local || k == .cell))
  | _, _ => false
def isStar : Expr → Bool
  | .Starred .. => true
  | _ => false
/-- the plain local names of a target, on one line -/
def nmS (sc : Scope) (ts : List Expr) : List Str := ts.filterMap fun
  | .Name id pos => if sc.names.lookup id == some .local && pos.line == (ts.head?.map (·.pos.line)).getD 0 then some id else none
  | _ => none
def nmB (names : List Str) (n : Nat) : Bool := names.length != n || names.eraseDups.length != names.length
/-- stored from the right? -/
def swP (sc : Scope) (ts vs : List Expr) : Option (Option (List Str)) :=
  if (!(ts.length == 2 || ts.length == 3) || vs.length != ts.length) = true then some none
  else if vs.any isStar = true then some none
  else if nmB (nmS sc ts) ts.length = true then some none
  else if vs.all (foldedForSure 8) = true then some none
  else if vs.all (constantsAlone 8) = true then none
  else some (some (nmS sc ts))
def isSlice : Expr → Bool
  | .Slice _ _ _ _ => true
  | _ => false
mutual
def compS (G : CG) (N : List Str) : Nat → Scope → Stmt → Option MS
  | 0, _, _ => none
  | n + 1, sc, s => match s with
    | .Expr (.Constant (.str _) _ _) _ => some .pass
    | .Expr e _ => if noLc e then (compE G N n sc e).map .expr else none
    | .Return (some e) _ => (compE G N n sc e).map .ret
    | .Return none _ => some .retN
    | .Pass _ => some .pass
    | .Break _ => some .brk
    | .Continue _ => some .cnt
    | .If c a b _ => match compE G N n sc c, compSs G N n sc a, compSs G N n sc b with
      | some x, some y, some z => some (.ife x y z)
      | _, _, _ => none
    | .While c b [] _ => match compE G N n sc c, compSs G N n sc b with
      | some x, some y => some (.whl x y)
      | _, _ => none
    | .For tg iter b [] _ => match compT G N n none sc tg, compI G N n sc (isTupleE tg) iter, compSs G N n sc b with
      | some t, some i, some y => some (.forr t i y)
      | _, _, _ => none
    | .Assign [tg] e _ => match tg, e with
      | .Tuple ts _ _, .Tuple vs _ _ => match swP sc ts vs with
        | none => none
        | some none => match compT G N n none sc tg, compE G N n sc e with
          | some t, some x => some (.asg t x)
          | _, _ => none
        | some (some _) => match ts, vs with
          | [.Name x _, .Name y _], [a, b] => match slot N x, slot N y, compEs G N n sc [a, b] with
            | some i, some j, some es => if isLoc sc x && isLoc sc y && decide (i ≠ j) && decide (swP sc ts vs = some (some [x, y])) then some (.par [i, j] es) else none
            | _, _, _ => none
          | [.Name x _, .Name y _, .Name z _], [a, b, c] => match slot N x, slot N y, slot N z, compEs G N n sc [a, b, c] with
            | some i, some j, some l, some es => if isLoc sc x && isLoc sc y && isLoc sc z && decide (i ≠ j) && decide (i ≠ l) && decide (j ≠ l) && decide (swP sc ts vs = some (some [x, y, z])) then some (.par [i, j, l] es) else none
            | _, _, _, _ => none
          | _, _ => none
      | tg, e => match compT G N n none sc tg, compE G N n sc e with
        | some t, some x => some (.asg t x)
        | _, _ => none
    | .AugAssign (.Name x _) op e _ => if (isLoc sc x || isCell sc x) && okName x then match slot N x, boOf op, compE G N n sc e with
        | some i, some o, some m => some (.aug i o m)
        | _, _, _ => none
      else none
    | .AugAssign (.Subscript a i _) op e _ => if isSlice i then none else match compE G N n sc a, compE G N n sc i, boOf op, compE G N n sc e with
      | some x, some y, some o, some m => some (.augS x y o m)
      | _, _, _, _ => none
    | _ => none
def compSs (G : CG) (N : List Str) : Nat → Scope → List Stmt → Option (List MS)
  | 0, _, _ => none
  | n + 1, sc, ss => match ss with
    | [] => some []
    | s :: r => match compSs G N n sc r with
      | some xs => some (((compS G N n sc s).getD .nev) :: xs)
      | _ => none
end
end Mi

/-! Mi3: what the operations on values are. -/
namespace Mi
open PySem PySem.Spec PyProof.Rows L2
theorem op_fdivX {X : Cx} : OpR X (binaryOp .FloorDiv) (rI (fun _ j => j ≠ 0 ∧ j.natAbs.log2 < 9000) fun i j => .int (i.fdiv j)) := opI fun _ _ _ _ _ _ _ hc q => floordiv_int hc.1 q (.inl (PyProof.noPylong_of_log2 hc.2))

theorem sizeMax_eq : sizeMax = sizeLine := by rw [sizeLine_eq]; rfl

section
variable {X : Cx} {e : Expr}
theorem PE.imp {t t' : TE} (h : PE X e t) (i : ∀ σ H Q, t' σ H Q → t σ H Q) : PE X e t' := ⟨fun pins s σ H Q I q => h.run pins s σ H Q I (i σ H Q q)⟩
theorem PT.imp {t t' : TT} (h : PT X e t) (i : ∀ σ H Q, t' σ H Q → t σ H Q) : PT X e t' := ⟨fun pins s σ H Q I q => h.run pins s σ H Q I (i σ H Q q)⟩
theorem PA.imp {es : List Expr} {t t' : TA} (h : PA X es t) (i : ∀ σ H Q, t' σ H Q → t σ H Q) : PA X es t' := ⟨fun pos pins s σ H Q I q => h.run pos pins s σ H Q I (i σ H Q q)⟩
end

/-- a value behind an operation: nothing but new objects -/
def Done (g : GE) (σm : Loc) (hm : Hm) (σ : L2.St) (ρ : Rh) (H : Hp) (z : MV) (Q : VK) : Prop :=
  ∀ ρ' H' x, Post ρ H ρ' H' → Rel g ρ' σm hm σ H' → RV g ρ' H' z x → (∀ a, TV z x a → H a = none ∧ ρ'.b a) → Q x H'
section
variable {g : GE} {σm : Loc} {hm : Hm} {σ : L2.St} {ρ : Rh} {H : Hp} {z : MV} {x : V} {Q : VK}
theorem Done.now (d : Done g σm hm σ ρ H z Q) (R : Rel g ρ σm hm σ H) (r : RV g ρ H z x) (nl : ∀ xs, z ≠ .lst xs := by intro _ h; cases h) : Q x H := d ρ H x .refl R r fun a ⟨⟨xs, e⟩, _⟩ => absurd e (nl xs)
/-- a new tuple -/
theorem Done.tup {zs : List MV} {vs : List V} (d : Done g σm hm σ ρ H (.tup zs) Q) (R : Rel g ρ σm hm σ H) (r : RVs g ρ H zs vs) : ∀ p, H p = none → Q (.ref p) (upd H p (.tup vs)) := fun p n => by
  obtain ⟨P, R', _⟩ := R.laid (o := .tup vs) n
  exact d ρ _ _ P R' (.tup (.of upd_same) (r.post P R.noT)) fun a ⟨⟨xs, e⟩, _⟩ => nomatch e
/-- a new list -/
theorem Done.lst {zs : List MV} {vs : List V} (d : Done g σm hm σ ρ H (.lst zs) Q) (R : Rel g ρ σm hm σ H) (r : RVs g ρ H zs vs) : ∀ p, H p = none → Q (.ref p) (upd H p (.lst vs)) := fun p n => by
  obtain ⟨P, R', np⟩ := R.laidL (vs := vs) n
  exact d _ _ _ P R' (.lst upd_same np (r.post P R.noT)) fun a ⟨_, e⟩ => by cases e; exact ⟨n, .inr rfl⟩
/-- from the layer's reading -/
theorem Fin.done {W : WX} (h : Fin g W (kE g) σm σ ρ H (.ok z hm) Q) : Done g σm hm σ ρ H z Q := h
end

/-- two values for an operation -/
def rBin (g : GE) (f : MV → MV → Hm → Option MV) : R2 := fun x y H Q =>
  ∃ ρ σm hm σ v w z, Rel g ρ σm hm σ H ∧ RV g ρ H v x ∧ RV g ρ H w y ∧ f v w hm = some z ∧ Done g σm hm σ ρ H z Q

section
variable {X : Cx} {g : GE}
theorem opr_bin (hK : g.K = X.K) {o : Operator} {bo : BO} (ho : boOf o = some bo) : OpR X (binaryOp o) (rBin g (bop bo)) := by
  intro pins s σ0 H x y v0 u0 Q I rx ry h
  obtain ⟨ρ, σm, hm, σ, v, w, z, R, rv, rw', e, d⟩ := h
  have hint : ∀ {i : Int} {x : V}, RV g ρ H (.int i) x → x = .int i := fun r => by cases r; rfl
  have hstr : ∀ {i : Str} {x : V}, RV g ρ H (.str i) x → x = .str i := fun r => by cases r; rfl
  have catL : bo = .add → (∃ xs ys, itemsL hm v = some xs ∧ itemsL hm w = some ys ∧ (if xs.length + ys.length ≤ sizeMax then some (MV.lst (xs ++ ys)) else none) = some z) → wpAny (model X.prog X.w) X.A (binaryOp o v0 u0) (EP X pins σ0 Q) X.xe s := fun hb ⟨xs, ys, e1, e2, e3⟩ => by
    subst hb
    obtain ⟨a, vs, rfl, ha, ra⟩ := R.itemsL rv e1
    obtain ⟨b, ws, rfl, hb, rb⟩ := R.itemsL rw' e2
    split at e3
    · rename_i hz
      cases e3
      have ho' : o = .Add := by cases o <;> first | rfl | cases ho
      subst ho'
      rw [sizeMax_eq] at hz
      exact op_cat pins s σ0 H _ _ v0 u0 Q I rx ry ⟨a, b, vs, ws, rfl, rfl, ha, hb, by rw [← ra.length, ← rb.length]; exact hz, d.lst R (ra.append rb)⟩
    · cases e3
  have repL : bo = .mul → (∃ xs k, itemsL hm v = some xs ∧ w = .int k ∧ (if -9223372036854775808 ≤ k ∧ k < 9223372036854775808 ∧ xs.length * k.toNat ≤ sizeMax then some (MV.lst (List.replicate k.toNat xs).flatten) else none) = some z) → wpAny (model X.prog X.w) X.A (binaryOp o v0 u0) (EP X pins σ0 Q) X.xe s := fun hb ⟨xs, k, e1, e2, e3⟩ => by
    subst hb
    subst e2
    obtain ⟨a, vs, rfl, ha, ra⟩ := R.itemsL rv e1
    have := hint rw'
    subst this
    split at e3
    · rename_i hz
      cases e3
      have ho' : o = .Mult := by cases o <;> first | rfl | cases ho
      subst ho'
      rw [sizeMax_eq] at hz
      exact op_rep pins s σ0 H _ _ v0 u0 Q I rx ry ⟨a, k, vs, rfl, rfl, ha, by omega, by omega, by rw [← ra.length]; exact hz.2.2, d.lst R (ra.rep _)⟩
    · cases e3
  unfold bop at e
  split at e
  · -- int + int
    cases e
    have ho' : o = .Add := by cases o <;> first | rfl | cases ho
    subst ho'
    exact op_add pins s σ0 H x y v0 u0 Q I rx ry ⟨_, _, hint rv, hint rw', d.now R (.int _)⟩
  · cases e
    have ho' : o = .Sub := by cases o <;> first | rfl | cases ho
    subst ho'
    exact op_sub pins s σ0 H x y v0 u0 Q I rx ry ⟨_, _, hint rv, hint rw', d.now R (.int _)⟩
  · rename_i i j
    have ho' : o = .Mult := by cases o <;> first | rfl | cases ho
    subst ho'
    split at e
    · rename_i hz
      cases e
      unfold mulOk at hz
      simp only [Bool.or_eq_true, decide_eq_true_eq] at hz
      rcases hz with (hz | hz) | hz
      · exact op_mul pins s σ0 H x y v0 u0 Q I rx ry ⟨_, _, hint rv, hint rw', .inl ⟨by omega, by omega⟩, d.now R (.int _)⟩
      · exact op_mul pins s σ0 H x y v0 u0 Q I rx ry ⟨_, _, hint rv, hint rw', .inr ⟨by omega, by omega⟩, d.now R (.int _)⟩
      · exact op_mulW pins s σ0 H x y v0 u0 Q I rx ry ⟨_, _, hint rv, hint rw', hz, d.now R (.int _)⟩
    · cases e
  · rename_i i j
    have ho' : o = .FloorDiv := by cases o <;> first | rfl | cases ho
    subst ho'
    split at e
    · rename_i hz
      cases e
      unfold fdvOk at hz
      simp only [Bool.or_eq_true, Bool.and_eq_true, decide_eq_true_eq] at hz
      rcases hz with (hz | hz) | hz
      · exact op_fdivW pins s σ0 H x y v0 u0 Q I rx ry ⟨_, _, hint rv, hint rw', hz, by show Q (V.int (i / j)) H; rw [← Int.fdiv_eq_ediv_of_nonneg i (by omega : 0 ≤ j)]; exact d.now R (.int _)⟩
      · exact op_fdivN pins s σ0 H x y v0 u0 Q I rx ry ⟨_, _, hint rv, hint rw', hz, d.now R (.int _)⟩
      · exact op_fdivX pins s σ0 H x y v0 u0 Q I rx ry ⟨_, _, hint rv, hint rw', hz, d.now R (.int _)⟩
    · cases e
  · have ho' : o = .Mod := by cases o <;> first | rfl | cases ho
    subst ho'
    split at e
    · rename_i hz
      cases e
      exact op_modN pins s σ0 H x y v0 u0 Q I rx ry ⟨_, _, hint rv, hint rw', hz, d.now R (.int _)⟩
    · cases e
  · rename_i i j
    have ho' : o = .Pow := by cases o <;> first | rfl | cases ho
    subst ho'
    split at e
    · rename_i hz
      cases e
      unfold powOk at hz
      simp only [Bool.and_eq_true, decide_eq_true_eq] at hz
      have e1 := hint rv
      have e2 := hint rw'
      subst e1
      subst e2
      obtain ⟨t, rfl⟩ := rx
      obtain ⟨t', rfl⟩ := ry
      refine pow_int hz.1 ?_ ⟨.int _, H, I.tok _, ⟨_, rfl⟩, d.now R (.int _)⟩
      have b : Builtin.Int.intBits i ≤ i.natAbs.log2 + 1 := by unfold Builtin.Int.intBits; split <;> omega
      have b2 : (Builtin.Int.intBits i : Int) * j ≤ ((i.natAbs.log2 + 1 : Nat) : Int) * j := Int.mul_le_mul_of_nonneg_right (by omega) hz.1
      have := hz.2
      omega
    · cases e
  · have ho' : o = .Add := by cases o <;> first | rfl | cases ho
    subst ho'
    split at e
    · rename_i hz
      cases e
      rw [sizeMax_eq] at hz
      exact op_add_str pins s σ0 H x y v0 u0 Q I rx ry ⟨_, _, hstr rv, hstr rw', hz, d.now R (.str _)⟩
    · cases e
  · rename_i xs ys
    have ho' : o = .Add := by cases o <;> first | rfl | cases ho
    subst ho'
    split at e
    · rename_i hz
      cases e
      rw [sizeMax_eq] at hz
      cases rv with
      | tup ha ra =>
        cases rw' with
        | tup hb rb =>
          rename_i a vs b ws
          refine op_catA pins s σ0 H _ _ v0 u0 Q I rx ry ⟨_, _, vs, ws, rfl, rfl, by rw [← hK]; exact ha, by rw [← hK]; exact hb, by rw [← ra.length, ← rb.length]; exact hz, fun e => ?_, fun e1 e => ?_, fun _ _ => d.tup R (ra.append rb)⟩
          · subst e
            cases ra
            exact d.now R (.tup hb rb)
          · subst e
            cases rb
            exact d.now R (.tup ha (by rw [List.append_nil]; exact ra))
    · cases e
  · rename_i xs k
    have ho' : o = .Mult := by cases o <;> first | rfl | cases ho
    subst ho'
    split at e
    · rename_i hz
      cases e
      cases rv with
      | tup ha ra =>
        rename_i a vs
        rw [sizeMax_eq] at hz
        refine op_repA pins s σ0 H _ _ v0 u0 Q I rx ry ⟨_, k, vs, rfl, hint rw', by rw [← hK]; exact ha, hz.1, hz.2.1, by rw [← ra.length]; exact hz.2.2, fun hs => ?_, fun hs => d.tup R (ra.rep _)⟩
        have e0 : (List.replicate k.toNat xs).flatten = xs := by
          rcases hs with e | e
          · subst e
            cases ra
            simp
          · subst e
            simp
        rw [e0] at d
        exact d.now R (.tup ha ra)
    · cases e
  · split at e
    · rename_i xs ys e1 e2
      exact catL rfl ⟨xs, ys, e1, e2, e⟩
    · cases e
  · split at e
    · rename_i xs e1
      exact repL rfl ⟨xs, _, e1, rfl, e⟩
    · cases e
  · cases e

/-! ### comparisons -/
theorem dpInts {K : PySem.W.Frag} {H : Hp} : ∀ ns : List Int, DpAll K H (ns.map V.int) (ns.map PyData.int)
  | [] => .nil
  | n :: ns => .cons (.int n) (dpInts ns)
mutual
theorem Rel.dp {ρ : Rh} {σm : Loc} {hm : Hm} {σ : L2.St} {H : Hp} (R : Rel g ρ σm hm σ H) : ∀ {v : MV} {x : V} {d : PyData}, RV g ρ H v x → toD hm v = some d → Dp g.K H x d
  | _, _, _, .non, e => by simp only [toD] at e; cases e; exact .non
  | _, _, _, .bl b, e => by simp only [toD] at e; cases e; exact .bl b
  | _, _, _, .int b, e => by simp only [toD] at e; cases e; exact .int b
  | _, _, _, .str b, e => by simp only [toD] at e; cases e; exact .str b
  | _, _, _, .tup h r, e => by
    simp only [toD] at e
    obtain ⟨ds, h1, rfl⟩ := Option.map_eq_some_iff.mp e
    exact .tup h (Rel.dps R r h1)
  | _, _, _, .lst h m r, e => by
    simp only [toD] at e
    obtain ⟨ds, h1, rfl⟩ := Option.map_eq_some_iff.mp e
    exact .lst (.of h) (Rel.dps R r h1)
  | _, _, _, @RV.scr _ _ _ ns _ h, e => by
    simp only [toD] at e
    cases e
    exact .lst h.sq (dpInts ns)
  | _, _, _, .fz h m r, e => by
    simp only [toD] at e
    obtain ⟨ds, h1, rfl⟩ := Option.map_eq_some_iff.mp e
    exact .lst (.of h) (Rel.dps R r h1)
  | _, _, _, .fn _, e => by simp only [toD] at e; cases e
  | _, _, _, @RV.ref _ _ _ n a h, e => by
    simp only [toD] at e
    split at e
    · rename_i xs q
      obtain ⟨ds, h1, rfl⟩ := Option.map_eq_some_iff.mp e
      obtain ⟨vs, e1, t⟩ := R.obj n _ a q h
      exact .lst (.of e1) (Rel.dpP R t h1)
    · rename_i ns q
      cases e
      obtain ⟨o, e1⟩ := R.obj n _ a q h
      exact .lst (.inl (.inr ⟨o, e1⟩)) (dpInts ns)
    · cases e
theorem Rel.dps {ρ : Rh} {σm : Loc} {hm : Hm} {σ : L2.St} {H : Hp} (R : Rel g ρ σm hm σ H) : ∀ {v : List MV} {x : List V} {d : List PyData}, RVs g ρ H v x → toDs hm v = some d → DpAll g.K H x d
  | _, _, _, .nil, e => by simp only [toDs] at e; cases e; exact .nil
  | _, _, _, .cons r t, e => by
    simp only [toDs] at e
    split at e
    · rename_i d ds h1 h2
      cases e
      exact .cons (Rel.dp R r h1) (Rel.dps R t h2)
    · cases e
theorem Rel.dpP1 {ρ : Rh} {σm : Loc} {hm : Hm} {σ : L2.St} {H : Hp} (R : Rel g ρ σm hm σ H) : ∀ {v : MV} {x : V} {d : PyData}, RV g ρ H v x → toP v = some d → Dp g.K H x d
  | _, _, _, .non, e => by simp only [toP] at e; cases e; exact .non
  | _, _, _, .bl b, e => by simp only [toP] at e; cases e; exact .bl b
  | _, _, _, .int b, e => by simp only [toP] at e; cases e; exact .int b
  | _, _, _, .str b, e => by simp only [toP] at e; cases e; exact .str b
  | _, _, _, .tup h r, e => by
    simp only [toP] at e
    obtain ⟨ds, h1, rfl⟩ := Option.map_eq_some_iff.mp e
    exact .tup h (Rel.dpP R r h1)
  | _, _, _, .lst h m r, e => by
    simp only [toP] at e
    obtain ⟨ds, h1, rfl⟩ := Option.map_eq_some_iff.mp e
    exact .lst (.of h) (Rel.dpP R r h1)
  | _, _, _, @RV.scr _ _ _ ns _ h, e => by
    simp only [toP] at e
    cases e
    exact .lst h.sq (dpInts ns)
  | _, _, _, .fz h m r, e => by
    simp only [toP] at e
    obtain ⟨ds, h1, rfl⟩ := Option.map_eq_some_iff.mp e
    exact .lst (.of h) (Rel.dpP R r h1)
  | _, _, _, .fn _, e => by simp only [toP] at e; cases e
  | _, _, _, .ref _, e => by simp only [toP] at e; cases e
theorem Rel.dpP {ρ : Rh} {σm : Loc} {hm : Hm} {σ : L2.St} {H : Hp} (R : Rel g ρ σm hm σ H) : ∀ {v : List MV} {x : List V} {d : List PyData}, RVs g ρ H v x → toDp v = some d → DpAll g.K H x d
  | _, _, _, .nil, e => by simp only [toDp] at e; cases e; exact .nil
  | _, _, _, .cons r t, e => by
    simp only [toDp] at e
    split at e
    · rename_i d ds h1 h2
      cases e
      exact .cons (Rel.dpP1 R r h1) (Rel.dpP R t h2)
    · cases e
end
theorem flat_of {ρ : Rh} {H : Hp} {v : MV} {x : V} (r : RV g ρ H v x) (f : flat v = true) : flatV x = true := by
  cases r <;> first | rfl | cases f
theorem flats_of {ρ : Rh} {H : Hp} : ∀ {vs : List MV} {xs : List V}, RVs g ρ H vs xs → vs.all flat = true → xs.all flatV = true
  | _, _, .nil, _ => rfl
  | _, _, .cons r t, f => by
    rw [List.all_cons, Bool.and_eq_true] at f
    rw [List.all_cons, flat_of r f.1, flats_of t f.2] <;> rfl
theorem eqF_of {ρ : Rh} {H : Hp} {v w : MV} {x y : V} (r : RV g ρ H v x) (q : RV g ρ H w y) (f : flat v = true) (f' : flat w = true) : eqF v w = eqV x y := by
  cases r <;> cases q <;> first | rfl | exact absurd f Bool.false_ne_true | exact absurd f' Bool.false_ne_true
theorem inF_of {ρ : Rh} {H : Hp} {v : MV} {x : V} (r : RV g ρ H v x) (f : flat v = true) : ∀ {vs : List MV} {xs : List V}, RVs g ρ H vs xs → vs.all flat = true → inF v vs = inV x xs
  | _, _, .nil, _ => rfl
  | _, _, .cons q t, f' => by
    rw [List.all_cons, Bool.and_eq_true] at f'
    have ih := inF_of r f t f'.2
    unfold inF inV at ih ⊢
    rw [List.any_cons, List.any_cons, ih, eqF_of q r f'.1 f]
def rCmp (g : GE) (op : CO) : R2 := rBin g fun v w h => (cop op v w h).map .bl
theorem opr_cmp (hK : g.K = X.K) (hu : X.A.units + 64 < cLine) {o : CmpOp} {co : CO} (ho : coOf o = some co) : OpR X (compareOp o) (rCmp g co) := by
  intro pins s σ0 H x y v0 u0 Q I rx ry h
  obtain ⟨ρ, σm, hm, σ, v, w, z, R, rv, rw', e, d⟩ := h
  obtain ⟨b, hb, hz⟩ := Option.map_eq_some_iff.mp (show (cop co v w hm).map .bl = some z from e)
  subst hz
  clear e
  have e := hb
  clear hb
  have q : Q (.bl b) H := d.now R (.bl b)
  have hint : ∀ {i : Int} {x : V}, RV g ρ H (.int i) x → x = .int i := fun r => by cases r; rfl
  have eqdn : ∀ {a b : MV} {k : Bool}, eqD a b hm = some k → ∀ {x y : V}, RV g ρ H a x → RV g ρ H b y → ∃ d e, Dp X.K H x d ∧ Dp X.K H y e ∧ SeqAt.shaped d = true ∧ SeqAt.shaped e = true ∧ PyData.eqv d e = k := fun {a b k} e {x y} ra rb => by
    unfold eqD at e
    split at e
    · rename_i d1 e1 h1 h2
      split at e
      · rename_i hs
        rw [Bool.and_eq_true] at hs
        cases e
        exact ⟨d1, e1, hK ▸ R.dp ra h1, hK ▸ R.dp rb h2, hs.1, hs.2, rfl⟩
      · cases e
    · cases e
  unfold cop at e
  split at e
  · cases e
    have ho' : o = .Lt := by cases o <;> first | rfl | cases ho
    subst ho'
    exact op_lt pins s σ0 H x y v0 u0 Q I rx ry ⟨_, _, hint rv, hint rw', q⟩
  · cases e
    have ho' : o = .LtE := by cases o <;> first | rfl | cases ho
    subst ho'
    exact op_le pins s σ0 H x y v0 u0 Q I rx ry ⟨_, _, hint rv, hint rw', q⟩
  · cases e
    have ho' : o = .Gt := by cases o <;> first | rfl | cases ho
    subst ho'
    exact op_gt pins s σ0 H x y v0 u0 Q I rx ry ⟨_, _, hint rv, hint rw', q⟩
  · cases e
    have ho' : o = .GtE := by cases o <;> first | rfl | cases ho
    subst ho'
    exact op_ge pins s σ0 H x y v0 u0 Q I rx ry ⟨_, _, hint rv, hint rw', q⟩
  · rename_i i j
    cases e
    have ho' : o = .Eq := by cases o <;> first | rfl | cases ho
    subst ho'
    have e1 := hint rv
    have e2 := hint rw'
    subst e1
    subst e2
    refine op_eq pins s σ0 H _ _ v0 u0 Q I rx ry ⟨rfl, ?_⟩
    rw [dec_int, ← Bool.beq_eq_decide_eq] at *
    exact q
  · rename_i i j
    cases e
    have ho' : o = .NotEq := by cases o <;> first | rfl | cases ho
    subst ho'
    have e1 := hint rv
    have e2 := hint rw'
    subst e1
    subst e2
    refine op_ne pins s σ0 H _ _ v0 u0 Q I rx ry ⟨rfl, ?_⟩
    rw [dec_int, ← Bool.beq_eq_decide_eq] at *
    exact q
  · have ho' : o = .Eq := by cases o <;> first | rfl | cases ho
    subst ho'
    obtain ⟨d1, e1, h1, h2, h3, h4, h5⟩ := eqdn e rv rw'
    exact op_eqD hu pins s σ0 H _ _ v0 u0 Q I rx ry ⟨d1, e1, h1, h2, h3, h4, by rw [h5]; exact q⟩
  · have ho' : o = .NotEq := by cases o <;> first | rfl | cases ho
    subst ho'
    obtain ⟨k, e0, rfl⟩ := Option.map_eq_some_iff.mp e
    obtain ⟨d1, e1, h1, h2, h3, h4, h5⟩ := eqdn e0 rv rw'
    exact op_neD hu pins s σ0 H _ _ v0 u0 Q I rx ry ⟨d1, e1, h1, h2, h3, h4, by rw [h5]; exact q⟩
  · have ho' : o = .In := by cases o <;> first | rfl | cases ho
    subst ho'
    split at e
    · rename_i xs hx
      split at e
      · rename_i hf
        rw [Bool.and_eq_true] at hf
        cases e
        obtain ⟨a, vs, rfl, hs, rs⟩ := R.seq rw' hx
        rw [hK] at hs
        exact op_in_seq pins s σ0 H _ _ v0 u0 Q I rx ry ⟨a, vs, rfl, hs, flat_of rv hf.1, flats_of rs hf.2, by rw [← inF_of rv hf.1 rs hf.2]; exact q⟩
      · cases e
    · cases e
  · have ho' : o = .NotIn := by cases o <;> first | rfl | cases ho
    subst ho'
    split at e
    · rename_i xs hx
      split at e
      · rename_i hf
        rw [Bool.and_eq_true] at hf
        cases e
        obtain ⟨a, vs, rfl, hs, rs⟩ := R.seq rw' hx
        rw [hK] at hs
        exact op_notIn_seq pins s σ0 H _ _ v0 u0 Q I rx ry ⟨a, vs, rfl, hs, flat_of rv hf.1, flats_of rs hf.2, by rw [← inF_of rv hf.1 rs hf.2]; exact q⟩
      · cases e
    · cases e
  · have ho' : o = .Is := by cases o <;> first | rfl | cases ho
    subst ho'
    have ey : y = .non := by cases rw'; rfl
    split at e
    · cases e
      cases rv
      exact op_isN pins s σ0 H _ _ v0 u0 Q I rx ry ⟨ey, q⟩
    · rename_i nv
      cases e
      refine op_isN pins s σ0 H _ _ v0 u0 Q I rx ry ⟨ey, ?_⟩
      have nx : decide (x = V.non) = false := decide_eq_false fun h => by
        subst h
        cases rv
        exact nv rfl
      rw [nx]
      exact q
  · have ho' : o = .IsNot := by cases o <;> first | rfl | cases ho
    subst ho'
    have ey : y = .non := by cases rw'; rfl
    split at e
    · cases e
      cases rv
      exact op_notN pins s σ0 H _ _ v0 u0 Q I rx ry ⟨ey, q⟩
    · rename_i nv
      cases e
      refine op_notN pins s σ0 H _ _ v0 u0 Q I rx ry ⟨ey, ?_⟩
      have nx : decide (x = V.non) = false := decide_eq_false fun h => by
        subst h
        cases rv
        exact nv rfl
      rw [nx]
      exact q
  · cases e
    have ho' : o = .Is := by cases o <;> first | rfl | cases ho
    subst ho'
    cases rv
    cases rw'
    exact op_isBl pins s σ0 H _ _ v0 u0 Q I rx ry ⟨_, _, rfl, rfl, q⟩
  · cases e
    have ho' : o = .IsNot := by cases o <;> first | rfl | cases ho
    subst ho'
    cases rv
    cases rw'
    exact op_notBl pins s σ0 H _ _ v0 u0 Q I rx ry ⟨_, _, rfl, rfl, q⟩
  · cases e
end
end Mi

/-! Mi4: the text's expressions compute what the small language computes: rule by rule. -/
namespace Mi
open PySem PySem.Spec PyProof.Rows L2

/-- the built-ins' names that the small language knows -/
def BN : List Str := ["abs", "max", "min", "int", "len", "sum", "all", "any", "tuple", "list", "range", "enumerate", "zip", "isinstance", "bool", "str", "sorted", "reversed"]
structure GOk (G : CG) (g : GE) (K : PySem.W.Frag) (mg : Str → Option Value) : Prop where
  hK : g.K = K
  fn : ∀ (i : Nat) (x : Str), G.fns[i]? = some x → ∃ a, g.fa i = some a ∧ mg x = some (.ref a) ∧ PySem.W.keepIn K (.ref a) = true
  cst : ∀ (x : Str) (v : MV), G.cst.lookup x = some v → ∃ u w, mg x = some u ∧ RelV w u ∧ NL v ∧ ∀ ρ H, RV g ρ H v w
  blt : ∀ x, x ∈ BN → mg x = none

abbrev RelH (g : GE) (ρ : Rh) (hm : Hm) (H : Hp) : Prop := Rel g ρ [] hm [] H
/-- what a def's call wants -/
def FinC (g : GE) (ρ : Rh) (H : Hp) (r : Res MV) (Q : VK) (E : XK) : Prop := match r with
  | .ok v h => ∀ ρ' H' x, Post ρ H ρ' H' → RelH g ρ' h H' → RV g ρ' H' v x → (∀ a, TV v x a → H a = none ∧ ρ'.b a) → Q x H'
  | .ex e h => ∀ ρ' H' c d, Post ρ H ρ' H' → RelH g ρ' h H' → EXR g ρ' H' e c d → E c d H'
/-- the promise of the i-th def: it does what the small language does -/
def spM (g : GE) (P : List FnD) (d : Nat) (i : Nat) : Sp := fun vs H Q E => ∃ ρ0 H0 ρ hm xs r, (∀ a, ρ0.b a → H0 a ≠ none) ∧ Post ρ0 H0 ρ H ∧ RelH g ρ hm H ∧ RVs g ρ H xs vs ∧ Apart xs vs ∧ (∀ a, TVs xs vs a → H0 a = none ∧ ρ.b a) ∧ calls P d i xs hm = some r ∧ FinC g ρ0 H0 r Q E

structure XOk (G : CG) (g : GE) (P : List FnD) (d : Nat) (W : WX) (sc : Scope) (X : Cx) : Prop where
  go : GOk G g X.K X.mg
  nd : X.N.Nodup
  calm : X.calm = true
  sc : X.env.scope = sc
  room : Room d X.A
  fn : ∀ (i : Nat) (x : Str) (a : Addr), G.fns[i]? = some x → g.fa i = some a → ∃ fd ps, FnOk X.prog X.w X.K X.mg X.base (L2.CX X.prog X.w) d a fd ps (spM g P d i) ∧ Binds X.K fd ps []
  tk : Takes X W

theorem Rel.noLoc {g : GE} {ρ : Rh} {σm : Loc} {hm : Hm} {σ : L2.St} {H : Hp} (R : Rel g ρ σm hm σ H) : RelH g ρ hm H := ⟨R.len, R.nd, R.obj, R.pur, rfl, fun i v h => by simp at h, fun i xs h => by simp at h, R.blk⟩
theorem Rel.after {g : GE} {ρ ρ' : Rh} {σm : Loc} {hm hm' : Hm} {σ : L2.St} {H H' : Hp} (R : Rel g ρ σm hm σ H) (p : Post ρ H ρ' H') (R' : RelH g ρ' hm' H') : Rel g ρ' σm hm' σ H' :=
  ⟨R'.len, R'.nd, R'.obj, R'.pur, R.slen, fun i v h => by
    obtain ⟨x, e, r⟩ := R.loc i v h
    exact ⟨x, e, r.post p R.noT⟩, R.nol, R'.blk⟩

theorem slot_get {N : List Str} {x : Str} {i : Nat} (h : slot N x = some i) : N[i]? = some x := by
  unfold slot at h
  obtain ⟨hi, e, _⟩ := List.findIdx?_eq_some_iff_getElem.mp h
  rw [List.getElem?_eq_getElem hi]
  exact congrArg some (eq_of_beq e)
theorem okName_d {x : Str} (h : okName x = true) : (x == ("__debug__" : Str)) = false := by
  unfold okName at h
  simp only [Bool.and_eq_true, Bool.not_eq_true'] at h
  exact h.1.1
theorem okName_c {x : Str} (h : okName x = true) : (x == ("__classdict__" : Str)) = false := by
  unfold okName at h
  simp only [Bool.and_eq_true, Bool.not_eq_true'] at h
  exact h.1.2
theorem okName_n {x : Str} (h : okName x = true) : x ≠ "__name__" := by
  unfold okName at h
  simp only [Bool.and_eq_true, Bool.not_eq_true'] at h
  exact fun e => by
    have := h.2
    rw [e] at this
    simp at this
theorem isVis_of {sc : Scope} {x : Str} (h : isVis sc x = true) : Vis sc x := by
  unfold isVis at h
  split at h
  · exact .inl (by assumption)
  · exact .inr (.inl (by assumption))
  · exact .inr (.inr (by assumption))
  · cases h
theorem isGl_of {sc : Scope} {x : Str} (h : isGl sc x = true) : sc.names.lookup x = some .globalImplicit := by
  unfold isGl at h
  split at h
  · assumption
  · cases h

section
variable {G : CG} {g : GE} {P : List FnD} {d : Nat} {W : WX} {sc : Scope} {X : Cx}

abbrev SE (g : GE) (P : List FnD) (d : Nat) (W : WX) (X : Cx) (e : Expr) (m : ME) : Prop := PE X e (LE g W (evalE (calls P d) m))
abbrev SA (g : GE) (P : List FnD) (d : Nat) (W : WX) (X : Cx) (e : List Expr) (m : List ME) : Prop := PA X e (LA g W (evalEs (calls P d) m))
abbrev ST (g : GE) (P : List FnD) (d : Nat) (W : WX) (X : Cx) (e : Expr) (m : ME) : Prop := PT X e (LT g W (evalC (calls P d) (some m)))
abbrev SO (g : GE) (P : List FnD) (d : Nat) (W : WX) (X : Cx) (e : Option Expr) (m : Option ME) : Prop := PO X e (L g W (kB (α := Option Int)) (evalO (calls P d) m))

theorem XOk.gl (ok : XOk G g P d W sc X) {x : Str} (h : isGl sc x = true) : Gl X x := by
  show X.env.scope.names.lookup x = _
  rw [ok.sc]
  exact isGl_of h
theorem s_var (ok : XOk G g P d W sc X) {x : Str} {pos : Pos} {i : Nat} (hv : isVis sc x = true) (ho : okName x = true) (hi : slot X.N x = some i) : SE g P d W X (.Name x pos) (.var i) := by
  refine PE.imp (pe_var (slot_get hi) (by rw [ok.sc]; exact isVis_of hv) (okName_d ho) (okName_c ho)) fun σ H Q ⟨ρ, σm, hm, r, R, e, F⟩ => ?_
  simp only [evalE] at e
  split at e
  · rename_i v hv
    cases e
    obtain ⟨x, e1, r1⟩ := R.loc _ _ hv
    exact ⟨x, e1, F.okE R r1 (nol_NL (R.nol _ v hv))⟩
  · cases e
theorem s_glob (ok : XOk G g P d W sc X) {x : Str} {pos : Pos} {v : MV} (hg : isGl sc x = true) (ho : okName x = true) (hc : G.cst.lookup x = some v) : SE g P d W X (.Name x pos) (.cst v) := by
  obtain ⟨u, w, h1, h2, nl, h3⟩ := ok.go.cst x v hc
  refine PE.imp (pe_glob (ok.gl hg) h1 h2 (okName_d ho)) fun σ H Q ⟨ρ, σm, hm, r, R, e, F⟩ => ?_
  simp only [evalE] at e
  cases e
  exact F.okE R (h3 ρ H) nl
theorem s_cst {e : Expr} {v : MV} {w : V} (h : PE X e (tC w)) (nl : NL v) (hr : ∀ ρ H, RV g ρ H v w) : SE g P d W X e (.cst v) := by
  refine PE.imp h fun σ H Q ⟨ρ, σm, hm, r, R, e, F⟩ => ?_
  simp only [evalE] at e
  cases e
  exact F.okE R (hr ρ H) nl
theorem s_bin (ok : XOk G g P d W sc X) {a b : Expr} {x y : ME} {o : Operator} {bo : BO} {pos : Pos} (ho : boOf o = some bo) (ha : SE g P d W X a x) (hb : SE g P d W X b y) : SE g P d W X (.BinOp a o b pos) (.bin bo x y) := by
  refine PE.imp (pe_op (opr_bin ok.go.hK ho) ha hb) fun σ H Q ⟨ρ, σm, hm, r, R, e, F⟩ => ?_
  simp only [evalE] at e
  refine L.bnd R e F fun ρ1 H1 v hm1 x1 p1 R1 r1 fr1 e F => L.bnd R1 e F fun ρ2 H2 w hm2 y1 p2 R2 r2 fr2 e F => ?_
  cases hz : bop bo v w hm2 with
  | none => rw [hz] at e; cases e
  | some z =>
    rw [hz] at e
    cases e
    exact ⟨ρ2, σm, hm2, σ, v, w, z, R2, r1.post p2 R1.noT, r2, hz, F.done⟩
theorem s_cmp (ok : XOk G g P d W sc X) {a b : Expr} {x y : ME} {o : CmpOp} {co : CO} {pos : Pos} (ho : coOf o = some co) (hm : behindInMarks o b = false) (ha : SE g P d W X a x) (hb : SE g P d W X b y) : SE g P d W X (.Compare a [o] [b] pos) (.cmp co x y) := by
  refine PE.imp (pe_cmpR (opr_cmp ok.go.hK ok.room.units ho) ha hb hm) fun σ H Q ⟨ρ, σm, hm, r, R, e, F⟩ => ?_
  simp only [evalE] at e
  refine L.bnd R e F fun ρ1 H1 v hm1 x1 p1 R1 r1 fr1 e F => L.bnd R1 e F fun ρ2 H2 w hm2 y1 p2 R2 r2 fr2 e F => ?_
  cases hz : (cop co v w hm2).map MV.bl with
  | none => rw [hz] at e; cases e
  | some z =>
    rw [hz] at e
    cases e
    exact ⟨ρ2, σm, hm2, σ, v, w, z, R2, r1.post p2 R1.noT, r2, hz, F.done⟩
theorem cop_bl {co : CO} {v w z : MV} {hm : Hm} (h : (cop co v w hm).map MV.bl = some z) : ∃ b, z = .bl b := by
  obtain ⟨b, _, e⟩ := Option.map_eq_some_iff.mp h
  exact ⟨b, e.symm⟩
theorem st_cmp (ok : XOk G g P d W sc X) {a b : Expr} {x y : ME} {o : CmpOp} {co : CO} {pos : Pos} (ho : coOf o = some co) (hm : behindInMarks o b = false) (ha : SE g P d W X a x) (hb : SE g P d W X b y) : ST g P d W X (.Compare a [o] [b] pos) (.cmp co x y) := by
  refine PT.imp (pt_cmpR (opr_cmp ok.go.hK ok.room.units ho) ha hb hm) fun σ H Q ⟨ρ, σm, hm, r, R, e, F⟩ => ?_
  simp only [evalC, evalE] at e
  have e : bnd (evalE (calls P d) x σm hm) (fun v h1 => bnd (bnd (evalE (calls P d) y σm h1) fun w h2 => lift ((cop co v w h2).map MV.bl) h2) fun v h => lift (truth h v) h) = some r := by
    rw [← e]
    cases evalE (calls P d) x σm hm with
    | none => rfl
    | some q => cases q <;> rfl
  refine L.bnd R e F fun ρ1 H1 v hm1 x1 p1 R1 r1 fr1 e F => ?_
  have e : bnd (evalE (calls P d) y σm hm1) (fun w h2 => bnd (lift ((cop co v w h2).map MV.bl) h2) fun v h => lift (truth h v) h) = some r := by
    rw [← e]
    cases evalE (calls P d) y σm hm1 with
    | none => rfl
    | some q => cases q <;> rfl
  refine L.bnd R1 e F fun ρ2 H2 w hm2 y1 p2 R2 r2 fr2 e F => ?_
  cases hz : (cop co v w hm2).map MV.bl with
  | none => rw [hz] at e; cases e
  | some z =>
    rw [hz] at e
    obtain ⟨b, rfl⟩ := cop_bl hz
    have e : some (Res.ok b hm2) = some r := e
    cases e
    refine ⟨ρ2, σm, hm2, σ, v, w, _, R2, r1.post p2 R1.noT, r2, hz, fun ρ' H' z p R' rz _ => ?_⟩
    cases rz
    exact ⟨b, rfl, F ρ' H' b p R' rfl fun _ h => h.elim⟩

theorem bnd_assoc {α β γ : Type} (x : RO α) (f : α → Hm → RO β) (k : β → Hm → RO γ) : bnd (bnd x f) k = bnd x fun a h => bnd (f a h) k := by
  cases x with
  | none => rfl
  | some q => cases q <;> rfl
theorem Rel.truV {ρ : Rh} {σm : Loc} {hm : Hm} {σ : L2.St} {H : Hp} (R : Rel g ρ σm hm σ H) {v : MV} {x : V} {b : Bool} (r : RV g ρ H v x) (e : truth hm v = some b) : TruV g.K x H b := by
  cases r with
  | non => simp only [truth] at e; cases e; rfl
  | bl _ => simp only [truth] at e; cases e; rfl
  | int _ => simp only [truth] at e; cases e; rfl
  | str s =>
    simp only [truth] at e
    split at e
    · rename_i hz
      cases e
      rw [sizeMax_eq] at hz
      exact ⟨hz, rfl⟩
    · cases e
  | tup h t => simp only [truth] at e; cases e; exact .inr (.inl ⟨_, h, by rw [t.isEmpty]⟩)
  | fn _ => simp only [truth] at e; cases e
  | lst h m t =>
    simp only [truth] at e
    split at e
    · rename_i xs hx
      cases e
      obtain ⟨a, vs, e1, hs, rs⟩ := R.items (.lst h m t) hx
      cases e1
      exact .inl ⟨vs, hs, by rw [rs.isEmpty]⟩
    · cases e
  | scr h =>
    simp only [truth] at e
    split at e
    · rename_i xs hx
      cases e
      obtain ⟨a, vs, e1, hs, rs⟩ := R.items (.scr h) hx
      cases e1
      exact .inl ⟨vs, hs, by rw [rs.isEmpty]⟩
    · cases e
  | fz h m t =>
    simp only [truth] at e
    split at e
    · rename_i xs hx
      cases e
      obtain ⟨a, vs, e1, hs, rs⟩ := R.items (.fz h m t) hx
      cases e1
      exact .inl ⟨vs, hs, by rw [rs.isEmpty]⟩
    · cases e
  | ref h =>
    simp only [truth] at e
    split at e
    · rename_i xs hx
      cases e
      obtain ⟨a, vs, e1, hs, rs⟩ := R.items (.ref h) hx
      cases e1
      exact .inl ⟨vs, hs, by rw [rs.isEmpty]⟩
    · cases e
/-- a test that is its value's truth -/
theorem st_truth (ok : XOk G g P d W sc X) {a : Expr} {x : ME} (ha : SE g P d W X a x) (he : ∀ whole, isTrue a X.env whole = (do let v ← whole; standAt a.pos; holding [v] (truthy v))) : ST g P d W X a x := by
  refine PT.imp (pt_truth ha he) fun σ H Q ⟨ρ, σm, hm, r, R, e, F⟩ => ?_
  simp only [evalC] at e
  refine L.bnd R e F fun ρ1 H1 v hm1 x1 p1 R1 r1 fr1 e F => ?_
  cases hz : truth hm1 v with
  | none => rw [hz] at e; cases e
  | some b =>
    rw [hz] at e
    cases e
    exact ⟨b, ok.go.hK ▸ R1.truV r1 hz, F.okB R1⟩
theorem s_neg {a : Expr} {x : ME} {pos : Pos} (ha : SE g P d W X a x) : SE g P d W X (.UnaryOp .USub a pos) (.neg x) := by
  refine PE.imp (pe_un un_neg ha) fun σ H Q ⟨ρ, σm, hm, r, R, e, F⟩ => ?_
  simp only [evalE] at e
  refine L.bnd R e F fun ρ1 H1 v hm1 x1 p1 R1 r1 fr1 e F => ?_
  split at e
  · cases e
    cases r1
    exact ⟨_, rfl, F.okE R1 (.int _)⟩
  · cases e
/-- what a test gives -/
theorem evalC_bnd {α : Type} {x : ME} {σm : Loc} {hm : Hm} {k : Bool → Hm → RO α} :
    bnd (evalC (calls P d) (some x) σm hm) k = bnd (evalE (calls P d) x σm hm) fun v h => match truth h v with
      | some b => k b h
      | none => none := by
  simp only [evalC]
  rw [bnd_assoc]
  congr 1
  funext v h
  cases truth h v <;> rfl
theorem s_not {a : Expr} {x : ME} {pos : Pos} (ok : XOk G g P d W sc X) (ha : SE g P d W X a x) : SE g P d W X (.UnaryOp .Not a pos) (.not x) := by
  refine PE.imp (pe_notT ha) fun σ H Q ⟨ρ, σm, hm, r, R, e, F⟩ => ?_
  simp only [evalE] at e
  refine L.bnd R e F fun ρ1 H1 v hm1 x1 p1 R1 r1 fr1 e F => ?_
  cases hz : truth hm1 v with
  | none => rw [hz] at e; cases e
  | some b =>
    rw [hz] at e
    cases e
    exact ⟨b, ok.go.hK ▸ R1.truV r1 hz, F.okE R1 (.bl _)⟩
theorem st_not {a : Expr} {x : ME} {pos : Pos} (ha : ST g P d W X a x) : ST g P d W X (.UnaryOp .Not a pos) (.not x) := by
  refine PT.imp (pt_not ha) fun σ H Q ⟨ρ, σm, hm, r, R, e, F⟩ => ?_
  have e : bnd (evalC (calls P d) (some x) σm hm) (fun b h => some (.ok (!b) h)) = some r := by
    rw [← e, evalC_bnd]
    simp only [evalC, evalE, bnd_assoc]
    congr 1
    funext v h
    cases truth h v <;> rfl
  refine L.bnd R e F fun ρ1 H1 v hm1 x1 p1 R1 r1 fr1 e F => ?_
  cases e
  subst r1
  exact F.okB R1
theorem s_and {a b : Expr} {r : List Expr} {x y : ME} {pos : Pos} (ok : XOk G g P d W sc X) (ha : SE g P d W X a x) (hb : SE g P d W X (.BoolOp .And (b :: r) pos) y) : SE g P d W X (.BoolOp .And (a :: b :: r) pos) (.and x y) := by
  refine PE.imp (pe_andT ha hb) fun σ H Q ⟨ρ, σm, hm, r, R, e, F0⟩ => ?_
  simp only [evalE] at e
  refine L.bnd R e F0 fun ρ1 H1 v hm1 x1 p1 R1 r1 fr1 e F => ?_
  cases hz : truth hm1 v with
  | none => rw [hz] at e; cases e
  | some b =>
    rw [hz] at e
    refine ⟨b, ok.go.hK ▸ R1.truV r1 hz, ?_⟩
    cases b with
    | true => exact L.of R1 e F
    | false =>
      cases e
      exact F0 _ _ _ p1 R1 r1 fr1
theorem s_or {a b : Expr} {r : List Expr} {x y : ME} {pos : Pos} (ok : XOk G g P d W sc X) (ha : SE g P d W X a x) (hb : SE g P d W X (.BoolOp .Or (b :: r) pos) y) : SE g P d W X (.BoolOp .Or (a :: b :: r) pos) (.or x y) := by
  refine PE.imp (pe_orT ha hb) fun σ H Q ⟨ρ, σm, hm, r, R, e, F0⟩ => ?_
  simp only [evalE] at e
  refine L.bnd R e F0 fun ρ1 H1 v hm1 x1 p1 R1 r1 fr1 e F => ?_
  cases hz : truth hm1 v with
  | none => rw [hz] at e; cases e
  | some b =>
    rw [hz] at e
    refine ⟨b, ok.go.hK ▸ R1.truV r1 hz, ?_⟩
    cases b with
    | true =>
      cases e
      exact F0 _ _ _ p1 R1 r1 fr1
    | false => exact L.of R1 e F
/-- as a test, whatever stands around -/
abbrev SW (g : GE) (P : List FnD) (d : Nat) (W : WX) (X : Cx) (e : Expr) (m : ME) : Prop := PW X e (LT g W (evalC (calls P d) (some m)))
theorem PW.imp {e : Expr} {t t' : TT} (h : PW X e t) (i : ∀ σ H Q, t' σ H Q → t σ H Q) : PW X e t' := ⟨fun wh pins s σ H Q I q => h.run wh pins s σ H Q I (i σ H Q q)⟩
theorem sw_and {a b : Expr} {r : List Expr} {x y : ME} {pos : Pos} (ha : ST g P d W X a x) (hb : SW g P d W X (.BoolOp .And (b :: r) pos) y) : SW g P d W X (.BoolOp .And (a :: b :: r) pos) (.and x y) := by
  refine PW.imp (pw_and ha hb) fun σ H Q ⟨ρ, σm, hm, r, R, e, F⟩ => ?_
  have e : bnd (evalC (calls P d) (some x) σm hm) (fun b h => match b with
      | true => evalC (calls P d) (some y) σm h
      | false => some (.ok false h)) = some r := by
    rw [← e, evalC_bnd]
    simp only [evalC, evalE, bnd_assoc]
    congr 1
    funext v h
    cases hz : truth h v with
    | none => rfl
    | some b =>
      cases b with
      | true => rfl
      | false => simp [hz]
  refine L.bnd R e F fun ρ1 H1 v hm1 x1 p1 R1 r1 fr1 e F => ?_
  subst r1
  cases v with
  | true => exact iteT (L.of R1 e F)
  | false =>
    cases e
    exact iteF (F.okB R1)
theorem sw_or {a b : Expr} {r : List Expr} {x y : ME} {pos : Pos} (ha : ST g P d W X a x) (hb : SW g P d W X (.BoolOp .Or (b :: r) pos) y) : SW g P d W X (.BoolOp .Or (a :: b :: r) pos) (.or x y) := by
  refine PW.imp (pw_or ha hb) fun σ H Q ⟨ρ, σm, hm, r, R, e, F⟩ => ?_
  have e : bnd (evalC (calls P d) (some x) σm hm) (fun b h => match b with
      | false => evalC (calls P d) (some y) σm h
      | true => some (.ok true h)) = some r := by
    rw [← e, evalC_bnd]
    simp only [evalC, evalE, bnd_assoc]
    congr 1
    funext v h
    cases hz : truth h v with
    | none => rfl
    | some b =>
      cases b with
      | false => rfl
      | true => simp [hz]
  refine L.bnd R e F fun ρ1 H1 v hm1 x1 p1 R1 r1 fr1 e F => ?_
  subst r1
  cases v with
  | false => exact iteF (L.of R1 e F)
  | true =>
    cases e
    exact iteT (F.okB R1)
theorem s_ite {c a b : Expr} {x y z : ME} {pos : Pos} (hc : ST g P d W X c x) (ha : SE g P d W X a y) (hb : SE g P d W X b z) : SE g P d W X (.IfExp c a b pos) (.ite x y z) := by
  refine PE.imp (pe_ifExp hc ha hb) fun σ H Q ⟨ρ, σm, hm, r, R, e, F⟩ => ?_
  have e : bnd (evalC (calls P d) (some x) σm hm) (fun b h => match b with
      | true => evalE (calls P d) y σm h
      | false => evalE (calls P d) z σm h) = some r := by
    rw [← e, evalC_bnd]
    simp only [evalE]
    congr 1
    funext v h
    cases hz : truth h v with
    | none => rfl
    | some b => cases b <;> rfl
  refine L.bnd R e F fun ρ1 H1 v hm1 x1 p1 R1 r1 fr1 e F => ?_
  subst r1
  cases v with
  | true => exact iteT (L.of R1 e F)
  | false => exact iteF (L.of R1 e F)
theorem pt_ifExp {c a b : Expr} {tc ta tb : TT} {pos : Pos} (hc : PT X c tc) (ha : PT X a ta) (hb : PT X b tb) : PT X (.IfExp c a b pos) (fun σ H Q => tc σ H fun k H1 => if k = true then ta σ H1 Q else tb σ H1 Q) := by
  refine ⟨fun pins s σ H Q I h => ?_⟩
  have e : isTrue (.IfExp c a b pos) X.env (eval (.IfExp c a b pos) X.env) = (do
    if ← isTrue c X.env (eval c X.env) then isTrue a X.env (eval a X.env) else isTrue b X.env (eval b X.env)) := by
    rw [PySem.isTrue]
  rw [e]
  refine wpAny_bind (thn (hc.run pins s σ H _ I h) fun k s1 ⟨H1, I1, q1⟩ => ?_)
  cases k with
  | true => exact ha.run pins s1 σ H1 Q I1 q1
  | false => exact hb.run pins s1 σ H1 Q I1 q1
theorem st_ite {c a b : Expr} {x y z : ME} {pos : Pos} (hc : ST g P d W X c x) (ha : ST g P d W X a y) (hb : ST g P d W X b z) : ST g P d W X (.IfExp c a b pos) (.ite x y z) := by
  refine PT.imp (pt_ifExp hc ha hb) fun σ H Q ⟨ρ, σm, hm, r, R, e, F⟩ => ?_
  have e : bnd (evalC (calls P d) (some x) σm hm) (fun b h => match b with
      | true => evalC (calls P d) (some y) σm h
      | false => evalC (calls P d) (some z) σm h) = some r := by
    rw [← e, evalC_bnd]
    simp only [evalC, evalE, bnd_assoc]
    congr 1
    funext v h
    cases hz : truth h v with
    | none => rfl
    | some b => cases b <;> rfl
  refine L.bnd R e F fun ρ1 H1 v hm1 x1 p1 R1 r1 fr1 e F => ?_
  subst r1
  cases v with
  | true => exact iteT (L.of R1 e F)
  | false => exact iteF (L.of R1 e F)

/-! ### argument lists, displays -/
theorem sa_nil : SA g P d W X [] [] := by
  refine PA.imp pa_nil fun σ H Q ⟨ρ, σm, hm, r, R, e, F⟩ => ?_
  simp only [evalEs] at e
  cases e
  exact F.ok R ⟨.nil, trivial⟩ fun a ⟨i, v, x, h, _⟩ => by simp at h
theorem star_cons {e : Expr} {es : List Expr} {env : Env} (h : noStar e = true) : starEach (e :: es) env = (false, eval e env) :: starEach es env := by
  cases e <;> first | rfl | exact absurd h Bool.false_ne_true
theorem sa_cons {a : Expr} {r : List Expr} {x : ME} {xs : List ME} (hs : noStar a = true) (ha : SE g P d W X a x) (hr : SA g P d W X r xs) : SA g P d W X (a :: r) (x :: xs) := by
  refine PA.imp (pa_cons ha hr (star_cons hs)) fun σ H Q ⟨ρ, σm, hm, r, R, e, F0⟩ => ?_
  simp only [evalEs] at e
  refine L.bnd R e F0 fun ρ1 H1 v hm1 x1 p1 R1 r1 fr1 e _ => L.bnd R1 e (F0.post p1) fun ρ2 H2 w hm2 y1 p2 R2 r2 fr2 e _ => ?_
  cases e
  refine F0 _ _ _ (p1.trans p2) R2 ⟨.cons (r1.post p2 R1.noT) r2.1, fun a ha hb => ?_, r2.2⟩ fun a ⟨i, v', x', h1, h2, h3⟩ => ?_
  · have h0 := (fr2 a hb).1
    obtain ⟨⟨xs, e⟩, e2⟩ := ha
    subst e
    subst e2
    cases r1 with
    | lst hh _ _ => rw [hh] at h0; cases h0
  · cases i with
    | zero =>
      simp at h1 h2
      subst h1
      subst h2
      exact ⟨(fr1 a h3).1, p2.blk a (fr1 a h3).2⟩
    | succ i =>
      have q := fr2 a ⟨i, v', x', by simpa using h1, by simpa using h2, h3⟩
      exact ⟨p1.more a q.1, q.2⟩
theorem evalEs_len {F : Calls} : ∀ {es : List ME} {σ : Loc} {h h' : Hm} {vs : List MV}, evalEs F es σ h = some (.ok vs h') → vs.length = es.length
  | [], σ, h, h', vs, e => by
    simp only [evalEs] at e
    cases e
    rfl
  | a :: r, σ, h, h', vs, e => by
    simp only [evalEs] at e
    cases h1 : evalE F a σ h with
    | none => rw [h1] at e; cases e
    | some q =>
      rw [h1] at e
      cases q with
      | ex e1 h2 => cases e
      | ok v h2 =>
        simp only [bnd_ok] at e
        cases h3 : evalEs F r σ h2 with
        | none => rw [h3] at e; cases e
        | some q =>
          rw [h3] at e
          cases q with
          | ex e1 h2 => cases e
          | ok w h4 =>
            cases e
            rw [List.length_cons, List.length_cons, evalEs_len h3]
theorem SA.len {es : List Expr} {xs : List ME} : ∀ {n : Nat} {N : List Str} {sc : Scope}, compEs G N n sc es = some xs → xs.length = es.length := by
  induction es generalizing xs with
  | nil =>
    intro n N sc e
    cases n with
    | zero => simp only [compEs] at e; cases e
    | succ n => simp only [compEs] at e; cases e; rfl
  | cons a r ih =>
    intro n N sc e
    cases n with
    | zero => simp only [compEs] at e; cases e
    | succ n =>
      simp only [compEs] at e
      split at e
      · split at e
        · rename_i h1 h2
          cases e
          rw [List.length_cons, List.length_cons, ih h2]
        · cases e
      · cases e
theorem L.bnd_len {σm : Loc} {hm : Hm} {σ : L2.St} {ρ : Rh} {H : Hp} {r : Res MV} {Q : VK} {xs : List ME} {k : List MV → Hm → RO MV} {Q' : List V → Hp → Prop} (hR : Rel g ρ σm hm σ H) (he : Mi.bnd (evalEs (calls P d) xs σm hm) k = some r)
    (hF : Fin g W (kE g) σm σ ρ H r Q)
    (h : ∀ ρ1 H1 v hm1 x, Post ρ H ρ1 H1 → Rel g ρ1 σm hm1 σ H1 → RVs g ρ1 H1 v x → (∀ a, TVs v x a → H a = none ∧ ρ1.b a) → v.length = xs.length → k v hm1 = some r → Fin g W (kE g) σm σ ρ1 H1 r Q → Q' x H1) : LA g W (evalEs (calls P d) xs) σ H Q' := by
  cases e : evalEs (calls P d) xs σm hm with
  | none => rw [e] at he; cases he
  | some q =>
    refine ⟨ρ, σm, hm, q, hR, e, ?_⟩
    rw [e] at he
    cases q with
    | ok v hm1 => exact fun ρ1 H1 x p R1 rv fr => h ρ1 H1 v hm1 x p R1 rv.1 fr (evalEs_len e) he (hF.post p)
    | ex ex hm1 =>
      have he : some (Res.ex ex hm1) = some r := he
      cases he
      exact hF
theorem s_tup {es : List Expr} {xs : List ME} {k : Nat} {pos : Pos} (h : SA g P d W X es xs) (hz : xs.length ≤ 1000) : SE g P d W X (.Tuple es k pos) (.tup xs) := by
  refine PE.imp (pe_tup h) fun σ H Q ⟨ρ, σm, hm, r, R, e, F⟩ => ?_
  simp only [evalE] at e
  refine L.bnd_len R e F fun ρ1 H1 v hm1 x1 p1 R1 r1 fr1 hl e _ => ?_
  cases e
  obtain ⟨b, hb, hT, p2, R2⟩ := R.unb p1 R1 fr1
  refine ⟨?_, (F.post p2).done.tup R2 ((r1.less hb).frz hT)⟩
  have := r1.length
  rw [sizeLine_eq]
  omega
theorem s_lst {es : List Expr} {xs : List ME} {pos : Pos} (h : SA g P d W X es xs) (hz : xs.length ≤ 1000) : SE g P d W X (.List es pos) (.lst xs) := by
  refine PE.imp (pe_lst h) fun σ H Q ⟨ρ, σm, hm, r, R, e, F⟩ => ?_
  simp only [evalE] at e
  refine L.bnd_len R e F fun ρ1 H1 v hm1 x1 p1 R1 r1 fr1 hl e _ => ?_
  cases e
  obtain ⟨b, hb, hT, p2, R2⟩ := R.unb p1 R1 fr1
  refine ⟨?_, (F.post p2).done.lst R2 ((r1.less hb).frz hT)⟩
  have := r1.length
  rw [sizeLine_eq]
  omega

/-! ### chains of two comparisons -/
theorem s_chn (ok : XOk G g P d W sc X) {a b c : Expr} {x y z : ME} {o o' : CmpOp} {co co' : CO} {pos : Pos} (ho : coOf o = some co) (ho' : coOf o' = some co') (hm : lastMarks [o, o'] [b, c] = false)
    (ha : SE g P d W X a x) (hb : SE g P d W X b y) (hc : SE g P d W X c z) : SE g P d W X (.Compare a [o, o'] [b, c] pos) (.chn co co' x y z) := by
  refine PE.imp (pe_chain (opr_cmp ok.go.hK ok.room.units ho) (opr_cmp ok.go.hK ok.room.units ho') ha hb hc hm) fun σ H Q ⟨ρ, σm, hm, r, R, e, F⟩ => ?_
  simp only [evalE] at e
  refine L.bnd R e F fun ρ1 H1 v hm1 x1 p1 R1 r1 fr1 e F => L.bnd R1 e F fun ρ2 H2 w hm2 y1 p2 R2 r2 fr2 e F => ?_
  cases hz : cop co v w hm2 with
  | none => rw [hz] at e; cases e
  | some k =>
    rw [hz] at e
    refine ⟨ρ2, σm, hm2, σ, v, w, .bl k, R2, r1.post p2 R1.noT, r2, (by show (cop co v w hm2).map MV.bl = _; rw [hz]; rfl), fun ρ3 H3 q p3 R3 rq _ => ?_⟩
    cases rq
    refine ⟨k, rfl, ?_⟩
    have F := F.post p3
    cases k with
    | false =>
      cases e
      exact iteF (F.okE R3 (.bl _))
    | true =>
      refine iteT (L.bnd R3 e F fun ρ4 H4 u hm4 z1 p4 R4 r4 fr4 e F => ?_)
      cases hz' : (cop co' w u hm4).map MV.bl with
      | none => rw [hz'] at e; cases e
      | some q =>
        rw [hz'] at e
        cases e
        exact ⟨ρ4, σm, hm4, σ, w, u, q, R4, (r2.post p3 R2.noT).post p4 R3.noT, r4, hz', F.done⟩
theorem st_chn (ok : XOk G g P d W sc X) {a b c : Expr} {x y z : ME} {o o' : CmpOp} {co co' : CO} {pos : Pos} (ho : coOf o = some co) (ho' : coOf o' = some co') (hm : lastMarks [o, o'] [b, c] = false)
    (ha : SE g P d W X a x) (hb : SE g P d W X b y) (hc : SE g P d W X c z) : ST g P d W X (.Compare a [o, o'] [b, c] pos) (.chn co co' x y z) := by
  refine PT.imp (pt_chain (opr_cmp ok.go.hK ok.room.units ho) (opr_cmp ok.go.hK ok.room.units ho') ha hb hc hm) fun σ H Q ⟨ρ, σm, hm, r, R, e, F⟩ => ?_
  simp only [evalC, evalE, bnd_assoc] at e
  refine L.bnd R e F fun ρ1 H1 v hm1 x1 p1 R1 r1 fr1 e F => L.bnd R1 e F fun ρ2 H2 w hm2 y1 p2 R2 r2 fr2 e F => ?_
  cases hz : cop co v w hm2 with
  | none => rw [hz] at e; cases e
  | some k =>
    rw [hz] at e
    refine ⟨ρ2, σm, hm2, σ, v, w, .bl k, R2, r1.post p2 R1.noT, r2, (by show (cop co v w hm2).map MV.bl = _; rw [hz]; rfl), fun ρ3 H3 q p3 R3 rq _ => ?_⟩
    cases rq
    refine ⟨k, rfl, ?_⟩
    have F := F.post p3
    cases k with
    | false =>
      cases e
      exact iteF ⟨false, rfl, F.okB R3⟩
    | true =>
      simp only [bnd_assoc] at e
      refine iteT (L.bnd R3 e F fun ρ4 H4 u hm4 z1 p4 R4 r4 fr4 e F => ?_)
      cases hz' : (cop co' w u hm4).map MV.bl with
      | none => rw [hz'] at e; cases e
      | some q =>
        rw [hz'] at e
        obtain ⟨b, rfl⟩ := cop_bl hz'
        have e : some (Res.ok b hm4) = some r := e
        cases e
        refine ⟨ρ4, σm, hm4, σ, w, u, _, R4, (r2.post p3 R2.noT).post p4 R3.noT, r4, hz', fun ρ' H' z p R' rz _ => ?_⟩
        cases rz
        exact ⟨b, rfl, F ρ' H' b p R' rfl fun _ h => h.elim⟩

/-! ### subscripts -/
theorem opr_ix (hK : g.K = X.K) : IxR X (rBin g ixV) := by
  intro value slice pins s σ0 H x y v0 u0 Q I rx ry h hs
  obtain ⟨ρ, σm, hm, σ, v, w, z, R, rv, rw', e, d⟩ := h
  refine ix_seq value slice pins s σ0 H x y v0 u0 Q I rx ry ?_ hs
  have seqC : ∀ {a : MV} {i : Int}, v = a → w = .int i → (∀ s, a ≠ .str s) → (match Mi.seq hm a with
    | some xs => (L2.atI xs i).bind unl
    | none => none) = some z → rIx X.K x y H Q := fun {a i} e1 e2 ns e9 => by
    subst e1
    subst e2
    cases rw'
    split at e9
    · rename_i xs hx
      obtain ⟨p, vs, rfl, hs, rs⟩ := R.seq rv hx
      rw [hK] at hs
      obtain ⟨z0, e8, e7⟩ := Option.bind_eq_some_iff.mp e9
      obtain ⟨rfl, nz⟩ := unl_of e7
      unfold atI at e8
      have lv := rs.length
      cases hj : ixN xs.length i with
      | none => rw [hj] at e8; cases e8
      | some j =>
        rw [hj] at e8
        obtain ⟨y1, g1, g2⟩ := rs.get (i := j) (x := z0) e8
        have ea : atI vs i = some y1 := by
          unfold atI
          rw [← lv, hj]
          exact g1
        rcases hs with hs | hs
        · exact .inl ⟨p, vs, i, y1, rfl, rfl, hs, ea, d.now R g2 nz⟩
        · exact .inr (.inl ⟨p, vs, i, y1, rfl, rfl, hs, ea, d.now R g2 nz⟩)
    · cases e9
  unfold ixV at e
  split at e
  · rename_i s1 i
    split at e
    · rename_i hz
      rw [sizeMax_eq] at hz
      obtain ⟨c, hc, rfl⟩ := Option.map_eq_some_iff.mp e
      cases rv
      cases rw'
      exact .inr (.inr ⟨s1, i, c, rfl, rfl, hz, hc, d.now R (.str _)⟩)
    · cases e
  · rename_i i ns
    exact seqC rfl rfl (fun s e => ns s e) e
  · cases e
theorem s_ix (ok : XOk G g P d W sc X) {a b : Expr} {x y : ME} {pos : Pos} (hp : PlainIx b) (ha : SE g P d W X a x) (hb : SE g P d W X b y) : SE g P d W X (.Subscript a b pos) (.ix x y) := by
  refine PE.imp (pe_ix (opr_ix ok.go.hK) ha hb hp) fun σ H Q ⟨ρ, σm, hm, r, R, e, F⟩ => ?_
  simp only [evalE] at e
  refine L.bnd R e F fun ρ1 H1 v hm1 x1 p1 R1 r1 fr1 e F => L.bnd R1 e F fun ρ2 H2 w hm2 y1 p2 R2 r2 fr2 e F => ?_
  cases hz : ixV v w hm2 with
  | none => rw [hz] at e; cases e
  | some z =>
    rw [hz] at e
    cases e
    exact ⟨ρ2, σm, hm2, σ, v, w, z, R2, r1.post p2 R1.noT, r2, hz, F.done⟩
theorem PO.imp {e : Option Expr} {t t' : TO} (h : PO X e t) (i : ∀ σ H Q, t' σ H Q → t σ H Q) : PO X e t' := ⟨fun pins s σ H Q I q => h.run pins s σ H Q I (i σ H Q q)⟩
theorem so_none : SO g P d W X none none := by
  refine PO.imp po_none fun σ H Q ⟨ρ, σm, hm, r, R, e, F⟩ => ?_
  simp only [evalO] at e
  cases e
  exact F.okB R
theorem so_some {a : Expr} {x : ME} (ha : SE g P d W X a x) : SO g P d W X (some a) (some x) := by
  refine PO.imp (po_some ha) fun σ H Q ⟨ρ, σm, hm, r, R, e, F⟩ => ?_
  simp only [evalO] at e
  refine L.bnd R e F fun ρ1 H1 v hm1 x1 p1 R1 r1 fr1 e F => ?_
  split at e
  · cases e
    cases r1
    exact ⟨_, rfl, F.okB R1⟩
  · cases e
theorem RVs.cut {ρ : Rh} {H : Hp} {xs : List MV} {vs : List V} (r : RVs g ρ H xs vs) (lo hi : Option Int) : RVs g ρ H (Mi.cut xs lo hi) (cutV vs lo hi) := by
  unfold Mi.cut cutV
  rw [r.length]
  exact (r.drop _).take _
theorem cut_all {α : Type} {xs : List α} {lo hi : Option Int} (h : HT.sIx xs.length 0 lo = 0 ∧ HT.sIx xs.length xs.length hi = xs.length) : Mi.cut xs lo hi = xs := by
  unfold Mi.cut
  rw [h.1, h.2, List.drop_zero, Nat.sub_zero, List.take_length]
def rSl (g : GE) : V → Option Int → Option Int → Hp → VK → Prop := fun x lo hi H Q => ∃ ρ σm hm σ v z, Rel g ρ σm hm σ H ∧ RV g ρ H v x ∧ slV v lo hi hm = some z ∧ Done g σm hm σ ρ H z Q
theorem opr_sl (hK : g.K = X.K) : SlR X (rSl g) := by
  intro pins s σ0 H x v0 vl vu lo hi sl Q I rx hs pl pu h
  obtain ⟨ρ, σm, hm, σ, v, z, R, rv, e, d⟩ := h
  have lst : ∀ {a : MV}, v = a → (match items hm a with
    | some xs => some (MV.lst (Mi.cut xs lo hi))
    | none => none) = some z → ∃ T id, typeLookup (.type T) "__getitem__" = pure (some (.builtin id)) ∧ s.TypeIs v0 T ∧ wpAny (model X.prog X.w) X.A (getItem v0 (.ref sl)) (EP X pins σ0 Q) X.xe s := fun {a} e1 e9 => by
    subst e1
    split at e9
    · rename_i xs hx
      cases e9
      obtain ⟨p, vs, rfl, hs', rs⟩ := R.items rv hx
      rw [hK] at hs'
      exact sl_list pins s σ0 H _ v0 vl vu lo hi sl Q I rx hs pl pu ⟨p, vs, rfl, hs', d.lst R (rs.cut lo hi)⟩
    · cases e9
  unfold slV at e
  split at e
  · cases e
    cases rv with
    | tup ht rs =>
      rename_i p vs
      rw [hK] at ht
      refine sl_tupA pins s σ0 H _ v0 vl vu lo hi sl Q I rx hs pl pu ⟨_, vs, rfl, ht, fun ha => ?_, fun _ => d.tup R (rs.cut lo hi)⟩
      rw [← rs.length] at ha
      exact d.now R (by rw [cut_all ha]; exact .tup (by rw [hK]; exact ht) rs)
  · exact lst rfl e
theorem s_sl (ok : XOk G g P d W sc X) {a : Expr} {lo hi : Option Expr} {x : ME} {l u : Option ME} {pos p2 : Pos} (ha : SE g P d W X a x) (hl : SO g P d W X lo l) (hu : SO g P d W X hi u) : SE g P d W X (.Subscript a (.Slice lo hi none p2) pos) (.sl x l u) := by
  refine PE.imp (pe_slice (opr_sl ok.go.hK) ha hl hu) fun σ H Q ⟨ρ, σm, hm, r, R, e, F⟩ => ?_
  simp only [evalE] at e
  refine L.bnd R e F fun ρ1 H1 v hm1 x1 p1 R1 r1 fr1 e F => L.bnd R1 e F fun ρ2 H2 i hm2 i1 p2 R2 r2 fr2 e F => L.bnd R2 e F fun ρ3 H3 j hm3 j1 p3 R3 r3 fr3 e F => ?_
  subst r2
  subst r3
  cases hz : slV v i j hm3 with
  | none => rw [hz] at e; cases e
  | some z =>
    rw [hz] at e
    cases e
    exact ⟨ρ3, σm, hm3, σ, v, z, R3, (r1.post p2 R1.noT).post p3 R2.noT, hz, F.done⟩
theorem s_rev (ok : XOk G g P d W sc X) {a : Expr} {x : ME} {k : Nat} {p1 p2 p3 pos : Pos} (ha : SE g P d W X a x) : SE g P d W X (.Subscript a (.Slice none none (some (.UnaryOp .USub (.Constant (.int 1) k p1) p2)) p3) pos) (.rev x) := by
  refine PE.imp (pe_revL ha) fun σ H Q ⟨ρ, σm, hm, r, R, e, F⟩ => ?_
  simp only [evalE] at e
  refine L.bnd R e F fun ρ1 H1 v hm1 x1 p1 R1 r1 fr1 e F => ?_
  split at e
  · rename_i xs hx
    cases e
    obtain ⟨p, vs, rfl, hs', rs⟩ := R1.items r1 hx
    rw [ok.go.hK] at hs'
    exact ⟨p, vs, rfl, hs', F.done.lst R1 rs.reverse⟩
  · cases e
end
end Mi

/-! Mi5: calls. -/
namespace Mi
open PySem PySem.Spec PyProof.Rows L2
section
variable {G : CG} {g : GE} {P : List FnD} {d : Nat} {W : WX} {sc : Scope} {X : Cx}

/-- a def's call; an exception that leaves it is wished for at the caller's slots -/
theorem pe_callW {k : Nat} {f : Addr} {fd : FuncData} {ps : List Str} {sp : Sp} {x : Str} {p pos : Pos} {e : Expr} {es : List Expr} {t : TA} (F : FnOk X.prog X.w X.K X.mg X.base (L2.CX X.prog X.w) k f fd ps sp) (hr : Room k X.A) (hg : Gl X x)
    (hm : X.mg x = some (.ref f)) (hk : PySem.W.keepIn X.K (.ref f) = true) (hb : Binds X.K fd ps []) (tk : Takes X W) (ha : PA X (e :: es) t) (hdb : (x == ("__debug__" : Str)) = false) (he : starEach (e :: es) X.env = (false, eval e X.env) :: starEach es X.env)
    (hpl : (backTo pos (starEach es X.env)).any (·.1) = false) : PE X (.Call (.Name x p) (e :: es) [] pos) (fun σ H Q => t σ H fun vs H1 => sp vs H1 Q (fun c d H' => W c d σ H')) := by
  refine ⟨fun pins s σ H Q I h => ?_⟩
  refine wpAny_Call_Name_kw (ld_glob I hg hm ?_ hdb)
  refine PySem.W.callWith_K (h₀ := X.base) I.ok.mod.kin hk (thn (ha.run pos pins s σ H _ I h) fun us s1 ⟨vs, H1, I1, r, q⟩ => ⟨I1.kIn, ?_⟩) he hpl
  have hl : (us ++ []).length = ps.length := by rw [List.append_nil, ← r.length]; exact F.len _ _ _ _ q
  have hb' := hb s1 us I1.kIn hl
  rw [List.append_nil] at hb'
  show wpAny _ _ (call (.ref f) ([] ++ us)) _ _ _
  rw [List.nil_append]
  refine wpAny_call (codeAny_mono (F.run X.A X.stack s1 H1 ⟨us, []⟩ us vs Q _ hr I1.env0 hb' r q) fun r s' hq => ?_)
  cases r with
  | error e => exact tk e s' (XE.of_call I1 (fun cls d H' h => h) hq)
  | ok fl =>
    cases fl with
    | ret u => exact I1.after hq
    | next => exact False.elim hq
    | brk => exact False.elim hq
    | cont => exact False.elim hq
theorem star_any {es : List Expr} {pos : Pos} {env : Env} (h : es.all noStar = true) : (backTo pos (starEach es env)).any (·.1) = false := by
  induction es with
  | nil => rfl
  | cons a r ih =>
    rw [List.all_cons, Bool.and_eq_true] at h
    rw [star_cons h.1]
    show (false || (backTo pos (starEach r env)).any (·.1)) = false
    rw [ih h.2] <;> rfl
theorem compEs_star {N : List Str} {es : List Expr} : ∀ {xs : List ME} {n : Nat} {sc : Scope}, compEs G N n sc es = some xs → es.all noStar = true := by
  induction es with
  | nil => intros; rfl
  | cons a r ih =>
    intro xs n sc e
    cases n with
    | zero => simp only [compEs] at e; cases e
    | succ n =>
      simp only [compEs] at e
      split at e
      · rename_i hs
        split at e
        · rename_i h1 h2
          rw [List.all_cons, hs, ih h2] <;> rfl
        · cases e
      · cases e
theorem s_call (ok : XOk G g P d W sc X) {x : Str} {p pos : Pos} {e : Expr} {es : List Expr} {xs : List ME} {i : Nat} (hg : isGl sc x = true) (ho : okName x = true) (hi : fnNum G x = some i) (hst : (e :: es).all noStar = true)
    (ha : SA g P d W X (e :: es) xs) : SE g P d W X (.Call (.Name x p) (e :: es) [] pos) (.call i xs) := by
  have hi' : G.fns[i]? = some x := slot_get hi
  obtain ⟨a, h1, h2, h3⟩ := ok.go.fn i x hi'
  obtain ⟨fd, ps, F, B⟩ := ok.fn i x a hi' h1
  rw [List.all_cons, Bool.and_eq_true] at hst
  refine PE.imp (pe_callW F ok.room (ok.gl hg) h2 h3 B ok.tk ha (okName_d ho) (star_cons hst.1) (star_any hst.2)) fun σ H Q ⟨ρ, σm, hm, r, R, e, FF⟩ => ?_
  simp only [evalE] at e
  refine L.bnd R e FF fun ρ1 H1 v hm1 x1 p1 R1 r1 fr1 e _ => ?_
  refine ⟨ρ, H, ρ1, hm1, v, r, live_of R, p1, R1.noLoc, r1.1, r1.2, fr1, e, ?_⟩
  cases r with
  | ok z h => exact fun ρ' H' x p' R' rv fr => FF ρ' H' x p' (R.after p' R') rv fr
  | ex z h => exact fun ρ' H' c d p' R' rv => FF ρ' H' c d p' (R.after p' R') rv

/-! ### built-ins -/
def rBI (g : GE) (b : BI) : List V → Hp → VK → Prop := fun xs H Q => ∃ ρ σm hm σ vs z, Rel g ρ σm hm σ H ∧ RVs g ρ H vs xs ∧ biV b vs hm = some z ∧ Done g σm hm σ ρ H z Q
theorem RVs.one {ρ : Rh} {H : Hp} {v : MV} {xs : List V} (r : RVs g ρ H [v] xs) : ∃ x, xs = [x] ∧ RV g ρ H v x := by
  cases r with
  | cons a b => cases b; exact ⟨_, rfl, a⟩
theorem RVs.two {ρ : Rh} {H : Hp} {v w : MV} {xs : List V} (r : RVs g ρ H [v, w] xs) : ∃ x y, xs = [x, y] ∧ RV g ρ H v x ∧ RV g ρ H w y := by
  cases r with
  | cons a b => obtain ⟨y, rfl, q⟩ := b.one; exact ⟨_, _, rfl, a, q⟩

theorem cr_abs' : CallR X (.builtin "abs") (rBI g .abs) := by
  intro pins s σ0 H xs us Q I rs ⟨ρ, σm, hm, σ, vs, z, R, rv, e, dn⟩
  unfold biV at e
  split at e <;> first | contradiction | skip
  cases e
  obtain ⟨x, rfl, r⟩ := rv.one
  cases r
  exact call_abs pins s σ0 H _ us Q I rs ⟨_, rfl, dn.now R (.int _)⟩
theorem cr_max2' (hc : X.calm = true) : CallR X (.builtin "max") (rBI g .max2) := by
  intro pins s σ0 H xs us Q I rs ⟨ρ, σm, hm, σ, vs, z, R, rv, e, dn⟩
  unfold biV at e
  split at e <;> first | contradiction | skip
  cases e
  obtain ⟨x, y, rfl, r, r2⟩ := rv.two
  cases r
  cases r2
  exact call_max2 hc pins s σ0 H _ us Q I rs ⟨_, _, rfl, dn.now R (.int _)⟩
theorem cr_min2' (hc : X.calm = true) : CallR X (.builtin "min") (rBI g .min2) := by
  intro pins s σ0 H xs us Q I rs ⟨ρ, σm, hm, σ, vs, z, R, rv, e, dn⟩
  unfold biV at e
  split at e <;> first | contradiction | skip
  cases e
  obtain ⟨x, y, rfl, r, r2⟩ := rv.two
  cases r
  cases r2
  exact call_min2 hc pins s σ0 H _ us Q I rs ⟨_, _, rfl, dn.now R (.int _)⟩
theorem cr_int' : CallR X (.type "int") (rBI g .int) := by
  intro pins s σ0 H xs us Q I rs ⟨ρ, σm, hm, σ, vs, z, R, rv, e, dn⟩
  unfold biV at e
  split at e <;> first | contradiction | skip
  · cases e
    obtain ⟨x, rfl, r⟩ := rv.one
    cases r
    exact call_int1 pins s σ0 H _ us Q I rs (.inl ⟨_, rfl, dn.now R (.int _)⟩)
  · cases e
    obtain ⟨x, rfl, r⟩ := rv.one
    cases r
    exact call_int1 pins s σ0 H _ us Q I rs (.inr ⟨_, rfl, dn.now R (.int _)⟩)
theorem cr_len' (hK : g.K = X.K) : CallR X (.builtin "len") (rBI g .len) := by
  intro pins s σ0 H xs us Q I rs ⟨ρ, σm, hm, σ, vs, z, R, rv, e, dn⟩
  unfold biV at e
  split at e <;> first | contradiction | skip
  · split at e
    · rename_i hz
      rw [sizeMax_eq] at hz
      cases e
      obtain ⟨x, rfl, r⟩ := rv.one
      cases r
      exact call_len pins s σ0 H _ us Q I rs ⟨_, _, rfl, ⟨hz, rfl⟩, dn.now R (.int _)⟩
    · cases e
  · obtain ⟨ys, hy, rfl⟩ := Option.map_eq_some_iff.mp e
    obtain ⟨x, rfl, r⟩ := rv.one
    obtain ⟨a, ws, rfl, hs, rs'⟩ := R.seq r hy
    rw [hK] at hs
    rcases hs with hs | hs
    · exact call_len pins s σ0 H _ us Q I rs ⟨_, _, rfl, .inl ⟨ws, hs, rfl⟩, by rw [← rs'.length]; exact dn.now R (.int _)⟩
    · exact call_len pins s σ0 H _ us Q I rs ⟨_, _, rfl, .inr ⟨ws, hs, rfl⟩, by rw [← rs'.length]; exact dn.now R (.int _)⟩
theorem cr_sum' (hK : g.K = X.K) (hc : X.calm = true) : CallR X (.builtin "sum") (rBI g .sum) := by
  intro pins s σ0 H xs us Q I rs ⟨ρ, σm, hm, σ, vs, z, R, rv, e, dn⟩
  unfold biV at e
  split at e <;> first | contradiction | skip
  split at e <;> first | contradiction | skip
  rename_i ys hy
  obtain ⟨ns, hn, rfl⟩ := Option.map_eq_some_iff.mp e
  obtain ⟨x, rfl, r⟩ := rv.one
  obtain ⟨a, ws, rfl, hs, rs'⟩ := R.items r hy
  have := rs'.intsOf hn
  subst this
  rw [hK] at hs
  exact cr_sum hc pins s σ0 H _ us Q I rs ⟨a, ns, rfl, hs, dn.now R (.int _)⟩
theorem cr_all' (hK : g.K = X.K) (hc : X.calm = true) : CallR X (.builtin "all") (rBI g .all) := by
  intro pins s σ0 H xs us Q I rs ⟨ρ, σm, hm, σ, vs, z, R, rv, e, dn⟩
  unfold biV at e
  split at e <;> first | contradiction | skip
  split at e <;> first | contradiction | skip
  rename_i ys hy
  obtain ⟨ns, hn, rfl⟩ := Option.map_eq_some_iff.mp e
  obtain ⟨x, rfl, r⟩ := rv.one
  obtain ⟨a, ws, rfl, hs, rs'⟩ := R.items r hy
  have := rs'.blsOf hn
  subst this
  rw [hK] at hs
  exact cr_all hc pins s σ0 H _ us Q I rs ⟨a, ns, rfl, hs, dn.now R (.bl _)⟩
theorem cr_any' (hK : g.K = X.K) (hc : X.calm = true) : CallR X (.builtin "any") (rBI g .any) := by
  intro pins s σ0 H xs us Q I rs ⟨ρ, σm, hm, σ, vs, z, R, rv, e, dn⟩
  unfold biV at e
  split at e <;> first | contradiction | skip
  split at e <;> first | contradiction | skip
  rename_i ys hy
  obtain ⟨ns, hn, rfl⟩ := Option.map_eq_some_iff.mp e
  obtain ⟨x, rfl, r⟩ := rv.one
  obtain ⟨a, ws, rfl, hs, rs'⟩ := R.items r hy
  have := rs'.blsOf hn
  subst this
  rw [hK] at hs
  exact cr_any hc pins s σ0 H _ us Q I rs ⟨a, ns, rfl, hs, dn.now R (.bl _)⟩
theorem cr_tuple' (hK : g.K = X.K) : CallR X (.type "tuple") (rBI g .tuple) := by
  intro pins s σ0 H xs us Q I rs ⟨ρ, σm, hm, σ, vs, z, R, rv, e, dn⟩
  unfold biV at e
  split at e <;> first | contradiction | skip
  · cases e
    obtain ⟨x, rfl, r⟩ := rv.one
    cases r with
    | tup ht t =>
      rename_i a ws
      exact call_tuple_of pins s σ0 H _ us Q I rs ⟨_, ws, rfl, .inr ⟨hK ▸ ht, dn.now R (.tup ht t)⟩⟩
  · obtain ⟨ys, hy, rfl⟩ := Option.map_eq_some_iff.mp e
    obtain ⟨x, rfl, r⟩ := rv.one
    obtain ⟨a, ws, rfl, hs, rs'⟩ := R.items r hy
    rw [hK] at hs
    exact call_tuple_of pins s σ0 H _ us Q I rs ⟨a, ws, rfl, .inl ⟨hs, dn.tup R rs'⟩⟩
theorem cr_list' (hK : g.K = X.K) : CallR X (.type "list") (rBI g .list) := by
  intro pins s σ0 H xs us Q I rs ⟨ρ, σm, hm, σ, vs, z, R, rv, e, dn⟩
  unfold biV at e
  split at e <;> first | contradiction | skip
  obtain ⟨ys, hy, rfl⟩ := Option.map_eq_some_iff.mp e
  obtain ⟨x, rfl, r⟩ := rv.one
  obtain ⟨a, ws, rfl, hs, rs'⟩ := R.seq r hy
  rw [hK] at hs
  exact call_list_of pins s σ0 H _ us Q I rs ⟨a, ws, rfl, hs, dn.lst R rs'⟩
theorem insI_perm (x : Int) : ∀ xs : List Int, (insI x xs).Perm (x :: xs)
  | [] => .refl _
  | y :: r => by
    unfold insI
    split
    · exact .refl _
    · exact ((insI_perm x r).cons y).trans (.swap x y r)
theorem sortI_perm : ∀ xs : List Int, (sortI xs).Perm xs
  | [] => .refl _
  | x :: r => (insI_perm x (sortI r)).trans ((sortI_perm r).cons x)
theorem insI_sorted (x : Int) : ∀ {xs : List Int}, xs.Pairwise (· ≤ ·) → (insI x xs).Pairwise (· ≤ ·)
  | [], _ => by simp [insI]
  | y :: r, h => by
    unfold insI
    rw [List.pairwise_cons] at h
    split
    · rename_i hxy
      rw [List.pairwise_cons, List.pairwise_cons]
      refine ⟨fun z hz => ?_, h⟩
      rcases List.mem_cons.mp hz with q | q
      · rw [q]; exact hxy
      · exact Int.le_trans hxy (h.1 z q)
    · rename_i hxy
      rw [List.pairwise_cons]
      refine ⟨fun z hz => ?_, insI_sorted x h.2⟩
      rcases List.mem_cons.mp ((insI_perm x r).mem_iff.mp hz) with q | q
      · rw [q]; omega
      · exact h.1 z q
theorem sortI_sorted : ∀ xs : List Int, (sortI xs).Pairwise (· ≤ ·)
  | [] => List.Pairwise.nil
  | x :: r => insI_sorted x (sortI_sorted r)
theorem sorted_uniq : ∀ {xs ys : List Int}, xs.Perm ys → xs.Pairwise (· ≤ ·) → ys.Pairwise (· ≤ ·) → xs = ys
  | [], ys, p, _, _ => (List.nil_perm.mp p).symm
  | x :: xs, [], p, _, _ => absurd p.length_eq (by simp)
  | x :: xs, y :: ys, p, h1, h2 => by
    rw [List.pairwise_cons] at h1 h2
    have e : x = y := by
      have a : x ∈ y :: ys := p.mem_iff.mp List.mem_cons_self
      have b : y ∈ x :: xs := p.mem_iff.mpr List.mem_cons_self
      rcases List.mem_cons.mp a with q | q
      · exact q
      · rcases List.mem_cons.mp b with q' | q'
        · exact q'.symm
        · have := h1.1 y q'
          have := h2.1 x q
          omega
    subst e
    rw [sorted_uniq (List.Perm.cons_inv p) h1.2 h2.2]
theorem cr_sorted' (hK : g.K = X.K) : CallR X (.builtin "sorted") (rBI g .sorted) := by
  intro pins s σ0 H xs us Q I rs ⟨ρ, σm, hm, σ, vs, z, R, rv, e, dn⟩
  unfold biV at e
  split at e <;> first | contradiction | skip
  split at e <;> first | contradiction | skip
  rename_i ys hy
  obtain ⟨ns, hn, rfl⟩ := Option.map_eq_some_iff.mp e
  obtain ⟨x, rfl, r⟩ := rv.one
  obtain ⟨a, ws, rfl, hs, rs'⟩ := R.items r hy
  have := rs'.intsOf hn
  subst this
  rw [hK] at hs
  refine cr_sortedI pins s σ0 H _ us Q I rs ⟨a, ns, rfl, hs, fun ns' p h1 h2 hp => ?_⟩
  have e : ns' = sortI ns := sorted_uniq (h1.trans (sortI_perm ns).symm) h2 (sortI_sorted ns)
  subst e
  exact dn.lst R RVs.ints p hp
/-- the argument list ends in a value -/
theorem L.biL {b : BI} {xs : List ME} {σ : L2.St} {H : Hp} {Q : VK} (h : LE g W (evalE (calls P d) (.bi b xs)) σ H Q) : LA g W (evalEs (calls P d) xs) σ H fun vs H1 => rBI g b vs H1 Q := by
  obtain ⟨ρ, σm, hm, r, R, e, F⟩ := h
  simp only [evalE] at e
  refine L.bnd R e F fun ρ1 H1 v hm1 x1 p1 R1 r1 fr1 e F => ?_
  cases hz : biV b v hm1 with
  | none => rw [hz] at e; cases e
  | some z =>
    rw [hz] at e
    cases e
    exact ⟨ρ1, σm, hm1, σ, v, z, R1, r1.1, hz, F.done⟩
theorem s_biB (ok : XOk G g P d W sc X) {x : Str} {id : String} {b : BI} {p pos : Pos} {e : Expr} {es : List Expr} {xs : List ME} (hc : CallR X (.builtin id) (rBI g b)) (hg : isGl sc x = true) (hm : X.mg x = none) (ho : okName x = true) (hv : bootBuiltins x = some (.builtin id))
    (hst : (e :: es).all noStar = true) (ha : SA g P d W X (e :: es) xs) : SE g P d W X (.Call (.Name x p) (e :: es) [] pos) (.bi b xs) := by
  rw [List.all_cons, Bool.and_eq_true] at hst
  exact PE.imp (pe_callB hc (ok.gl hg) hm hv ha (okName_n ho) (okName_d ho) (star_cons hst.1) (star_any hst.2)) fun σ H Q h => L.biL h
theorem s_biT (ok : XOk G g P d W sc X) {x : Str} {id : String} {b : BI} {p pos : Pos} {e : Expr} {es : List Expr} {xs : List ME} (hc : CallR X (.type id) (rBI g b)) (hg : isGl sc x = true) (hm : X.mg x = none) (ho : okName x = true) (hv : bootBuiltins x = some (.type id))
    (hst : (e :: es).all noStar = true) (ha : SA g P d W X (e :: es) xs) : SE g P d W X (.Call (.Name x p) (e :: es) [] pos) (.bi b xs) := by
  rw [List.all_cons, Bool.and_eq_true] at hst
  exact PE.imp (pe_callTy hc (ok.gl hg) hm hv ha (okName_n ho) (okName_d ho) (star_cons hst.1) (star_any hst.2)) fun σ H Q h => L.biL h
theorem s_bi (ok : XOk G g P d W sc X) {x : Str} {b : BI} {p pos : Pos} {e : Expr} {es : List Expr} {xs : List ME} (hb : biOf x (e :: es).length = some b) (hg : isGl sc x = true) (ho : okName x = true)
    (hst : (e :: es).all noStar = true) (ha : SA g P d W X (e :: es) xs) : SE g P d W X (.Call (.Name x p) (e :: es) [] pos) (.bi b xs) := by
  have hK := ok.go.hK
  have hc := ok.calm
  unfold biOf at hb
  repeat' split at hb
  all_goals first | (cases hb; done) | skip
  all_goals (rename_i hx; obtain ⟨hx, _⟩ := hx; subst hx; cases hb)
  · exact s_biB ok cr_abs' hg (ok.go.blt _ (by decide +kernel)) ho boot_abs hst ha
  · exact s_biB ok (cr_max2' hc) hg (ok.go.blt _ (by decide +kernel)) ho boot_max hst ha
  · exact s_biB ok (cr_min2' hc) hg (ok.go.blt _ (by decide +kernel)) ho boot_min hst ha
  · exact s_biT ok cr_int' hg (ok.go.blt _ (by decide +kernel)) ho boot_int hst ha
  · exact s_biB ok (cr_len' hK) hg (ok.go.blt _ (by decide +kernel)) ho PySem.boot_len hst ha
  · exact s_biB ok (cr_sum' hK hc) hg (ok.go.blt _ (by decide +kernel)) ho boot_sum hst ha
  · exact s_biB ok (cr_all' hK hc) hg (ok.go.blt _ (by decide +kernel)) ho boot_all hst ha
  · exact s_biB ok (cr_any' hK hc) hg (ok.go.blt _ (by decide +kernel)) ho boot_any hst ha
  · exact s_biT ok (cr_tuple' hK) hg (ok.go.blt _ (by decide +kernel)) ho boot_tuple hst ha
  · exact s_biT ok (cr_list' hK) hg (ok.go.blt _ (by decide +kernel)) ho boot_list hst ha
  · exact s_biB ok (cr_sorted' hK) hg (ok.go.blt _ (by decide +kernel)) ho (by decide +kernel) hst ha

/-! ### isinstance -/
def tyName : TyN → String
  | .int => "int"
  | .bool => "bool"
  | .str => "str"
  | .tuple => "tuple"
  | .list => "list"
  | .dict => "dict"
theorem kit_all (t u : TyN) : kitB (tyName t) (tyName u) = some (decide (t = u) || (decide (t = .bool) && decide (u = .int))) := by
  cases t <;> cases u <;> decide +kernel
theorem kit_non (u : TyN) : kitB "NoneType" (tyName u) = some false := by
  cases u <;> decide +kernel
theorem Rel.tyX (hK : g.K = X.K) {ρ : Rh} {σm : Loc} {hm : Hm} {σ : L2.St} {H : Hp} (R : Rel g ρ σm hm σ H) {v : MV} {x : V} {t : TyN} (r : RV g ρ H v x) (e : tyOf hm v = some t) : TyX X.K H x (.type (tyName t)) := by
  cases r with
  | non => cases e
  | bl _ => cases e; exact .base (.bl _)
  | int _ => cases e; exact .base (.int _)
  | str _ => cases e; exact .base (.str _)
  | fn _ => cases e
  | tup h _ =>
    cases e
    rcases h with (h | ⟨o, h⟩) | ⟨o, its, n, h1, h2, _⟩
    · exact .base (.tup h)
    · exact .fTuple h
    · exact .kTuple (hK ▸ h1) h2
  | lst h _ _ => cases e; exact .base (.lst h)
  | fz h _ _ => cases e; exact .base (.lst h)
  | scr h =>
    cases e
    rcases h with ⟨o, h, _⟩ | ⟨o, its, n, h1, h2, _⟩
    · exact .base (.frz h)
    · exact .kList (hK ▸ h1) h2
  | @ref n a h =>
    simp only [tyOf] at e
    split at e
    · rename_i ys q
      cases e
      obtain ⟨vs, e1, _⟩ := R.obj n _ a q h
      exact .base (.lst e1)
    · rename_i ns q
      cases e
      obtain ⟨o, e1⟩ := R.obj n _ a q h
      exact .base (.frz e1)
    · rename_i q
      cases e
      exact (R.obj n _ a q h).elim
    · cases e
theorem tyOfN_name {x : Str} {t : TyN} (h : tyOfN x = some t) : bootBuiltins x = some (.type (tyName t)) := by
  unfold tyOfN at h
  repeat' split at h
  all_goals first | (cases h; done) | skip
  all_goals (rename_i hx; subst hx; cases h; decide +kernel)
theorem tyOfN_bn {x : Str} {t : TyN} (h : tyOfN x = some t) : x ∈ BN := by
  unfold tyOfN at h
  repeat' split at h
  all_goals first | (cases h; done) | skip
  all_goals (rename_i hx; subst hx; decide +kernel)
theorem s_isi (ok : XOk G g P d W sc X) {t : Str} {ty : TyN} {p p2 pos : Pos} {a : Expr} {x : ME} (hg : isGl sc ("isinstance" : Str) = true) (hgt : isGl sc t = true) (hot : okName t = true) (ht : tyOfN t = some ty) (hst : noStar a = true)
    (ha : SE g P d W X a x) : SE g P d W X (.Call (.Name "isinstance" p) [a, .Name t p2] [] pos) (.isi x [ty]) := by
  have hb : PE X (.Name t p2) (tC (.ty (tyName ty))) := pe_bltn (ok.gl hgt) (ok.go.blt _ (tyOfN_bn ht)) (tyOfN_name ht) rfl (okName_n hot) (okName_d hot)
  refine PE.imp (pe_callB call_isi (ok.gl hg) (ok.go.blt _ (by decide +kernel)) boot_isinstance (pa_cons ha (pa_cons hb pa_nil) (star_cons hst)) (by decide) (by decide) (star_cons hst) (star_any rfl)) fun σ H Q ⟨ρ, σm, hm, r, R, e, F⟩ => ?_
  simp only [evalE] at e
  refine L.bnd R e F fun ρ1 H1 v hm1 x1 p1 R1 r1 fr1 e F => ?_
  have fin : ∀ {b : Bool} {t0 : Value}, isTy hm1 v ty = some b → TyX X.K H1 x1 t0 → PySem.W.kitOne X.K t0 (.type (tyName ty)) = some b → tCons (tC (.ty (tyName ty))) tNil σ H1 (fun vs H2 => rIsi X.K (x1 :: vs) H2 Q) := fun {b t0} e1 e2 e3 => by
    simp only [List.mapM_cons, List.mapM_nil, e1] at e
    have e : some (Res.ok (MV.bl ([b].any id)) hm1) = some r := e
    cases e
    refine ⟨x1, .ty (tyName ty), t0, .type (tyName ty), b, rfl, .ty _, e2, e3, ?_⟩
    have q := F.okE R1 (RV.bl ([b].any id))
    have eb : [b].any id = b := by simp
    rw [eb] at q
    exact q
  cases hv : isTy hm1 v ty with
  | none =>
    simp only [List.mapM_cons, List.mapM_nil, hv] at e
    cases e
  | some b =>
    have hv0 := hv
    unfold isTy at hv
    split at hv
    · cases hv
      cases r1
      exact fin hv0 (.base .non) (kit_ty (kit_non ty))
    · obtain ⟨u, hu, rfl⟩ := Option.map_eq_some_iff.mp hv
      exact fin hv0 (R1.tyX ok.go.hK r1 hu) (kit_ty (kit_all u ty))
end
end Mi

/-! Mi6: methods of lists, stores. -/
namespace Mi
open PySem PySem.Spec PyProof.Rows L2
section
variable {G : CG} {g : GE} {P : List FnD} {d : Nat} {W : WX} {sc : Scope} {X : Cx}
variable {ρ ρ' : Rh} {H H' : Hp} {σm : Loc} {hm : Hm} {σ : L2.St}
theorem nodup_get : ∀ {l : List Addr}, l.Nodup → ∀ {i j : Nat} {a : Addr}, l[i]? = some a → l[j]? = some a → i = j
  | [], _, _, _, _, h, _ => by simp at h
  | b :: l, n, 0, 0, _, _, _ => rfl
  | b :: l, n, 0, j + 1, a, h1, h2 => by
    simp at h1 h2
    subst h1
    exact absurd (List.mem_of_getElem? h2) (List.nodup_cons.mp n).1
  | b :: l, n, i + 1, 0, a, h1, h2 => by
    simp at h1 h2
    subst h2
    exact absurd (List.mem_of_getElem? h1) (List.nodup_cons.mp n).1
  | b :: l, n, i + 1, j + 1, a, h1, h2 => by
    simp at h1 h2
    rw [nodup_get (List.nodup_cons.mp n).2 h1 h2]
/-- a list of the small heap is written -/
theorem Rel.write (R : Rel g ρ σm hm σ H) {n : Nat} {a : Addr} {xs ys : List MV} {us vs : List V} (hn : ρ.l[n]? = some a) (ho : hm[n]? = some (.lst xs)) (ha : H a = some (.lst us)) (rv : RVs g ρ H ys vs) (hp : pureL ys = true) :
    Post ρ H ρ (upd H a (.lst vs)) ∧ Rel g ρ σm (hm.set n (.lst ys)) σ (upd H a (.lst vs)) := by
  have am : a ∈ ρ.l := List.mem_of_getElem? hn
  have P : Post ρ H ρ (upd H a (.lst vs)) := ⟨fun _ _ h => h, fun _ h => .inl h, fun _ h => .inl h, fun b o h m => by
    rw [upd_ne (fun e => by subst e; exact m am)]
    exact h, fun b h => by
    by_cases e : b = a
    · subst e; rw [upd_same] at h; cases h
    · rw [upd_ne e] at h; exact h, fun _ h => h⟩
  refine ⟨P, by simpa using R.len, R.nd, fun i o b h1 h2 => ?_, fun i zs h => ?_, R.slen, fun i v h => ?_, R.nol, fun b h => ?_⟩
  · by_cases hi : i = n
    · subst hi
      rw [hn] at h2
      cases h2
      have hlt : i < hm.length := (List.getElem?_eq_some_iff.mp ho).1
      rw [List.getElem?_set_self hlt] at h1
      cases h1
      exact ⟨vs, upd_same, rv.post P R.noT⟩
    · rw [List.getElem?_set_ne (Ne.symm hi)] at h1
      have nb : b ≠ a := fun e => hi (nodup_get R.nd h2 (e ▸ hn))
      have q := R.obj i o b h1 h2
      cases o with
      | lst zs =>
        obtain ⟨ws, e, t⟩ := q
        exact ⟨ws, by rw [upd_ne nb]; exact e, t.post P R.noT⟩
      | scr ns =>
        obtain ⟨ob, e⟩ := q
        exact ⟨ob, by rw [upd_ne nb]; exact e⟩
      | dct _ => exact q
  · by_cases hi : i = n
    · subst hi
      have hlt : i < hm.length := (List.getElem?_eq_some_iff.mp ho).1
      rw [List.getElem?_set_self hlt] at h
      cases h
      exact hp
    · rw [List.getElem?_set_ne (Ne.symm hi)] at h
      exact R.pur i zs h
  · obtain ⟨x, e, r⟩ := R.loc i v h
    exact ⟨x, e, r.post P R.noT⟩
  · obtain ⟨zs, e⟩ := R.blk b h
    by_cases eb : b = a
    · subst eb; exact ⟨vs, upd_same⟩
    · exact ⟨zs, by rw [upd_ne eb]; exact e⟩
theorem pureL_append : ∀ {xs ys : List MV}, pureL (xs ++ ys) = (pureL xs && pureL ys)
  | [], _ => by simp [pureL]
  | x :: xs, ys => by
    rw [List.cons_append]
    simp only [pureL]
    rw [pureL_append, Bool.and_assoc]
theorem pureL_mem : ∀ {xs : List MV}, pureL xs = true ↔ ∀ x ∈ xs, x.pure = true
  | [] => by simp [pureL]
  | x :: xs => by
    simp only [pureL, Bool.and_eq_true, List.mem_cons, forall_eq_or_imp]
    rw [pureL_mem]
theorem pureL_sub {xs ys : List MV} (h : pureL xs = true) (s : ∀ y ∈ ys, y ∈ xs) : pureL ys = true := pureL_mem.mpr fun y hy => pureL_mem.mp h y (s y hy)
theorem tyV_list {a : Addr} {vs : List V} (h : H a = some (.lst vs)) : tyV X.K "list" (.ref a) H := .inl ⟨rfl, vs, .of h⟩

theorem Rel.isL (R : Rel g ρ σm hm σ H) {v : MV} {x : V} {xs : List MV} (r : RV g ρ H v x) (e : Mi.itemsL hm v = some xs) : tyV X.K "list" x H := by
  obtain ⟨a, vs, rfl, h, _⟩ := R.itemsL r e
  exact tyV_list h
theorem s_append {o : Expr} {x : ME} {a : Expr} {xs : List ME} {ap pos : Pos} (hb : attributeBase o "append" X.env (eval o X.env) = eval o X.env) (hl : (ap.endLine == pos.line) = true) (hs : noStar a = true) (ho : SE g P d W X o x) (ha : SA g P d W X [a] xs) (hx : xs.length = 1) :
    SE g P d W X (.Call (.Attribute o "append" ap) [a] [] pos) (.meth .append x xs) := by
  have hfew : ((backTo pos (starEach [a] X.env)).all (fun x => !x.1) && (backToKw pos (keywordEach [] X.env)).all (fun x => x.1.isSome) && decide ([a].length + ([] : List Keyword).length + (if ([] : List Keyword).isEmpty then 0 else 1) < 30)) = true := by
    rw [star_cons hs]
    rfl
  refine PE.imp (pe_bm PySem.F.plainAttrs_list PySem.F.slot_list_append PySem.F.type_list_append mt_append ho ha hb hfew hl (star_cons hs) (star_any rfl)) fun σ H Q ⟨ρ, σm, hm, r, R, e, F⟩ => ?_
  simp only [evalE] at e
  refine L.bnd R e F fun ρ1 H1 v hm1 x1 p1 R1 r1 fr1 e F => ?_
  split at e
  · rename_i ys hy
    refine ⟨R1.isL r1 hy, L.bnd_len R1 e F fun ρ2 H2 vs hm2 us p2 R2 r2 fr2 hlen e F2 => ?_⟩
    have r1 := r1.post p2 R1.noT
    cases r1 with
    | @ref n a0 hn =>
      simp only [methV] at e
      cases hz : hm2[n]? with
      | none => rw [hz] at e; cases e
      | some ob =>
        rw [hz] at e
        cases ob with
        | lst zs =>
          cases r2 with
          | nil => simp only at e; cases e
          | @cons y u _ _ ru t =>
            cases t with
            | cons _ _ => simp only at e; cases e
            | nil =>
              simp only at e
              by_cases hc : (Mi.frz y).pure = true ∧ zs.length < sizeMax
              · rw [if_pos hc] at e
                cases e
                obtain ⟨b, hb, hT, p4, R4⟩ := R1.unb p2 R2 fr2
                obtain ⟨ws, ha, rw'⟩ := R4.obj n _ _ hz hn
                have lw := rw'.length
                have hpz := R4.pur n zs hz
                obtain ⟨p3, R3⟩ := R4.write hn hz ha (rw'.append ((RVs.cons (ru.less hb) .nil).frz hT)) (by rw [pureL_append, hpz]; simp only [pureL, List.map_cons, List.map_nil, hc.1]; rfl)
                refine ⟨_, ws, u, rfl, rfl, ha, by rw [← lw, ← sizeMax_eq]; exact hc.2, ?_⟩
                exact (F.post (p4.trans p3)).okE R3 .non
              · rw [if_neg hc] at e
                cases e
        | scr _ => simp only at e; cases e
        | dct _ => simp only at e; cases e
    | _ => simp only [methV] at e; cases e
  · cases e

theorem RVs.nil' {ρ : Rh} {H : Hp} {xs : List V} (r : RVs g ρ H [] xs) : xs = [] := by
  cases r
  rfl
theorem s_pop0 {o : Expr} {x : ME} {ap pos : Pos} (hb : attributeBase o "pop" X.env (eval o X.env) = eval o X.env) (hl : (ap.endLine == pos.line) = true) (ho : SE g P d W X o x) :
    SE g P d W X (.Call (.Attribute o "pop" ap) [] [] pos) (.meth .pop0 x []) := by
  refine PE.imp (pe_bm0 PySem.F.plainAttrs_list PySem.F.slot_list_pop PySem.F.type_list_pop mt_pop ho hb hl) fun σ H Q ⟨ρ, σm, hm, r, R, e, F⟩ => ?_
  simp only [evalE] at e
  refine L.bnd R e F fun ρ1 H1 v hm1 x1 p1 R1 r1 fr1 e F => ?_
  split at e
  · rename_i ys hy
    refine ⟨R1.isL r1 hy, ?_⟩
    simp only [evalEs, bnd_ok] at e
    cases r1 with
    | @ref n a0 hn =>
      simp only [methV] at e
      cases hz : hm1[n]? with
      | none => rw [hz] at e; cases e
      | some ob =>
        rw [hz] at e
        cases ob with
        | lst zs =>
          simp only at e
          cases hy : zs[zs.length - 1]? with
          | none => rw [hy] at e; cases e
          | some y =>
            rw [hy] at e
            cases e
            obtain ⟨ws, ha, rw'⟩ := R1.obj n _ _ hz hn
            obtain ⟨u, hu, ru⟩ := rw'.get hy
            have lw := rw'.length
            have hpz := R1.pur n zs hz
            obtain ⟨p3, R3⟩ := R1.write hn hz ha rw'.dropLast (pureL_sub hpz fun y hy => List.dropLast_subset _ hy)
            refine ⟨_, ws, u, rfl, rfl, ha, by rw [← lw]; exact hu, ?_⟩
            exact (F.post p3).okE R3 (ru.post p3 R1.noT) (pure_NL (pureL_mem.mp hpz y (List.mem_of_getElem? hy)))
        | scr _ => simp only at e; cases e
        | dct _ => simp only at e; cases e
    | _ => simp only [methV] at e; cases e
  · cases e
theorem s_pop1 {o : Expr} {x : ME} {a : Expr} {xs : List ME} {ap pos : Pos} (hb : attributeBase o "pop" X.env (eval o X.env) = eval o X.env) (hl : (ap.endLine == pos.line) = true) (hs : noStar a = true) (ho : SE g P d W X o x) (ha : SA g P d W X [a] xs) :
    SE g P d W X (.Call (.Attribute o "pop" ap) [a] [] pos) (.meth .pop1 x xs) := by
  have hfew : ((backTo pos (starEach [a] X.env)).all (fun x => !x.1) && (backToKw pos (keywordEach [] X.env)).all (fun x => x.1.isSome) && decide ([a].length + ([] : List Keyword).length + (if ([] : List Keyword).isEmpty then 0 else 1) < 30)) = true := by
    rw [star_cons hs]
    rfl
  refine PE.imp (pe_bm PySem.F.plainAttrs_list PySem.F.slot_list_pop PySem.F.type_list_pop mt_popAt ho ha hb hfew hl (star_cons hs) (star_any rfl)) fun σ H Q ⟨ρ, σm, hm, r, R, e, F⟩ => ?_
  simp only [evalE] at e
  refine L.bnd R e F fun ρ1 H1 v hm1 x1 p1 R1 r1 fr1 e F => ?_
  split at e
  · rename_i ys hy
    refine ⟨R1.isL r1 hy, L.bnd_len R1 e F fun ρ2 H2 vs hm2 us p2 R2 r2 fr2 hlen e F2 => ?_⟩
    have r1 := r1.post p2 R1.noT
    cases r1 with
    | @ref n a0 hn =>
      simp only [methV] at e
      cases hz : hm2[n]? with
      | none => rw [hz] at e; cases e
      | some ob =>
        rw [hz] at e
        cases ob with
        | lst zs =>
          cases r2 with
          | nil => simp only at e; cases e
          | @cons y u _ _ ru t =>
            cases t with
            | cons _ _ => simp only at e; cases e
            | nil =>
              cases ru with
              | int i =>
                simp only at e
                by_cases hc : -9223372036854775808 ≤ i ∧ i < 9223372036854775808
                · rw [if_pos hc] at e
                  cases hk : seqIndex? i zs.length with
                  | none => rw [hk] at e; cases e
                  | some k =>
                    rw [hk] at e
                    simp only at e
                    cases hy : zs[k]? with
                    | none => rw [hy] at e; cases e
                    | some y =>
                      rw [hy] at e
                      cases e
                      obtain ⟨ws, ha, rw'⟩ := R2.obj n _ _ hz hn
                      obtain ⟨u, hu, ru⟩ := rw'.get hy
                      have lw := rw'.length
                      have hpz := R2.pur n zs hz
                      obtain ⟨p3, R3⟩ := R2.write hn hz ha (rw'.eraseIdx k) (pureL_sub hpz fun y hy => List.mem_of_mem_eraseIdx hy)
                      refine ⟨_, ws, i, k, u, rfl, rfl, ha, by omega, by omega, by rw [← lw]; exact hk, hu, ?_⟩
                      exact (F.post (p2.trans p3)).okE R3 (ru.post p3 R2.noT) (pure_NL (pureL_mem.mp hpz y (List.mem_of_getElem? hy)))
                · rw [if_neg hc] at e
                  cases e
              | _ => simp only at e; cases e
        | scr _ => simp only at e; cases e
        | dct _ => simp only at e; cases e
    | _ => simp only [methV] at e; cases e
  · cases e

end
end Mi

/-! Mi7: stores and targets. -/
namespace Mi
open PySem PySem.Spec PyProof.Rows L2

mutual
theorem pure_nol : ∀ {v : MV}, v.pure = true → v.nol = true
  | .non, _ => rfl
  | .bl _, _ => rfl
  | .int _, _ => rfl
  | .str _, _ => rfl
  | .fn _, _ => rfl
  | .scr _, _ => rfl
  | .ref _, h => by simp [MV.pure] at h
  | .lst _, h => by simp [MV.pure] at h
  | .tup xs, h => by
    simp only [MV.pure] at h
    simp only [MV.nol]
    exact pureL_nol h
  | .fz xs, h => by
    simp only [MV.pure] at h
    simp only [MV.nol]
    exact pureL_nol h
theorem pureL_nol : ∀ {xs : List MV}, pureL xs = true → nolL xs = true
  | [], _ => rfl
  | x :: xs, h => by
    simp only [pureL, Bool.and_eq_true] at h
    simp only [nolL, Bool.and_eq_true]
    exact ⟨pure_nol h.1, pureL_nol h.2⟩
end
section
variable {g : GE} {ρ ρ' : Rh} {H H' : Hp} {σm : Loc} {hm : Hm} {σ : L2.St}
/-- tuples and frozen lists go along -/
structure MvP (g : GE) (ρ : Rh) (H : Hp) (ρ' : Rh) (H' : Hp) : Prop where
  tup : ∀ a vs, SqT g.K H a vs → SqT g.K H' a vs
  fz : ∀ a vs, H a = some (.lst vs) → ρ.out a → H' a = some (.lst vs) ∧ ρ'.out a
  frz : ∀ a o vs, H a = some (.frz o (.lst vs)) → a ∉ ρ.l → H' a = some (.frz o (.lst vs)) ∧ a ∉ ρ'.l
theorem MvP.sqf (m : MvP g ρ H ρ' H') {a : Addr} {vs : List V} (h : SqF g.K ρ H a vs) : SqF g.K ρ' H' a vs :=
  h.elim (fun ⟨o, e, n⟩ => .inl ⟨o, m.frz a o vs e n⟩) .inr
mutual
theorem RV.move (m : MvP g ρ H ρ' H') (hr : ∀ (n : Nat) (a : Addr), ρ.l[n]? = some a → ρ'.l[n]? = some a) : ∀ {v : MV} {x : V}, v.nol = true → RV g ρ H v x → RV g ρ' H' v x
  | _, _, _, .non => .non
  | _, _, _, .bl b => .bl b
  | _, _, _, .int i => .int i
  | _, _, _, .str s => .str s
  | _, _, h, .tup e r => .tup (m.tup _ _ e) (RVs.move m hr (by simpa only [MV.nol] using h) r)
  | _, _, h, .lst _ _ _ => by simp [MV.nol] at h
  | _, _, _, .scr h => .scr (m.sqf h)
  | _, _, h, .fz e o r => .fz (m.fz _ _ e o).1 (m.fz _ _ e o).2 (RVs.move m hr (by simpa only [MV.nol] using h) r)
  | _, _, _, .ref e => .ref (hr _ _ e)
  | _, _, _, .fn e => .fn e
theorem RVs.move (m : MvP g ρ H ρ' H') (hr : ∀ (n : Nat) (a : Addr), ρ.l[n]? = some a → ρ'.l[n]? = some a) : ∀ {v : List MV} {x : List V}, nolL v = true → RVs g ρ H v x → RVs g ρ' H' v x
  | _, _, _, .nil => .nil
  | _, _, h, .cons r t => by
    simp only [nolL, Bool.and_eq_true] at h
    exact .cons (RV.move m hr h.1 r) (RVs.move m hr h.2 t)
end
mutual
theorem RV.moveP (m : MvP g ρ H ρ' H') : ∀ {v : MV} {x : V}, v.pure = true → RV g ρ H v x → RV g ρ' H' v x
  | _, _, _, .non => .non
  | _, _, _, .bl b => .bl b
  | _, _, _, .int i => .int i
  | _, _, _, .str s => .str s
  | _, _, h, .tup e r => .tup (m.tup _ _ e) (RVs.moveP m (by simpa only [MV.pure] using h) r)
  | _, _, h, .lst _ _ _ => by simp [MV.pure] at h
  | _, _, _, .scr h => .scr (m.sqf h)
  | _, _, h, .fz e o r => .fz (m.fz _ _ e o).1 (m.fz _ _ e o).2 (RVs.moveP m (by simpa only [MV.pure] using h) r)
  | _, _, h, .ref e => by simp [MV.pure] at h
  | _, _, _, .fn e => .fn e
theorem RVs.moveP (m : MvP g ρ H ρ' H') : ∀ {v : List MV} {x : List V}, pureL v = true → RVs g ρ H v x → RVs g ρ' H' v x
  | _, _, _, .nil => .nil
  | _, _, h, .cons r t => by
    simp only [pureL, Bool.and_eq_true] at h
    exact .cons (RV.moveP m h.1 r) (RVs.moveP m h.2 t)
end
/-- a slot is written -/
theorem Rel.put (R : Rel g ρ σm hm σ H) {v : MV} {x : V} (r : RV g ρ H v x) (hn : v.nol = true) (i : Nat) : Rel g ρ (σm.set i (some v)) hm (σ.set i (some x)) H := by
  refine ⟨R.len, R.nd, R.obj, R.pur, by simpa using R.slen, fun j u h => ?_, fun j u h => ?_, R.blk⟩
  · by_cases hj : i = j
    · subst hj
      have hi : i < σm.length := by
        have := (List.getElem?_eq_some_iff.mp h).1
        simpa using this
      rw [List.getElem?_set_self hi] at h
      cases h
      exact ⟨x, by rw [List.getElem?_set_self (by rw [← R.slen]; exact hi)], r⟩
    · rw [List.getElem?_set_ne hj] at h
      rw [List.getElem?_set_ne hj]
      exact R.loc j u h
  · by_cases hj : i = j
    · subst hj
      have hi : i < σm.length := by
        have := (List.getElem?_eq_some_iff.mp h).1
        simpa using this
      rw [List.getElem?_set_self hi] at h
      cases h
      exact hn
    · rw [List.getElem?_set_ne hj] at h
      exact R.nol j u h
/-- the small heap takes a fresh list -/
def Rh.take (ρ : Rh) (a : Addr) : Rh := ⟨ρ.l ++ [a], ρ.b⟩
theorem mv_take {a : Addr} {us : List V} (ba : ρ.b a) (ha : H a = some (.lst us)) : MvP g ρ H (ρ.take a) H := ⟨fun _ _ h => h, fun c vs h o => ⟨h, fun m => by
  rcases List.mem_append.mp m with m | m
  · exact o.1 m
  · have e : c = a := by simpa using m
    subst e
    exact o.2 ba, o.2⟩, fun c o vs h n => ⟨h, fun m => by
  rcases List.mem_append.mp m with m | m
  · exact n m
  · have e : c = a := by simpa using m
    subst e
    rw [ha] at h; cases h⟩⟩
theorem ref_take {a : Addr} (n : Nat) (c : Addr) (h : ρ.l[n]? = some c) : (ρ.take a).l[n]? = some c := by
  show (ρ.l ++ [a])[n]? = some c
  rw [List.getElem?_append_left (List.getElem?_eq_some_iff.mp h).1]
  exact h
theorem Rel.adopt (R : Rel g ρ σm hm σ H) {xs : List MV} {a : Addr} {vs : List V} (ha : H a = some (.lst vs)) (na : a ∉ ρ.l) (ba : ρ.b a) (rs : RVs g ρ H xs vs) (hp : pureL xs = true) :
    Rel g (ρ.take a) σm (hm ++ [.lst xs]) σ H ∧ (ρ.take a).l[hm.length]? = some a := by
  have M := mv_take (g := g) (H := H) ba ha
  have hl : (ρ.take a).l[hm.length]? = some a := by
    show (ρ.l ++ [a])[hm.length]? = some a
    rw [← R.len, List.getElem?_concat_length]
  refine ⟨⟨?_, ?_, fun i o c h1 h2 => ?_, fun i ys h => ?_, R.slen, fun i v h => ?_, R.nol, R.blk⟩, hl⟩
  · show (ρ.l ++ [a]).length = _
    rw [List.length_append, List.length_append, R.len] <;> rfl
  · show (ρ.l ++ [a]).Nodup
    rw [List.nodup_append]
    refine ⟨R.nd, by simp, fun x hx y hy e => ?_⟩
    have : y = a := by simpa using hy
    subst this
    subst e
    exact na hx
  · by_cases hi : i < hm.length
    · rw [List.getElem?_append_left hi] at h1
      have h2' : ρ.l[i]? = some c := by
        have h3 : (ρ.l ++ [a])[i]? = some c := h2
        rw [List.getElem?_append_left (by rw [R.len]; exact hi)] at h3
        exact h3
      have q := R.obj i o c h1 h2'
      cases o with
      | lst ys =>
        obtain ⟨ws, e, t⟩ := q
        exact ⟨ws, e, t.moveP M (R.pur i ys h1)⟩
      | scr ns => exact q
      | dct _ => exact q
    · have hi : hm.length ≤ i := by omega
      rw [List.getElem?_append_right hi] at h1
      have h0 : i - hm.length = 0 := by
        have := (List.getElem?_eq_some_iff.mp h1).1
        simp at this
        omega
      have hi : i = hm.length := by omega
      subst hi
      rw [h0] at h1
      cases h1
      rw [hl] at h2
      cases h2
      exact ⟨vs, ha, rs.moveP M hp⟩
  · by_cases hi : i < hm.length
    · rw [List.getElem?_append_left hi] at h
      exact R.pur i ys h
    · have hi : hm.length ≤ i := by omega
      rw [List.getElem?_append_right hi] at h
      have h0 : i - hm.length = 0 := by
        have := (List.getElem?_eq_some_iff.mp h).1
        simp at this
        omega
      rw [h0] at h
      cases h
      exact hp
  · obtain ⟨x, e, r⟩ := R.loc i v h
    exact ⟨x, e, r.move M ref_take (R.nol i v h)⟩
theorem Post.take {ρ0 : Rh} {H0 : Hp} {a : Addr} (p : Post ρ0 H0 ρ H) (n : H0 a = none) : Post ρ0 H0 (ρ.take a) H := ⟨fun n c h => ref_take n c (p.ext n c h), fun c h => by
  rcases List.mem_append.mp h with m | m
  · exact p.new c m
  · have e : c = a := by simpa using m
    subst e
    exact .inr n, p.newb, p.keep, p.more, p.blk⟩
/-- a value is laid into the small heap -/
theorem Rel.lay (R : Rel g ρ σm hm σ H) {v w : MV} {x : V} {hm' : Hm} (r : RV g ρ H v x) (e : Mi.sto v hm = some (w, hm')) (hb : ∀ a, TV v x a → ρ.b a) :
    ∃ ρ', Rel g ρ' σm hm' σ H ∧ RV g ρ' H w x ∧ w.nol = true ∧ (∀ ρ0 H0, Post ρ0 H0 ρ H → (∀ a, TV v x a → H0 a = none) → Post ρ0 H0 ρ' H) ∧
      ((ρ' = ρ) ∨ ∃ a, TV v x a ∧ ρ' = ρ.take a) := by
  by_cases nl : NL v
  · have e2 : v.nol = true ∧ (v, hm) = (w, hm') := by
      cases v with
      | lst xs => exact absurd rfl (nl xs)
      | _ =>
        simp only [Mi.sto] at e
        split at e
        · rename_i h
          cases e
          exact ⟨h, rfl⟩
        · cases e
    cases e2.2
    exact ⟨ρ, R, r, e2.1, fun _ _ p _ => p, .inl rfl⟩
  · cases r with
    | @lst xs a vs ha na rs =>
      simp only [Mi.sto] at e
      split at e
      · rename_i hp
        cases e
        obtain ⟨R1, hl⟩ := R.adopt ha na (hb a ⟨⟨xs, rfl⟩, rfl⟩) rs hp
        exact ⟨_, R1, .ref hl, rfl, fun ρ0 H0 p n => p.take (n a ⟨⟨xs, rfl⟩, rfl⟩), .inr ⟨a, ⟨⟨xs, rfl⟩, rfl⟩, rfl⟩⟩
      · cases e
    | _ => exact absurd (fun xs h => by cases h) nl
/-- .. and stored at a slot -/
theorem Rel.sto (R : Rel g ρ σm hm σ H) {v w : MV} {x : V} {hm' : Hm} (i : Nat) (r : RV g ρ H v x) (e : Mi.sto v hm = some (w, hm')) (hb : ∀ a, TV v x a → ρ.b a) :
    ∃ ρ', Rel g ρ' (σm.set i (some w)) hm' (σ.set i (some x)) H ∧ (∀ ρ0 H0, Post ρ0 H0 ρ H → (∀ a, TV v x a → H0 a = none) → Post ρ0 H0 ρ' H) ∧
      ((ρ' = ρ) ∨ ∃ a, TV v x a ∧ ρ' = ρ.take a) := by
  obtain ⟨ρ', R', r', n, p, h⟩ := R.lay r e hb
  exact ⟨ρ', R'.put r' n i, p, h⟩
theorem sto_some {v : MV} {hm : Hm} {q : MV × Hm} (e : Mi.sto v hm = some q) : v.nol = true ∨ ∃ xs, v = .lst xs ∧ pureL xs = true := by
  cases v with
  | lst xs =>
    simp only [Mi.sto] at e
    split at e
    · exact .inr ⟨xs, rfl, by assumption⟩
    · cases e
  | _ =>
    simp only [Mi.sto] at e
    split at e
    · exact .inl (by assumption)
    · cases e
theorem RVs.takes {ρ : Rh} {H : Hp} {a : Addr} {us : List V} (ba : ρ.b a) (ha : H a = some (.lst us)) : ∀ {vs : List MV} {xs : List V}, RVs g ρ H vs xs → (∀ v ∈ vs, v.nol = true ∨ ∃ xs, v = .lst xs ∧ pureL xs = true) → ¬ TVs vs xs a → RVs g (ρ.take a) H vs xs
  | _, _, .nil, _, _ => .nil
  | _, _, .cons (x := x) (v := v) (xs := xs) (vs := vs) r t, h, n => by
    have M := mv_take (g := g) (H := H) ba ha
    refine .cons ?_ (RVs.takes ba ha t (fun w hw => h w (List.mem_cons_of_mem _ hw)) fun ⟨i, v, x, h1, h2, h3⟩ => n ⟨i + 1, v, x, by simpa using h1, by simpa using h2, h3⟩)
    rcases h x List.mem_cons_self with q | ⟨ys, rfl, q⟩
    · exact r.move M ref_take q
    · cases r with
      | @lst _ b ws hb nb rs =>
        refine .lst hb (fun m => ?_) (rs.moveP M q)
        rcases List.mem_append.mp m with m | m
        · exact nb m
        · have e : b = a := by simpa using m
          subst e
          exact n ⟨0, _, _, rfl, rfl, ⟨_, rfl⟩, rfl⟩
theorem stoL_some : ∀ {vs : List MV} {hm : Hm} {q : List MV × Hm}, stoL vs hm = some q → ∀ v ∈ vs, v.nol = true ∨ ∃ xs, v = .lst xs ∧ pureL xs = true
  | [], _, _, _, v, h => by simp at h
  | w :: vs, hm, q, e, v, h => by
    simp only [stoL] at e
    split at e
    · rename_i w' h1 e1
      split at e
      · rename_i ws h2 e2
        rcases List.mem_cons.mp h with z | z
        · subst z; exact sto_some e1
        · exact stoL_some e2 v z
      · cases e
    · cases e
theorem MvP.refl : MvP g ρ H ρ H := ⟨fun _ _ h => h, fun _ _ h o => ⟨h, o⟩, fun _ _ _ h o => ⟨h, o⟩⟩
theorem MvP.trans {ρ1 : Rh} (a : MvP g ρ H ρ1 H) (b : MvP g ρ1 H ρ' H) : MvP g ρ H ρ' H := ⟨fun c vs h => b.tup c vs (a.tup c vs h), fun c vs h o => b.fz c vs (a.fz c vs h o).1 (a.fz c vs h o).2, fun c q vs h o => b.frz c q vs (a.frz c q vs h o).1 (a.frz c q vs h o).2⟩
/-- a def's arguments are laid -/
theorem stoL_ok {ρ0 : Rh} {H0 : Hp} {H : Hp} : ∀ {vs ws : List MV} {xs : List V} {ρ : Rh} {hm hm' : Hm}, Rel g ρ σm hm σ H → RVs g ρ H vs xs → Apart vs xs → (∀ a, TVs vs xs a → H0 a = none ∧ ρ.b a) → Post ρ0 H0 ρ H →
    stoL vs hm = some (ws, hm') → ∃ ρ', Rel g ρ' σm hm' σ H ∧ Post ρ0 H0 ρ' H ∧ RVs g ρ' H ws xs ∧ nolL ws = true ∧ ws.length = vs.length ∧ MvP g ρ H ρ' H ∧ ∀ (n : Nat) (c : Addr), ρ.l[n]? = some c → ρ'.l[n]? = some c
  | [], ws, xs, ρ, hm, hm', R, rs, ap, fr, p0, e => by
    simp only [stoL] at e
    cases e
    cases rs
    exact ⟨ρ, R, p0, .nil, rfl, rfl, .refl, fun _ _ h => h⟩
  | v :: vs, ws, xs, ρ, hm, hm', R, rs, ap, fr, p0, e => by
    cases rs with
    | @cons _ x _ xs r t =>
      simp only [stoL] at e
      split at e
      · rename_i w h1 e1
        split at e
        · rename_i ws' h2 e2
          cases e
          have fr0 : ∀ a, TV v x a → H0 a = none ∧ ρ.b a := fun a h => fr a ⟨0, v, x, rfl, rfl, h⟩
          have fr1 : ∀ a, TVs vs xs a → H0 a = none ∧ ρ.b a := fun a ⟨i, v, x, h1, h2, h3⟩ => fr a ⟨i + 1, v, x, by simpa using h1, by simpa using h2, h3⟩
          obtain ⟨ρ1, R1, rw1, n1, p1, hh⟩ := R.lay r e1 fun a h => (fr0 a h).2
          have t1 : RVs g ρ1 H vs xs := by
            rcases hh with rfl | ⟨a, ta, rfl⟩
            · exact t
            · obtain ⟨us, hu⟩ := R.blk a (fr0 a ta).2
              exact t.takes (fr0 a ta).2 hu (stoL_some e2) (ap.1 a ta)
          have M1 : MvP g ρ H ρ1 H := by
            rcases hh with rfl | ⟨a, ta, rfl⟩
            · exact .refl
            · obtain ⟨us, hu⟩ := R.blk a (fr0 a ta).2
              exact mv_take (fr0 a ta).2 hu
          have k1 : ∀ (n : Nat) (c : Addr), ρ.l[n]? = some c → ρ1.l[n]? = some c := by
            rcases hh with rfl | ⟨a, ta, rfl⟩
            · exact fun _ _ h => h
            · exact ref_take
          obtain ⟨ρ2, R2, p2, rs2, n2, hl, M2, k2⟩ := stoL_ok R1 t1 ap.2 (fun a h => ⟨(fr1 a h).1, by rcases hh with rfl | ⟨_, _, rfl⟩ <;> exact (fr1 a h).2⟩) (p1 ρ0 H0 p0 fun a h => (fr0 a h).1) e2
          refine ⟨ρ2, R2, p2, .cons (rw1.move M2 k2 n1) rs2, ?_, by simp [hl], M1.trans M2, fun n c h => k2 n c (k1 n c h)⟩
          simp only [nolL, n1, n2]
          rfl
        · cases e
      · cases e
/-! ### targets -/
/-- a target's reading: what is stored, from (ρ0, H0) on -/
def LG (g : GE) (f : MV → Loc → Hm → Option (Loc × Hm)) (S : Nat → Prop) : TG := fun x σ H Q =>
  ∃ ρ0 H0 ρ σm hm v σm' hm', (∀ a, ρ0.b a → H0 a ≠ none) ∧ Post ρ0 H0 ρ H ∧ (∀ a, TV v x a → H0 a = none ∧ ρ.b a) ∧ Rel g ρ σm hm σ H ∧ RV g ρ H v x ∧ f v σm hm = some (σm', hm') ∧
    ∀ ρ' σ' H', Post ρ0 H0 ρ' H' → Rel g ρ' σm' hm' σ' H' → σ'.length = σ.length → (∀ (i : Nat), ¬ S i → σ'[i]? = σ[i]?) → Q σ' H'
def LGs (g : GE) (n : Nat) (f : List MV → Loc → Hm → Option (Loc × Hm)) (S : Nat → Prop) : TGs := fun xs σ H Q =>
  ∃ ρ0 H0 ρ σm hm vs σm' hm', (∀ a, ρ0.b a → H0 a ≠ none) ∧ Post ρ0 H0 ρ H ∧ (vs.all nl = true ∧ vs.length = n) ∧ Rel g ρ σm hm σ H ∧ RVs g ρ H vs xs ∧ f vs σm hm = some (σm', hm') ∧
    ∀ ρ' σ' H', Post ρ0 H0 ρ' H' → Rel g ρ' σm' hm' σ' H' → σ'.length = σ.length → (∀ (i : Nat), ¬ S i → σ'[i]? = σ[i]?) → Q σ' H'
end
section
variable {G : CG} {g : GE} {P : List FnD} {d : Nat} {W : WX} {sc : Scope} {X : Cx}
theorem PG.imp {e : Expr} {t t' : TG} (h : PG X e t) (i : ∀ x σ H Q, t' x σ H Q → t x σ H Q) : PG X e t' := ⟨fun pins s σ H v u Q I r q => h.run pins s σ H v u Q I r (i v σ H Q q)⟩
theorem PGs.imp {e : List Expr} {t t' : TGs} (h : PGs X e t) (i : ∀ x σ H Q, t' x σ H Q → t x σ H Q) : PGs X e t' := ⟨fun pins s σ H v u Q I r q => h.run pins s σ H v u Q I r (i v σ H Q q)⟩
abbrev SG (g : GE) (P : List FnD) (d : Nat) (X : Cx) (e : Expr) (m : MT) (S : Nat → Prop) : Prop := PG X e (LG g (evalT (calls P d) m) S)
abbrev SGs (g : GE) (P : List FnD) (d : Nat) (X : Cx) (e : List Expr) (m : List MT) (S : Nat → Prop) : Prop := PGs X e (LGs g m.length (evalTs (calls P d) m) S)
theorem gname_imp {i : Nat} {S : Nat → Prop} (hS : S i) {x : V} {σ : L2.St} {H : Hp} {Q : L2.St → Hp → Prop} (h : LG g (evalT (calls P d) (.var i)) S x σ H Q) : gName i x σ H Q := by
  obtain ⟨ρ0, H0, ρ, σm, hm, v, σm', hm', lv, p0, fr, R, r, e, k⟩ := h
  simp only [evalT] at e
  split at e
  · rename_i w h1 e1
    cases e
    obtain ⟨ρ', R', p', _⟩ := R.sto i r e1 fun a t => (fr a t).2
    refine k ρ' _ H (p' ρ0 H0 p0 fun a t => (fr a t).1) R' (by simp) fun j hj => ?_
    rw [List.getElem?_set_ne fun e => hj (by subst e; exact hS)]
  · cases e
theorem sg_name {x : Str} {pos : Pos} {i : Nat} {S : Nat → Prop} (nd : X.N.Nodup) (hi : slot X.N x = some i) (hx : L2.Loc X.env.scope x) (hf : X.fn x = true ∨ X.env.scope.names.lookup x = some .local) (hS : S i) : SG g P d X (.Name x pos) (.var i) S :=
  PG.imp (pg_name nd (slot_get hi) hx hf) fun y σ H Q h => gname_imp hS h
theorem sgs_nil {S : Nat → Prop} : SGs g P d X [] [] S := by
  refine PGs.imp pgs_nil fun y σ H Q ⟨ρ0, H0, ρ, σm, hm, v, σm', hm', lv, p0, fr, R, r, e, k⟩ => ?_
  simp only [evalTs] at e
  cases e
  have h0 := fr.2
  cases r with
  | nil => exact ⟨rfl, k ρ σ H p0 R rfl fun _ _ => rfl⟩
  | cons _ _ => simp at h0
theorem sgs_cons {a : Expr} {r : List Expr} {x : MT} {xs : List MT} {S : Nat → Prop} (h1 : SG g P d X a x S) (h2 : SGs g P d X r xs S) (hs : (assignEach (a :: r) X.env).map (·.2) = assign a X.env :: (assignEach r X.env).map (·.2)) : SGs g P d X (a :: r) (x :: xs) S := by
  refine PGs.imp (pgs_cons h1 h2 hs) fun y σ H Q ⟨ρ0, H0, ρ, σm, hm, v, σm', hm', lv, p0, fr, R, r, e, k⟩ => ?_
  cases r with
  | nil => simp at fr
  | @cons v1 y1 vs ys r t =>
    simp only [evalTs] at e
    split at e
    · rename_i σ1 h1 e1
      have hall := fr.1
      rw [List.all_cons, Bool.and_eq_true] at hall
      have n1 := nl_of hall.1
      refine ⟨y1, ys, rfl, ρ, H, ρ, σm, hm, v1, σ1, h1, fun a hb => by obtain ⟨zs, e⟩ := R.blk a hb; rw [e]; simp, .refl, fun a ⟨⟨xs, e⟩, _⟩ => absurd e (n1 xs), R, r, e1, fun ρ' σ' H' p' R' hl hs => ?_⟩
      refine ⟨ρ0, H0, ρ', σ1, h1, vs, σm', hm', lv, p0.trans p', ⟨hall.2, by simpa using fr.2⟩, R', t.post p' R.noT, e, fun ρ2 σ2 H2 p2 R2 hl2 hs2 => k ρ2 σ2 H2 p2 R2 (hl2.trans hl) fun i hi => (hs2 i hi).trans (hs i hi)⟩
    · cases e
theorem sg_tup (hK : g.K = X.K) {es : List Expr} {ms : List MT} {k : Nat} {pos : Pos} {S : Nat → Prop} (hc : X.calm = true) (h : SGs g P d X es ms S) (hn : (assignEach es X.env).length = ms.length) (hst : (assignEach es X.env).findIdx? (·.1) = none) : SG g P d X (.Tuple es k pos) (.tup ms) S := by
  refine PG.imp (pg_seq hc h hn hst) fun y σ H Q ⟨ρ0, H0, ρ, σm, hm, v, σm', hm', lv, p0, fr, R, r, e, kk⟩ => ?_
  simp only [evalT] at e
  split at e
  · rename_i xs hx
    split at e
    · rename_i hz
      obtain ⟨a, vs, rfl, ht, rs⟩ := R.seq r hx
      rw [hK] at ht
      exact ⟨a, vs, rfl, ht, by rw [← rs.length]; exact hz.1, ρ0, H0, ρ, σm, hm, xs, σm', hm', lv, p0, ⟨hz.2, hz.1⟩, R, rs, e, kk⟩
    · cases e
  · cases e
theorem unbL {ρ0 ρ1 : Rh} {H0 H1 : Hp} {σm : Loc} {hm : Hm} {σ : L2.St} (lv : ∀ a, ρ0.b a → H0 a ≠ none) (p : Post ρ0 H0 ρ1 H1) (R1 : Rel g ρ1 σm hm σ H1) {T : Addr → Prop} (fr : ∀ a, T a → H0 a = none ∧ ρ1.b a) :
    ∃ b, (∀ a, b a → ρ1.b a) ∧ (∀ a, T a → ¬ b a) ∧ Post ρ0 H0 (ρ1.less b) H1 ∧ Rel g (ρ1.less b) σm hm σ H1 :=
  ⟨fun a => ρ1.b a ∧ ¬ T a, fun a h => h.1, fun a h q => q.2 h, ⟨p.ext, p.new, fun a h => p.newb a h.1, p.keep, p.more, fun a h => ⟨p.blk a h, fun q => lv a h (fr a q).1⟩⟩, R1.less fun a h => h.1⟩
theorem L.bndO {γ δ : Type} {K' : Kd γ δ} {σm : Loc} {hm hm1 : Hm} {σ : L2.St} {ρ : Rh} {H : Hp} {fa : Loc → Hm → RO γ} {v : γ} {Q' : δ → Hp → Prop} (hR : Rel g ρ σm hm σ H) (he : fa σm hm = some (.ok v hm1))
    (h : ∀ ρ1 H1 x, Post ρ H ρ1 H1 → Rel g ρ1 σm hm1 σ H1 → K'.R ρ1 H1 v x → (∀ a, K'.T v x a → H a = none ∧ ρ1.b a) → Q' x H1) : L g W K' fa σ H Q' :=
  ⟨ρ, σm, hm, _, hR, he, h⟩
theorem Rel.setSub {ρ : Rh} {H : Hp} {σm : Loc} {hm h3 : Hm} {σ : L2.St} {vo vi v : MV} {x1 x2 z : V} (R : Rel g ρ σm hm σ H) (r1 : RV g ρ H vo x1) (r2 : RV g ρ H vi x2) (rz : RV g ρ H v z) (e3 : Mi.setSub vo vi v hm = some h3) :
    ∃ a ws kk j, x1 = .ref a ∧ x2 = .int kk ∧ H a = some (.lst ws) ∧ ixN ws.length kk = some j ∧ ∃ ρ', Post ρ H ρ' (upd H a (.lst (ws.set j z))) ∧ Rel g ρ' σm h3 σ (upd H a (.lst (ws.set j z))) := by
  unfold Mi.setSub at e3
  split at e3
  · split at e3
    · rename_i xs hx
      split at e3
      · rename_i j hj
        split at e3
        · rename_i hp
          cases e3
          cases r2
          cases r1 with
          | ref hn =>
            obtain ⟨ws, hw, rw'⟩ := R.obj _ _ _ hx hn
            obtain ⟨p5, R5⟩ := R.write hn hx hw (rw'.set j rz) (by
              have hpz := R.pur _ xs hx
              refine pureL_mem.mpr fun y hy => ?_
              rcases List.mem_or_eq_of_mem_set hy with q | q
              · exact pureL_mem.mp hpz y q
              · rw [q]; exact hp)
            exact ⟨_, ws, _, j, rfl, rfl, hw, by rw [← rw'.length]; exact hj, _, p5, R5⟩
        · cases e3
      · cases e3
    · cases e3
  · cases e3
theorem sg_sub {o i : Expr} {x y : ME} {pos : Pos} {S : Nat → Prop} (ho : SE g P d W X o x) (hi : SE g P d W X i y)
    (ha : ∀ v, assign (.Subscript o i pos) X.env v = (do
      let ov ← holding [v] (eval o X.env)
      let iv ← holding [v, ov] (eval i X.env)
      standAt pos
      holding [v, ov, iv] (setItem ov iv v)
      release [v, ov, iv] [])) : SG g P d X (.Subscript o i pos) (.sub x y) S := by
  refine PG.imp (pg_sub ho hi set_list ha) fun z σ H Q ⟨ρ0, H0, ρ, σm, hm, v, σm', hm', lv, p0, fr, R, r, e, k⟩ => ?_
  simp only [evalT] at e
  split at e
  · rename_i vo h1 e1
    split at e
    · rename_i vi h2 e2
      split at e
      · rename_i h3 e3
        cases e
        refine L.bndO R e1 fun ρ1 H1 x1 p1 R1 r1 _ => L.bndO R1 e2 fun ρ2 H2 x2 p2 R2 r2 _ => ?_
        have r' := (r.post p1 R.noT).post p2 R1.noT
        have p02 := p0.trans (p1.trans p2)
        obtain ⟨b, hb, hT, p4, R4⟩ := unbL lv p02 R2 (T := TV v z) fun a t => ⟨(fr a t).1, p2.blk a (p1.blk a (fr a t).2)⟩
        have rz := (r'.less hb).frz (fun a h e => hT a ⟨h, e⟩)
        have r1 := (r1.post p2 R1.noT).less hb
        obtain ⟨a, ws, kk, j, e1, e2, hw, hj, ρ5, p5, R5⟩ := R4.setSub r1 (RV.less hb r2) rz e3
        exact ⟨a, ws, kk, j, e1, e2, hw, hj, k _ σ _ (p4.trans p5) R5 rfl fun _ _ => rfl⟩
      · cases e
    · cases e
  · cases e
end
end Mi

/-! Mi8: what loops walk; comprehensions. -/
namespace Mi
open PySem PySem.Spec PyProof.Rows L2
section
variable {X : Cx} {tg : Expr}
/-- a list or a tuple, by value -/
def iSeq (K : PySem.W.Frag) (tl : TE) : TI := fun σ H R => tl σ H fun x H1 => ∃ a, x = .ref a ∧ ((∃ xs, SqL K H1 a xs) ∧ R (Itl K a) H1 ∨ (∃ xs, SqT K H1 a xs) ∧ R (Itt K a) H1)
theorem pi_seq {l : Expr} {tl : TE} (hl : PE X l tl) : PI X tg l (iSeq X.K tl) := by
  refine ⟨fun pins s σ H R I h => ?_⟩
  refine thn (hl.run pins s σ H _ I h) fun v s1 ⟨x, H1, I1, r1, q1⟩ => ?_
  obtain ⟨a, e, q1⟩ := q1
  subst e
  cases r1
  rcases q1 with ⟨⟨xs, hq⟩, q⟩ | ⟨⟨xs, hq⟩, q⟩
  · obtain ⟨its, rv, p, hz⟩ := I1.list hq
    refine wpAny_pyIter_list p.isList ?_
    refine ⟨s1.heap.objs.size, [s1.heap.objs.size], _, _, H1, rfl, I1.kept (t' := s1.toks) fun b o e => Heap.get?_push_of_some _ e, turn_list a _, ⟨_, Heap.get?_push_size _ rfl, rfl, rfl⟩, fun b hb => ?_, q⟩
    have e : b = s1.heap.objs.size := by simpa using hb
    subst e
    exact I1.fpOk (Nat.le_refl _) (I1.hok.fresh (Nat.le_refl _))
  · obtain ⟨its, rv, p, hz⟩ := I1.tuple hq
    refine wpAny_pyIter_tuple (show s1.heap.IsTuple a its.toArray from p) ?_
    refine ⟨s1.heap.objs.size, [s1.heap.objs.size], _, _, H1, rfl, I1.kept (t' := s1.toks) fun b o e => Heap.get?_push_of_some _ e, turn_tuple a _, ⟨_, Heap.get?_push_size _ rfl, rfl, rfl⟩, fun b hb => ?_, q⟩
    have e : b = s1.heap.objs.size := by simpa using hb
    subst e
    exact I1.fpOk (Nat.le_refl _) (I1.hok.fresh (Nat.le_refl _))
end

/-- an iterator walks what the small language walks -/
def ItOk (g : GE) (s : Src) (J : It) (ρ1 : Rh) (H1 : Hp) : Prop := ∀ (i : Nat) (ρ' : Rh) (hm' : Hm) (σm' : Loc) (σ' : L2.St) (H' : Hp), Post ρ1 H1 ρ' H' → Rel g ρ' σm' hm' σ' H' →
  (s.nth i hm' = some none → J.stop i H') ∧
  ∀ v, s.nth i hm' = some (some v) → J.go i H' ∧ NL v ∧ ∀ x H'', J.yld i H' x H'' → Post ρ' H' ρ' H'' ∧ Rel g ρ' σm' hm' σ' H'' ∧ RV g ρ' H'' v x
def kS (g : GE) : Kd Src It := ⟨fun ρ H s J => ItOk g s J ρ H, fun _ _ _ => False⟩
abbrev LI (g : GE) (W : WX) (f : Loc → Hm → RO Src) : TI := L g W (kS g) f
def CmpOk (g : GE) (Sq : Hp → Addr → List V → Prop) (c : Cmp) (a : Addr) (ρ1 : Rh) (H1 : Hp) : Prop := ∀ (i : Nat) (ρ' : Rh) (hm' : Hm) (σm' : Loc) (σ' : L2.St) (H' : Hp), Post ρ1 H1 ρ' H' → Rel g ρ' σm' hm' σ' H' →
  (c.nth i hm' = some none → ∃ xs, Sq H' a xs ∧ xs.length ≤ i) ∧
  (∀ v, c.nth i hm' = some (some v) → ∃ xs x, Sq H' a xs ∧ xs[i]? = some x ∧ RV g ρ' H' v x ∧ NL v)
section
variable {g : GE} {ρ ρ' : Rh} {H H' : Hp} {σm : Loc} {hm : Hm} {σ : L2.St}
theorem nthU_ok {xs : List MV} {vs : List V} {i : Nat} {Sq : List V → Prop} (rs : RVs g ρ H xs vs) (hs : Sq vs) :
    (nthU xs[i]? = some none → ∃ xs, Sq xs ∧ xs.length ≤ i) ∧ (∀ v, nthU xs[i]? = some (some v) → ∃ xs x, Sq xs ∧ xs[i]? = some x ∧ RV g ρ H v x ∧ NL v) := by
  constructor
  · intro e
    cases hx : xs[i]? with
    | none => exact ⟨vs, hs, rs.none_of hx⟩
    | some y =>
      rw [hx] at e
      unfold nthU at e
      obtain ⟨a, _, e2⟩ := Option.map_eq_some_iff.mp e
      cases e2
  · intro v e
    cases hx : xs[i]? with
    | none => rw [hx] at e; cases e
    | some y =>
      rw [hx] at e
      unfold nthU at e
      obtain ⟨a, e1, e2⟩ := Option.map_eq_some_iff.mp e
      cases e2
      obtain ⟨rfl, n⟩ := unl_of e1
      obtain ⟨x, h1, h2⟩ := rs.get hx
      exact ⟨vs, x, hs, h1, h2, n⟩
theorem cmp_ok (R : Rel g ρ σm hm σ H) {v : MV} {x : V} {c : Cmp} (r : RV g ρ H v x) (e : cmpOf v hm = some c) :
    ∃ a, x = .ref a ∧ ((c.isL = true ∧ (∃ xs, SqL g.K H a xs) ∧ CmpOk g (SqL g.K) c a ρ H) ∨ (c.isL = false ∧ (∃ xs, SqT g.K H a xs) ∧ CmpOk g (SqT g.K) c a ρ H)) := by
  cases r with
  | non => cases e
  | bl _ => cases e
  | int _ => cases e
  | str _ => cases e
  | fn _ => cases e
  | tup h t =>
    cases e
    refine ⟨_, rfl, .inr ⟨rfl, ⟨_, h⟩, fun i ρ' hm' σm' σ' H' p R' => ?_⟩⟩
    exact nthU_ok (Sq := fun xs => SqT g.K H' _ xs) (t.post p R.noT) (SqT.post h p R.noT)
  | lst h m t =>
    cases e
    refine ⟨_, rfl, .inl ⟨rfl, ⟨_, .of h⟩, fun i ρ' hm' σm' σ' H' p R' => ?_⟩⟩
    exact nthU_ok (Sq := fun xs => SqL g.K H' _ xs) (t.post p R.noT) (.of (p.keep _ _ h m))
  | scr h =>
    cases e
    refine ⟨_, rfl, .inl ⟨rfl, ⟨_, h.sq⟩, fun i ρ' hm' σm' σ' H' p R' => ?_⟩⟩
    exact nthU_ok (Sq := fun xs => SqL g.K H' _ xs) RVs.ints (h.post p).sq
  | fz h m t =>
    cases e
    refine ⟨_, rfl, .inl ⟨rfl, ⟨_, .of h⟩, fun i ρ' hm' σm' σ' H' p R' => ?_⟩⟩
    exact nthU_ok (Sq := fun xs => SqL g.K H' _ xs) (t.post p R.noT) (.of (p.keep _ _ h m.1))
  | @ref n a h =>
    simp only [cmpOf] at e
    split at e
    · rename_i xs hx
      cases e
      obtain ⟨_, vs, e1, hs, _⟩ := R.items (.ref h) hx
      cases e1
      refine ⟨_, rfl, .inl ⟨rfl, ⟨_, hs⟩, fun i ρ' hm' σm' σ' H' p R' => ?_⟩⟩
      have r' : RV g ρ' H' (.ref n) (.ref a) := .ref (p.ext _ _ h)
      constructor
      · intro e
        simp only [Cmp.nth] at e
        split at e
        · rename_i ys hy
          obtain ⟨_, ws, e1, hs', rs⟩ := R'.items r' hy
          cases e1
          exact (nthU_ok (Sq := fun xs => SqL g.K H' _ xs) rs hs').1 e
        · cases e
      · intro v e
        simp only [Cmp.nth] at e
        split at e
        · rename_i ys hy
          obtain ⟨_, ws, e1, hs', rs⟩ := R'.items r' hy
          cases e1
          exact (nthU_ok (Sq := fun xs => SqL g.K H' _ xs) rs hs').2 v e
        · cases e
    · cases e
theorem it_l {c : Cmp} {a : Addr} (h : CmpOk g (SqL g.K) c a ρ H) : ItOk g (.one c) (Itl g.K a) ρ H := fun i ρ' hm' σm' σ' H' p R' => by
  obtain ⟨h1, h2⟩ := h i ρ' hm' σm' σ' H' p R'
  refine ⟨fun e => h1 e, fun v e => ?_⟩
  obtain ⟨xs, x, hs, hx, r, n⟩ := h2 v e
  refine ⟨⟨xs, x, hs, hx⟩, n, fun y H'' ⟨e1, e2⟩ => ?_⟩
  subst e1
  have := e2 xs hs
  rw [hx] at this
  cases this
  exact ⟨.refl, R', r⟩
theorem it_t {c : Cmp} {a : Addr} (h : CmpOk g (SqT g.K) c a ρ H) : ItOk g (.one c) (Itt g.K a) ρ H := fun i ρ' hm' σm' σ' H' p R' => by
  obtain ⟨h1, h2⟩ := h i ρ' hm' σm' σ' H' p R'
  refine ⟨fun e => h1 e, fun v e => ?_⟩
  obtain ⟨xs, x, hs, hx, r, n⟩ := h2 v e
  refine ⟨⟨xs, x, hs, hx⟩, n, fun y H'' ⟨e1, e2⟩ => ?_⟩
  subst e1
  have := e2 xs hs
  rw [hx] at this
  cases this
  exact ⟨.refl, R', r⟩
theorem it_e {c : Cmp} {a : Addr} (h : CmpOk g (SqL g.K) c a ρ H) : ItOk g (.enu c) (Ite g.K a) ρ H := fun i ρ' hm' σm' σ' H' p R' => by
  obtain ⟨h1, h2⟩ := h i ρ' hm' σm' σ' H' p R'
  constructor
  · intro e
    simp only [Src.nth] at e
    obtain ⟨o, e1, e2⟩ := Option.map_eq_some_iff.mp e
    cases o with
    | none => exact h1 e1
    | some _ => cases e2
  · intro v e
    simp only [Src.nth] at e
    obtain ⟨o, e1, e2⟩ := Option.map_eq_some_iff.mp e
    cases o with
    | none => cases e2
    | some w =>
      cases e2
      obtain ⟨xs, x, hs, hx, r, n⟩ := h2 w e1
      refine ⟨⟨xs, x, hs, hx⟩, (fun _ h => nomatch h), fun y H'' ⟨T, x', e1, hT, e2, e3⟩ => ?_⟩
      subst e1
      subst e2
      have := e3 xs hs
      rw [hx] at this
      cases this
      obtain ⟨P, R'', _⟩ := R'.laid (o := .tup [.int (i : Nat), x]) hT
      exact ⟨P, R'', .tup (.of upd_same) (.cons (.int _) (.cons (r.post P R'.noT) .nil))⟩
theorem it_eT {c : Cmp} {a : Addr} (h : CmpOk g (SqT g.K) c a ρ H) : ItOk g (.enu c) (IteT g.K a) ρ H := fun i ρ' hm' σm' σ' H' p R' => by
  obtain ⟨h1, h2⟩ := h i ρ' hm' σm' σ' H' p R'
  constructor
  · intro e
    simp only [Src.nth] at e
    obtain ⟨o, e1, e2⟩ := Option.map_eq_some_iff.mp e
    cases o with
    | none => exact h1 e1
    | some _ => cases e2
  · intro v e
    simp only [Src.nth] at e
    obtain ⟨o, e1, e2⟩ := Option.map_eq_some_iff.mp e
    cases o with
    | none => cases e2
    | some w =>
      cases e2
      obtain ⟨xs, x, hs, hx, r, n⟩ := h2 w e1
      refine ⟨⟨xs, x, hs, hx⟩, (fun _ h => nomatch h), fun y H'' ⟨T, x', e1, hT, e2, e3⟩ => ?_⟩
      subst e1
      subst e2
      have := e3 xs hs
      rw [hx] at this
      cases this
      obtain ⟨P, R'', _⟩ := R'.laid (o := .tup [.int (i : Nat), x]) hT
      exact ⟨P, R'', .tup (.of upd_same) (.cons (.int _) (.cons (r.post P R'.noT) .nil))⟩
theorem it_z {c d : Cmp} {a b : Addr} (h : CmpOk g (SqL g.K) c a ρ H) (k : CmpOk g (SqL g.K) d b ρ H) : ItOk g (.zip c d) (Itz g.K a b) ρ H := fun i ρ' hm' σm' σ' H' p R' => by
  obtain ⟨h1, h2⟩ := h i ρ' hm' σm' σ' H' p R'
  obtain ⟨k1, k2⟩ := k i ρ' hm' σm' σ' H' p R'
  have len : ∀ {c : Cmp} {a : Addr} {o : Option MV}, CmpOk g (SqL g.K) c a ρ H → c.nth i hm' = some o → ∃ xs, SqL g.K H' a xs := fun {c a o} h e => by
    obtain ⟨h1, h2⟩ := h i ρ' hm' σm' σ' H' p R'
    cases o with
    | none => obtain ⟨xs, hs, _⟩ := h1 e; exact ⟨xs, hs⟩
    | some v => obtain ⟨xs, _, hs, _⟩ := h2 v e; exact ⟨xs, hs⟩
  constructor
  · intro e
    simp only [Src.nth] at e
    split at e
    · cases e
    · rename_i o e1 e2
      obtain ⟨xs, hs, hl⟩ := h1 e1
      obtain ⟨ys, hs'⟩ := len k e2
      exact ⟨xs, ys, hs, hs', .inl hl⟩
    · rename_i o _ e1 e2
      obtain ⟨xs, hs, hl⟩ := k1 e2
      obtain ⟨ys, hs'⟩ := len h e1
      exact ⟨ys, xs, hs', hs, .inr hl⟩
    · cases e
  · intro v e
    simp only [Src.nth] at e
    split at e
    · rename_i x0 y0 e1 e2
      cases e
      obtain ⟨xs, x, hs, hx, r, n⟩ := h2 x0 e1
      obtain ⟨ys, y, hs', hy, r', n'⟩ := k2 y0 e2
      refine ⟨⟨xs, ys, x, y, hs, hs', hx, hy⟩, (fun _ h => nomatch h), fun z H'' ⟨T, x', y', e1, hT, e2, e3, e4⟩ => ?_⟩
      subst e1
      subst e2
      have := e3 xs hs
      rw [hx] at this
      cases this
      have := e4 ys hs'
      rw [hy] at this
      cases this
      obtain ⟨P, R'', _⟩ := R'.laid (o := .tup [x, y]) hT
      exact ⟨P, R'', .tup (.of upd_same) (.cons (r.post P R'.noT) (.cons (r'.post P R'.noT) .nil))⟩
    · cases e
    · cases e
    · cases e
theorem it_zT {c d : Cmp} {a b : Addr} (h : CmpOk g (SqT g.K) c a ρ H) (k : CmpOk g (SqT g.K) d b ρ H) : ItOk g (.zip c d) (RZ.ItzT g.K a b) ρ H := fun i ρ' hm' σm' σ' H' p R' => by
  obtain ⟨h1, h2⟩ := h i ρ' hm' σm' σ' H' p R'
  obtain ⟨k1, k2⟩ := k i ρ' hm' σm' σ' H' p R'
  have len : ∀ {c : Cmp} {a : Addr} {o : Option MV}, CmpOk g (SqT g.K) c a ρ H → c.nth i hm' = some o → ∃ xs, SqT g.K H' a xs := fun {c a o} h e => by
    obtain ⟨h1, h2⟩ := h i ρ' hm' σm' σ' H' p R'
    cases o with
    | none => obtain ⟨xs, hs, _⟩ := h1 e; exact ⟨xs, hs⟩
    | some v => obtain ⟨xs, _, hs, _⟩ := h2 v e; exact ⟨xs, hs⟩
  constructor
  · intro e
    simp only [Src.nth] at e
    split at e
    · cases e
    · rename_i o e1 e2
      obtain ⟨xs, hs, hl⟩ := h1 e1
      obtain ⟨ys, hs'⟩ := len k e2
      exact ⟨xs, ys, hs, hs', .inl hl⟩
    · rename_i o _ e1 e2
      obtain ⟨xs, hs, hl⟩ := k1 e2
      obtain ⟨ys, hs'⟩ := len h e1
      exact ⟨ys, xs, hs', hs, .inr hl⟩
    · cases e
  · intro v e
    simp only [Src.nth] at e
    split at e
    · rename_i x0 y0 e1 e2
      cases e
      obtain ⟨xs, x, hs, hx, r, n⟩ := h2 x0 e1
      obtain ⟨ys, y, hs', hy, r', n'⟩ := k2 y0 e2
      refine ⟨⟨xs, ys, x, y, hs, hs', hx, hy⟩, (fun _ h => nomatch h), fun z H'' ⟨T, x', y', e1, hT, e2, e3, e4⟩ => ?_⟩
      subst e1
      subst e2
      have := e3 xs hs
      rw [hx] at this
      cases this
      have := e4 ys hs'
      rw [hy] at this
      cases this
      obtain ⟨P, R'', _⟩ := R'.laid (o := .tup [x, y]) hT
      exact ⟨P, R'', .tup (.of upd_same) (.cons (r.post P R'.noT) (.cons (r'.post P R'.noT) .nil))⟩
    · cases e
    · cases e
    · cases e
theorem it_r {lo : Int} {n : Nat} : ItOk g (.rg (rng lo n)) (Itr lo n) ρ H := fun i ρ' hm' σm' σ' H' p R' => by
  have hl : (rng lo n).length = n := by simp [rng]
  by_cases hi : i < n
  · have hx : (rng lo n)[i]? = some (.int (lo + (i : Nat))) := by simp [rng, hi]
    refine ⟨fun e => ?_, fun v e => ?_⟩
    · simp only [Src.nth, hx] at e
      cases e
    · simp only [Src.nth, hx] at e
      cases e
      refine ⟨hi, (fun _ h => nomatch h), fun x H'' ⟨e1, e2⟩ => ?_⟩
      subst e1
      subst e2
      exact ⟨.refl, R', .int _⟩
  · have hx : (rng lo n)[i]? = none := List.getElem?_eq_none (by omega)
    refine ⟨fun e => ?_, fun v e => ?_⟩
    · show n ≤ i; omega
    · simp only [Src.nth, hx] at e
      cases e
theorem it_rc {lo c : Int} {n : Nat} : ItOk g (.rg (rngC lo c n)) (Itc lo c n) ρ H := fun i ρ' hm' σm' σ' H' p R' => by
  have hl : (rngC lo c n).length = n := by simp [rngC]
  by_cases hi : i < n
  · have hx : (rngC lo c n)[i]? = some (.int (lo + (i : Nat) * c)) := by simp [rngC, hi]
    refine ⟨fun e => ?_, fun v e => ?_⟩
    · simp only [Src.nth, hx] at e
      cases e
    · simp only [Src.nth, hx] at e
      cases e
      refine ⟨hi, (fun _ h => nomatch h), fun x H'' ⟨e1, e2⟩ => ?_⟩
      subst e1
      subst e2
      exact ⟨.refl, R', .int _⟩
  · have hx : (rngC lo c n)[i]? = none := List.getElem?_eq_none (by omega)
    refine ⟨fun e => ?_, fun v e => ?_⟩
    · show n ≤ i; omega
    · simp only [Src.nth, hx] at e
      cases e
end
section
variable {G : CG} {g : GE} {P : List FnD} {d : Nat} {W : WX} {sc : Scope} {X : Cx} {tg : Expr}
theorem PI.imp {e : Expr} {t t' : TI} (h : PI X tg e t) (i : ∀ σ H R, t' σ H R → t σ H R) : PI X tg e t' := ⟨fun pins s σ H R I q => h.run pins s σ H R I (i σ H R q)⟩
abbrev SI (g : GE) (P : List FnD) (d : Nat) (W : WX) (X : Cx) (tg e : Expr) (m : MI) : Prop := PI X tg e (LI g W (evalI (calls P d) m))
theorem Fin.okS {σm : Loc} {σ : L2.St} {ρ : Rh} {H : Hp} {h' : Hm} {s : Src} {J : It} {Q : It → Hp → Prop} (hF : Fin g W (kS g) σm σ ρ H (.ok s h') Q) (R0 : Rel g ρ σm h' σ H) (r : ItOk g s J ρ H) : Q J H :=
  hF ρ H J .refl R0 r fun a h => h.elim
theorem si_ex (ok : XOk G g P d W sc X) {a : Expr} {x : ME} (ha : SE g P d W X a x) : SI g P d W X tg a (.ex x) := by
  refine PI.imp (pi_seq ha) fun σ H Q ⟨ρ, σm, hm, r, R, e, F⟩ => ?_
  simp only [evalI] at e
  refine L.bnd R e F fun ρ1 H1 v hm1 x1 p1 R1 r1 fr1 e F => ?_
  cases hc : cmpOf v hm1 with
  | none => rw [hc] at e; cases e
  | some c =>
    rw [hc] at e
    cases e
    obtain ⟨a, rfl, hh⟩ := cmp_ok R1 r1 hc
    refine ⟨a, rfl, ?_⟩
    rw [← ok.go.hK]
    rcases hh with ⟨_, h1, h2⟩ | ⟨_, h1, h2⟩
    · exact .inl ⟨h1, F.okS R1 (it_l h2)⟩
    · exact .inr ⟨h1, F.okS R1 (it_t h2)⟩
theorem small_of {i : Int} (h : small i = true) : -(2 ^ 62) ≤ i ∧ i < 2 ^ 62 := by
  unfold small at h
  rw [Bool.and_eq_true, decide_eq_true_eq, decide_eq_true_eq] at h
  omega
theorem si_r1 (ok : XOk G g P d W sc X) {a : Expr} {x : ME} {p pos : Pos} (hg : isGl sc ("range" : Str) = true) (hs : noStar a = true) (ha : SE g P d W X a x) : SI g P d W X tg (.Call (.Name "range" p) [a] [] pos) (.r1 x) := by
  refine PI.imp (pi_range1 (ok.gl hg) (ok.go.blt _ (by decide +kernel)) (pa_cons ha pa_nil (star_cons hs)) (star_cons hs)) fun σ H Q ⟨ρ, σm, hm, r, R, e, F⟩ => ?_
  simp only [evalI] at e
  refine L.bnd R e F fun ρ1 H1 v hm1 x1 p1 R1 r1 fr1 e F => ?_
  split at e
  · split at e
    · rename_i hz
      cases e
      cases r1
      have := small_of hz
      exact ⟨_, rfl, this.1, this.2, F.okS R1 it_r⟩
    · cases e
  · cases e
theorem si_r2 (ok : XOk G g P d W sc X) {a b : Expr} {x y : ME} {p pos : Pos} (hg : isGl sc ("range" : Str) = true) (hs : noStar a = true) (hs2 : noStar b = true) (ha : SE g P d W X a x) (hb : SE g P d W X b y) : SI g P d W X tg (.Call (.Name "range" p) [a, b] [] pos) (.r2 x y) := by
  refine PI.imp (pi_range2 (ok.gl hg) (ok.go.blt _ (by decide +kernel)) (pa_cons ha (pa_cons hb pa_nil (star_cons hs2)) (star_cons hs)) (by rw [star_cons hs, star_cons hs2] <;> rfl) (star_cons hs2)) fun σ H Q ⟨ρ, σm, hm, r, R, e, F⟩ => ?_
  simp only [evalI] at e
  refine L.bnd R e F fun ρ1 H1 v hm1 x1 p1 R1 r1 fr1 e F => L.bnd R1 e F fun ρ2 H2 w hm2 y1 p2 R2 r2 fr2 e F => ?_
  split at e
  · split at e
    · rename_i hz
      cases e
      cases r1
      cases r2
      rw [Bool.and_eq_true] at hz
      have h1 := small_of hz.1
      have h2 := small_of hz.2
      exact ⟨_, _, rfl, ⟨h1.1, h1.2, h2.1, h2.2⟩, F.okS R2 it_r⟩
    · cases e
  · cases e
theorem si_r3 (ok : XOk G g P d W sc X) {a b c : Expr} {x y z : ME} {p pos : Pos} (hg : isGl sc ("range" : Str) = true) (hs : noStar a = true) (hs2 : noStar b = true) (hs3 : noStar c = true) (ha : SE g P d W X a x) (hb : SE g P d W X b y) (hc : SE g P d W X c z) : SI g P d W X tg (.Call (.Name "range" p) [a, b, c] [] pos) (.r3 x y z) := by
  refine PI.imp (pi_range3 (ok.gl hg) (ok.go.blt _ (by decide +kernel)) (pa_cons ha (pa_cons hb (pa_cons hc pa_nil (star_cons hs3)) (star_cons hs2)) (star_cons hs)) (star_cons hs) (star_any (by simp [hs2, hs3]))) fun σ H Q ⟨ρ, σm, hm, r, R, e, F⟩ => ?_
  simp only [evalI] at e
  refine L.bnd R e F fun ρ1 H1 v hm1 x1 p1 R1 r1 fr1 e F => L.bnd R1 e F fun ρ2 H2 w hm2 y1 p2 R2 r2 fr2 e F => L.bnd R2 e F fun ρ3 H3 u hm3 z1 p3 R3 r3 fr3 e F => ?_
  split at e
  · split at e
    · rename_i hz
      cases e
      cases r1
      cases r2
      cases r3
      simp only [Bool.and_eq_true, decide_eq_true_eq] at hz
      refine ⟨_, _, _, _, rfl, ⟨hz.1.1.1.2, hz.1.1.2, hz.1.2, ?_⟩, F.okS R3 it_rc⟩
      unfold rngN
      omega
    · cases e
  · cases e
theorem si_enu (ok : XOk G g P d W sc X) {a : Expr} {x : ME} {p pos tpos : Pos} {elts : List Expr} {kk : Nat} (hg : isGl sc ("enumerate" : Str) = true) (hs : noStar a = true) (ha : SE g P d W X a x) : SI g P d W X (.Tuple elts kk tpos) (.Call (.Name "enumerate" p) [a] [] pos) (.enu x) := by
  refine PI.imp (pi_enumA (ok.gl hg) (ok.go.blt _ (by decide +kernel)) (pa_cons ha pa_nil (star_cons hs)) (star_cons hs)) fun σ H Q ⟨ρ, σm, hm, r, R, e, F⟩ => ?_
  simp only [evalI] at e
  refine L.bnd R e F fun ρ1 H1 v hm1 x1 p1 R1 r1 fr1 e F => ?_
  cases hc : cmpOf v hm1 with
  | none => rw [hc] at e; cases e
  | some c =>
    rw [hc] at e
    cases e
    obtain ⟨a, rfl, hh⟩ := cmp_ok R1 r1 hc
    rw [← ok.go.hK]
    rcases hh with ⟨_, ⟨xs, h1⟩, h2⟩ | ⟨_, ⟨xs, h1⟩, h2⟩
    · exact ⟨a, xs, rfl, .inl ⟨h1, F.okS R1 (it_e h2)⟩⟩
    · exact ⟨a, xs, rfl, .inr ⟨h1, F.okS R1 (it_eT h2)⟩⟩
theorem CmpOk.post {Sq : Hp → Addr → List V → Prop} {c : Cmp} {a : Addr} {ρ ρ1 : Rh} {H H1 : Hp} (h : CmpOk g Sq c a ρ H) (p : Post ρ H ρ1 H1) : CmpOk g Sq c a ρ1 H1 := fun i ρ' hm' σm' σ' H' q R' => h i ρ' hm' σm' σ' H' (p.trans q) R'
theorem si_zip (ok : XOk G g P d W sc X) {a b : Expr} {x y : ME} {p pos tpos : Pos} {elts : List Expr} {kk : Nat} (hg : isGl sc ("zip" : Str) = true) (hs : noStar a = true) (hs2 : noStar b = true) (ha : SE g P d W X a x) (hb : SE g P d W X b y) : SI g P d W X (.Tuple elts kk tpos) (.Call (.Name "zip" p) [a, b] [] pos) (.zip x y) := by
  refine PI.imp (RZ.pi_zipA (ok.gl hg) (ok.go.blt _ (by decide +kernel)) (pa_cons ha (pa_cons hb pa_nil (star_cons hs2)) (star_cons hs)) (star_cons hs) (star_any (by simp [hs2]))) fun σ H Q ⟨ρ, σm, hm, r, R, e, F⟩ => ?_
  simp only [evalI] at e
  refine L.bnd R e F fun ρ1 H1 v hm1 x1 p1 R1 r1 fr1 e F => L.bnd R1 e F fun ρ2 H2 w hm2 y1 p2 R2 r2 fr2 e F => ?_
  have r1 := r1.post p2 R1.noT
  split at e
  · rename_i c d hc hd
    split at e
    · rename_i hl
      cases e
      obtain ⟨a1, rfl, h1⟩ := cmp_ok R2 r1 hc
      obtain ⟨a2, rfl, h2⟩ := cmp_ok R2 r2 hd
      rw [← ok.go.hK]
      rcases h1 with ⟨l1, ⟨xs, s1⟩, k1⟩ | ⟨l1, ⟨xs, s1⟩, k1⟩
      · rcases h2 with ⟨l2, ⟨ys, s2⟩, k2⟩ | ⟨l2, ⟨ys, s2⟩, k2⟩
        · exact ⟨_, _, xs, ys, rfl, .inl ⟨s1, s2, F.okS R2 (it_z k1 k2)⟩⟩
        · rw [l1, l2] at hl; cases hl
      · rcases h2 with ⟨l2, ⟨ys, s2⟩, k2⟩ | ⟨l2, ⟨ys, s2⟩, k2⟩
        · rw [l1, l2] at hl; cases hl
        · exact ⟨_, _, xs, ys, rfl, .inr ⟨s1, s2, F.okS R2 (it_zT k1 k2)⟩⟩
    · cases e
  · cases e
end
end Mi

/-! Mi9: comprehensions. -/
namespace Mi
open PySem PySem.Spec PyProof.Rows L2
section
theorem wipeL_get {σ : Loc} {i : Nat} : ∀ {vs : List Nat} {v : MV}, (wipeL σ vs)[i]? = some (some v) → σ[i]? = some (some v) ∧ i ∉ vs
  | [], v, h => ⟨h, by simp⟩
  | w :: vs, v, h => by
    unfold wipeL at h
    by_cases hi : w = i
    · subst hi
      by_cases hv : w < (wipeL σ vs).length
      · rw [List.getElem?_set_self hv] at h; cases h
      · rw [List.getElem?_eq_none (by simpa using hv)] at h; cases h
    · rw [List.getElem?_set_ne hi] at h
      obtain ⟨h1, h2⟩ := wipeL_get h
      exact ⟨h1, by simp only [List.mem_cons, not_or]; exact ⟨fun e => hi e.symm, h2⟩⟩
theorem wipeL_length (σ : Loc) : ∀ vs : List Nat, (wipeL σ vs).length = σ.length
  | [] => rfl
  | v :: vs => by unfold wipeL; rw [List.length_set, wipeL_length σ vs]
theorem wipe_out {σ : L2.St} {i : Nat} : ∀ {vs : List Nat}, i ∉ vs → (wipe σ vs)[i]? = σ[i]?
  | [], _ => rfl
  | w :: vs, h => by
    unfold wipe
    simp only [List.mem_cons, not_or] at h
    rw [List.getElem?_set_ne (Ne.symm h.1), wipe_out h.2]
theorem wipe_in {σ : L2.St} {i : Nat} (hi : i < σ.length) : ∀ {vs : List Nat}, i ∈ vs → (wipe σ vs)[i]? = some none
  | [], h => by simp at h
  | w :: vs, h => by
    unfold wipe
    by_cases e : w = i
    · subst e
      rw [List.getElem?_set_self (by rw [wipe_length]; exact hi)]
    · rw [List.getElem?_set_ne e]
      rcases List.mem_cons.mp h with q | q
      · exact absurd q.symm e
      · exact wipe_in hi q
theorem wipe_eq {σ σ' : L2.St} {vs : List Nat} (hl : σ'.length = (wipe σ vs).length) (h : ∀ (i : Nat), ¬ i ∈ vs → σ'[i]? = (wipe σ vs)[i]?) : wipe σ' vs = wipe σ vs := by
  apply List.ext_getElem?
  intro i
  by_cases hi : i ∈ vs
  · by_cases hlt : i < σ.length
    · rw [wipe_in hlt hi, wipe_in (by rw [hl, wipe_length]; exact hlt) hi]
    · rw [List.getElem?_eq_none (by rw [wipe_length, hl, wipe_length]; omega), List.getElem?_eq_none (by rw [wipe_length]; omega)]
  · rw [wipe_out hi, h i hi]
end
section
variable {g : GE} {ρ ρ' : Rh} {H H' : Hp} {σm : Loc} {hm : Hm} {σ : L2.St}
theorem Rel.wipe (R : Rel g ρ σm hm σ H) (vs : List Nat) : Rel g ρ (wipeL σm vs) hm (L2.wipe σ vs) H :=
  ⟨R.len, R.nd, R.obj, R.pur, by rw [wipeL_length, wipe_length]; exact R.slen, fun i v h => by
    obtain ⟨h1, h2⟩ := wipeL_get h
    obtain ⟨x, e, r⟩ := R.loc i v h1
    exact ⟨x, by rw [wipe_out h2]; exact e, r⟩, fun i v h => R.nol i v (wipeL_get h).1, R.blk⟩
/-- an owned list is written -/
theorem mv_poke {D : Addr} {as bs : List V} (bD : ρ.b D) (hD : H D = some (.lst as)) : MvP g ρ H ρ (upd H D (.lst bs)) := ⟨fun a vs h => by
  rcases h with h | h
  · rcases h with h | ⟨o, h⟩
    · exact .inl (.inl (by rw [upd_ne (fun e => by subst e; rw [hD] at h; cases h)]; exact h))
    · exact .inl (.inr ⟨o, by rw [upd_ne (fun e => by subst e; rw [hD] at h; cases h)]; exact h⟩)
  · exact .inr h, fun a vs h o => ⟨by rw [upd_ne (fun e => by subst e; exact o.2 bD)]; exact h, o⟩, fun a o vs h n => ⟨by rw [upd_ne (fun e => by subst e; rw [hD] at h; cases h)]; exact h, n⟩⟩
theorem Rel.poke {ρ1 : Rh} {H1 : Hp} {σ1 : L2.St} {σm1 σm2 : Loc} {hm1 : Hm} {σ2 : L2.St} {D : Addr} {as : List V} (bs : List V) (R : Rel g ρ σm2 hm σ2 H) (R1 : Rel g ρ1 σm1 hm1 σ1 H1) (p : Post ρ1 H1 ρ H) (nD : H1 D = none) (bD : ρ.b D) (oD : D ∉ ρ.l) (hD : H D = some (.lst as)) :
    Post ρ1 H1 ρ (upd H D (.lst bs)) ∧ Rel g ρ σm1 hm σ1 (upd H D (.lst bs)) := by
  have M := mv_poke (g := g) (bs := bs) bD hD
  have P : Post ρ1 H1 ρ (upd H D (.lst bs)) := ⟨p.ext, p.new, p.newb, fun a o h m => by
    rw [upd_ne (fun e => by subst e; rw [nD] at h; cases h)]
    exact p.keep a o h m, fun a h => by
    by_cases e : a = D
    · subst e; exact nD
    · rw [upd_ne e] at h; exact p.more a h, p.blk⟩
  refine ⟨P, ⟨R.len, R.nd, fun i o a h1 h2 => ?_, R.pur, R1.slen, fun i v h => ?_, R1.nol, fun a h => ?_⟩⟩
  · have na : a ≠ D := fun e => by subst e; exact oD (List.mem_of_getElem? h2)
    have q := R.obj i o a h1 h2
    cases o with
    | lst ys =>
      obtain ⟨ws, e, t⟩ := q
      exact ⟨ws, by rw [upd_ne na]; exact e, t.moveP M (R.pur i ys h1)⟩
    | scr ns =>
      obtain ⟨ob, e⟩ := q
      exact ⟨ob, by rw [upd_ne na]; exact e⟩
    | dct _ => exact q
  · obtain ⟨x, e, r⟩ := R1.loc i v h
    exact ⟨x, e, r.post P R1.noT⟩
  · by_cases e : a = D
    · subst e; exact ⟨bs, upd_same⟩
    · obtain ⟨xs, e2⟩ := R.blk a h
      exact ⟨xs, by rw [upd_ne e]; exact e2⟩
theorem nolL_append : ∀ {xs ys : List MV}, nolL (xs ++ ys) = (nolL xs && nolL ys)
  | [], _ => by simp [nolL]
  | x :: xs, ys => by
    rw [List.cons_append]
    simp only [nolL]
    rw [nolL_append, Bool.and_assoc]
end
section
variable {G : CG} {g : GE} {P : List FnD} {d : Nat} {W : WX} {sc : Scope} {X : Cx}
abbrev WF : WX := fun _ _ _ _ => False
theorem XOk.blk (ok : XOk G g P d W sc X) (s : Shared) (H : Hp) (scope : Scope) (C : Addr) (cl : List (Str × Addr)) (fp : List Addr) : XOk G g P d WF (relS scope sc) (X.blk s H scope (compEnvC scope cl C X.env) fp) :=
  ⟨ok.go, ok.nd, ok.calm, by show relS scope X.env.scope = _; rw [ok.sc], ok.room, ok.fn, takes0⟩
theorem noX_some {α : Type} {x : RO α} {r : Res α} (h : noX x = some r) : ∃ a h', x = some (.ok a h') ∧ r = .ok a h' := by
  unfold noX at h
  split at h
  · cases h; exact ⟨_, _, rfl, rfl⟩
  · cases h
theorem lc_imp {vs : List Nat} {t : MT} {i : MI} {c : Option ME} {m : ME} {σ : L2.St} {H : Hp} {Q : VK} (h : LE g W (evalE (calls P d) (.lc vs t i c m)) σ H Q) :
    tLc (LI g W (evalI (calls P d) i)) (LG g (evalT (calls P d) t) (fun i => i ∈ vs)) (LT g WF (evalC (calls P d) c)) (LE g WF (evalE (calls P d) m)) vs σ H Q := by
  obtain ⟨ρ, σm, hm, r, R, e, F0⟩ := h
  simp only [evalE] at e
  refine L.bnd R e F0 fun ρ1 H1 s hm1 J p1 R1 itok _ e F1 => ?_
  intro D nD
  obtain ⟨P2, R2, np⟩ := R1.laidL (vs := []) nD
  have nD0 : H D = none := p1.more D nD
  have R1w := R1.wipe vs
  let tgf := fun v h => evalT (calls P d) t v (wipeL σm vs) h
  refine ⟨fun i m' H' => ∃ ρ' hm' acc as, Post ρ1 H1 ρ' H' ∧ Rel g ρ' (wipeL σm vs) hm' (wipe σ vs) H' ∧ D ∉ ρ'.l ∧ ρ'.b D ∧ H' D = some (.lst as) ∧ RVs g ρ' H' acc as ∧ nolL acc = true ∧
    bnd (iterC s tgf (fun σ h => evalC (calls P d) c σ h) (fun σ h => evalE (calls P d) m σ h) m' i acc hm') (fun acc h2 => some (.ok (.lst acc) h2)) = some r, ⟨_, ρ1.plus D, hm1, [], [], ?_, ?_, np, .inr rfl, upd_same, .nil, rfl, e⟩, ?_⟩
  · exact P2
  · obtain ⟨P2w, R2w, _⟩ := R1w.laidL (vs := []) nD
    exact R2w
  rintro i m' H' ⟨ρ', hm', acc, as, p', R', oD, bD, hD, ra, na, e⟩
  cases m' with
  | zero => simp only [iterC] at e; cases e
  | succ m' =>
    obtain ⟨k1, k2⟩ := itok i ρ' hm' _ _ H' p' R'
    simp only [iterC] at e
    split at e
    · rename_i hn
      refine .inl ⟨k1 hn, ?_⟩
      cases e
      have R3 : Rel g ρ' σm hm' σ H' := R.after (p1.trans p') R'.noLoc
      exact F0 ρ' H' _ (p1.trans p') R3 (.lst hD oD ra) fun a ⟨_, e⟩ => by cases e; exact ⟨nD0, bD⟩
    · rename_i v hn
      obtain ⟨go, nv, k3⟩ := k2 v hn
      split at e
      · rename_i σ1 h1 et
        refine .inr ⟨go, fun H'' => ∃ ρ' hm' acc as, Post ρ1 H1 ρ' H'' ∧ Rel g ρ' (wipeL σm vs) hm' (wipe σ vs) H'' ∧ D ∉ ρ'.l ∧ ρ'.b D ∧ H'' D = some (.lst as) ∧ RVs g ρ' H'' acc as ∧ nolL acc = true ∧
          bnd (iterC s tgf (fun σ h => evalC (calls P d) c σ h) (fun σ h => evalE (calls P d) m σ h) m' (i + 1) acc hm') (fun acc h2 => some (.ok (.lst acc) h2)) = some r, fun H'' w => ⟨m', Nat.lt_succ_self _, w⟩, fun x H'' yy => ?_⟩
        obtain ⟨p2, R2, rx⟩ := k3 x H'' yy
        refine ⟨ρ', H'', ρ', _, hm', v, σ1, h1, fun a hb => by obtain ⟨zs, e⟩ := R2.blk a hb; rw [e]; simp, .refl, fun a ⟨⟨xs, e⟩, _⟩ => absurd e (nv xs), R2, rx, et, fun ρ2 σ2 H2 p3 R3 hl hs' => ⟨wipe_eq hl hs', ?_⟩⟩
        have p12 := p'.trans (p2.trans p3)
        cases hcx : noX (evalC (calls P d) c σ1 h1) with
        | none => rw [hcx] at e; cases e
        | some rc =>
          obtain ⟨k, h2, ec, rfl⟩ := noX_some hcx
          rw [hcx] at e
          simp only [bnd_ok] at e
          have hD2 : H'' D = some (.lst as) := p2.keep _ _ hD oD
          have hD3 : H2 D = some (.lst as) := p3.keep _ _ hD2 oD
          have oD2 : D ∉ ρ2.l := p3.outl hD2 oD
          refine L.bndO R3 ec fun ρ3 H3 b p4 R4 rb _ => ?_
          have rb : k = b := rb
          subst rb
          have hD4 : H3 D = some (.lst as) := p4.keep _ _ hD3 oD2
          have oD3 : D ∉ ρ3.l := p4.outl hD3 oD2
          have bD3 : ρ3.b D := p4.blk _ (p3.blk _ (p2.blk _ bD))
          have p13 := p12.trans p4
          have ra3 := (ra.post (p2.trans p3) R'.noT).post p4 R3.noT
          cases k with
          | false =>
            simp only [Bool.false_eq_true, if_false]
            exact ⟨ρ3, h2, acc, as, p13, R1w.after p13 R4.noLoc, oD3, bD3, hD4, ra3, na, e⟩
          | true =>
            simp only [if_true]
            cases hex : noX (evalE (calls P d) m σ1 h2) with
            | none => simp only [hex] at e; cases e
            | some re =>
              obtain ⟨y, h3, ee, rfl⟩ := noX_some hex
              simp only [hex, bnd_ok] at e
              refine L.bndO R4 ee fun ρ4 H4 yv p5 R5 ry fr => ?_
              split at e
              · rename_i hz
                obtain ⟨b, hb, hT, p6, R6⟩ := R4.unb p5 R5 fr
                have hD5 : H4 D = some (.lst as) := p5.keep _ _ hD4 oD3
                have oD5 : D ∉ (ρ4.less b).l := p5.outl hD4 oD3
                have bD5 : (ρ4.less b).b D := p6.blk _ bD3
                have rz : RV g (ρ4.less b) H4 (Mi.frz y) yv := (ry.less hb).frz fun a h e => hT a ⟨h, e⟩
                have ra5 := ra3.post p6 R4.noT
                refine ⟨as, hD5, by rw [← ra.length, ← sizeMax_eq]; exact hz.1, ?_⟩
                obtain ⟨p7, R7⟩ := R6.poke (as ++ [yv]) R1w (p13.trans p6) nD bD5 oD5 hD5
                have M := mv_poke (g := g) (bs := as ++ [yv]) bD5 hD5
                refine ⟨ρ4.less b, h3, acc ++ [Mi.frz y], as ++ [yv], p7, R7, oD5, bD5, upd_same, RVs.move M (fun _ _ h => h) ?_ (ra5.append (.cons rz .nil)), ?_, e⟩
                · rw [nolL_append, na]; simp only [nolL, hz.2]; rfl
                · rw [nolL_append, na]; simp only [nolL, hz.2]; rfl
              · cases e
      · cases e
    · cases e
theorem s_lc (ok : XOk G g P d W sc X) {elt tg iter : Expr} {ifs : List Expr} {scope : Scope} {own : List (Str × Nat)} {pos : Pos} {t : MT} {i : MI} {c : Option ME} {m : ME} (hi : SI g P d W X tg iter i) (hb : blkC X.N sc scope own = true)
    (hg : ∀ X', XOk G g P d WF (relS scope sc) X' → X'.N = X.N → (∀ x, scope.names.lookup x = some .cell → X'.fn x = true) → SG g P d X' tg t (fun i => i ∈ own.map (·.2)))
    (ht : ∀ X', XOk G g P d WF (relS scope sc) X' → X'.N = X.N → PTs X' ifs (LT g WF (evalC (calls P d) c)))
    (he : ∀ X', XOk G g P d WF (relS scope sc) X' → X'.N = X.N → SE g P d WF X' elt m) (hs : ∀ x, foldedSetIterable iter X.env x = pure x) :
    SE g P d W X (.ListComp elt [⟨tg, iter, ifs, 0⟩] scope pos) (.lc (own.map (·.2)) t i c m) := by
  have bo : BlkOk X.N X.env.scope scope own := by rw [ok.sc]; exact blkOk_by hb
  exact PE.imp (pe_lc ok.calm ok.nd hi bo (fun s H C cl fp => hg _ (ok.blk s H scope C cl fp) rfl fun x h => by show (scope.names.lookup x == some .cell) = true; rw [h]; rfl) (fun s H C cl fp => ht _ (ok.blk s H scope C cl fp) rfl) (fun s H C cl fp => he _ (ok.blk s H scope C cl fp) rfl) hs) fun σ H Q h => lc_imp h
end
end Mi

/-! Mi10: statements. -/
namespace Mi
open PySem PySem.Spec PyProof.Rows L2
/-- what is wanted behind a statement that ends as r -/
def SFin (g : GE) (W : WX) (ρ : Rh) (H : Hp) (r : SRes) (D : Ends) : Prop := match r with
  | .nx σm h => ∀ ρ' H' σ', Post ρ H ρ' H' → Rel g ρ' σm h σ' H' → D.nx σ' H'
  | .bk σm h => ∀ ρ' H' σ', Post ρ H ρ' H' → Rel g ρ' σm h σ' H' → D.bk σ' H'
  | .ct σm h => ∀ ρ' H' σ', Post ρ H ρ' H' → Rel g ρ' σm h σ' H' → D.ct σ' H'
  | .rt v h => ∀ ρ' H' x, Post ρ H ρ' H' → RelH g ρ' h H' → RV g ρ' H' v x → (∀ a, TV v x a → H a = none ∧ ρ'.b a) → D.rt x H'
  | .ex e σm h => ∀ ρ' H' σ' c d, Post ρ H ρ' H' → Rel g ρ' σm h σ' H' → EXR g ρ' H' e c d → W c d σ' H'
def LS (g : GE) (W : WX) (f : Loc → Hm → Option SRes) : TS := fun D σ H => ∃ ρ σm hm r, Rel g ρ σm hm σ H ∧ f σm hm = some r ∧ SFin g W ρ H r D
section
variable {γ δ : Type} {g : GE} {W : WX} {K' : Kd γ δ} {σm : Loc} {hm : Hm} {σ : L2.St} {ρ ρ1 : Rh} {H H1 : Hp} {r : SRes} {D : Ends}
theorem SFin.post (p : Post ρ H ρ1 H1) (h : SFin g W ρ H r D) : SFin g W ρ1 H1 r D := by
  cases r with
  | nx σm h' => exact fun ρ' H' σ' q => h ρ' H' σ' (p.trans q)
  | bk σm h' => exact fun ρ' H' σ' q => h ρ' H' σ' (p.trans q)
  | ct σm h' => exact fun ρ' H' σ' q => h ρ' H' σ' (p.trans q)
  | rt v h' => exact fun ρ' H' x q R r fr => h ρ' H' x (p.trans q) R r fun a ha => ⟨p.more a (fr a ha).1, (fr a ha).2⟩
  | ex e σm h' => exact fun ρ' H' σ' c d q => h ρ' H' σ' c d (p.trans q)
theorem L.exS {fa : Loc → Hm → RO γ} {k : γ → Hm → Option SRes} {Q' : δ → Hp → Prop} (hR : Rel g ρ σm hm σ H) (he : Mi.exS σm (fa σm hm) k = some r) (hF : SFin g W ρ H r D)
    (h : ∀ ρ1 H1 v hm1 x, Post ρ H ρ1 H1 → Rel g ρ1 σm hm1 σ H1 → K'.R ρ1 H1 v x → (∀ a, K'.T v x a → H a = none ∧ ρ1.b a) → k v hm1 = some r → SFin g W ρ1 H1 r D → Q' x H1) : L g W K' fa σ H Q' := by
  cases e : fa σm hm with
  | none => rw [e] at he; cases he
  | some q =>
    rw [e] at he
    cases q with
    | ok v hm1 => exact ⟨ρ, σm, hm, _, hR, e, fun ρ1 H1 x p R1 rv fr => h ρ1 H1 v hm1 x p R1 rv fr he (hF.post p)⟩
    | ex ex hm1 =>
      have he : some (SRes.ex ex σm hm1) = some r := he
      cases he
      exact ⟨ρ, σm, hm, _, hR, e, fun ρ' H' c d p R' x => hF ρ' H' σ c d p R' x⟩
end
section
variable {G : CG} {g : GE} {P : List FnD} {d : Nat} {W : WX} {sc : Scope} {X : Cx}
abbrev SS (g : GE) (P : List FnD) (d : Nat) (W : WX) (X : Cx) (e : Stmt) (m : MS) : Prop := PS X e (LS g W (execS (calls P d) m))
abbrev SSs (g : GE) (P : List FnD) (d : Nat) (W : WX) (X : Cx) (e : List Stmt) (m : List MS) : Prop := PSs X e (LS g W (execB (calls P d) m))
theorem PS.imp {e : Stmt} {t t' : TS} (h : PS X e t) (i : ∀ D σ H, t' D σ H → t D σ H) : PS X e t' := ⟨fun pins s σ H D I q => h.run pins s σ H D I (i D σ H q)⟩
theorem PSs.imp {e : List Stmt} {t t' : TS} (h : PSs X e t) (i : ∀ D σ H, t' D σ H → t D σ H) : PSs X e t' := ⟨fun pins s σ H D I q => h.run pins s σ H D I (i D σ H q)⟩
theorem ss_nil : SSs g P d W X [] [] := by
  refine PSs.imp pss_nil fun D σ H ⟨ρ, σm, hm, r, R, e, F⟩ => ?_
  simp only [execB] at e
  cases e
  exact F ρ H σ .refl R
theorem ss_cons {a : Stmt} {r : List Stmt} {x : MS} {xs : List MS} (ha : SS g P d W X a x) (hr : SSs g P d W X r xs) : SSs g P d W X (a :: r) (x :: xs) := by
  refine PSs.imp (pss_cons ha hr) fun D σ H ⟨ρ, σm, hm, r, R, e, F⟩ => ?_
  simp only [execB] at e
  cases h : execS (calls P d) x σm hm with
  | none => rw [h] at e; cases e
  | some q =>
    rw [h] at e
    refine ⟨ρ, σm, hm, q, R, h, ?_⟩
    cases q with
    | nx σ1 h1 => exact fun ρ' H' σ' p R' => ⟨ρ', σ1, h1, r, R', e, F.post p⟩
    | rt v h1 => cases e; exact F
    | bk σ1 h1 => cases e; exact F
    | ct σ1 h1 => cases e; exact F
    | ex e1 σ1 h1 => cases e; exact F
theorem ss_expr {e : Expr} {x : ME} {pos : Pos} (he : SE g P d W X e x) (hs : swapsWith e none pos.line X.env = pure false) : SS g P d W X (.Expr e pos) (.expr x) := by
  refine PS.imp (ps_expr he hs) fun D σ H ⟨ρ, σm, hm, r, R, e, F⟩ => ?_
  simp only [execS] at e
  refine L.exS R e F fun ρ1 H1 v hm1 x1 p1 R1 r1 fr1 e F => ?_
  cases e
  exact F ρ1 H1 σ .refl R1
theorem ss_doc {x j pos pos'} : SS g P d W X (.Expr (.Constant (.str x) j pos) pos') .pass := by
  refine PS.imp ps_doc fun D σ H ⟨ρ, σm, hm, r, R, e, F⟩ => ?_
  simp only [execS] at e
  cases e
  exact F ρ H σ .refl R
theorem ss_ret {e : Expr} {x : ME} {pos : Pos} (he : SE g P d W X e x) : SS g P d W X (.Return (some e) pos) (.ret x) := by
  refine PS.imp (ps_ret he) fun D σ H ⟨ρ, σm, hm, r, R, e, F⟩ => ?_
  simp only [execS] at e
  refine L.exS R e F fun ρ1 H1 v hm1 x1 p1 R1 r1 fr1 e _ => ?_
  cases e
  exact F ρ1 H1 x1 p1 R1.noLoc r1 fr1
theorem ss_retN {pos : Pos} : SS g P d W X (.Return none pos) .retN := by
  refine PS.imp ps_retN fun D σ H ⟨ρ, σm, hm, r, R, e, F⟩ => ?_
  simp only [execS] at e
  cases e
  exact F ρ H .non .refl R.noLoc .non fun a ⟨⟨xs, e⟩, _⟩ => nomatch e
theorem ss_pass {pos : Pos} : SS g P d W X (.Pass pos) .pass := by
  refine PS.imp ps_pass fun D σ H ⟨ρ, σm, hm, r, R, e, F⟩ => ?_
  simp only [execS] at e
  cases e
  exact F ρ H σ .refl R
theorem ss_brk {pos : Pos} : SS g P d W X (.Break pos) .brk := by
  refine PS.imp ps_break fun D σ H ⟨ρ, σm, hm, r, R, e, F⟩ => ?_
  simp only [execS] at e
  cases e
  exact F ρ H σ .refl R
theorem ss_cnt {pos : Pos} : SS g P d W X (.Continue pos) .cnt := by
  refine PS.imp ps_continue fun D σ H ⟨ρ, σm, hm, r, R, e, F⟩ => ?_
  simp only [execS] at e
  cases e
  exact F ρ H σ .refl R
theorem exS_C {x : ME} {σm : Loc} {hm : Hm} {k : Bool → Hm → Option SRes} :
    Mi.exS σm (evalC (calls P d) (some x) σm hm) k = Mi.exS σm (evalE (calls P d) x σm hm) fun v h => match truth h v with
      | some b => k b h
      | none => none := by
  simp only [evalC]
  cases evalE (calls P d) x σm hm with
  | none => rfl
  | some q =>
    cases q with
    | ex e h => rfl
    | ok v h =>
      simp only [bnd_ok, exS_ok]
      cases truth h v <;> rfl
theorem ss_if {c : Expr} {a b : List Stmt} {x : ME} {y z : List MS} {pos : Pos} (hc : ST g P d W X c x) (ha : SSs g P d W X a y) (hb : SSs g P d W X b z) : SS g P d W X (.If c a b pos) (.ife x y z) := by
  refine PS.imp (ps_if hc ha hb) fun D σ H ⟨ρ, σm, hm, r, R, e, F⟩ => ?_
  simp only [execS] at e
  have e : Mi.exS σm (evalC (calls P d) (some x) σm hm) (fun b h => match b with
      | true => execB (calls P d) y σm h
      | false => execB (calls P d) z σm h) = some r := by
    rw [← e, exS_C]
    congr 1
    funext v h
    cases truth h v with
    | none => rfl
    | some b => cases b <;> rfl
  refine L.exS R e F fun ρ1 H1 v hm1 x1 p1 R1 r1 fr1 e F => ?_
  have r1 : v = x1 := r1
  subst r1
  cases v with
  | true => rw [if_pos rfl]; exact ⟨ρ1, σm, hm1, r, R1, e, F⟩
  | false => rw [if_neg Bool.false_ne_true]; exact ⟨ρ1, σm, hm1, r, R1, e, F⟩

/-! ### assignments -/
theorem asg_core {te : TE} {G' : TG} {D : Ends} {σ : L2.St} {H : Hp} {t : MT} {x : ME} {S : Nat → Prop} (h : LS g W (execS (calls P d) (.asg t x)) D σ H) :
    LE g W (evalE (calls P d) x) σ H fun v H1 => LG g (evalT (calls P d) t) S v σ H1 D.nx := by
  obtain ⟨ρ, σm, hm, r, R, e, F⟩ := h
  simp only [execS] at e
  refine L.exS R e F fun ρ1 H1 v hm1 x1 p1 R1 r1 fr1 e _ => ?_
  split at e
  · rename_i σ1 h2 e1
    cases e
    exact ⟨ρ, H, ρ1, σm, hm1, v, σ1, h2, live_of R, p1, fr1, R1, r1, e1, fun ρ' σ' H' p' R' _ _ => F ρ' H' σ' p' R'⟩
  · cases e
theorem ss_asg {tg e : Expr} {t : MT} {x : ME} {pos : Pos} (he : SE g P d W X e x) (hg : SG g P d X tg t (fun _ => True)) (hs : swapsWithSole [tg] e pos.line X.env = pure false) (hw : swappedStores [tg] e X.env = pure none)
    (h1 : (assignEach [tg] X.env).map (·.2) = [assign tg X.env]) : SS g P d W X (.Assign [tg] e pos) (.asg t x) :=
  PS.imp (ps_asg he hg hs hw h1) fun D σ H h => asg_core (te := LE g W (evalE (calls P d) x)) (G' := LG g (evalT (calls P d) t) fun _ => True) h
theorem stoAll_some : ∀ {is : List Nat} {vs : List MV} {σm : Loc} {hm : Hm} {q : Loc × Hm}, stoAll is vs σm hm = some q → ∀ v ∈ vs, v.nol = true ∨ ∃ xs, v = .lst xs ∧ pureL xs = true
  | [], [], _, _, _, _, v, h => by simp at h
  | [], _ :: _, _, _, _, e, _, _ => by simp only [stoAll] at e; cases e
  | _ :: _, [], _, _, _, e, _, _ => by simp only [stoAll] at e; cases e
  | i :: is, w :: vs, σm, hm, q, e, v, h => by
    simp only [stoAll] at e
    split at e
    · rename_i w' h1 e1
      rcases List.mem_cons.mp h with z | z
      · subst z; exact sto_some e1
      · exact stoAll_some e v z
    · cases e
theorem ss_setLc (ok : XOk G g P d W sc X) {j : Nat} {y : Str} {py : Pos} {elt tg iter : Expr} {ifs : List Expr} {scope : Scope} {own : List (Str × Nat)} {pos spos : Pos} {t : MT} {i : MI} {c : Option ME} {m : ME} (hy : slot X.N y = some j) (hyl : X.env.scope.names.lookup y = some .local)
    (hsw : swapsWith (.ListComp elt [⟨tg, iter, ifs, 0⟩] scope pos) (some (.Name y py)) spos.line X.env = pure true) (hi : SI g P d W X tg iter i) (hb : blkC X.N sc scope own = true)
    (hg : ∀ X', XOk G g P d WF (relS scope sc) X' → X'.N = X.N → (∀ x, scope.names.lookup x = some .cell → X'.fn x = true) → SG g P d X' tg t (fun i => i ∈ own.map (·.2)))
    (ht : ∀ X', XOk G g P d WF (relS scope sc) X' → X'.N = X.N → PTs X' ifs (LT g WF (evalC (calls P d) c)))
    (he : ∀ X', XOk G g P d WF (relS scope sc) X' → X'.N = X.N → SE g P d WF X' elt m) (hs : ∀ x, foldedSetIterable iter X.env x = pure x) :
    SS g P d W X (.Assign [.Name y py] (.ListComp elt [⟨tg, iter, ifs, 0⟩] scope pos) spos) (.asg (.var j) (.lc (own.map (·.2)) t i c m)) := by
  have bo : BlkOk X.N X.env.scope scope own := by rw [ok.sc]; exact blkOk_by hb
  refine PS.imp (ps_setLc ok.calm ok.nd (slot_get hy) hyl hsw hi bo (fun s H C cl fp => hg _ (ok.blk s H scope C cl fp) rfl fun x h => by show (scope.names.lookup x == some .cell) = true; rw [h]; rfl) (fun s H C cl fp => ht _ (ok.blk s H scope C cl fp) rfl) (fun s H C cl fp => he _ (ok.blk s H scope C cl fp) rfl) hs) fun D σ H h => ?_
  have h2 := asg_core (S := fun _ => True) (te := LE g W (evalE (calls P d) (.lc (own.map (·.2)) t i c m))) (G' := LG g (evalT (calls P d) (.var j)) fun _ => True) h
  obtain ⟨ρ, σm, hm, r, R, e, F⟩ := h2
  refine lc_imp ⟨ρ, σm, hm, r, R, e, ?_⟩
  cases r with
  | ok v h' => exact fun ρ' H' x p R' rv fr => gname_imp trivial (F ρ' H' x p R' rv fr)
  | ex e h' => exact F
/-- several values laid and stored -/
theorem stoAll_ok {ρ0 : Rh} {H0 : Hp} {H : Hp} : ∀ {is : List Nat} {vs : List MV} {xs : List V} {ρ : Rh} {σm σm' : Loc} {hm hm' : Hm} {σ : L2.St}, Rel g ρ σm hm σ H → RVs g ρ H vs xs → Apart vs xs → (∀ a, TVs vs xs a → H0 a = none ∧ ρ.b a) → Post ρ0 H0 ρ H →
    stoAll is vs σm hm = some (σm', hm') → ∃ ρ', Rel g ρ' σm' hm' ((is.zip xs).foldl (fun s (p : Nat × V) => s.set p.1 (some p.2)) σ) H ∧ Post ρ0 H0 ρ' H ∧ is.length = xs.length
  | [], vs, xs, ρ, σm, σm', hm, hm', σ, R, rs, ap, fr, p0, e => by
    cases vs with
    | nil =>
      simp only [stoAll] at e
      cases e
      cases rs
      exact ⟨ρ, R, p0, rfl⟩
    | cons _ _ => simp only [stoAll] at e; cases e
  | i :: is, vs, xs, ρ, σm, σm', hm, hm', σ, R, rs, ap, fr, p0, e => by
    cases rs with
    | nil => simp only [stoAll] at e; cases e
    | @cons v x vs xs r t =>
      simp only [stoAll] at e
      split at e
      · rename_i w h1 e1
        have fr0 : ∀ a, TV v x a → H0 a = none ∧ ρ.b a := fun a h => fr a ⟨0, v, x, rfl, rfl, h⟩
        have fr1 : ∀ a, TVs vs xs a → H0 a = none ∧ ρ.b a := fun a ⟨i, v, x, h1, h2, h3⟩ => fr a ⟨i + 1, v, x, by simpa using h1, by simpa using h2, h3⟩
        obtain ⟨ρ1, R1, p1, hh⟩ := R.sto i r e1 fun a h => (fr0 a h).2
        have t1 : RVs g ρ1 H vs xs := by
          rcases hh with rfl | ⟨a, ta, rfl⟩
          · exact t
          · obtain ⟨us, hu⟩ := R.blk a (fr0 a ta).2
            exact t.takes (fr0 a ta).2 hu (stoAll_some e) (ap.1 a ta)
        obtain ⟨ρ2, R2, p2, hl⟩ := stoAll_ok R1 t1 ap.2 (fun a h => ⟨(fr1 a h).1, by rcases hh with rfl | ⟨_, _, rfl⟩ <;> exact (fr1 a h).2⟩) (p1 ρ0 H0 p0 fun a h => (fr0 a h).1) e
        exact ⟨ρ2, R2, p2, by simp [hl]⟩
      · cases e
theorem ss_par2 (ok : XOk G g P d W sc X) {i j : Nat} {x y : Str} {a b : Expr} {es : List ME} {px py pt pos : Pos} {kt k2 pt2} (hi : slot X.N x = some i) (hj : slot X.N y = some j) (hij : i ≠ j)
    (hx : X.env.scope.names.lookup x = some .local) (hy : X.env.scope.names.lookup y = some .local) (ha : SA g P d W X [a, b] es)
    (hw : swappedStores [.Tuple [.Name x px, .Name y py] kt pt] (.Tuple [a, b] k2 pt2) X.env = pure (some [x, y])) :
    SS g P d W X (.Assign [.Tuple [.Name x px, .Name y py] kt pt] (.Tuple [a, b] k2 pt2) pos) (.par [i, j] es) := by
  refine PS.imp (ps_par ok.calm ok.nd (slot_get hi) (slot_get hj) hij hx hy ha hw) fun D σ H ⟨ρ, σm, hm, r, R, e, F⟩ => ?_
  simp only [execS] at e
  refine L.exS R e F fun ρ1 H1 vs hm1 xs p1 R1 r1 fr1 e _ => ?_
  split at e
  · rename_i σ1 h2 e1
    cases e
    obtain ⟨ρ2, R2, p2, hl⟩ := stoAll_ok R1 r1.1 r1.2 fr1 p1 e1
    match xs, hl with
    | [v, w], _ => exact ⟨v, w, rfl, F ρ2 H1 _ p2 R2⟩
  · cases e
theorem ss_par3 (ok : XOk G g P d W sc X) {i j l : Nat} {x y z : Str} {a b c : Expr} {es : List ME} {px py pz pt pos : Pos} {kt k2 pt2} (hi : slot X.N x = some i) (hj : slot X.N y = some j) (hl : slot X.N z = some l) (hij : i ≠ j) (hil : i ≠ l) (hjl : j ≠ l)
    (hx : X.env.scope.names.lookup x = some .local) (hy : X.env.scope.names.lookup y = some .local) (hz : X.env.scope.names.lookup z = some .local) (ha : SA g P d W X [a, b, c] es)
    (hw : swappedStores [.Tuple [.Name x px, .Name y py, .Name z pz] kt pt] (.Tuple [a, b, c] k2 pt2) X.env = pure (some [x, y, z])) :
    SS g P d W X (.Assign [.Tuple [.Name x px, .Name y py, .Name z pz] kt pt] (.Tuple [a, b, c] k2 pt2) pos) (.par [i, j, l] es) := by
  refine PS.imp (ps_par3 ok.calm ok.nd (slot_get hi) (slot_get hj) (slot_get hl) hij hil hjl hx hy hz ha hw) fun D σ H ⟨ρ, σm, hm, r, R, e, F⟩ => ?_
  simp only [execS] at e
  refine L.exS R e F fun ρ1 H1 vs hm1 xs p1 R1 r1 fr1 e _ => ?_
  split at e
  · rename_i σ1 h2 e1
    cases e
    obtain ⟨ρ2, R2, p2, hl⟩ := stoAll_ok R1 r1.1 r1.2 fr1 p1 e1
    match xs, hl with
    | [u, v, w], _ => exact ⟨u, v, w, rfl, F ρ2 H1 _ p2 R2⟩
  · cases e

/-! ### name op= e -/
def rIp (g : GE) (op : BO) : TIp := rBin g (augV op)
theorem ip_mi {o : Operator} {bo : BO} (ho : boOf o = some bo) : PIp X o (rIp g bo) := by
  intro pins s σ0 H x y v0 u0 Q I rx ry h
  obtain ⟨ρ, σm, hm, σ, v, w, z, R, rv, rw', e, dn⟩ := h
  unfold augV at e
  split at e
  · rename_i i j
    split at e
    · rename_i hz
      cases rv
      cases rw'
      cases bo with
      | add =>
        have ho' : o = .Add := by cases o <;> first | rfl | cases ho
        subst ho'
        simp only [bop] at e
        cases e
        exact iop_add pins s σ0 H _ _ v0 u0 Q I rx ry ⟨_, _, rfl, rfl, dn.now R (.int _)⟩
      | sub =>
        have ho' : o = .Sub := by cases o <;> first | rfl | cases ho
        subst ho'
        simp only [bop] at e
        cases e
        exact iop_sub pins s σ0 H _ _ v0 u0 Q I rx ry ⟨_, _, rfl, rfl, dn.now R (.int _)⟩
      | mul =>
        have ho' : o = .Mult := by cases o <;> first | rfl | cases ho
        subst ho'
        simp only [bop] at e
        split at e
        · rename_i hm'
          cases e
          have hmul : IntMulOk i j := by
            unfold mulOk at hm'
            simp only [Bool.or_eq_true, decide_eq_true_eq] at hm'
            rcases hm' with (hz | hz) | hz
            · exact CMul.ok (.inl ⟨by omega, by omega⟩)
            · exact CMul.ok (.inr ⟨by omega, by omega⟩)
            · exact CMulW.ok hz
          obtain ⟨t, rfl⟩ := rx
          obtain ⟨t', rfl⟩ := ry
          exact imul_int ⟨.int _, H, I.tok _, ⟨_, rfl⟩, dn.now R (.int _)⟩ hmul
        · cases e
      | fdv =>
        have ho' : o = .FloorDiv := by cases o <;> first | rfl | cases ho
        subst ho'
        simp only [bop] at e
        split at e
        · cases e
          simp only [augOk, Bool.and_eq_true, decide_eq_true_eq] at hz
          obtain ⟨t, rfl⟩ := rx
          obtain ⟨t', rfl⟩ := ry
          exact ifloordiv_int (by omega) ⟨.int _, H, I.tok _, ⟨_, rfl⟩, dn.now R (.int _)⟩ (.inl (PyProof.noPylong_of_log2 hz.2))
        · cases e
      | mod =>
        have ho' : o = .Mod := by cases o <;> first | rfl | cases ho
        subst ho'
        simp only [bop] at e
        split at e
        · cases e
          simp only [augOk, decide_eq_true_eq] at hz
          refine iop_mod pins s σ0 H _ _ v0 u0 Q I rx ry ⟨_, _, rfl, rfl, hz, ?_⟩
          show Q (V.int (i % j)) H
          rw [← Int.fmod_eq_emod_of_nonneg i (by omega : 0 ≤ j)]
          exact dn.now R (.int _)
        · cases e
      | pow => simp only [augOk] at hz; cases hz
    · cases e
  · cases e
theorem augV_int {bo : BO} {x y z : MV} {h : Hm} (e : augV bo x y h = some z) : ∃ i, z = .int i := by
  unfold augV at e
  split at e
  · split at e
    · cases bo <;> simp only [bop] at e <;> (try split at e) <;> first | (cases e; done) | (cases e; exact ⟨_, rfl⟩)
    · cases e
  · cases e
theorem ss_aug {x : Str} {e : Expr} {m : ME} {i : Nat} {o : Operator} {bo : BO} {pos pos' : Pos} (nd : X.N.Nodup) (ho : boOf o = some bo) (hi : slot X.N x = some i) (hx : L2.Loc X.env.scope x) (hf : X.fn x = true ∨ X.env.scope.names.lookup x = some .local) (he : SE g P d W X e m) : SS g P d W X (.AugAssign (.Name x pos') o e pos) (.aug i bo m) := by
  refine PS.imp (ps_aug nd (slot_get hi) hx he (ip_mi (g := g) ho) hf) fun D σ H ⟨ρ, σm, hm, r, R, e, F⟩ => ?_
  simp only [execS] at e
  split at e
  · rename_i v hv
    obtain ⟨x1, h1, r0⟩ := R.loc _ _ hv
    refine ⟨x1, h1, L.exS R e F fun ρ1 H1 w hm1 y1 p1 R1 r1 fr1 e F => ?_⟩
    split at e
    · rename_i z hz
      cases e
      refine ⟨ρ1, σm, hm1, σ, v, w, z, R1, r0.post p1 R.noT, r1, hz, fun ρ2 H2 u p2 R2 ru _ => ?_⟩
      obtain ⟨k, rfl⟩ := augV_int hz
      exact F ρ2 H2 _ p2 (R2.put ru rfl i)
    · cases e
  · cases e
theorem pget_l : PGet X (rIxL X.K) := by
  intro pins s σ H x y v u Q I rx ry h
  obtain ⟨p, xs, i, z, rfl, rfl, hq, he, q⟩ := h
  cases rx
  obtain ⟨t, rfl⟩ := ry
  obtain ⟨its, r, pl, hz⟩ := I.list hq
  obtain ⟨j, h1, h2, h3, h4, h5⟩ := atI_get he
  obtain ⟨w, ew, rw'⟩ := r.get h2
  have hl := r.length
  have hn := line63
  have fin : EP X pins σ Q w s := ⟨z, H, I, rw', q⟩
  by_cases h0 : 0 ≤ i
  · have hj : i.toNat = j := by
      rw [seqIndex_of h0 h5] at h1
      exact Option.some.inj h1
    exact wpAny_getItem_list pl.isList h0 (by omega) (by rw [hj]; simpa using ew) fin
  · have hj : (i + (its.toArray.size : Int)).toNat = j := by
      rw [seqIndex_neg (by omega) h4] at h1
      rw [List.size_toArray, ← hl]
      exact Option.some.inj h1
    exact wpAny_getItem_list_neg pl.isList (by omega) (by rw [List.size_toArray] <;> omega) (by omega) (by rw [hj]; simpa using ew) fin
theorem ss_augS (ok : XOk G g P d W sc X) {o i e : Expr} {x y m : ME} {op : Operator} {bo : BO} {tpos pos : Pos} (hop : boOf op = some bo) (ho : SE g P d W X o x) (hi : SE g P d W X i y) (he : SE g P d W X e m)
    (ha : ∀ ov iv new, augStore i ov iv new = (do holding [new, ov, iv] (setItem ov iv new); release [new, ov, iv] []; pure .next)) : SS g P d W X (.AugAssign (.Subscript o i tpos) op e pos) (.augS x y bo m) := by
  refine PS.imp (ps_augS ho hi pget_l he (ip_mi (g := g) hop) set_list ha) fun D σ H ⟨ρ, σm, hm, r, R, e, F⟩ => ?_
  simp only [execS] at e
  refine L.exS R e F fun ρ1 H1 v hm1 x1 p1 R1 r1 fr1 e F => L.exS R1 e F fun ρ2 H2 w hm2 y1 p2 R2 r2 fr2 e F => ?_
  split at e
  · rename_i u hu
    have hg : ∃ a ws kk x, x1 = .ref a ∧ y1 = .int kk ∧ SqL X.K H2 a ws ∧ atI ws kk = some x ∧ RV g ρ2 H2 u x := by
      unfold getSub at hu
      split at hu
      · split at hu
        · rename_i xs hx
          obtain ⟨z0, e8, e7⟩ := Option.bind_eq_some_iff.mp hu
          obtain ⟨rfl, nz⟩ := unl_of e7
          cases r2
          cases r1 with
          | ref hn =>
            obtain ⟨ws, hw, rw'⟩ := R2.obj _ _ _ hx (p2.ext _ _ hn)
            have lv := rw'.length
            unfold atI at e8
            cases hj : ixN xs.length _ with
            | none => rw [hj] at e8; cases e8
            | some j =>
              rw [hj] at e8
              obtain ⟨y1, g1, g2⟩ := rw'.get (i := j) (x := z0) e8
              refine ⟨_, ws, _, y1, rfl, rfl, .of hw, ?_, g2⟩
              unfold atI
              rw [← lv, hj]
              exact g1
        · cases hu
      · cases hu
    obtain ⟨a, ws, kk, x0, e1, e2, hs, hat, r0⟩ := hg
    refine ⟨a, ws, kk, x0, e1, e2, hs, hat, L.exS R2 e F fun ρ3 H3 z hm3 z1 p3 R3 r3 fr3 e F => ?_⟩
    split at e
    · rename_i zz hz
      refine ⟨ρ3, σm, hm3, σ, u, z, zz, R3, r0.post p3 R2.noT, r3, hz, fun ρ4 H4 q p4 R4 rq _ => ?_⟩
      split at e
      · rename_i h4 e4
        cases e
        obtain ⟨a, ws, kk, j, e1, e2, hw, hj, ρ5, p5, R5⟩ := R4.setSub (((r1.post p2 R1.noT).post p3 R2.noT).post p4 R3.noT) ((r2.post p3 R2.noT).post p4 R3.noT) rq e4
        exact ⟨a, ws, kk, j, e1, e2, hw, hj, F ρ5 _ σ (p4.trans p5) R5⟩
      · cases e
    · cases e
  · cases e
/-! ### while, for -/
/-- a loop's body -/
theorem ss_while {c : Expr} {body : List Stmt} {x : ME} {b : List MS} {pos : Pos} (hp : PassesOwn (model X.prog X.w) X.A X.env X.xe) (hc : ST g P d W X c x) (hb : SSs g P d W X body b) : SS g P d W X (.While c body [] pos) (.whl x b) := by
  refine PS.imp (ps_while hp hc hb) fun D σ H ⟨ρ, σm, hm, r, R, e, F⟩ => ?_
  simp only [execS] at e
  refine ⟨fun m σ H => ∃ ρ σm hm, Rel g ρ σm hm σ H ∧ iterW (fun σ h => evalC (calls P d) (some x) σ h) (fun σ h => execB (calls P d) b σ h) m σm hm = some r ∧ SFin g W ρ H r D, ⟨_, ρ, σm, hm, R, e, F⟩, ?_⟩
  clear e F R
  rintro m σ H ⟨ρ, σm, hm, R, e, F⟩
  cases m with
  | zero => simp only [iterW] at e; cases e
  | succ m =>
    simp only [iterW] at e
    have e : Mi.exS σm (evalC (calls P d) (some x) σm hm) (fun k h1 => match k with
        | true => match execB (calls P d) b σm h1 with
          | some (.nx σ2 h2) => iterW (fun σ h => evalC (calls P d) (some x) σ h) (fun σ h => execB (calls P d) b σ h) m σ2 h2
          | some (.ct σ2 h2) => iterW (fun σ h => evalC (calls P d) (some x) σ h) (fun σ h => execB (calls P d) b σ h) m σ2 h2
          | some (.bk σ2 h2) => some (.nx σ2 h2)
          | r => r
        | false => some (.nx σm h1)) = some r := by
      rw [← e]
      cases evalC (calls P d) (some x) σm hm with
      | none => rfl
      | some q =>
        cases q with
        | ex _ _ => rfl
        | ok k h1 => cases k <;> rfl
    refine L.exS R e F fun ρ1 H1 k hm1 k1 p1 R1 r1 fr1 e F => ?_
    have r1 : k = k1 := r1
    subst r1
    cases k with
    | false =>
      rw [if_neg Bool.false_ne_true]
      cases e
      exact F ρ1 H1 σ .refl R1
    | true =>
      rw [if_pos rfl]
      refine ⟨fun σ H => ∃ ρ σm hm, Rel g ρ σm hm σ H ∧ iterW (fun σ h => evalC (calls P d) (some x) σ h) (fun σ h => execB (calls P d) b σ h) m σm hm = some r ∧ SFin g W ρ H r D, fun σ' H' w => ⟨m, Nat.lt_succ_self _, w⟩, ?_⟩
      cases hb : execB (calls P d) b σm hm1 with
      | none => simp only [hb] at e; cases e
      | some q =>
        simp only [hb] at e
        refine ⟨ρ1, σm, hm1, q, R1, hb, ?_⟩
        cases q with
        | nx σ2 h2 => exact fun ρ' H' σ' p R' => ⟨ρ', σ2, h2, R', e, F.post p⟩
        | ct σ2 h2 => exact fun ρ' H' σ' p R' => ⟨ρ', σ2, h2, R', e, F.post p⟩
        | bk σ2 h2 =>
          simp only at e
          cases e
          exact F
        | rt v h2 =>
          simp only at e
          cases e
          exact F
        | ex e1 σ2 h2 =>
          simp only at e
          cases e
          exact F
theorem ss_for (hc : X.calm = true) {tg iter : Expr} {body : List Stmt} {t : MT} {i : MI} {b : List MS} {pos : Pos} (hp : PassesOwn (model X.prog X.w) X.A X.env X.xe) (hi : SI g P d W X tg iter i) (hg : SG g P d X tg t (fun _ => True)) (hb : SSs g P d W X body b)
    (hs : ∀ x, foldedSetIterable iter X.env x = pure x) : SS g P d W X (.For tg iter body [] pos) (.forr t i b) := by
  refine PS.imp (ps_for hp hc hi hg hb hs) fun D σ H ⟨ρ, σm, hm, r, R, e, F⟩ => ?_
  simp only [execS] at e
  refine L.exS R e F fun ρ1 H1 s hm1 J p1 R1 itok _ e F => ?_
  let tgf := fun v σ h => evalT (calls P d) t v σ h
  let bf := fun σ h => execB (calls P d) b σ h
  refine ⟨fun i m σ H => ∃ ρ σm hm, Post ρ1 H1 ρ H ∧ Rel g ρ σm hm σ H ∧ iterF s tgf bf m i σm hm = some r ∧ SFin g W ρ H r D, ⟨_, ρ1, σm, hm1, .refl, R1, e, F⟩, ?_⟩
  have itok : ItOk g s J ρ1 H1 := itok
  clear e F R p1
  rintro i m σ H ⟨ρ, σm, hm, p, R, e, F⟩
  cases m with
  | zero => simp only [iterF] at e; cases e
  | succ m =>
    obtain ⟨k1, k2⟩ := itok i ρ hm _ _ H p R
    simp only [iterF] at e
    split at e
    · rename_i hn
      cases e
      exact .inl ⟨k1 hn, F ρ H σ .refl R⟩
    · rename_i v hn
      obtain ⟨go, nv, k3⟩ := k2 v hn
      refine .inr ⟨go, fun σ H => ∃ ρ σm hm, Post ρ1 H1 ρ H ∧ Rel g ρ σm hm σ H ∧ iterF s tgf bf m (i + 1) σm hm = some r ∧ SFin g W ρ H r D, fun σ' H' w => ⟨m, Nat.lt_succ_self _, w⟩, fun x H' yy => ?_⟩
      obtain ⟨p2, R2, rx⟩ := k3 x H' yy
      split at e
      · rename_i σ1 h1 et
        refine ⟨ρ, H', ρ, _, hm, v, σ1, h1, live_of R2, .refl, fun a ⟨⟨xs, e⟩, _⟩ => absurd e (nv xs), R2, rx, et, fun ρ2 σ2 H2 p3 R3 _ _ => ?_⟩
        have p12 := p.trans (p2.trans p3)
        have F := F.post (p2.trans p3)
        cases hb : execB (calls P d) b σ1 h1 with
        | none => simp only [bf, hb] at e; cases e
        | some q =>
          simp only [bf, hb] at e
          refine ⟨ρ2, σ1, h1, q, R3, hb, ?_⟩
          cases q with
          | nx σ2 h2 => exact fun ρ' H' σ' p R' => ⟨ρ', σ2, h2, p12.trans p, R', e, F.post p⟩
          | ct σ2 h2 => exact fun ρ' H' σ' p R' => ⟨ρ', σ2, h2, p12.trans p, R', e, F.post p⟩
          | bk σ2 h2 =>
            simp only at e
            cases e
            exact F
          | rt v h2 =>
            simp only at e
            cases e
            exact F
          | ex e1 σ2 h2 =>
            simp only at e
            cases e
            exact F
      · cases e
    · cases e
end
end Mi

/-! Mi11: what compiles is computed. -/
namespace Mi
open PySem PySem.Spec PyProof.Rows L2
section
variable {G : CG} {g : GE} {P : List FnD} {d : Nat} {N : List Str}

def plainT : Expr → Bool
  | .UnaryOp .Not _ _ => false
  | .BoolOp _ _ _ => false
  | .IfExp _ _ _ _ => false
  | .Compare _ _ _ _ => false
  | _ => true
theorem assign_sub {o i : Expr} {pos : Pos} {env : Env} (h : isSlice i = false) (v : Value) : assign (.Subscript o i pos) env v = (do
      let ov ← holding [v] (eval o env)
      let iv ← holding [v, ov] (eval i env)
      standAt pos
      holding [v, ov, iv] (setItem ov iv v)
      release [v, ov, iv] []) := by
  cases i <;> first | rfl | cases h
theorem aug_sub {i : Expr} (h : isSlice i = false) (ov iv new : Value) : augStore i ov iv new = (do holding [new, ov, iv] (setItem ov iv new); release [new, ov, iv] []; pure .next) := by
  cases i <;> first | rfl | cases h
theorem isTrue_val {e : Expr} {env : Env} (h : plainT e = true) : ∀ whole, isTrue e env whole = (do let v ← whole; standAt e.pos; holding [v] (truthy v)) := by
  intro whole
  cases e with
  | UnaryOp op x p => cases op <;> first | rfl | cases h
  | BoolOp => cases h
  | IfExp => cases h
  | Compare => cases h
  | _ => rfl
theorem attrBase {x : Str} {p : Pos} {m : Str} {env : Env} {w : Sem Value} : attributeBase (.Name x p) m env w = w := rfl
theorem plainIx {b : Expr} (h : isSlice b = false) : PlainIx b := by
  intro o i
  cases b <;> first | rfl | cases h
theorem marks_of {op : CmpOp} {b : Expr} {n : Nat} {sc : Scope} {m : ME} (h : compE G N n sc b = some m) : behindInMarks op b = false := by
  cases b <;> first | rfl | skip
  cases n with
  | zero => simp only [compE] at h; cases h
  | succ n => simp only [compE] at h; cases h
theorem slice_of {b : Expr} {n : Nat} {sc : Scope} {m : ME} (h : compE G N n sc b = some m) : isSlice b = false := by
  cases b <;> first | rfl | skip
  cases n with
  | zero => simp only [compE] at h; cases h
  | succ n => simp only [compE] at h; cases h
theorem star_of {b : Expr} {n : Nat} {sc : Scope} {m : ME} (h : compE G N n sc b = some m) : noStar b = true := by
  cases b <;> first | rfl | skip
  cases n with
  | zero => simp only [compE] at h; cases h
  | succ n => simp only [compE] at h; cases h
theorem set_of {it : Expr} {n : Nat} {sc : Scope} {tup : Bool} {m : MI} {env : Env} (h : compI G N n sc tup it = some m) : ∀ x, foldedSetIterable it env x = pure x := by
  intro x
  cases it <;> first | rfl | skip
  cases n with
  | zero => simp only [compI] at h; cases h
  | succ n => simp only [compI] at h; cases h
theorem tstar_of {b : Expr} {n : Nat} {sc : Scope} {top : Option Scope} {m : MT} (h : compT G N n top sc b = some m) : noStar b = true := by
  cases b <;> first | rfl | skip
  cases n with
  | zero => simp only [compT] at h; cases h
  | succ n => simp only [compT] at h; cases h
theorem assignEach_cons {a : Expr} {r : List Expr} {env : Env} (h : noStar a = true) : assignEach (a :: r) env = (false, assign a env) :: assignEach r env := by
  cases a <;> first | rfl | exact absurd h Bool.false_ne_true
theorem compTs_star : ∀ {es : List Expr} {n : Nat} {sc : Scope} {top : Option Scope} {ms : List MT} {env : Env}, compTs G N n top sc es = some ms → (assignEach es env).length = ms.length ∧ (assignEach es env).findIdx? (·.1) = none
  | [], n, sc, top, ms, env, h => by
    cases n with
    | zero => simp only [compTs] at h; cases h
    | succ n => simp only [compTs] at h; cases h; exact ⟨rfl, rfl⟩
  | e :: r, n, sc, top, ms, env, h => by
    cases n with
    | zero => simp only [compTs] at h; cases h
    | succ n =>
      simp only [compTs] at h
      split at h
      · rename_i x xs h1 h2
        cases h
        obtain ⟨k1, k2⟩ := compTs_star (env := env) h2
        rw [assignEach_cons (tstar_of h1)]
        refine ⟨by simp [k1], ?_⟩
        simp only [List.findIdx?_cons, k2]
        rfl
      · cases h
theorem isLoc_of {sc : Scope} {x : Str} (h : isLoc sc x = true) : sc.names.lookup x = some .local := by
  unfold isLoc at h
  split at h
  · assumption
  · cases h
theorem isCell_of {sc : Scope} {x : Str} (h : isCell sc x = true) : sc.names.lookup x = some .cell := by
  unfold isCell at h
  split at h
  · assumption
  · cases h
/-- at which names a target may stand -/
abbrev Tops (top : Option Scope) (X : Cx) : Prop := ∀ x, topB top x = true → X.env.scope.names.lookup x = some .cell → X.fn x = true

structure Sound (G : CG) (g : GE) (P : List FnD) (d : Nat) (n : Nat) : Prop where
  e : ∀ {W : WX} {X : Cx} {sc : Scope} {e : Expr} {m : ME}, XOk G g P d W sc X → compE G X.N n sc e = some m → SE g P d W X e m ∧ ST g P d W X e m
  b : ∀ {W : WX} {X : Cx} {sc : Scope} {op : BoolOp} {vs : List Expr} {pos : Pos} {m : ME}, XOk G g P d W sc X → compB G X.N n sc op vs = some m → SE g P d W X (.BoolOp op vs pos) m ∧ SW g P d W X (.BoolOp op vs pos) m
  es : ∀ {W : WX} {X : Cx} {sc : Scope} {es : List Expr} {ms : List ME}, XOk G g P d W sc X → compEs G X.N n sc es = some ms → SA g P d W X es ms
  o : ∀ {W : WX} {X : Cx} {sc : Scope} {o : Option Expr} {m : Option ME}, XOk G g P d W sc X → compO G X.N n sc o = some m → SO g P d W X o m
  c : ∀ {W : WX} {X : Cx} {sc : Scope} {ifs : List Expr} {m : Option ME}, XOk G g P d W sc X → compC G X.N n sc ifs = some m → PTs X ifs (LT g W (evalC (calls P d) m))
  t : ∀ {W : WX} {X : Cx} {sc : Scope} {top : Option Scope} {e : Expr} {m : MT} {S : Nat → Prop}, XOk G g P d W sc X → Tops top X → compT G X.N n top sc e = some m → (∃ own k, tgIn own k m = true ∧ ∀ i ∈ own, S i) ∨ (∀ i, S i) → SG g P d X e m S
  ts : ∀ {W : WX} {X : Cx} {sc : Scope} {top : Option Scope} {es : List Expr} {ms : List MT} {S : Nat → Prop}, XOk G g P d W sc X → Tops top X → compTs G X.N n top sc es = some ms → (∃ own k, ms.all (tgIn own k) = true ∧ ∀ i ∈ own, S i) ∨ (∀ i, S i) → SGs g P d X es ms S
  i : ∀ {W : WX} {X : Cx} {sc : Scope} {tg it : Expr} {m : MI}, XOk G g P d W sc X → compI G X.N n sc (isTupleE tg) it = some m → SI g P d W X tg it m
theorem XOk.loc {W : WX} {X : Cx} {sc : Scope} (ok : XOk G g P d W sc X) {x : Str} {k : NameKind} (h : sc.names.lookup x = some k) : X.env.scope.names.lookup x = some k := by rw [ok.sc]; exact h
theorem both {W : WX} {X : Cx} {sc : Scope} (ok : XOk G g P d W sc X) {e : Expr} {m : ME} (h : SE g P d W X e m) (p : plainT e = true) : SE g P d W X e m ∧ ST g P d W X e m := ⟨h, st_truth ok h (isTrue_val p)⟩
theorem sound_b {n : Nat} (ih : Sound G g P d n) {W : WX} {X : Cx} {sc : Scope} {op : BoolOp} {vs : List Expr} {pos : Pos} {m : ME} (ok : XOk G g P d W sc X) (h : compB G X.N (n + 1) sc op vs = some m) : SE g P d W X (.BoolOp op vs pos) m ∧ SW g P d W X (.BoolOp op vs pos) m := by
  simp only [compB] at h
  split at h
  · cases h
  · obtain ⟨h1, h2⟩ := ih.e ok h
    refine ⟨pe_one h1, ?_⟩
    cases op with
    | And => exact pw_and1 h2
    | Or => exact pw_or1 h2
  · rename_i e r hne
    split at h
    · rename_i x y hx hy
      obtain ⟨h1, h2⟩ := ih.e ok hx
      obtain ⟨h3, h4⟩ := ih.b (pos := pos) ok hy
      cases r with
      | nil => exact absurd rfl hne
      | cons b r =>
        cases op with
        | And =>
          cases h
          exact ⟨s_and ok h1 h3, sw_and h2 h4⟩
        | Or =>
          cases h
          exact ⟨s_or ok h1 h3, sw_or h2 h4⟩
    · cases h
theorem sound_es {n : Nat} (ih : Sound G g P d n) {W : WX} {X : Cx} {sc : Scope} {es : List Expr} {ms : List ME} (ok : XOk G g P d W sc X) (h : compEs G X.N (n + 1) sc es = some ms) : SA g P d W X es ms := by
  simp only [compEs] at h
  split at h
  · cases h; exact sa_nil
  · split at h
    · rename_i hs
      split at h
      · rename_i x xs h1 h2
        cases h
        exact sa_cons hs (ih.e ok h1).1 (ih.es ok h2)
      · cases h
    · cases h
theorem sound_o {n : Nat} (ih : Sound G g P d n) {W : WX} {X : Cx} {sc : Scope} {o : Option Expr} {m : Option ME} (ok : XOk G g P d W sc X) (h : compO G X.N (n + 1) sc o = some m) : SO g P d W X o m := by
  simp only [compO] at h
  split at h
  · cases h; exact so_none
  · obtain ⟨x, hx, rfl⟩ := Option.map_eq_some_iff.mp h
    exact so_some (ih.e ok hx).1
theorem PTs.imp {X : Cx} {ifs : List Expr} {t t' : TT} (h : PTs X ifs t) (i : ∀ σ H Q, t' σ H Q → t σ H Q) : PTs X ifs t' := ⟨fun pins s σ H Q I q => h.run pins s σ H Q I (i σ H Q q)⟩
theorem sound_c {n : Nat} (ih : Sound G g P d n) {W : WX} {X : Cx} {sc : Scope} {ifs : List Expr} {m : Option ME} (ok : XOk G g P d W sc X) (h : compC G X.N (n + 1) sc ifs = some m) : PTs X ifs (LT g W (evalC (calls P d) m)) := by
  simp only [compC] at h
  split at h
  · cases h
    refine PTs.imp pts_nil fun σ H Q ⟨ρ, σm, hm, r, R, e, F⟩ => ?_
    simp only [evalC] at e
    cases e
    exact F.okB R
  · obtain ⟨x, hx, rfl⟩ := Option.map_eq_some_iff.mp h
    exact pts_one (ih.e ok hx).2
  · cases h
theorem sound_t {n : Nat} (ih : Sound G g P d n) {W : WX} {X : Cx} {sc : Scope} {top : Option Scope} {e : Expr} {m : MT} {S : Nat → Prop} (ok : XOk G g P d W sc X) (tp : Tops top X) (h : compT G X.N (n + 1) top sc e = some m) (hS : (∃ own k, tgIn own k m = true ∧ ∀ i ∈ own, S i) ∨ (∀ i, S i)) : SG g P d X e m S := by
  simp only [compT] at h
  split at h
  · split at h
    · rename_i x p hz
      obtain ⟨i, hi, rfl⟩ := Option.map_eq_some_iff.mp h
      rw [Bool.and_eq_true, Bool.or_eq_true, Bool.and_eq_true] at hz
      have hSi : S i := by
        rcases hS with ⟨own, k, h1, h2⟩ | h1
        · cases k with
          | zero => simp only [tgIn] at h1; cases h1
          | succ k =>
            simp only [tgIn] at h1
            exact h2 i (by simpa using h1)
        · exact h1 i
      rcases hz.1 with q | ⟨q1, q2⟩
      · have := ok.loc (isLoc_of q)
        exact sg_name ok.nd hi (.inl this) (.inr this) hSi
      · have := ok.loc (isCell_of q2)
        exact sg_name ok.nd hi (.inr this) (.inl (tp _ q1 this)) hSi
    · cases h
  · obtain ⟨ts, hts, rfl⟩ := Option.map_eq_some_iff.mp h
    have := compTs_star (env := X.env) hts
    refine sg_tup ok.go.hK ok.calm (ih.ts ok tp hts ?_) this.1 this.2
    rcases hS with ⟨own, k, h1, h2⟩ | h1
    · cases k with
      | zero => simp only [tgIn] at h1; cases h1
      | succ k =>
        simp only [tgIn] at h1
        exact .inl ⟨own, k, h1, h2⟩
    · exact .inr h1
  · split at h
    · cases h
    · rename_i hns
      split at h
      · rename_i x y hx hy
        cases h
        exact sg_sub (ih.e ok hx).1 (ih.e ok hy).1 (assign_sub (slice_of hy))
      · cases h
  · cases h
theorem sound_ts {n : Nat} (ih : Sound G g P d n) {W : WX} {X : Cx} {sc : Scope} {top : Option Scope} {es : List Expr} {ms : List MT} {S : Nat → Prop} (ok : XOk G g P d W sc X) (tp : Tops top X) (h : compTs G X.N (n + 1) top sc es = some ms) (hS : (∃ own k, ms.all (tgIn own k) = true ∧ ∀ i ∈ own, S i) ∨ (∀ i, S i)) : SGs g P d X es ms S := by
  simp only [compTs] at h
  split at h
  · cases h; exact sgs_nil
  · split at h
    · rename_i x xs h1 h2
      cases h
      refine sgs_cons (ih.t ok tp h1 ?_) (ih.ts ok tp h2 ?_) (by rw [assignEach_cons (tstar_of h1)] <;> rfl)
      · rcases hS with ⟨own, k, h1, h2⟩ | h1
        · rw [List.all_cons, Bool.and_eq_true] at h1
          exact .inl ⟨own, k, h1.1, h2⟩
        · exact .inr h1
      · rcases hS with ⟨own, k, h1, h2⟩ | h1
        · rw [List.all_cons, Bool.and_eq_true] at h1
          exact .inl ⟨own, k, h1.2, h2⟩
        · exact .inr h1
    · cases h
theorem isBlt_of {sc : Scope} {x : Str} (h : isBlt G sc x = true) : isGl sc x = true ∧ okName x = true := by
  unfold isBlt at h
  simp only [Bool.and_eq_true] at h
  exact ⟨h.1.1.1, h.2⟩
theorem sound_i {n : Nat} (ih : Sound G g P d n) {W : WX} {X : Cx} {sc : Scope} {tg it : Expr} {m : MI} (ok : XOk G g P d W sc X) (h : compI G X.N (n + 1) sc (isTupleE tg) it = some m) : SI g P d W X tg it m := by
  have gen : ∀ {e : Expr}, (compE G X.N n sc e).map MI.ex = some m → SI g P d W X tg e m := fun {e} h => by
    obtain ⟨x, hx, rfl⟩ := Option.map_eq_some_iff.mp h
    exact si_ex ok (ih.e ok hx).1
  simp only [compI] at h
  split at h
  · split at h
    · rename_i hb
      rw [Bool.and_eq_true] at hb
      obtain ⟨hg, ho⟩ := isBlt_of hb.1
      split at h
      · split at h
        · rename_i hf
          subst hf
          obtain ⟨x, hx, rfl⟩ := Option.map_eq_some_iff.mp h
          exact si_r1 ok hg (star_of hx) (ih.e ok hx).1
        · split at h
          · rename_i hf
            subst hf
            split at h
            · rename_i ht
              obtain ⟨x, hx, rfl⟩ := Option.map_eq_some_iff.mp h
              cases tg <;> first | (cases ht; done) | skip
              exact si_enu ok hg (star_of hx) (ih.e ok hx).1
            · cases h
          · exact gen h
      · split at h
        · rename_i hf
          subst hf
          split at h
          · rename_i x y hx hy
            cases h
            exact si_r2 ok hg (star_of hx) (star_of hy) (ih.e ok hx).1 (ih.e ok hy).1
          · cases h
        · split at h
          · rename_i hf
            subst hf
            split at h
            · rename_i ht
              split at h
              · rename_i x y hx hy
                cases h
                cases tg <;> first | (cases ht; done) | skip
                exact si_zip ok hg (star_of hx) (star_of hy) (ih.e ok hx).1 (ih.e ok hy).1
              · cases h
            · cases h
          · exact gen h
      · split at h
        · rename_i hf
          subst hf
          split at h
          · rename_i x y z hx hy hz
            cases h
            exact si_r3 ok hg (star_of hx) (star_of hy) (star_of hz) (ih.e ok hx).1 (ih.e ok hy).1 (ih.e ok hz).1
          · cases h
        · cases h
      · cases h
    · exact gen h
  · cases h
  · exact gen h
theorem sound_e {n : Nat} (ih : Sound G g P d n) {W : WX} {X : Cx} {sc : Scope} {e : Expr} {m : ME} (ok : XOk G g P d W sc X) (h : compE G X.N (n + 1) sc e = some m) : SE g P d W X e m ∧ ST g P d W X e m := by
  have nl : ∀ {v : MV}, (∀ xs, v ≠ .lst xs) → NL v := fun h => h
  simp only [compE] at h
  split at h
  · -- Name
    refine both ok ?_ rfl
    split at h
    · rename_i hz
      rw [Bool.and_eq_true] at hz
      obtain ⟨i, hi, rfl⟩ := Option.map_eq_some_iff.mp h
      exact s_var ok hz.1 hz.2 hi
    · split at h
      · rename_i hz
        rw [Bool.and_eq_true] at hz
        obtain ⟨v, hv, rfl⟩ := Option.map_eq_some_iff.mp h
        exact s_glob ok hz.1 hz.2 hv
      · cases h
  · cases h; exact both ok (s_cst pe_int (nl fun _ h => nomatch h) fun _ _ => .int _) rfl
  · cases h; exact both ok (s_cst pe_bl (nl fun _ h => nomatch h) fun _ _ => .bl _) rfl
  · cases h; exact both ok (s_cst pe_non (nl fun _ h => nomatch h) fun _ _ => .non) rfl
  · cases h; exact both ok (s_cst pe_str (nl fun _ h => nomatch h) fun _ _ => .str _) rfl
  · -- BinOp
    split at h
    · rename_i o x y h1 h2 h3
      cases h
      exact both ok (s_bin ok h1 (ih.e ok h2).1 (ih.e ok h3).1) rfl
    · cases h
  · obtain ⟨x, hx, rfl⟩ := Option.map_eq_some_iff.mp h
    exact both ok (s_neg (ih.e ok hx).1) rfl
  · obtain ⟨x, hx, rfl⟩ := Option.map_eq_some_iff.mp h
    exact ⟨s_not ok (ih.e ok hx).1, st_not (ih.e ok hx).2⟩
  · obtain ⟨h1, h2⟩ := ih.b ok h
    exact ⟨h1, h2.pt⟩
  · split at h
    · rename_i x y z h1 h2 h3
      cases h
      exact ⟨s_ite (ih.e ok h1).2 (ih.e ok h2).1 (ih.e ok h3).1, st_ite (ih.e ok h1).2 (ih.e ok h2).2 (ih.e ok h3).2⟩
    · cases h
  · split at h
    · rename_i o x y h1 h2 h3
      cases h
      exact ⟨s_cmp ok h1 (marks_of h3) (ih.e ok h2).1 (ih.e ok h3).1, st_cmp ok h1 (marks_of h3) (ih.e ok h2).1 (ih.e ok h3).1⟩
    · cases h
  · split at h
    · rename_i p q x y z h1 h2 h3 h4 h5
      cases h
      exact ⟨s_chn ok h1 h2 (marks_of h5) (ih.e ok h3).1 (ih.e ok h4).1 (ih.e ok h5).1, st_chn ok h1 h2 (marks_of h5) (ih.e ok h3).1 (ih.e ok h4).1 (ih.e ok h5).1⟩
    · cases h
  · split at h
    · rename_i hz
      obtain ⟨x, hx, rfl⟩ := Option.map_eq_some_iff.mp h
      exact both ok (s_tup (ih.es ok hx) (by rw [SA.len hx]; exact hz)) rfl
    · cases h
  · split at h
    · rename_i hz
      obtain ⟨x, hx, rfl⟩ := Option.map_eq_some_iff.mp h
      exact both ok (s_lst (ih.es ok hx) (by rw [SA.len hx]; exact hz)) rfl
    · cases h
  · -- slices
    split at h
    · split at h
      · rename_i x l u h1 h2 h3
        cases h
        exact both ok (s_sl ok (ih.e ok h1).1 (ih.o ok h2) (ih.o ok h3)) rfl
      · cases h
    · split at h
      · rename_i hz
        obtain ⟨x, hx, rfl⟩ := Option.map_eq_some_iff.mp h
        obtain ⟨rfl, h1, h2⟩ := hz
        rw [Option.isNone_iff_eq_none] at h1 h2
        subst h1
        subst h2
        exact both ok (s_rev ok (ih.e ok hx).1) rfl
      · cases h
    · cases h
  · split at h
    · rename_i x y h1 h2
      cases h
      exact both ok (s_ix ok (plainIx (slice_of h2)) (ih.e ok h1).1 (ih.e ok h2).1) rfl
    · cases h
  · -- calls
    rename_i f p args pos
    refine both ok ?_ rfl
    split at h
    · rename_i hb
      obtain ⟨hg, ho⟩ := isBlt_of hb
      split at h
      · split at h
        · rename_i hz
          rw [Bool.and_eq_true] at hz
          obtain ⟨hf, hb2⟩ := hz
          have hf := of_decide_eq_true hf
          subst hf
          obtain ⟨hg2, ho2⟩ := isBlt_of hb2
          split at h
          · rename_i x ty h1 h2
            cases h
            exact s_isi ok hg hg2 ho2 h2 (star_of h1) (ih.e ok h1).1
          · cases h
        · split at h
          · rename_i b xs h1 h2
            cases h
            exact s_bi ok h1 hg ho (compEs_star h2) (ih.es ok h2)
          · cases h
      · cases h1 : biOf f args.length with
        | none => rw [h1] at h; cases h
        | some b =>
          cases h2 : compEs G X.N n sc args with
          | none => rw [h1, h2] at h; cases h
          | some xs =>
            rw [h1, h2] at h
            cases h
            cases args with
            | nil =>
              unfold biOf at h1
              repeat' split at h1
              all_goals first | (cases h1; done) | (rename_i q; exact absurd q.2 (by decide))
            | cons a r => exact s_bi ok h1 hg ho (compEs_star h2) (ih.es ok h2)
    · split at h
      · rename_i hz
        simp only [Bool.and_eq_true] at hz
        obtain ⟨⟨hg, ho⟩, hne⟩ := hz
        split at h
        · rename_i i xs h1 h2
          cases h
          cases args with
          | nil => cases hne
          | cons a r => exact s_call ok hg ho h1 (compEs_star h2) (ih.es ok h2)
        · cases h
      · cases h
  · -- methods
    rename_i o mn ap args pos
    refine both ok ?_ rfl
    split at h
    · rename_i x xs h1 h2
      split at h
      · cases h
      · rename_i hz
        simp only [Bool.not_eq_true', Bool.not_eq_false, Bool.and_eq_true] at hz
        obtain ⟨hn, hl⟩ := hz
        have ho := (ih.e ok h1).1
        have ha := ih.es ok h2
        have hst := compEs_star h2
        have hlen := SA.len h2
        cases o <;> first | (cases hn; done) | skip
        split at h
        · rename_i hm
          cases h
          obtain ⟨rfl, hm2⟩ := hm
          match args, hm2 with
          | [a], _ => exact s_append attrBase hl (by simpa using hst) ho ha hlen
        · split at h
          · rename_i hm
            cases h
            obtain ⟨rfl, hm2⟩ := hm
            match args, hm2 with
            | [], _ =>
              have : xs = [] := List.length_eq_zero_iff.mp hlen
              subst this
              exact s_pop0 attrBase hl ho
          · split at h
            · rename_i hm
              cases h
              obtain ⟨rfl, hm2⟩ := hm
              match args, hm2 with
              | [a], _ => exact s_pop1 attrBase hl (by simpa using hst) ho ha
            · cases h
    · cases h
  · -- comprehensions
    rename_i elt tg iter ifs scope pos
    refine both ok ?_ rfl
    split at h
    · rename_i hb
      split at h
      · rename_i t i c x h1 h2 h3 h4
        split at h
        · rename_i ht
          cases h
          refine s_lc ok (ih.i ok h2) hb (fun X' ok' hN hfn => ?_) (fun X' ok' hN => ?_) (fun X' ok' hN => ?_) (set_of h2)
          · exact ih.t (top := some scope) ok' (fun x h _ => hfn x (by simpa [topB] using h)) (by rw [hN]; exact h1) (.inl ⟨_, _, ht, fun i hi => hi⟩)
          · exact ih.c ok' (by rw [hN]; exact h3)
          · exact (ih.e ok' (by rw [hN]; exact h4)).1
        · cases h
      · cases h
    · cases h
  · cases h
theorem sound : ∀ n : Nat, Sound G g P d n
  | 0 => by
    constructor
    all_goals intros
    all_goals first
      | (rename_i h; simp only [compE] at h; cases h; done) | (rename_i h; simp only [compB] at h; cases h; done) | (rename_i h; simp only [compEs] at h; cases h; done) | (rename_i h; simp only [compO] at h; cases h; done)
      | (rename_i h; simp only [compC] at h; cases h; done) | (rename_i h; simp only [compI] at h; cases h; done) | (rename_i h _; simp only [compT] at h; cases h; done) | (rename_i h _; simp only [compTs] at h; cases h; done)
  | n + 1 => ⟨fun ok h => sound_e (sound n) ok h, fun ok h => sound_b (sound n) ok h, fun ok h => sound_es (sound n) ok h, fun ok h => sound_o (sound n) ok h, fun ok h => sound_c (sound n) ok h,
    fun ok tp h => sound_t (sound n) ok tp h, fun ok tp h => sound_ts (sound n) ok tp h, fun ok h => sound_i (sound n) ok h⟩
end
end Mi

/-! Mi12: statements sound. -/
namespace Mi
open PySem PySem.Spec PyProof.Rows L2
section
variable {G : CG} {g : GE} {P : List FnD} {d : Nat} {N : List Str}
theorem bkind {env : Env} (hk : env.scope.kind = .function) : env.blockKind = .function := by unfold Env.blockKind; rw [hk]; rfl
theorem sw_noLc {e : Expr} {t : Option Expr} {l : Nat} {env : Env} (h : noLc e = true) : swapsWith e t l env = pure false := by
  cases e <;> first | rfl | cases h
theorem sw_lc {elt : Expr} {gs : List Comprehension} {s : Scope} {p pos : Pos} {t : Str} {l : Nat} {env : Env} (hk : env.scope.kind = .function) :
    swapsWith (.ListComp elt gs s p) (some (.Name t pos)) l env = pure (swB env.scope (.ListComp elt gs s p) (.Name t pos)) := by
  have hb := bkind hk
  unfold swapsWith swB isLoc Env.kindOf
  simp only [hb, Expr.pos]
  cases env.scope.names.lookup t with
  | none => rfl
  | some k => cases k <;> rfl
theorem sw_any {e tg : Expr} {l : Nat} {env : Env} {n : Nat} {sc : Scope} {m : ME} (hc : compE G N n sc e = some m) (hk : env.scope.kind = .function) : swapsWith e (some tg) l env = pure (swB env.scope e tg) := by
  cases e
  case ListComp elt gs s p =>
    cases tg
    case Name => exact sw_lc hk
    all_goals rfl
  case SetComp =>
    cases n with
    | zero => simp only [compE] at hc; cases hc
    | succ n => simp only [compE] at hc; cases hc
  case DictComp =>
    cases n with
    | zero => simp only [compE] at hc; cases hc
    | succ n => simp only [compE] at hc; cases hc
  all_goals rfl
theorem ss_none {tg e : Expr} {env : Env} (h : (∃ ts k p vs k2 p2, tg = .Tuple ts k p ∧ e = .Tuple vs k2 p2) → False) (hl : ∀ ts p, tg ≠ .List ts p) : swappedStores [tg] e env = pure none := by
  cases tg
  case Tuple ts k p =>
    cases e
    case Tuple vs k2 p2 => exact absurd ⟨ts, k, p, vs, k2, p2, rfl, rfl⟩ h
    all_goals rfl
  case List ts p => exact absurd rfl (hl ts p)
  all_goals rfl
theorem ss_tup {ts vs : List Expr} {k k2 : Nat} {p p2 : Pos} {env : Env} {o : Option (List Str)} (hk : env.scope.kind = .function) (h : swP env.scope ts vs = some o) : swappedStores [.Tuple ts k p] (.Tuple vs k2 p2) env = pure o := by
  have hb := bkind hk
  have hbb : (env.blockKind != .function) = false := by rw [hb]; rfl
  unfold swP at h
  unfold swappedStores Env.kindOf
  simp only [hbb, Bool.or_false, pure_bind]
  by_cases q : (!(ts.length == 2 || ts.length == 3) || vs.length != ts.length) = true
  · rw [if_pos q] at h
    cases h
    exact if_pos q
  · rw [if_neg q] at h
    refine (if_neg q).trans ?_
    by_cases q2 : vs.any isStar = true
    · rw [if_pos q2] at h
      cases h
      exact if_pos q2
    · rw [if_neg q2] at h
      refine (if_neg q2).trans ?_
      by_cases q3 : nmB (nmS env.scope ts) ts.length = true
      · rw [if_pos q3] at h
        cases h
        exact if_pos q3
      · rw [if_neg q3] at h
        refine (if_neg q3).trans ?_
        by_cases q4 : vs.all (foldedForSure 8) = true
        · rw [if_pos q4] at h
          cases h
          exact if_pos q4
        · rw [if_neg q4] at h
          refine (if_neg q4).trans ?_
          by_cases q5 : vs.all (constantsAlone 8) = true
          · rw [if_pos q5] at h
            cases h
          · rw [if_neg q5] at h
            cases h
            exact if_neg q5
structure SOk (G : CG) (g : GE) (P : List FnD) (d : Nat) (W : WX) (sc₀ : Scope) (X : Cx) : Prop extends XOk G g P d W sc₀ X where
  tops : Tops none X
  po : PassesOwn (model X.prog X.w) X.A X.env X.xe
  kind : sc₀.kind = .function
structure SoundS (G : CG) (g : GE) (P : List FnD) (d : Nat) (n : Nat) : Prop where
  s : ∀ {W : WX} {X : Cx} {sc : Scope} {s : Stmt} {m : MS}, SOk G g P d W sc X → compS G X.N n sc s = some m → SS g P d W X s m
  ss : ∀ {W : WX} {X : Cx} {sc : Scope} {s : List Stmt} {m : List MS}, SOk G g P d W sc X → compSs G X.N n sc s = some m → SSs g P d W X s m
theorem SOk.ek {W : WX} {X : Cx} {sc : Scope} (ok : SOk G g P d W sc X) : X.env.scope.kind = .function := by rw [ok.sc]; exact ok.kind
theorem assign1 {tg : Expr} {env : Env} {n : Nat} {sc : Scope} {top : Option Scope} {m : MT} (h : compT G N n top sc tg = some m) : (assignEach [tg] env).map (·.2) = [assign tg env] := by
  rw [assignEach_cons (tstar_of h)] <;> rfl
theorem notList {tg : Expr} {n : Nat} {sc : Scope} {top : Option Scope} {m : MT} (h : compT G N n top sc tg = some m) : ∀ ts p, tg ≠ .List ts p := fun ts p e => by
  subst e
  cases n with
  | zero => simp only [compT] at h; cases h
  | succ n => simp only [compT] at h; cases h
theorem swSole {tg e : Expr} {l : Nat} {env : Env} : swapsWithSole [tg] e l env = swapsWith e (some tg) l env := rfl
/-- an assignment that is not stored from the right -/
theorem ss_plain {n : Nat} {W : WX} {X : Cx} {sc : Scope} {tg e : Expr} {pos : Pos} {t : MT} {x : ME} (ok : SOk G g P d W sc X) (ht : compT G X.N n none sc tg = some t) (hx : compE G X.N n sc e = some x) (hw : swappedStores [tg] e X.env = pure none) : SS g P d W X (.Assign [tg] e pos) (.asg t x) := by
  have S := sound (G := G) (g := g) (P := P) (d := d) n
  have hs : swapsWithSole [tg] e pos.line X.env = pure (swB X.env.scope e tg) := by rw [swSole]; exact sw_any hx ok.ek
  cases hb : swB X.env.scope e tg with
  | false =>
    rw [hb] at hs
    exact ss_asg (S.e ok.toXOk hx).1 (S.t ok.toXOk ok.tops ht (.inr fun _ => trivial)) hs hw (assign1 ht)
  | true =>
    rw [hb] at hs
    cases e <;> first | (simp only [swB] at hb; cases hb; done) | skip
    cases tg <;> first | (simp only [swB] at hb; cases hb; done) | skip
    rename_i elt gs s p y py
    have hy : X.env.scope.names.lookup y = some .local := by
      simp only [swB, Bool.and_eq_true] at hb
      exact isLoc_of hb.1.1
    cases n with
    | zero => simp only [compE] at hx; cases hx
    | succ n =>
      simp only [compT] at ht
      split at ht
      · obtain ⟨j, hj, rfl⟩ := Option.map_eq_some_iff.mp ht
        have S := sound (G := G) (g := g) (P := P) (d := d) n
        simp only [compE] at hx
        split at hx <;> first | (cases hx; done) | skip
        all_goals try (rename_i hq; cases hq; done)
        rename_i elt0 tg0 iter0 ifs0 scope0 pos0 heq
        cases heq
        split at hx
        · rename_i hb0
          split at hx
          · rename_i t i c x h1 h2 h3 h4
            split at hx
            · rename_i htg
              cases hx
              refine ss_setLc ok.toXOk hj hy hs (S.i ok.toXOk h2) hb0 (fun X' ok' hN hfn => ?_) (fun X' ok' hN => ?_) (fun X' ok' hN => ?_) (set_of h2)
              · exact S.t (top := some _) ok' (fun x h _ => hfn x (by simpa [topB] using h)) (by rw [hN]; exact h1) (.inl ⟨_, _, htg, fun i hi => hi⟩)
              · exact S.c ok' (by rw [hN]; exact h3)
              · exact (S.e ok' (by rw [hN]; exact h4)).1
            · cases hx
          · cases hx
        · cases hx
      · cases ht
theorem ss_nev {W : WX} {X : Cx} {s : Stmt} : SS g P d W X s .nev := PS.imp ps_never fun D σ H ⟨ρ, σm, hm, r, R, e, F⟩ => by
  simp only [execS] at e
  cases e
theorem sound_ss {n : Nat} (ih : SoundS G g P d n) {W : WX} {X : Cx} {sc : Scope} {s : List Stmt} {m : List MS} (ok : SOk G g P d W sc X) (h : compSs G X.N (n + 1) sc s = some m) : SSs g P d W X s m := by
  simp only [compSs] at h
  split at h
  · cases h; exact ss_nil
  · rename_i s0 r
    split at h
    · rename_i xs h2
      cases h
      cases h1 : compS G X.N n sc s0 with
      | none => exact ss_cons ss_nev (ih.ss ok h2)
      | some x => exact ss_cons (ih.s ok h1) (ih.ss ok h2)
    · cases h
theorem sound_s {n : Nat} (ih : SoundS G g P d n) {W : WX} {X : Cx} {sc : Scope} {s : Stmt} {m : MS} (ok : SOk G g P d W sc X) (h : compS G X.N (n + 1) sc s = some m) : SS g P d W X s m := by
  have S := sound (G := G) (g := g) (P := P) (d := d) n
  have O := ok.toXOk
  simp only [compS] at h
  split at h
  · cases h; exact ss_doc
  · split at h
    · rename_i hl
      obtain ⟨x, hx, rfl⟩ := Option.map_eq_some_iff.mp h
      exact ss_expr (S.e O hx).1 (sw_noLc hl)
    · cases h
  · obtain ⟨x, hx, rfl⟩ := Option.map_eq_some_iff.mp h
    exact ss_ret (S.e O hx).1
  · cases h; exact ss_retN
  · cases h; exact ss_pass
  · cases h; exact ss_brk
  · cases h; exact ss_cnt
  · split at h
    · rename_i x y z h1 h2 h3
      cases h
      exact ss_if (S.e O h1).2 (ih.ss ok h2) (ih.ss ok h3)
    · cases h
  · split at h
    · rename_i x y h1 h2
      cases h
      exact ss_while ok.po (S.e O h1).2 (ih.ss ok h2)
    · cases h
  · split at h
    · rename_i t i y h1 h2 h3
      cases h
      exact ss_for O.calm ok.po (S.i O h2) (S.t O ok.tops h1 (.inr fun _ => trivial)) (ih.ss ok h3) (set_of h2)
    · cases h
  · -- assignments
    split at h
    · rename_i tg0 e0 ts k p vs k2 p2
      split at h
      · cases h
      · rename_i hsw
        split at h
        · rename_i t x h1 h2
          cases h
          exact ss_plain ok h1 h2 (ss_tup ok.ek (by rw [O.sc]; exact hsw))
        · cases h
      · split at h
        · rename_i hsw _ _ x px y py a b
          split at h
          · rename_i i j es h1 h2 h3
            split at h
            · rename_i hz
              simp only [Bool.and_eq_true, decide_eq_true_eq] at hz
              cases h
              exact ss_par2 O h1 h2 hz.1.2 (O.loc (isLoc_of hz.1.1.1)) (O.loc (isLoc_of hz.1.1.2)) (S.es O h3) (ss_tup ok.ek (by rw [O.sc]; exact hz.2))
            · cases h
          · cases h
        · rename_i hsw _ _ x px y py z pz a b c
          split at h
          · rename_i i j l es h1 h2 h3 h4
            split at h
            · rename_i hz
              simp only [Bool.and_eq_true, decide_eq_true_eq] at hz
              cases h
              exact ss_par3 O h1 h2 h3 hz.1.1.1.2 hz.1.1.2 hz.1.2 (O.loc (isLoc_of hz.1.1.1.1.1.1)) (O.loc (isLoc_of hz.1.1.1.1.1.2)) (O.loc (isLoc_of hz.1.1.1.1.2)) (S.es O h4) (ss_tup ok.ek (by rw [O.sc]; exact hz.2))
            · cases h
          · cases h
        · cases h
    · rename_i hne
      split at h
      · rename_i t x h1 h2
        cases h
        exact ss_plain ok h1 h2 (ss_none (fun ⟨ts, k, p, vs, k2, p2, e1, e2⟩ => hne _ _ _ _ _ _ e1 e2) (notList h1))
      · cases h
  · split at h
    · rename_i hz
      rw [Bool.and_eq_true, Bool.or_eq_true] at hz
      split at h
      · rename_i i o m h1 h2 h3
        cases h
        rcases hz.1 with q | q
        · have := O.loc (isLoc_of q)
          exact ss_aug O.nd h2 h1 (.inl this) (.inr this) (S.e O h3).1
        · have := O.loc (isCell_of q)
          exact ss_aug O.nd h2 h1 (.inr this) (.inl (ok.tops _ rfl this)) (S.e O h3).1
      · cases h
    · cases h
  · split at h
    · cases h
    · rename_i hns
      split at h
      · rename_i x y o m h1 h2 h3 h4
        cases h
        exact ss_augS O h3 (S.e O h1).1 (S.e O h2).1 (S.e O h4).1 (aug_sub (slice_of h2))
      · cases h
  · cases h
theorem soundS : ∀ n : Nat, SoundS G g P d n
  | 0 => ⟨fun _ h => (by simp only [compS] at h; cases h), fun _ h => (by simp only [compSs] at h; cases h)⟩
  | n + 1 => ⟨fun ok h => sound_s (soundS n) ok h, fun ok h => sound_ss (soundS n) ok h⟩
end
end Mi

/-! Mi13: defs. -/
namespace Mi
open PySem PySem.Spec PyProof.Rows L2
section
variable {g : GE} {ρ ρ' : Rh} {H H' : Hp}
/-- which addresses are kept apart behind a def -/
structure BkOk (ρ0 : Rh) (H0 : Hp) (ρ' : Rh) (H' : Hp) (b : Addr → Prop) : Prop where
  old : ∀ a, ρ0.b a → b a
  new : ∀ a, b a → ρ0.b a ∨ H0 a = none
  lst : ∀ a, b a → ∃ xs, H' a = some (.lst xs)
  in_ : ∀ a, b a → ρ'.b a ∨ a ∈ ρ'.l
/-- a def's way from (ρ0, H0), where its arguments began, by (ρ, H), where it is entered, to (ρ', H') -/
structure Way (ρ0 : Rh) (H0 : Hp) (ρ : Rh) (ρ' : Rh) (H' : Hp) : Prop where
  lv : ∀ a, ρ0.b a → H0 a ≠ none
  e0 : ∀ (n : Nat) (a : Addr), ρ0.l[n]? = some a → ρ.l[n]? = some a
  n0 : ∀ a, a ∈ ρ.l → a ∈ ρ0.l ∨ H0 a = none
  p : Post ρ0 H0 ρ' H'
  pre : ∀ (n : Nat) (a : Addr), ρ.l[n]? = some a → ρ'.l[n]? = some a
section
variable {ρ0 : Rh} {H0 : Hp}
theorem Way.sub (w : Way ρ0 H0 ρ ρ' H') {a : Addr} (h : a ∈ ρ.l) : a ∈ ρ'.l := by
  obtain ⟨i, hi, e⟩ := List.mem_iff_getElem.mp h
  have : ρ.l[i]? = some a := by rw [List.getElem?_eq_getElem hi, e]
  exact List.mem_of_getElem? (w.pre i a this)
theorem Way.le (w : Way ρ0 H0 ρ ρ' H') : ρ.l.length ≤ ρ'.l.length := by
  by_cases h : ρ.l.length = 0
  · omega
  · have h1 : ρ.l.length - 1 < ρ.l.length := by omega
    have := (List.getElem?_eq_some_iff.mp (w.pre _ _ (List.getElem?_eq_getElem h1))).1
    omega
theorem Way.low (w : Way ρ0 H0 ρ ρ' H') {k : Nat} {a : Addr} (hk : k < ρ.l.length) (h : ρ'.l[k]? = some a) : ρ.l[k]? = some a := by
  have := w.pre k _ (List.getElem?_eq_getElem hk)
  rw [h] at this
  cases this
  exact List.getElem?_eq_getElem hk
theorem mv_back {b : Addr → Prop} (w : Way ρ0 H0 ρ ρ' H') (B : BkOk ρ0 H0 ρ' H' b) : MvP g ρ' H' ⟨ρ.l, b⟩ H' := ⟨fun _ _ h => h, fun a vs h o => ⟨h, fun m => o.1 (w.sub m), fun m => by
  rcases B.in_ a m with q | q
  · exact o.2 q
  · exact o.1 q⟩, fun a o vs h n => ⟨h, fun m => n (w.sub m)⟩⟩
theorem Rel.back {hm h1 : Hm} {σ1 σ2 : L2.St} {σm1 σm2 : Loc} {b : Addr → Prop} (R : Rel g ρ σm1 hm σ1 H) (R' : Rel g ρ' σm2 h1 σ2 H') (w : Way ρ0 H0 ρ ρ' H') (B : BkOk ρ0 H0 ρ' H' b) : RelH g ⟨ρ.l, b⟩ (h1.take hm.length) H' ∧ Post ρ0 H0 ⟨ρ.l, b⟩ H' := by
  have M := mv_back (g := g) w B
  have le := w.le
  rw [R.len, R'.len] at le
  refine ⟨⟨?_, R.nd, fun i o a h1' h2 => ?_, fun i xs h => ?_, rfl, fun i v h => by simp at h, fun i v h => by simp at h, B.lst⟩, ⟨w.e0, w.n0, B.new, w.p.keep, w.p.more, B.old⟩⟩
  · show ρ.l.length = _
    rw [List.length_take, R.len]
    omega
  · have hi : i < hm.length := by rw [← R.len]; exact (List.getElem?_eq_some_iff.mp h2).1
    rw [List.getElem?_take_of_lt hi] at h1'
    have q := R'.obj i o a h1' (w.pre i a h2)
    cases o with
    | lst ys =>
      obtain ⟨ws, e, t⟩ := q
      exact ⟨ws, e, t.moveP M (R'.pur i ys h1')⟩
    | scr ns => exact q
    | dct _ => exact q
  · by_cases hi : i < hm.length
    · rw [List.getElem?_take_of_lt hi] at h
      exact R'.pur i xs h
    · rw [List.getElem?_take_eq_none (by omega)] at h
      cases h
theorem new_none {σm1 : Loc} {hm : Hm} {σ1 : L2.St} (R : Rel g ρ σm1 hm σ1 H) {σm2 : Loc} {h1 : Hm} {σ2 : L2.St} (R' : Rel g ρ' σm2 h1 σ2 H') (w : Way ρ0 H0 ρ ρ' H') {k : Nat} {a : Addr} (hk : hm.length ≤ k) (h : ρ'.l[k]? = some a) : a ∉ ρ.l ∧ H0 a = none := by
  have na : a ∉ ρ.l := fun m => by
    obtain ⟨i, hi, e2⟩ := List.mem_iff_getElem.mp m
    have q : ρ.l[i]? = some a := by rw [List.getElem?_eq_getElem hi, e2]
    have := nodup_get R'.nd (w.pre i a q) h
    have hi' : i < ρ.l.length := hi
    rw [R.len] at hi'
    omega
  refine ⟨na, ?_⟩
  rcases w.p.new a (List.mem_of_getElem? h) with q | q
  · obtain ⟨i, hi, e2⟩ := List.mem_iff_getElem.mp q
    have q : ρ0.l[i]? = some a := by rw [List.getElem?_eq_getElem hi, e2]
    exact absurd (List.mem_of_getElem? (w.e0 i a q)) na
  · exact q
mutual
theorem froz_ok {hm h1 : Hm} {σm1 σm2 : Loc} {σ1 σ2 : L2.St} {b : Addr → Prop} (R : Rel g ρ σm1 hm σ1 H) (R' : Rel g ρ' σm2 h1 σ2 H') (p : Way ρ0 H0 ρ ρ' H') (B : BkOk ρ0 H0 ρ' H' b) (hb : ∀ (k : Nat) (a : Addr), hm.length ≤ k → ρ'.l[k]? = some a → ¬ b a) :
    ∀ {v w : MV} {x : V}, RV g ρ' H' v x → froz hm.length h1 v = some w → RV g ⟨ρ.l, b⟩ H' w x
  | _, _, _, .non, e => by simp only [froz] at e; cases e; exact .non
  | _, _, _, .bl _, e => by simp only [froz] at e; cases e; exact .bl _
  | _, _, _, .int _, e => by simp only [froz] at e; cases e; exact .int _
  | _, _, _, .str _, e => by simp only [froz] at e; cases e; exact .str _
  | _, _, _, .fn h, e => by simp only [froz] at e; cases e; exact .fn h
  | _, _, _, .scr h, e => by simp only [froz] at e; cases e; exact .scr ((mv_back (g := g) p B).sqf h)
  | _, _, _, .tup h r, e => by
    simp only [froz] at e
    obtain ⟨ys, h1, rfl⟩ := Option.map_eq_some_iff.mp e
    exact .tup h (frozL_ok R R' p B hb r h1)
  | _, _, _, .fz h m r, e => by
    simp only [froz] at e
    obtain ⟨ys, h1, rfl⟩ := Option.map_eq_some_iff.mp e
    exact .fz h ((mv_back (g := g) p B).fz _ _ h m).2 (frozL_ok R R' p B hb r h1)
  | _, _, _, .lst h m r, e => by
    simp only [froz] at e
    obtain ⟨ys, h1, rfl⟩ := Option.map_eq_some_iff.mp e
    exact .lst h (fun q => m (p.sub q)) (frozL_ok R R' p B hb r h1)
  | _, _, _, @RV.ref _ _ _ n a h, e => by
    simp only [froz] at e
    split at e
    · rename_i hk
      cases e
      exact .ref (p.low (by rw [R.len]; exact hk) h)
    · rename_i hk
      split at e
      · rename_i xs hx
        cases e
        obtain ⟨vs, e1, t⟩ := R'.obj n _ a hx h
        exact .fz e1 ⟨(new_none R R' p (by omega) h).1, hb n a (by omega) h⟩ (t.moveP (mv_back (g := g) p B) (R'.pur n xs hx))
      · cases e
theorem frozL_ok {hm h1 : Hm} {σm1 σm2 : Loc} {σ1 σ2 : L2.St} {b : Addr → Prop} (R : Rel g ρ σm1 hm σ1 H) (R' : Rel g ρ' σm2 h1 σ2 H') (p : Way ρ0 H0 ρ ρ' H') (B : BkOk ρ0 H0 ρ' H' b) (hb : ∀ (k : Nat) (a : Addr), hm.length ≤ k → ρ'.l[k]? = some a → ¬ b a) :
    ∀ {v w : List MV} {x : List V}, RVs g ρ' H' v x → frozL hm.length h1 v = some w → RVs g ⟨ρ.l, b⟩ H' w x
  | _, _, _, .nil, e => by simp only [frozL] at e; cases e; exact .nil
  | _, _, _, .cons r t, e => by
    simp only [frozL] at e
    split at e
    · rename_i y ys h1 h2
      cases e
      exact .cons (froz_ok R R' p B hb r h1) (frozL_ok R R' p B hb t h2)
    · cases e
end
theorem froz_lst {n : Nat} {h : Hm} {v w : MV} (e : froz n h v = some w) (hw : ∃ xs, w = .lst xs) : ∃ xs, v = .lst xs := by
  obtain ⟨xs, rfl⟩ := hw
  cases v with
  | lst xs => exact ⟨xs, rfl⟩
  | ref k =>
    simp only [froz] at e
    split at e
    · cases e
    · split at e <;> cases e
  | tup xs => simp only [froz] at e; obtain ⟨_, _, q⟩ := Option.map_eq_some_iff.mp e; cases q
  | fz xs => simp only [froz] at e; obtain ⟨_, _, q⟩ := Option.map_eq_some_iff.mp e; cases q
  | _ => simp only [froz] at e; cases e
theorem bk_old {σm2 : Loc} {h1 : Hm} {σ2 : L2.St} (R' : Rel g ρ' σm2 h1 σ2 H') (w : Way ρ0 H0 ρ ρ' H') : BkOk ρ0 H0 ρ' H' ρ0.b :=
  ⟨fun _ h => h, fun _ h => .inl h, fun a h => R'.blk a (w.p.blk a h), fun a h => .inl (w.p.blk a h)⟩
/-- a def's value handed back -/
theorem back_ok {σm1 : Loc} {hm h1 : Hm} {σ1 : L2.St} (R : Rel g ρ σm1 hm σ1 H) {σm2 : Loc} {σ2 : L2.St} (R' : Rel g ρ' σm2 h1 σ2 H') (p : Way ρ0 H0 ρ ρ' H') {v : MV} {x : V} (rv : RV g ρ' H' v x) (fr : ∀ a, TV v x a → H0 a = none ∧ ρ'.b a) {r : Res MV} (e : handBack hm.length v h1 = some r) :
    ∃ (w : MV) (b : Addr → Prop), r = .ok w (h1.take hm.length) ∧ Post ρ0 H0 ⟨ρ.l, b⟩ H' ∧ RelH g ⟨ρ.l, b⟩ (h1.take hm.length) H' ∧ RV g ⟨ρ.l, b⟩ H' w x ∧ ∀ a, TV w x a → H0 a = none ∧ b a := by
  have gen : ∀ w, froz hm.length h1 v = some w → r = .ok w (h1.take hm.length) → ∃ (w : MV) (b : Addr → Prop), r = .ok w (h1.take hm.length) ∧ Post ρ0 H0 ⟨ρ.l, b⟩ H' ∧ RelH g ⟨ρ.l, b⟩ (h1.take hm.length) H' ∧ RV g ⟨ρ.l, b⟩ H' w x ∧ ∀ a, TV w x a → H0 a = none ∧ b a := fun w hw hr => by
    have B : BkOk ρ0 H0 ρ' H' (fun a => ρ0.b a ∨ TV v x a) := ⟨fun a h => .inl h, fun a h => h.elim .inl fun h => .inr (fr a h).1, fun a h => h.elim (fun h => R'.blk a (p.p.blk a h)) fun h => R'.blk a (fr a h).2, fun a h => .inl (h.elim (p.p.blk a) fun h => (fr a h).2)⟩
    obtain ⟨R2, p2⟩ := R.back R' p B
    refine ⟨w, _, hr, p2, R2, froz_ok R R' p B (fun k a hk ha h => ?_) rv hw, fun a ⟨h1, h2⟩ => ?_⟩
    · obtain ⟨na, nn⟩ := new_none R R' p hk ha
      rcases h with h | ⟨⟨xs, e⟩, h2⟩
      · exact p.lv a h nn
      · subst e
        subst h2
        cases rv with
        | lst _ m _ => exact m (List.mem_of_getElem? ha)
    · have t : TV v x a := ⟨froz_lst hw h1, h2⟩
      exact ⟨(fr a t).1, .inr t⟩
  cases v with
  | ref k =>
    simp only [handBack] at e
    split at e
    · rename_i hk
      cases e
      exact gen (.ref k) (by simp only [froz]; rw [if_pos hk]) rfl
    · rename_i hk
      split at e
      · rename_i xs hx
        cases e
        cases rv with
        | @ref _ a ha =>
          obtain ⟨na, nn⟩ := new_none R R' p (by omega) ha
          obtain ⟨vs, e1, t⟩ := R'.obj k _ a hx ha
          have B : BkOk ρ0 H0 ρ' H' (fun c => ρ0.b c ∨ c = a) := ⟨fun c h => .inl h, fun c h => h.elim .inl fun h => .inr (h ▸ nn), fun c h => h.elim (fun h => R'.blk c (p.p.blk c h)) fun h => ⟨vs, h ▸ e1⟩, fun c h => h.elim (fun h => .inl (p.p.blk c h)) fun h => .inr (h ▸ List.mem_of_getElem? ha)⟩
          obtain ⟨R2, p2⟩ := R.back R' p B
          exact ⟨.lst xs, _, rfl, p2, R2, .lst e1 na (t.moveP (mv_back (g := g) p B) (R'.pur k xs hx)), fun c ⟨_, h2⟩ => by cases h2; exact ⟨nn, .inr rfl⟩⟩
      · cases e
  | _ =>
    simp only [handBack] at e
    split at e
    · rename_i w hw
      cases e
      exact gen w hw rfl
    · cases e
end
end

/-! ### a table of defs -/
structure FE where
  x : Str
  st : Stmt
  N : List Str
  ps : List Str
def scopeOk (f : FE) : Bool :=
  (match (defScope f.st).kind with | .function => true | _ => false) && !(defScope f.st).isCoroutine && !(defScope f.st).isGenerator && decide f.N.Nodup && decide (f.N.take f.ps.length = f.ps) &&
    (f.ps.all fun x => match (defScope f.st).names.lookup x with | some .local => true | some .cell => true | _ => false) && ((defScope f.st).names.all fun y => !(y.2 == .free))
theorem scope_of {f : FE} (h : scopeOk f = true) : FnScope f.N f.ps (defScope f.st) := by
  unfold scopeOk at h
  simp only [Bool.and_eq_true, List.all_eq_true, decide_eq_true_eq, Bool.not_eq_true'] at h
  obtain ⟨⟨⟨⟨⟨⟨h1, h2⟩, h3⟩, h4⟩, h5⟩, h6⟩, h7⟩ := h
  refine ⟨?_, h2, h3, h4, h5, fun x hx => ?_, fun y hy e => ?_⟩
  · split at h1
    · assumption
    · cases h1
  · have := h6 x hx
    split at this
    · exact .inl (by assumption)
    · exact .inr (by assumption)
    · cases this
  · have := h7 y hy
    rw [e] at this
    cases this
def compF (G : CG) (f : FE) : Option FnD := (compSs G f.N 1000 (defScope f.st) (defBody f.st)).map fun b => ⟨f.ps.length, f.N.length, b⟩
/-- the defs and their meanings -/
structure Tbl (G : CG) (P : List FnD) (fs : List FE) : Prop where
  names : G.fns = fs.map (·.x)
  sc : ∀ f ∈ fs, scopeOk f = true
  comp : ∀ (i : Nat) (f : FE), fs[i]? = some f → ∃ D, P[i]? = some D ∧ compF G f = some D
section
variable {G : CG} {g : GE} {P : List FnD} {fs : List FE} {Pg : Program} {w : World} {K : PySem.W.Frag} {mg : Str → Option Value} {base : Heap}
theorem start_rel {ρ : Rh} {H : Hp} {hm : Hm} {xs : List MV} {vs : List V} {N : List Str} {np : Nat} (R : RelH g ρ hm H) (rs : RVs g ρ H xs vs) (hn : nolL xs = true) (hl : xs.length = np) : Rel g ρ (xs.map some ++ List.replicate (N.length - np) none) hm (L2.start N vs) H := by
  have l := rs.length
  subst hl
  unfold L2.start
  refine ⟨R.len, R.nd, R.obj, R.pur, by simp [l], fun i v h => ?_, fun i v h => ?_, R.blk⟩
  · by_cases hi : i < xs.length
    · rw [List.getElem?_append_left (by simpa using hi), List.getElem?_map] at h
      rw [List.getElem?_append_left (by simpa [← l] using hi), List.getElem?_map]
      cases hx : xs[i]? with
      | none => rw [hx] at h; cases h
      | some y =>
        rw [hx] at h
        cases h
        obtain ⟨x, h1, h2⟩ := rs.get hx
        exact ⟨x, by rw [h1]; rfl, h2⟩
    · rw [List.getElem?_append_right (by simpa using hi)] at h
      rw [List.getElem?_replicate] at h
      split at h <;> cases h
  · by_cases hi : i < xs.length
    · rw [List.getElem?_append_left (by simpa using hi), List.getElem?_map] at h
      cases hx : xs[i]? with
      | none => rw [hx] at h; cases h
      | some y =>
        rw [hx] at h
        cases h
        have : ∀ {xs : List MV}, nolL xs = true → ∀ x ∈ xs, x.nol = true := fun {xs} => by
          induction xs with
          | nil => intro _ x h; simp at h
          | cons a r ih =>
            intro h x hx
            simp only [nolL, Bool.and_eq_true] at h
            rcases List.mem_cons.mp hx with q | q
            · rw [q]; exact h.1
            · exact ih h.2 x q
        exact this hn _ (List.mem_of_getElem? hx)
    · rw [List.getElem?_append_right (by simpa using hi)] at h
      rw [List.getElem?_replicate] at h
      split at h <;> cases h
/-- what a body's end is for its def -/
theorem fin_body {ρ0 ρ ρ1 : Rh} {H0 H : Hp} {hm : Hm} {rb : SRes} {r : Res MV} {Q : VK} {E : XK} (lv : ∀ a, ρ0.b a → H0 a ≠ none) (p0 : Post ρ0 H0 ρ H) (p1 : Post ρ0 H0 ρ1 H) (k1 : ∀ (n : Nat) (c : Addr), ρ.l[n]? = some c → ρ1.l[n]? = some c) (R : RelH g ρ hm H) (F : FinC g ρ0 H0 r Q E)
    (e : endFn hm.length (some rb) = some r) : SFin g (fun cls d _ H => E cls d H) ρ1 H rb { nx := fun _ H' => Q .non H', rt := Q } := by
  have way : ∀ {ρ' H'}, Post ρ1 H ρ' H' → Way ρ0 H0 ρ ρ' H' := fun p => ⟨lv, p0.ext, p0.new, p1.trans p, fun n a h => p.ext n a (k1 n a h)⟩
  cases rb with
  | bk σ h => cases e
  | ct σ h => cases e
  | nx σm h1 =>
    cases e
    intro ρ' H' σ' p R'
    have w := way p
    obtain ⟨R2, p2⟩ := R.back R' w (bk_old R' w)
    exact F _ H' .non p2 R2 .non fun a ⟨⟨xs, e⟩, _⟩ => nomatch e
  | rt v h1 =>
    intro ρ' H' x p R' rv fr
    obtain ⟨w, b, rfl, p2, R2, r2, fr2⟩ := back_ok R R' (way p) rv (fun a h => ⟨p1.more a (fr a h).1, (fr a h).2⟩) e
    exact F _ H' x p2 R2 r2 fr2
  | ex e0 σm h1 =>
    intro ρ' H' σ' c d p R' ⟨C, f, h2, h3, h4⟩
    have w := way p
    have B := bk_old R' w
    obtain ⟨R2, p2⟩ := R.back R' w B
    have hb : ∀ (k : Nat) (a : Addr), hm.length ≤ k → ρ'.l[k]? = some a → ¬ ρ0.b a := fun k a hk ha h => lv a h (new_none R R' w hk ha).2
    cases ha : e0.arg with
    | none =>
      simp only [endFn, ha] at e h4
      cases e
      exact F _ H' c d p2 R2 ⟨C, f, h2, h3, by simp only [ha]; exact h4⟩
    | some v =>
      simp only [endFn, ha] at e h4
      split at e
      · rename_i w' hw
        cases e
        obtain ⟨q, x, h5, h6, h7, h8⟩ := h4
        exact F _ H' c d p2 R2 ⟨C, f, h2, h3, q, x, h5, h6, fun m => h7 (w.sub m), froz_ok R R' w B hb h8 hw⟩
      · cases e
theorem body_ok (T : Tbl G P fs) (go : GOk G g K mg) {d i : Nat} {f : FE} (hi : fs[i]? = some f)
    (fn : ∀ (i : Nat) (x : Str) (a : Addr), G.fns[i]? = some x → g.fa i = some a → ∃ fd ps, FnOk Pg w K mg base (L2.CX Pg w) d a fd ps (spM g P d i) ∧ Binds K fd ps [])
    {qual : Str} {fa : Addr} {cdv : Value} {A : Around} {outer : List Env} {s : Shared} {H : Hp} {vs : List V} {Q : VK} {E : XK} (hr : Room d (A.deeper (envOfC qual (defScope f.st) s.heap.objs.size fa cdv))) (h : spM g P (d + 1) i vs H Q E) :
    ∃ t, PSs (cxOf (L2.CX Pg w) Pg w K mg base f.N qual (defScope f.st) fa cdv A outer s H E) (defBody f.st) t ∧ t { nx := fun _ H' => Q .non H', rt := Q } (L2.start f.N vs) H := by
  have S := scope_of (T.sc f (List.mem_of_getElem? hi))
  obtain ⟨D, hD, hc⟩ := T.comp i f hi
  obtain ⟨b, hb, rfl⟩ := Option.map_eq_some_iff.mp hc
  obtain ⟨ρ0, H0, ρ, hm, xs, r, lv, p0, R, rs, ap, fr, e, F⟩ := h
  simp only [calls, hD] at e
  unfold runFn at e
  split at e
  · rename_i hz
    split at e
    · rename_i ws h1 e1
      obtain ⟨ρ1, R1, p1, rs1, n1, hl, _, k1⟩ := stoL_ok R rs ap fr p0 e1
      refine ⟨_, (soundS (G := G) (g := g) (P := P) (d := d) 1000).ss (W := fun cls d _ H => E cls d H) (X := cxOf (L2.CX Pg w) Pg w K mg base f.N qual (defScope f.st) fa cdv A outer s H E) (sc := defScope f.st) ?_ hb, ?_⟩
      · exact ⟨⟨go, S.nd, rfl, rfl, hr, fn, takes_of rfl rfl rfl rfl⟩, fun _ _ _ => rfl, passes_of (K := fun e s'' => L2.CX Pg w outer H s E e s'') rfl, S.kind⟩
      · cases hx : execB (calls P d) b (ws.map some ++ List.replicate (f.N.length - f.ps.length) none) h1 with
        | none => simp only [hx] at e; cases e
        | some rb =>
          simp only [hx] at e
          exact ⟨ρ1, _, h1, rb, start_rel R1 rs1 n1 (hl.trans hz), hx, fin_body lv p0 p1 k1 R F e⟩
    · cases e
  · cases e
theorem fns_ok (T : Tbl G P fs) (go : GOk G g K mg) {fdf : Nat → FuncData}
    (F : ∀ (i : Nat) (f : FE) (a : Addr), fs[i]? = some f → g.fa i = some a → ∃ qual, FunD K f.x qual (defArgs f.st) (defBody f.st) (defScope f.st) [] [] a (fdf i) ∧ Binds K (fdf i) f.ps []) :
    ∀ (d i : Nat) (f : FE) (a : Addr), fs[i]? = some f → g.fa i = some a → FnOk Pg w K mg base (L2.CX Pg w) d a (fdf i) f.ps (spM g P d i) ∧ Binds K (fdf i) f.ps []
  | 0, i, f, a, hf, ha => by
    obtain ⟨qual, Fd, B⟩ := F i f a hf ha
    refine ⟨⟨fun vs H Q E ⟨_, _, _, _, _, _, _, _, _, _, _, _, e, _⟩ => ?_, fun A outer s H args us vs Q E _ _ _ _ ⟨_, _, _, _, _, _, _, _, _, _, _, _, e, _⟩ => ?_⟩, B⟩
    · simp only [calls] at e; cases e
    · simp only [calls] at e; cases e
  | d + 1, i, f, a, hf, ha => by
    have ih := fns_ok T go F d
    have ih' : ∀ (i : Nat) (x : Str) (a : Addr), G.fns[i]? = some x → g.fa i = some a → ∃ fd ps, FnOk Pg w K mg base (L2.CX Pg w) d a fd ps (spM g P d i) ∧ Binds K fd ps [] := fun i x a hx ha => by
      rw [T.names, List.getElem?_map] at hx
      obtain ⟨f, hf, rfl⟩ := Option.map_eq_some_iff.mp hx
      exact ⟨_, _, ih i f a hf ha⟩
    obtain ⟨qual, Fd, B⟩ := F i f a hf ha
    refine ⟨Fd.ok (scope_of (T.sc f (List.mem_of_getElem? hf))) (fun vs H Q E h => ?_) (fun cdv A outer s H vs Q E hr h => body_ok T go hf ih' hr h), B⟩
    obtain ⟨ρ0, H0, ρ, hm, xs, r, lv, p0, R, rs, ap, fr, e, _⟩ := h
    obtain ⟨D, hD, hc⟩ := T.comp i f hf
    obtain ⟨b, hb, rfl⟩ := Option.map_eq_some_iff.mp hc
    simp only [calls, hD] at e
    unfold runFn at e
    split at e
    · rename_i hz
      rw [← rs.length]
      exact hz
    · cases e
end
end Mi

/-! Mi14: a law's end. -/
namespace Mi
open PySem PySem.Spec PyProof.Rows L2
def defD (f : FE) : He.DefD := ⟨(f.x, none), f.x, f.x, defArgs f.st, defBody f.st, defScope f.st, [], []⟩
def fnL (fs : List FE) : List He.DefD := fs.map defD
def faL (fs : List FE) (cs : List (Str × Int)) : List He.Fa := fs.map (fun f => .glo f.x) ++ (BN.map .free ++ cs.map fun c => .int c.1 c.2)
def geOf (K : PySem.W.Frag) (fs : List FE) : GE := ⟨K, fun i => (fs[i]?).map fun f => He.ga K f.x, fun _ => none⟩
def cgOf (fs : List FE) (cs : List (Str × Int)) : CG := ⟨fs.map (·.x), cs.map fun c => (c.1, .int c.2)⟩
def BindOk (f : FE) : Prop := ∀ (kV doc pm : Value) (an : Option Addr) (cdv ct : Value) (us : List Value), us.length = f.ps.length → bindArgs (PySem.W.fnOf f.x f.x (defArgs f.st) (defBody f.st) (defScope f.st) .none kV doc pm an cdv ct) ⟨us, []⟩ = pure (f.ps.zip us)
section
variable {fs : List FE} {cs : List (Str × Int)} {P : List FnD} {K : PySem.W.Frag} {h : Heap} {mg : Str → Option Value}
theorem fact_of (c : He.SaysD (faL fs cs) (fnL fs) K) {f : He.Fa} (h : f ∈ faL fs cs) : f.ok K = true := by
  obtain ⟨i, hi⟩ := List.getElem?_of_mem h
  exact c.fact i hi
theorem glo_of (X : K.In h) (G : h.Ns mainGlobals mg) (c : He.SaysD (faL fs cs) (fnL fs) K) {f : FE} (hf : f ∈ fs) : mg f.x = some (.ref (He.ga K f.x)) :=
  He.glo_ok X G (fact_of c (List.mem_append_left _ (List.mem_map_of_mem hf)))
theorem lookup_mem {v : MV} {x : Str} : ∀ {cs : List (Str × Int)}, (cs.map fun c => (c.1, MV.int c.2)).lookup x = some v → ∃ i, v = .int i ∧ (x, i) ∈ cs
  | [], h => by simp at h
  | (y, j) :: r, h => by
    rw [List.map_cons, List.lookup_cons] at h
    by_cases e : x == y
    · rw [e] at h
      cases h
      have := eq_of_beq e
      subst this
      exact ⟨j, rfl, List.mem_cons_self⟩
    · have e : (x == y) = false := by simpa using e
      rw [e] at h
      obtain ⟨i, h1, h2⟩ := lookup_mem h
      exact ⟨i, h1, List.mem_cons_of_mem _ h2⟩
theorem def_of (c : He.SaysD (faL fs cs) (fnL fs) K) {i : Nat} {f : FE} (hf : fs[i]? = some f) : ∃ fd, FunD K f.x f.x (defArgs f.st) (defBody f.st) (defScope f.st) [] [] (He.ga K f.x) fd :=
  c.def_ i (d := defD f) (by unfold fnL; rw [List.getElem?_map, hf]; rfl)
theorem go_of (X : K.In h) (G : h.Ns mainGlobals mg) (c : He.SaysD (faL fs cs) (fnL fs) K) : GOk (cgOf fs cs) (geOf K fs) K mg := by
  refine ⟨rfl, fun i x hx => ?_, fun x v hx => ?_, fun x hx => ?_⟩
  · have hx : (fs.map (·.x))[i]? = some x := hx
    rw [List.getElem?_map] at hx
    obtain ⟨f, hf, rfl⟩ := Option.map_eq_some_iff.mp hx
    obtain ⟨fd, F⟩ := def_of c hf
    exact ⟨He.ga K f.x, by show (fs[i]?).map _ = _; rw [hf]; rfl, glo_of X G c (List.mem_of_getElem? hf), F.kp⟩
  · obtain ⟨i, rfl, hm⟩ := lookup_mem hx
    obtain ⟨t, ht⟩ := He.int_ok X G (fact_of c (List.mem_append_right _ (List.mem_append_right _ (List.mem_map_of_mem hm))))
    exact ⟨_, .int i, ht, ⟨t, rfl⟩, (fun _ h => nomatch h), fun _ _ => .int i⟩
  · exact He.free_ok X G (fact_of c (List.mem_append_right _ (List.mem_append_left _ (List.mem_map_of_mem hx))))
/-- what walk_ofE wants -/
theorem law_facts {Pg : Program} {w : World} {i d n : Nat} {f : FE} {x : Str} {fa : Addr} (T : Tbl (cgOf fs cs) P fs) (hB : ∀ f ∈ fs, BindOk f) (hf : fs[i]? = some f) (hp : f.ps = [x]) (hr : ∀ ns : List Int, ns.length ≤ n → ∃ h, calls P d i [.scr ns] [] = some (.ok (.bl true) h))
    (X : K.In h) (G : h.Ns mainGlobals mg) (c : He.SaysD (faL fs cs) (fnL fs) K) (hfa : mg f.x = some (.ref fa)) :
    ∃ (fd : FuncData) (sp : Sp), (∀ (s : Shared) (u : Value), BindsTo s fd ⟨[u], []⟩ [(x, u)]) ∧
        (∀ (H : Hp) (a : Addr) (ns : List Int), ns.length ≤ n → Only H → SqL K H a (ns.map V.int) → sp [.ref a] H (fun v _ => v = .bl true) fun _ _ _ => False) ∧
        ∀ base : Heap, K.In base → base.Ns mainGlobals mg → FnOk Pg w K mg base (L2.CX Pg w) d fa fd [x] sp := by
  have go := go_of X G c
  have ea := hfa.symm.trans (glo_of X G c (List.mem_of_getElem? hf))
  cases ea
  have ex : ∀ i : Nat, ∃ fd : FuncData, ∀ f, fs[i]? = some f → FunD K f.x f.x (defArgs f.st) (defBody f.st) (defScope f.st) [] [] (He.ga K f.x) fd := fun i => by
    cases h : fs[i]? with
    | none =>
      obtain ⟨fd, _⟩ := def_of c hf
      exact ⟨fd, fun f e => nomatch e⟩
    | some f0 =>
      obtain ⟨fd, F⟩ := def_of c h
      exact ⟨fd, fun f e => by cases e; exact F⟩
  let fdf : Nat → FuncData := fun i => Classical.choose (ex i)
  have hF : ∀ (i : Nat) (f : FE), fs[i]? = some f → FunD K f.x f.x (defArgs f.st) (defBody f.st) (defScope f.st) [] [] (He.ga K f.x) (fdf i) := fun i f h => Classical.choose_spec (ex i) f h
  refine ⟨fdf i, spM (geOf K fs) P d i, fun s u => ?_, fun H a ns hl hO hS => ?_, fun base _ _ => ?_⟩
  · have b := FunD.bindsA (hF i f hf) (hB f (List.mem_of_getElem? hf)) s [u] (by rw [hp]; rfl)
    rw [hp] at b
    exact b
  · obtain ⟨hm, e⟩ := hr ns hl
    refine ⟨⟨[], fun _ => False⟩, H, ⟨[], fun _ => False⟩, [], [.scr ns], _, (fun _ h => h.elim), .refl, ⟨rfl, .nil, fun i o a h => by simp at h, fun i xs h => by simp at h, rfl, fun i v h => by simp at h, fun i v h => by simp at h, fun a h => h.elim⟩, .cons (.scr ?_) .nil, ⟨(fun a ⟨⟨xs, e⟩, _⟩ => nomatch e), trivial⟩, fun a ⟨i, v, x, h1, h2, h3⟩ => ?_, e, fun ρ' H' x p R' r fr => ?_⟩
    · rcases hS with (hS | ⟨o, hS⟩) | hS
      · rcases hO a with q | ⟨o, xs, q⟩ <;> rw [hS] at q <;> cases q
      · exact .inl ⟨o, hS, by simp⟩
      · exact .inr hS
    · obtain ⟨⟨xs, e⟩, _⟩ := h3
      subst e
      cases i with
      | zero => simp at h1
      | succ i => simp at h1
    · cases r
      rfl
  · have := (fns_ok (Pg := Pg) (w := w) (base := base) T go (fdf := fdf) (fun i f a hf ha => by
      have ha : (fs[i]?).map (fun f => He.ga K f.x) = some a := ha
      rw [hf] at ha
      cases ha
      exact ⟨f.x, hF i f hf, FunD.bindsN (hF i f hf) (hB f (List.mem_of_getElem? hf))⟩) d i f (He.ga K f.x) hf (by show (fs[i]?).map _ = _; rw [hf]; rfl)).1
    rw [hp] at this
    exact this
end
theorem tbl_of {fs : List FE} {cs : List (Str × Int)} {P : List FnD} (h1 : fs.all scopeOk = true) (h2 : fs.map (compF (cgOf fs cs)) = P.map some) : Tbl (cgOf fs cs) P fs := by
  refine ⟨rfl, fun f hf => List.all_eq_true.mp h1 f hf, fun i f hf => ?_⟩
  have e : (fs.map (compF (cgOf fs cs)))[i]? = (P.map some)[i]? := by rw [h2]
  rw [List.getElem?_map, List.getElem?_map, hf] at e
  cases h : P[i]? with
  | none => rw [h] at e; cases e
  | some D =>
    rw [h] at e
    exact ⟨D, rfl, Option.some.inj e⟩
def AllB : List FE → Prop
  | [] => True
  | f :: r => BindOk f ∧ AllB r
theorem allB_of : ∀ {fs : List FE}, AllB fs → ∀ f ∈ fs, BindOk f
  | [], _, f, h => by simp at h
  | a :: r, h, f, hf => by
    rcases List.mem_cons.mp hf with q | q
    · subst q; exact h.1
    · exact allB_of h.2 f q
/-- a law walked over the layer, its defs may raise -/
theorem walk_w {l : PySem.W.OpenLaw} {n k : Nat} {q : Program} {loose : List Str} {XP : (Str → Option Value) → Heap → Prop} {YP : World → Heap → Prop} {d : DefRec} {x : Str}
    (hn : l.most = some n) (hn2 : n ≤ sizeLine) (hdf : d.params.defaults = []) (hr : Room k callerA)
    (F : ∀ (w : World) (mg : Str → Option Value) (fa : Addr) (h : Heap), YP w h → h.Ns mainGlobals mg → mg d.name = some (.ref fa) →
      ∃ (K : PySem.W.Frag), K.In h ∧ ∃ (fd : FuncData) (sp : Sp), (∀ (s : Shared) (u : Value), BindsTo s fd ⟨[u], []⟩ [(x, u)]) ∧
        (∀ (H : Hp) (a : Addr) (ns : List Int), ns.length ≤ n → Only H → SqL K H a (ns.map V.int) → sp [.ref a] H (fun v _ => v = .bl true) fun _ _ _ => False) ∧
        ∀ base : Heap, K.In base → base.Ns mainGlobals mg → FnOk l.prog w K mg base (L2.CX l.prog w) k fa fd [x] sp) :
    PySem.W.WalkO q loose XP YP l.row.toRowW d [] (fun f vs => PySem.call f vs) := by
  refine Att.attach_call hn hdf fun w s₀ s₁ mg mb fa o pm cd doc a vs ns G Y ho hd hcd hmg hobj hints hlen hg => ?_
  obtain ⟨K, KX, fd, sp, hb, hsp, hF⟩ := F w mg fa _ Y G.T.g hmg
  exact law_call KX G.T.g G.T.b G.T.builtins G.T.nolimit hg hobj hints (Nat.le_trans hlen hn2) hr hF hb (fun H hO hS => hsp H a ns hlen hO hS) fun H e s' h => by
    obtain ⟨_, _, _, _, _, _, _, _, _, _, _, _, z⟩ := h
    exact z
end Mi

/-! Mi16: plain tools about the small language. -/
namespace Mi
open PySem
abbrev tI (xs : List Int) : MV := .tup (xs.map .int)
@[simp] theorem nolL_ints (xs : List Int) : nolL (xs.map .int) = true := by
  induction xs with
  | nil => rfl
  | cons a r ih => simp only [List.map_cons, nolL, ih]; rfl
@[simp] theorem pureL_ints (xs : List Int) : pureL (xs.map .int) = true := by
  induction xs with
  | nil => rfl
  | cons a r ih => simp only [List.map_cons, pureL, ih]; rfl
@[simp] theorem frozL_ints (n : Nat) (h : Hm) (xs : List Int) : frozL n h (xs.map .int) = some (xs.map .int) := by
  induction xs with
  | nil => rfl
  | cons a r ih => simp only [List.map_cons, frozL, ih, froz]
@[simp] theorem intsOf_ints (xs : List Int) : intsOf (xs.map .int) = some xs := by
  induction xs with
  | nil => rfl
  | cons a r ih => simp only [List.map_cons, intsOf, ih]; rfl
@[simp] theorem frz_ints (xs : List Int) : (xs.map MV.int).map frz = xs.map .int := by
  rw [List.map_map]; rfl
@[simp] theorem toDs_ints (h : Hm) (xs : List Int) : toDs h (xs.map .int) = some (xs.map .int) := by
  induction xs with
  | nil => rfl
  | cons a r ih => simp only [List.map_cons, toDs, toD, ih]
@[simp] theorem allnl_ints (xs : List Int) : (xs.map MV.int).all nl = true := by
  induction xs with
  | nil => rfl
  | cons a r ih => simp only [List.map_cons, List.all_cons, ih]; rfl
theorem cut_map {α β : Type} (f : α → β) (xs : List α) (lo hi : Option Int) : cut (xs.map f) lo hi = (cut xs lo hi).map f := by
  unfold cut
  rw [List.length_map, List.map_take, List.map_drop]
theorem atI_map {α β : Type} (f : α → β) (xs : List α) (i : Int) : L2.atI (xs.map f) i = (L2.atI xs i).map f := by
  unfold L2.atI
  rw [List.length_map]
  cases L2.ixN xs.length i with
  | none => rfl
  | some j => simp
/-- loops -/
theorem iterC_inv {s : Src} {g : MV → Hm → Option (Loc × Hm)} {c : Loc → Hm → RO Bool} {e : Loc → Hm → RO MV} (n : Nat) (I : Nat → List MV → Hm → Prop)
    (hend : ∀ acc h, I n acc h → s.nth n h = some none)
    (hstep : ∀ i acc h, i < n → I i acc h → ∃ v σ1 h1 h2, s.nth i h = some (some v) ∧ g v h = some (σ1, h1) ∧ ((c σ1 h1 = some (.ok false h2) ∧ I (i + 1) acc h2) ∨
      ∃ y h3, c σ1 h1 = some (.ok true h2) ∧ e σ1 h2 = some (.ok y h3) ∧ acc.length < sizeMax ∧ (frz y).nol = true ∧ I (i + 1) (acc ++ [frz y]) h3)) :
    ∀ (m i : Nat) (acc : List MV) (h : Hm), I i acc h → i ≤ n → n - i < m → ∃ acc' h', iterC s g c e m i acc h = some (.ok acc' h') ∧ I n acc' h'
  | 0, i, acc, h, _, _, hm => by omega
  | m + 1, i, acc, h, hI, hi, hm => by
    by_cases hin : i = n
    · subst hin
      refine ⟨acc, h, ?_, hI⟩
      simp only [iterC, hend acc h hI]
    · obtain ⟨v, σ1, h1, h2, e1, e2, e3⟩ := hstep i acc h (by omega) hI
      simp only [iterC, e1, e2]
      rcases e3 with ⟨e3, hI2⟩ | ⟨y, h3, e3, e4, e5, e6, hI2⟩
      · obtain ⟨acc', h', e, hI'⟩ := iterC_inv n I hend hstep m (i + 1) acc h2 hI2 (by omega) (by omega)
        refine ⟨acc', h', ?_, hI'⟩
        simp only [e3, noX_ok, bnd_ok]
        exact e
      · obtain ⟨acc', h', e, hI'⟩ := iterC_inv n I hend hstep m (i + 1) _ h3 hI2 (by omega) (by omega)
        refine ⟨acc', h', ?_, hI'⟩
        simp only [e3, e4, noX_ok, bnd_ok, e5, e6, and_self, if_true]
        exact e
theorem iterF_inv {s : Src} {g : MV → Loc → Hm → Option (Loc × Hm)} {b : Loc → Hm → Option SRes} (n : Nat) (I : Nat → Loc → Hm → Prop)
    (hend : ∀ σ h, I n σ h → s.nth n h = some none)
    (hstep : ∀ i σ h, i < n → I i σ h → ∃ v σ1 h1 σ2 h2, s.nth i h = some (some v) ∧ g v σ h = some (σ1, h1) ∧ b σ1 h1 = some (.nx σ2 h2) ∧ I (i + 1) σ2 h2) :
    ∀ (m i : Nat) (σ : Loc) (h : Hm), I i σ h → i ≤ n → n - i < m → ∃ σ' h', iterF s g b m i σ h = some (.nx σ' h') ∧ I n σ' h'
  | 0, i, σ, h, _, _, hm => by omega
  | m + 1, i, σ, h, hI, hi, hm => by
    by_cases hin : i = n
    · subst hin
      refine ⟨σ, h, ?_, hI⟩
      simp only [iterF, hend σ h hI]
    · obtain ⟨v, σ1, h1, σ2, h2, e1, e2, e3, hI2⟩ := hstep i σ h (by omega) hI
      obtain ⟨σ', h', e, hI'⟩ := iterF_inv n I hend hstep m (i + 1) σ2 h2 hI2 (by omega) (by omega)
      refine ⟨σ', h', ?_, hI'⟩
      simp only [iterF, e1, e2, e3]
      exact e
theorem iterW_inv {c : Loc → Hm → RO Bool} {b : Loc → Hm → Option SRes} (I : Nat → Loc → Hm → Prop) (E : Loc → Hm → Prop)
    (hstep : ∀ m σ h, I m σ h → (c σ h = some (.ok false h) ∧ E σ h) ∨ ∃ h1 m' σ2 h2, c σ h = some (.ok true h1) ∧ b σ h1 = some (.nx σ2 h2) ∧ m' < m ∧ I m' σ2 h2) :
    ∀ (fuel m : Nat) (σ : Loc) (h : Hm), m < fuel → I m σ h → ∃ σ' h', iterW c b fuel σ h = some (.nx σ' h') ∧ E σ' h'
  | 0, m, σ, h, hm, _ => by omega
  | fuel + 1, m, σ, h, hm, hI => by
    rcases hstep m σ h hI with ⟨e1, hE⟩ | ⟨h1, m', σ2, h2, e1, e2, hlt, hI2⟩
    · exact ⟨σ, h, by simp only [iterW, e1], hE⟩
    · obtain ⟨σ', h', e, hE⟩ := iterW_inv I E hstep fuel m' σ2 h2 (by omega) hI2
      exact ⟨σ', h', by simp only [iterW, e1, e2]; exact e, hE⟩
/-- where a list's items stand -/
theorem nth_rg {vs : List MV} {i : Nat} {h : Hm} : (Src.rg vs).nth i h = nthU vs[i]? := rfl
theorem nth_rng {lo : Int} {n i : Nat} {h : Hm} : (Src.rg (rng lo n)).nth i h = if i < n then some (some (.int (lo + (i : Nat)))) else some none := by
  show nthU (rng lo n)[i]? = _
  by_cases hi : i < n
  · rw [if_pos hi]
    simp [rng, hi, nthU, unl]
  · rw [if_neg hi]
    simp [rng, hi, nthU]
/-! ### what a text does, without loops -/
theorem e_var (F : Calls) (i : Nat) (σ : Loc) (h : Hm) : evalE F (.var i) σ h = match σ[i]? with
    | some (some v) => some (.ok v h)
    | _ => none := by
  first | (simp only [evalE]; done) | (simp only [evalE] <;> rfl)
theorem e_cst (F : Calls) (v : MV) (σ : Loc) (h : Hm) : evalE F (.cst v) σ h = some (.ok v h) := by
  first | (simp only [evalE]; done) | (simp only [evalE] <;> rfl)
theorem e_bin (F : Calls) (op : BO) (a : ME) (b : ME) (σ : Loc) (h : Hm) : evalE F (.bin op a b) σ h = bnd (evalE F a σ h) fun x h1 => bnd (evalE F b σ h1) fun y h2 => lift (bop op x y h2) h2 := by
  first | (simp only [evalE]; done) | (simp only [evalE] <;> rfl)
theorem e_neg (F : Calls) (a : ME) (σ : Loc) (h : Hm) : evalE F (.neg a) σ h = bnd (evalE F a σ h) fun x h1 => match x with
    | .int i => some (.ok (.int (-i)) h1)
    | _ => none := by
  first | (simp only [evalE]; done) | (simp only [evalE] <;> rfl)
theorem e_not (F : Calls) (a : ME) (σ : Loc) (h : Hm) : evalE F (.not a) σ h = bnd (evalE F a σ h) fun x h1 => match truth h1 x with
    | some b => some (.ok (.bl (!b)) h1)
    | none => none := by
  first | (simp only [evalE]; done) | (simp only [evalE] <;> rfl)
theorem e_and (F : Calls) (a : ME) (b : ME) (σ : Loc) (h : Hm) : evalE F (.and a b) σ h = bnd (evalE F a σ h) fun x h1 => match truth h1 x with
    | some true => evalE F b σ h1
    | some false => some (.ok x h1)
    | none => none := by
  first | (simp only [evalE]; done) | (simp only [evalE] <;> rfl)
theorem e_or (F : Calls) (a : ME) (b : ME) (σ : Loc) (h : Hm) : evalE F (.or a b) σ h = bnd (evalE F a σ h) fun x h1 => match truth h1 x with
    | some true => some (.ok x h1)
    | some false => evalE F b σ h1
    | none => none := by
  first | (simp only [evalE]; done) | (simp only [evalE] <;> rfl)
theorem e_ite (F : Calls) (c : ME) (a : ME) (b : ME) (σ : Loc) (h : Hm) : evalE F (.ite c a b) σ h = bnd (evalE F c σ h) fun x h1 => match truth h1 x with
    | some true => evalE F a σ h1
    | some false => evalE F b σ h1
    | none => none := by
  first | (simp only [evalE]; done) | (simp only [evalE] <;> rfl)
theorem e_cmp (F : Calls) (op : CO) (a : ME) (b : ME) (σ : Loc) (h : Hm) : evalE F (.cmp op a b) σ h = bnd (evalE F a σ h) fun x h1 => bnd (evalE F b σ h1) fun y h2 => lift ((cop op x y h2).map .bl) h2 := by
  first | (simp only [evalE]; done) | (simp only [evalE] <;> rfl)
theorem e_chn (F : Calls) (o1 : CO) (o2 : CO) (a : ME) (b : ME) (c : ME) (σ : Loc) (h : Hm) : evalE F (.chn o1 o2 a b c) σ h = bnd (evalE F a σ h) fun x h1 => bnd (evalE F b σ h1) fun y h2 => match cop o1 x y h2 with
    | some true => bnd (evalE F c σ h2) fun z h3 => lift ((cop o2 y z h3).map .bl) h3
    | some false => some (.ok (.bl false) h2)
    | none => none := by
  first | (simp only [evalE]; done) | (simp only [evalE] <;> rfl)
theorem e_tup (F : Calls) (es : List ME) (σ : Loc) (h : Hm) : evalE F (.tup es) σ h = bnd (evalEs F es σ h) fun vs h1 => some (.ok (.tup (vs.map frz)) h1) := by
  first | (simp only [evalE]; done) | (simp only [evalE] <;> rfl)
theorem e_lst (F : Calls) (es : List ME) (σ : Loc) (h : Hm) : evalE F (.lst es) σ h = bnd (evalEs F es σ h) fun vs h1 => some (.ok (.lst (vs.map frz)) h1) := by
  first | (simp only [evalE]; done) | (simp only [evalE] <;> rfl)
theorem e_ix (F : Calls) (a : ME) (b : ME) (σ : Loc) (h : Hm) : evalE F (.ix a b) σ h = bnd (evalE F a σ h) fun x h1 => bnd (evalE F b σ h1) fun y h2 => lift (ixV x y h2) h2 := by
  first | (simp only [evalE]; done) | (simp only [evalE] <;> rfl)
theorem e_sl (F : Calls) (a : ME) (lo : Option ME) (hi : Option ME) (σ : Loc) (h : Hm) : evalE F (.sl a lo hi) σ h = bnd (evalE F a σ h) fun x h1 => bnd (evalO F lo σ h1) fun i h2 => bnd (evalO F hi σ h2) fun j h3 => lift (slV x i j h3) h3 := by
  first | (simp only [evalE]; done) | (simp only [evalE] <;> rfl)
theorem e_rev (F : Calls) (a : ME) (σ : Loc) (h : Hm) : evalE F (.rev a) σ h = bnd (evalE F a σ h) fun x h1 => match items h1 x with
    | some xs => some (.ok (.lst xs.reverse) h1)
    | none => none := by
  first | (simp only [evalE]; done) | (simp only [evalE] <;> rfl)
theorem e_call (F : Calls) (f : Nat) (es : List ME) (σ : Loc) (h : Hm) : evalE F (.call f es) σ h = bnd (evalEs F es σ h) fun vs h1 => F f vs h1 := by
  first | (simp only [evalE]; done) | (simp only [evalE] <;> rfl)
theorem e_bi (F : Calls) (b : BI) (es : List ME) (σ : Loc) (h : Hm) : evalE F (.bi b es) σ h = bnd (evalEs F es σ h) fun vs h1 => lift (biV b vs h1) h1 := by
  first | (simp only [evalE]; done) | (simp only [evalE] <;> rfl)
theorem e_isi (F : Calls) (a : ME) (ts : List TyN) (σ : Loc) (h : Hm) : evalE F (.isi a ts) σ h = bnd (evalE F a σ h) fun x h1 => match ts.mapM (isTy h1 x) with
    | some bs => some (.ok (.bl (bs.any id)) h1)
    | none => none := by
  first | (simp only [evalE]; done) | (simp only [evalE] <;> rfl)
theorem e_meth (F : Calls) (m : LM) (o : ME) (es : List ME) (σ : Loc) (h : Hm) : evalE F (.meth m o es) σ h = bnd (evalE F o σ h) fun x h1 => match itemsL h1 x with
    | some _ => bnd (evalEs F es σ h1) fun vs h2 => match methV m x vs h2 with
      | some (v, h3) => some (.ok v h3)
      | none => none
    | none => none := by
  first | (simp only [evalE]; done) | (simp only [evalE] <;> rfl)
theorem s_asg0 (F : Calls) (t : MT) (e : ME) (σ : Loc) (h : Hm) : execS F (.asg t e) σ h = exS σ (evalE F e σ h) fun v h1 => match evalT F t v σ h1 with
    | some (σ1, h2) => some (.nx σ1 h2)
    | none => none := by
  first | (simp only [execS]; done) | (simp only [execS] <;> rfl)
theorem s_par0 (F : Calls) (is : List Nat) (es : List ME) (σ : Loc) (h : Hm) : execS F (.par is es) σ h = exS σ (evalEs F es σ h) fun vs h1 => match stoAll is vs σ h1 with
    | some (σ1, h2) => some (.nx σ1 h2)
    | none => none := by
  first | (simp only [execS]; done) | (simp only [execS] <;> rfl)
theorem s_aug0 (F : Calls) (i : Nat) (op : BO) (e : ME) (σ : Loc) (h : Hm) : execS F (.aug i op e) σ h = match σ[i]? with
    | some (some x) => exS σ (evalE F e σ h) fun y h1 => match augV op x y h1 with
      | some v => some (.nx (σ.set i (some v)) h1)
      | none => none
    | _ => none := by
  first | (simp only [execS]; done) | (simp only [execS] <;> rfl)
theorem s_augS0 (F : Calls) (a : ME) (i : ME) (op : BO) (e : ME) (σ : Loc) (h : Hm) : execS F (.augS a i op e) σ h = exS σ (evalE F a σ h) fun o h1 => exS σ (evalE F i σ h1) fun k h2 => match getSub o k h2 with
    | some x => exS σ (evalE F e σ h2) fun y h3 => match augV op x y h3 with
      | some v => match setSub o k v h3 with
        | some h4 => some (.nx σ h4)
        | none => none
      | none => none
    | none => none := by
  first | (simp only [execS]; done) | (simp only [execS] <;> rfl)
theorem s_expr0 (F : Calls) (e : ME) (σ : Loc) (h : Hm) : execS F (.expr e) σ h = exS σ (evalE F e σ h) fun _ h1 => some (.nx σ h1) := by
  first | (simp only [execS]; done) | (simp only [execS] <;> rfl)
theorem s_ret0 (F : Calls) (e : ME) (σ : Loc) (h : Hm) : execS F (.ret e) σ h = exS σ (evalE F e σ h) fun v h1 => some (.rt v h1) := by
  first | (simp only [execS]; done) | (simp only [execS] <;> rfl)
theorem s_retN0 (F : Calls)  (σ : Loc) (h : Hm) : execS F (.retN ) σ h = some (.rt .non h) := by
  first | (simp only [execS]; done) | (simp only [execS] <;> rfl)
theorem s_ife0 (F : Calls) (c : ME) (a : List MS) (b : List MS) (σ : Loc) (h : Hm) : execS F (.ife c a b) σ h = exS σ (evalE F c σ h) fun x h1 => match truth h1 x with
    | some true => execB F a σ h1
    | some false => execB F b σ h1
    | none => none := by
  first | (simp only [execS]; done) | (simp only [execS] <;> rfl)
theorem s_pass0 (F : Calls)  (σ : Loc) (h : Hm) : execS F (.pass ) σ h = some (.nx σ h) := by
  first | (simp only [execS]; done) | (simp only [execS] <;> rfl)
theorem s_brk0 (F : Calls)  (σ : Loc) (h : Hm) : execS F (.brk ) σ h = some (.bk σ h) := by
  first | (simp only [execS]; done) | (simp only [execS] <;> rfl)
theorem s_cnt0 (F : Calls)  (σ : Loc) (h : Hm) : execS F (.cnt ) σ h = some (.ct σ h) := by
  first | (simp only [execS]; done) | (simp only [execS] <;> rfl)
theorem es_nil (F : Calls) (σ : Loc) (h : Hm) : evalEs F [] σ h = some (.ok [] h) := by
  first | (simp only [evalEs]; done) | (simp only [evalEs] <;> rfl)
theorem es_cons (F : Calls) (e : ME) (es : List ME) (σ : Loc) (h : Hm) : evalEs F (e :: es) σ h = bnd (evalE F e σ h) fun v h1 => bnd (evalEs F es σ h1) fun vs h2 => some (.ok (v :: vs) h2) := by
  first | (simp only [evalEs]; done) | (simp only [evalEs] <;> rfl)
theorem eo_none (F : Calls) (σ : Loc) (h : Hm) : evalO F none σ h = some (.ok none h) := by
  first | (simp only [evalO]; done) | (simp only [evalO] <;> rfl)
theorem eo_some (F : Calls) (e : ME) (σ : Loc) (h : Hm) : evalO F (some e) σ h = bnd (evalE F e σ h) fun v h1 => match v with
    | .int i => some (.ok (some i) h1)
    | _ => none := by
  first | (simp only [evalO]; done) | (simp only [evalO] <;> rfl)
theorem ec_none (F : Calls) (σ : Loc) (h : Hm) : evalC F none σ h = some (.ok true h) := by
  first | (simp only [evalC]; done) | (simp only [evalC] <;> rfl)
theorem ec_some (F : Calls) (e : ME) (σ : Loc) (h : Hm) : evalC F (some e) σ h = bnd (evalE F e σ h) fun v h1 => lift (truth h1 v) h1 := by
  first | (simp only [evalC]; done) | (simp only [evalC] <;> rfl)
theorem et_var (F : Calls) (i : Nat) (v : MV) (σ : Loc) (h : Hm) : evalT F (.var i) v σ h = match sto v h with
    | some (w, h1) => some (σ.set i (some w), h1)
    | none => none := by
  first | (simp only [evalT]; done) | (simp only [evalT] <;> rfl)
theorem et_tup (F : Calls) (ts : List MT) (v : MV) (σ : Loc) (h : Hm) : evalT F (.tup ts) v σ h = match seq h v with
    | some xs => if xs.length = ts.length ∧ xs.all nl = true then evalTs F ts xs σ h else none
    | none => none := by
  first | (simp only [evalT]; done) | (simp only [evalT] <;> rfl)
theorem et_sub (F : Calls) (a i : ME) (v : MV) (σ : Loc) (h : Hm) : evalT F (.sub a i) v σ h = match evalE F a σ h with
    | some (.ok x h1) => match evalE F i σ h1 with
      | some (.ok y h2) => match setSub x y (frz v) h2 with
        | some h3 => some (σ, h3)
        | none => none
      | _ => none
    | _ => none := by
  first | (simp only [evalT]; done) | (simp only [evalT] <;> rfl)
theorem ets_nil (F : Calls) (xs : List MV) (σ : Loc) (h : Hm) : evalTs F [] xs σ h = some (σ, h) := by
  first | (simp only [evalTs]; done) | (simp only [evalTs] <;> rfl)
theorem ets_cons (F : Calls) (t : MT) (ts : List MT) (x : MV) (xs : List MV) (σ : Loc) (h : Hm) : evalTs F (t :: ts) (x :: xs) σ h = match evalT F t x σ h with
    | some (σ1, h1) => evalTs F ts xs σ1 h1
    | none => none := by
  first | (simp only [evalTs]; done) | (simp only [evalTs] <;> rfl)
theorem eb_nil (F : Calls) (σ : Loc) (h : Hm) : execB F [] σ h = some (.nx σ h) := by
  first | (simp only [execB]; done) | (simp only [execB] <;> rfl)
theorem eb_cons (F : Calls) (s : MS) (r : List MS) (σ : Loc) (h : Hm) : execB F (s :: r) σ h = thenS (execS F s σ h) fun σ1 h1 => execB F r σ1 h1 := by
  first | (simp only [execB]; done) | (simp only [execB] <;> rfl)
theorem e_lc {F : Calls} {own : List Nat} {tg : MT} {it : MI} {c : Option ME} {elt : ME} {σ : Loc} {h h1 h2 : Hm} {s : Src} {acc : List MV} (hi : evalI F it σ h = some (.ok s h1))
    (hc : iterC s (fun v h => evalT F tg v (wipeL σ own) h) (fun σ h => evalC F c σ h) (fun σ h => evalE F elt σ h) (s.len h1 + 1) 0 [] h1 = some (.ok acc h2)) : evalE F (.lc own tg it c elt) σ h = some (.ok (.lst acc) h2) := by
  simp only [evalE, hi, bnd_ok, hc]
theorem s_for0 {F : Calls} {t : MT} {it : MI} {b : List MS} {σ : Loc} {h h1 : Hm} {s : Src} {r : SRes} (hi : evalI F it σ h = some (.ok s h1))
    (hf : iterF s (fun v σ h => evalT F t v σ h) (fun σ h => execB F b σ h) (s.len h1 + 1) 0 σ h1 = some r) : execS F (.forr t it b) σ h = some r := by
  simp only [execS, hi, exS_ok, hf]
theorem s_whl0 {F : Calls} {c : ME} {b : List MS} {σ : Loc} {h : Hm} {r : SRes}
    (hf : iterW (fun σ h => evalC F (some c) σ h) (fun σ h => execB F b σ h) iterMax σ h = some r) : execS F (.whl c b) σ h = some r := by
  simp only [execS, hf]
/-- a comprehension without a test whose heap stays -/
theorem iterC_pure {s : Src} {g : MV → Hm → Option (Loc × Hm)} {c : Loc → Hm → RO Bool} {e : Loc → Hm → RO MV} {h : Hm} (ys : List MV) (hend : s.nth ys.length h = some none) (hz : ys.length ≤ sizeMax)
    (hs : ∀ i y, ys[i]? = some y → ∃ v σ1 z, s.nth i h = some (some v) ∧ g v h = some (σ1, h) ∧ c σ1 h = some (.ok true h) ∧ e σ1 h = some (.ok z h) ∧ frz z = y ∧ y.nol = true) (m : Nat) (hm : ys.length < m) : iterC s g c e m 0 [] h = some (.ok ys h) := by
  obtain ⟨acc', h', e1, rfl, rfl⟩ := iterC_inv (s := s) (g := g) (c := c) (e := e) ys.length (fun i acc h' => acc = ys.take i ∧ h' = h) (fun acc h' hI => by rw [hI.2]; exact hend) (fun i acc h' hi hI => by
    obtain ⟨rfl, rfl⟩ := hI
    obtain ⟨v, σ1, z, e1, e2, e3, e4, e5, e6⟩ := hs i ys[i] (List.getElem?_eq_getElem hi)
    refine ⟨v, σ1, h', h', e1, e2, .inr ⟨z, h', e3, e4, ?_, ?_, ?_, rfl⟩⟩
    · rw [List.length_take]; omega
    · rw [e5]; exact e6
    · rw [e5, List.take_append_getElem hi]) m 0 [] h ⟨by simp, rfl⟩ (Nat.zero_le _) (by omega)
  rw [e1, List.take_length]
theorem nth_zipI (xs ys : List Int) (i : Nat) (h : Hm) : (Src.zip (.tv (xs.map .int)) (.tv (ys.map .int))).nth i h = some ((List.zipWith (fun x y => MV.tup [.int x, .int y]) xs ys)[i]?) := by
  simp only [Src.nth, Cmp.nth, nthU, List.getElem?_map, List.getElem?_zipWith]
  cases xs[i]? <;> cases ys[i]? <;> rfl
theorem nth_tI (xs : List Int) (i : Nat) (h : Hm) : (Src.one (.tv (xs.map .int))).nth i h = some (xs[i]?.map .int) := by
  simp only [Src.nth, Cmp.nth, nthU, List.getElem?_map]
  cases xs[i]? <;> rfl
theorem nth_enI (xs : List Int) (i : Nat) (h : Hm) : (Src.enu (.tv (xs.map .int))).nth i h = some (xs[i]?.map fun x => .tup [.int i, .int x]) := by
  simp only [Src.nth, Cmp.nth, nthU, List.getElem?_map]
  cases xs[i]? <;> rfl
theorem cut_take {α : Type} (xs : List α) (n : Nat) : cut xs none (some (n : Int)) = xs.take n := by
  unfold cut
  rw [HT.sIx_none, HT.sIx_nat, List.drop_zero, Nat.sub_zero]
  by_cases h : n ≤ xs.length
  · rw [Nat.min_eq_left h]
  · rw [Nat.min_eq_right (by omega), List.take_of_length_le (Nat.le_refl _), List.take_of_length_le (by omega)]
theorem cut_drop {α : Type} (xs : List α) (n : Nat) : cut xs (some (n : Int)) none = xs.drop n := by
  unfold cut
  rw [HT.sIx_none, HT.sIx_nat]
  by_cases h : n ≤ xs.length
  · rw [Nat.min_eq_left h, List.take_of_length_le]
    rw [List.length_drop]; omega
  · rw [Nat.min_eq_right (by omega), Nat.sub_self, List.take_zero, List.drop_of_length_le (by omega)]
theorem hl_get (h : Hm) (o : MO) : (h ++ [o])[h.length]? = some o := by simp
theorem hl_set (h : Hm) (o o' : MO) : (h ++ [o]).set h.length o' = h ++ [o'] := by simp
theorem hl_take (h : Hm) (o : MO) : (h ++ [o]).take h.length = h := by simp
theorem ixN_nat (n i : Nat) : L2.ixN n (i : Int) = if i < n then some i else none := by
  unfold L2.ixN
  rw [if_pos (by omega)]
  by_cases h : i < n
  · rw [if_pos h, if_pos (by omega), Int.toNat_natCast]
  · rw [if_neg h, if_neg (by omega)]
theorem atI_nat {α : Type} (xs : List α) (i : Nat) : L2.atI xs (i : Int) = xs[i]? := by
  unfold L2.atI
  rw [ixN_nat]
  by_cases h : i < xs.length
  · rw [if_pos h]; rfl
  · rw [if_neg h, List.getElem?_eq_none (by omega)]; rfl
theorem min2_nat (a b : Nat) : (if (b : Int) < (a : Int) then (b : Int) else (a : Int)) = ((min a b : Nat) : Int) := by
  by_cases h : b < a
  · rw [if_pos (by omega), Nat.min_eq_right (by omega)]
  · rw [if_neg (by omega), Nat.min_eq_left (by omega)]
theorem rep_lst (xs : List MV) (n : Nat) (h : Hm) (hn : n ≤ 1000000) (hz : xs.length * n ≤ 1000000) : bop .mul (.lst xs) (.int n) h = some (.lst (List.replicate n xs).flatten) := by
  have h1 : xs.length * n ≤ sizeMax := Nat.le_trans hz (by decide)
  simp only [bop, itemsL]
  rw [if_pos ⟨by omega, by omega, by rw [Int.toNat_natCast]; exact h1⟩, Int.toNat_natCast]
theorem rep_tup (xs : List MV) (n : Nat) (h : Hm) (hn : n ≤ 1000000) (hz : xs.length * n ≤ 1000000) : bop .mul (.tup xs) (.int n) h = some (.tup (List.replicate n xs).flatten) := by
  have h1 : xs.length * n ≤ sizeMax := Nat.le_trans hz (by decide)
  simp only [bop]
  rw [if_pos ⟨by omega, by omega, by rw [Int.toNat_natCast]; exact h1⟩, Int.toNat_natCast]
theorem cat_tup (xs ys : List MV) (h : Hm) (hz : xs.length + ys.length ≤ 1000000) : bop .add (.tup xs) (.tup ys) h = some (.tup (xs ++ ys)) := by
  have h1 : xs.length + ys.length ≤ sizeMax := Nat.le_trans hz (by decide)
  simp only [bop]
  rw [if_pos h1]
end Mi

/-! Mi17: rows of numbers, their products (plain). -/
namespace Mi
/-- the sum of f 0 .. f (n - 1) -/
def S (n : Nat) (f : Nat → Int) : Int := ((List.range n).map f).sum
theorem S_zero (f : Nat → Int) : S 0 f = 0 := rfl
theorem S_succ (n : Nat) (f : Nat → Int) : S (n + 1) f = S n f + f n := by
  unfold S
  rw [List.range_succ, List.map_append, List.sum_append]
  simp
theorem S_congr {n : Nat} {f g : Nat → Int} (h : ∀ i, i < n → f i = g i) : S n f = S n g := by
  induction n with
  | zero => rfl
  | succ n ih => rw [S_succ, S_succ, ih fun i hi => h i (by omega), h n (by omega)]
theorem S_add (n : Nat) (f g : Nat → Int) : S n (fun i => f i + g i) = S n f + S n g := by
  induction n with
  | zero => rfl
  | succ n ih => rw [S_succ, S_succ, S_succ, ih]; omega
theorem S_mul_left (n : Nat) (c : Int) (f : Nat → Int) : S n (fun i => c * f i) = c * S n f := by
  induction n with
  | zero => simp [S]
  | succ n ih => rw [S_succ, S_succ, ih, Int.mul_add]
theorem S_mul_right (n : Nat) (c : Int) (f : Nat → Int) : S n (fun i => f i * c) = S n f * c := by
  induction n with
  | zero => simp [S]
  | succ n ih => rw [S_succ, S_succ, ih, Int.add_mul]
theorem S_zeros {n : Nat} {f : Nat → Int} (h : ∀ i, i < n → f i = 0) : S n f = 0 := by
  induction n with
  | zero => rfl
  | succ n ih => rw [S_succ, ih fun i hi => h i (by omega), h n (by omega)]; rfl
theorem S_first (n : Nat) (f : Nat → Int) : S (n + 1) f = f 0 + S n (fun i => f (i + 1)) := by
  induction n with
  | zero => rw [S_succ, S_zero, S_zero]; omega
  | succ n ih => rw [S_succ, ih, S_succ]; omega
theorem S_rev (n : Nat) (f : Nat → Int) : S n f = S n (fun i => f (n - 1 - i)) := by
  induction n with
  | zero => rfl
  | succ n ih =>
    rw [S_first n (fun i => f (n + 1 - 1 - i)), S_succ, ih, Int.add_comm]
    congr 1
    · apply S_congr
      intro i hi
      congr 1
      omega
theorem S_tri (n : Nat) (F : Nat → Nat → Int) : S n (fun i => S (i + 1) (fun j => F i j)) = S n (fun j => S (n - j) (fun m => F (j + m) j)) := by
  induction n with
  | zero => rfl
  | succ n ih =>
    rw [S_succ, ih, S_succ n (fun j => S (n + 1 - j) fun m => F (j + m) j), S_succ n (fun j => F n j)]
    have e1 : S n (fun j => S (n + 1 - j) fun m => F (j + m) j) = S n (fun j => S (n - j) (fun m => F (j + m) j) + F n j) := by
      apply S_congr
      intro j hj
      rw [show n + 1 - j = (n - j) + 1 by omega, S_succ, show j + (n - j) = n by omega]
    rw [e1, S_add, show n + 1 - n = 0 + 1 by omega, S_succ, S_zero]
    rw [Nat.add_zero]
    simp only [Int.zero_add, Int.add_assoc]
/-! ### products of functions -/
def cf (f g : Nat → Int) (k : Nat) : Int := S (k + 1) fun i => f i * g (k - i)
theorem cf_congr {f f' g g' : Nat → Int} {k : Nat} (h : ∀ i, i ≤ k → f i = f' i) (h' : ∀ i, i ≤ k → g i = g' i) : cf f g k = cf f' g' k := by
  unfold cf
  apply S_congr
  intro i hi
  rw [h i (by omega), h' (k - i) (by omega)]
theorem cf_comm (f g : Nat → Int) (k : Nat) : cf f g k = cf g f k := by
  unfold cf
  rw [S_rev]
  apply S_congr
  intro i hi
  rw [Int.mul_comm, show k - (k + 1 - 1 - i) = i by omega, show k + 1 - 1 - i = k - i by omega]
theorem cf_assoc (f g h : Nat → Int) (k : Nat) : cf (cf f g) h k = cf f (cf g h) k := by
  have e1 : cf (cf f g) h k = S (k + 1) (fun i => S (i + 1) (fun j => f j * g (i - j) * h (k - i))) := by
    show S (k + 1) (fun i => S (i + 1) (fun j => f j * g (i - j)) * h (k - i)) = _
    apply S_congr
    intro i _
    rw [← S_mul_right]
  rw [e1, S_tri (k + 1) (fun i j => f j * g (i - j) * h (k - i))]
  show _ = S (k + 1) (fun j => f j * S (k - j + 1) (fun m => g m * h (k - j - m)))
  apply S_congr
  intro j hj
  rw [← S_mul_left, show k + 1 - j = k - j + 1 by omega]
  apply S_congr
  intro m hm
  rw [show j + m - j = m by omega, show k - (j + m) = k - j - m by omega, Int.mul_assoc]
theorem cf_add (f g h : Nat → Int) (k : Nat) : cf f (fun i => g i + h i) k = cf f g k + cf f h k := by
  unfold cf
  rw [← S_add]
  apply S_congr
  intro i _
  rw [Int.mul_add]
def onef (k : Nat) : Int := if k = 0 then 1 else 0
theorem cf_one (f : Nat → Int) (k : Nat) : cf onef f k = f k := by
  unfold cf
  rw [S_first, S_zeros (fun i _ => by simp [onef])]
  simp [onef]

/-! ### rows -/
def at_ (a : List Int) (k : Nat) : Int := a.getD k 0
/-- the k-th number of a product -/
def cv (a b : List Int) (k : Nat) : Int := ((List.range (k + 1)).map fun i => a.getD i 0 * b.getD (k - i) 0).sum
def mul (a b : List Int) : List Int := (List.range (min a.length b.length)).map (cv a b)
theorem cv_cf (a b : List Int) (k : Nat) : cv a b k = cf (at_ a) (at_ b) k := rfl
theorem mul_len (a b : List Int) : (mul a b).length = min a.length b.length := by simp [mul]
theorem mul_at (a b : List Int) {k : Nat} (h : k < min a.length b.length) : at_ (mul a b) k = cf (at_ a) (at_ b) k := by
  unfold at_ mul
  rw [List.getD_eq_getElem?_getD, List.getElem?_map, List.getElem?_range h]
  rfl
theorem row_ext {a b : List Int} (hl : a.length = b.length) (h : ∀ k, k < a.length → at_ a k = at_ b k) : a = b := by
  apply List.ext_getElem hl
  intro k h1 h2
  have := h k h1
  unfold at_ at this
  rw [List.getD_eq_getElem?_getD, List.getD_eq_getElem?_getD, List.getElem?_eq_getElem h1, List.getElem?_eq_getElem h2] at this
  exact this
theorem mul_comm' (a b : List Int) : mul a b = mul b a := by
  refine row_ext (by rw [mul_len, mul_len, Nat.min_comm]) fun k hk => ?_
  rw [mul_len] at hk
  rw [mul_at _ _ hk, mul_at _ _ (by omega), cf_comm]
theorem mul_assoc' (a b c : List Int) : mul (mul a b) c = mul a (mul b c) := by
  refine row_ext (by simp only [mul_len]; omega) fun k hk => ?_
  simp only [mul_len] at hk
  rw [mul_at _ _ (by rw [mul_len]; omega), mul_at _ _ (by rw [mul_len]; omega)]
  rw [cf_congr (f' := cf (at_ a) (at_ b)) (g' := at_ c) (fun i hi => mul_at _ _ (by omega)) (fun _ _ => rfl), cf_assoc]
  exact (cf_congr (fun _ _ => rfl) (fun i hi => mul_at _ _ (by omega))).symm
def add (a b : List Int) : List Int := a.zipWith (· + ·) b
theorem add_len (a b : List Int) : (add a b).length = min a.length b.length := by simp [add]
theorem add_at (a b : List Int) {k : Nat} (h : k < min a.length b.length) : at_ (add a b) k = at_ a k + at_ b k := by
  unfold at_ add
  simp only [List.getD_eq_getElem?_getD, List.getElem?_zipWith]
  rw [List.getElem?_eq_getElem (show k < a.length by omega), List.getElem?_eq_getElem (show k < b.length by omega)]
  rfl
theorem mul_add' (a b c : List Int) : mul a (add b c) = add (mul a b) (mul a c) := by
  refine row_ext (by simp only [mul_len, add_len]; omega) fun k hk => ?_
  simp only [mul_len, add_len] at hk
  rw [mul_at _ _ (by rw [add_len]; omega), add_at _ _ (by rw [mul_len, mul_len]; omega), mul_at _ _ (by omega), mul_at _ _ (by omega), ← cf_add]
  exact cf_congr (fun _ _ => rfl) (fun i hi => add_at _ _ (by omega))
/-- 1, 0, .. -/
def one (n : Nat) : List Int := 1 :: List.replicate (n - 1) 0
theorem one_len {n : Nat} (h : 1 ≤ n) : (one n).length = n := by simp [one]; omega
theorem one_at {n k : Nat} : at_ (one n) k = onef k := by
  unfold at_ one onef
  cases k with
  | zero => rfl
  | succ k =>
    rw [List.getD_cons_succ, if_neg (by omega), List.getD_eq_getElem?_getD, List.getElem?_replicate]
    split <;> rfl
theorem one_mul' (a : List Int) {n : Nat} (h1 : 1 ≤ n) (h : a.length ≤ n) : mul (one n) a = a := by
  refine row_ext (by rw [mul_len, one_len h1]; omega) fun k hk => ?_
  rw [mul_len, one_len h1] at hk
  rw [mul_at _ _ (by rw [one_len h1]; exact hk), cf_congr (f' := onef) (g' := at_ a) (fun i _ => one_at) (fun _ _ => rfl), cf_one]
theorem mul_one' (a : List Int) {n : Nat} (h1 : 1 ≤ n) (h : a.length ≤ n) : mul a (one n) = a := by rw [mul_comm', one_mul' a h1 h]
/-- powers -/
def pw (a : List Int) : Nat → List Int
  | 0 => one a.length
  | m + 1 => mul (pw a m) a
theorem pw_len {a : List Int} (h : 1 ≤ a.length) : ∀ m, (pw a m).length = a.length
  | 0 => one_len h
  | m + 1 => by unfold pw; rw [mul_len, pw_len h m]; omega
theorem pw_add {a : List Int} (h : 1 ≤ a.length) (m : Nat) : ∀ n, mul (pw a m) (pw a n) = pw a (m + n)
  | 0 => by
    show mul (pw a m) (one a.length) = _
    rw [mul_one' _ h (by rw [pw_len h]; omega)]
    rfl
  | n + 1 => by
    show mul (pw a m) (mul (pw a n) a) = mul (pw a (m + n)) a
    rw [← mul_assoc', pw_add h m n]
theorem pw_one {a : List Int} (h : 1 ≤ a.length) : pw a 1 = a := one_mul' a h (Nat.le_refl _)
theorem pw_mul {a : List Int} (h : 1 ≤ a.length) (m : Nat) : ∀ n, pw (pw a m) n = pw a (m * n)
  | 0 => by
    show one (pw a m).length = one a.length
    rw [pw_len h]
  | n + 1 => by
    show mul (pw (pw a m) n) (pw a m) = _
    rw [pw_mul h m n, pw_add h, Nat.mul_succ]
/-- the powers of a product -/
theorem mul_pw {a b : List Int} (h : 1 ≤ a.length) (hl : a.length = b.length) : ∀ m, pw (mul a b) m = mul (pw a m) (pw b m)
  | 0 => by
    show one (mul a b).length = mul (one a.length) (one b.length)
    rw [mul_len, ← hl, Nat.min_self, one_mul' _ h (by rw [one_len h]; omega)]
  | m + 1 => by
    show mul (pw (mul a b) m) (mul a b) = mul (mul (pw a m) a) (mul (pw b m) b)
    rw [mul_pw h hl m, mul_assoc', mul_assoc', ← mul_assoc' (pw b m) a b, mul_comm' (pw b m) a, mul_assoc' a (pw b m) b]
theorem pw_ones {n : Nat} (h : 1 ≤ n) : ∀ m, pw (one n) m = one n
  | 0 => by show one (one n).length = _; rw [one_len h]
  | m + 1 => by
    show mul (pw (one n) m) (one n) = _
    rw [pw_ones h m, one_mul' _ h (by rw [one_len h]; omega)]

/-! ### how great the numbers are -/
def bd (B : Nat) (a : List Int) : Prop := ∀ x ∈ a, x.natAbs < 2 ^ B
theorem bd_mono {B C : Nat} {a : List Int} (h : bd B a) (le : B ≤ C) : bd C a := fun x hx => Nat.lt_of_lt_of_le (h x hx) (Nat.pow_le_pow_right (by decide) le)
theorem bd_at {B : Nat} {a : List Int} (h : bd B a) (k : Nat) : (at_ a k).natAbs < 2 ^ B := by
  unfold at_
  rw [List.getD_eq_getElem?_getD]
  by_cases hk : k < a.length
  · rw [List.getElem?_eq_getElem hk]; exact h _ (List.getElem_mem hk)
  · rw [List.getElem?_eq_none (by omega)]; exact Nat.pow_pos (by decide)
theorem log2_lt {n B : Nat} (h : n < 2 ^ B) : n.log2 ≤ B := by
  by_cases h0 : n = 0
  · subst h0
    rw [show Nat.log2 0 = 0 by decide]
    exact Nat.zero_le _
  · exact Nat.le_of_lt ((Nat.log2_lt h0).mpr h)
theorem mulOk_bd {B C : Nat} {a b : List Int} (ha : bd B a) (hb : bd C b) (h : B + C < 1000000) : ∀ x ∈ a, ∀ y ∈ b, mulOk x y = true := fun x hx y hy => by
  have h1 := log2_lt (ha x hx)
  have h2 := log2_lt (hb y hy)
  unfold mulOk
  simp only [Bool.or_eq_true, decide_eq_true_eq]
  exact .inr (by omega)
theorem S_bound (n : Nat) (f : Nat → Int) (M : Nat) (h : ∀ i, i < n → (f i).natAbs ≤ M) : (S n f).natAbs ≤ n * M := by
  induction n with
  | zero => simp [S]
  | succ n ih =>
    rw [S_succ, Nat.succ_mul]
    have := ih fun i hi => h i (by omega)
    have := h n (by omega)
    omega
theorem bd_mul {B C : Nat} {a b : List Int} (ha : bd B a) (hb : bd C b) (hl : a.length ≤ 1024) : bd (B + C + 10) (mul a b) := fun x hx => by
  unfold mul at hx
  obtain ⟨k, hk, rfl⟩ := List.mem_map.mp hx
  have hk : k < min a.length b.length := by simpa using hk
  rw [cv_cf]
  unfold cf
  have h1 : (S (k + 1) fun i => at_ a i * at_ b (k - i)).natAbs ≤ (k + 1) * (2 ^ B * 2 ^ C - 1) := S_bound _ _ _ fun i _ => by
    rw [Int.natAbs_mul]
    have h1 := bd_at ha i
    have h2 := bd_at hb (k - i)
    have : (at_ a i).natAbs * (at_ b (k - i)).natAbs < 2 ^ B * 2 ^ C := Nat.mul_lt_mul'' h1 h2
    omega
  have h2 : 0 < 2 ^ B * 2 ^ C := Nat.mul_pos (Nat.pow_pos (by decide)) (Nat.pow_pos (by decide))
  have h3 : (k + 1) * (2 ^ B * 2 ^ C - 1) < 1024 * (2 ^ B * 2 ^ C) := Nat.lt_of_le_of_lt (Nat.mul_le_mul_right _ (by omega : k + 1 ≤ 1024)) (Nat.mul_lt_mul_of_pos_left (by omega) (by decide))
  rw [Nat.pow_add, Nat.pow_add, Nat.mul_comm _ (2 ^ 10)]
  exact Nat.lt_of_le_of_lt h1 h3
theorem bd_one (n : Nat) : bd 1 (one n) := fun x hx => by
  unfold one at hx
  rcases List.mem_cons.mp hx with q | q
  · subst q; decide
  · have := List.eq_of_mem_replicate q
    subst this; decide
theorem bd_pw {B : Nat} {a : List Int} (ha : bd B a) (h1 : 1 ≤ a.length) (hl : a.length ≤ 1024) : ∀ m, bd (1 + m * (B + 10)) (pw a m)
  | 0 => bd_mono (bd_one _) (by omega)
  | m + 1 => by
    show bd _ (mul (pw a m) a)
    refine bd_mono (bd_mul (bd_pw ha h1 hl m) ha (by rw [pw_len h1]; exact hl)) ?_
    rw [Nat.succ_mul]
    omega
/-! ### rows compared -/
open PySem
theorem lay_ints : ∀ xs : List Int, PyData.canLayAll0 (xs.map .int) = true
  | [] => rfl
  | x :: xs => by
    simp only [List.map_cons, PyData.canLayAll0, PyData.canLay0, lay_ints xs]
    rfl
theorem depth_ints : ∀ xs : List Int, PyData.depthAll (xs.map .int) = 0
  | [] => rfl
  | x :: xs => by
    simp only [List.map_cons, PyData.depthAll, PyData.depth, depth_ints xs]
    rfl
theorem eqv_ints : ∀ xs ys : List Int, PyData.eqvAll (xs.map .int) (ys.map .int) = decide (xs = ys)
  | [], [] => rfl
  | [], _ :: _ => rfl
  | _ :: _, [] => rfl
  | x :: xs, y :: ys => by
    simp only [List.map_cons, PyData.eqvAll, PyData.eqv, eqv_ints xs ys]
    by_cases h : x = y
    · subst h
      by_cases h2 : xs = ys
      · subst h2; simp
      · simp [h2]
    · have : (x == y) = false := by simpa using h
      rw [this]
      simp [h]
theorem shaped_ints (xs : List Int) : SeqAt.shaped (.tuple (xs.map .int)) = true := by
  unfold SeqAt.shaped
  simp only [PyData.canLay0, lay_ints, PyData.depth, depth_ints]
  rfl
theorem eq_tI (xs ys : List Int) (h : Hm) : cop .eq (tI xs) (tI ys) h = some (decide (xs = ys)) := by
  show eqD (tI xs) (tI ys) h = _
  unfold eqD
  simp only [toD, toDs_ints, Option.map_some, shaped_ints, Bool.and_self, if_true, PyData.eqv, eqv_ints]
theorem ne_tI (xs ys : List Int) (h : Hm) : cop .ne (tI xs) (tI ys) h = some (!decide (xs = ys)) := by
  show (eqD (tI xs) (tI ys) h).map (!·) = _
  have : eqD (tI xs) (tI ys) h = some (decide (xs = ys)) := eq_tI xs ys h
  rw [this]; rfl
theorem ne_same (xs : List Int) (h : Hm) : cop .ne (tI xs) (tI xs) h = some false := by
  rw [ne_tI, decide_eq_true rfl]; rfl
theorem eq_same (xs : List Int) (h : Hm) : cop .eq (tI xs) (tI xs) h = some true := by
  rw [eq_tI, decide_eq_true rfl]
end Mi

/-! Mi18: loops from behind; whole numbers. -/
namespace Mi
open PySem
/-- a for with a way out: the body may end the def -/
theorem iterF_out {s : Src} {g : MV → Loc → Hm → Option (Loc × Hm)} {b : Loc → Hm → Option SRes} (n : Nat) (I : Nat → Loc → Hm → Prop) (E : SRes → Prop)
    (hend : ∀ σ h, I n σ h → s.nth n h = some none ∧ E (.nx σ h))
    (hstep : ∀ i σ h, i < n → I i σ h → ∃ v σ1 h1, s.nth i h = some (some v) ∧ g v σ h = some (σ1, h1) ∧ ((∃ σ2 h2, (b σ1 h1 = some (.nx σ2 h2) ∨ b σ1 h1 = some (.ct σ2 h2)) ∧ I (i + 1) σ2 h2) ∨ (∃ v h2, b σ1 h1 = some (.rt v h2) ∧ E (.rt v h2)) ∨ (∃ e σ2 h2, b σ1 h1 = some (.ex e σ2 h2) ∧ E (.ex e σ2 h2)) ∨ ∃ σ2 h2, b σ1 h1 = some (.bk σ2 h2) ∧ E (.nx σ2 h2))) :
    ∀ (m i : Nat) (σ : Loc) (h : Hm), I i σ h → i ≤ n → n - i < m → ∃ r, iterF s g b m i σ h = some r ∧ E r
  | 0, i, σ, h, _, _, hm => by omega
  | m + 1, i, σ, h, hI, hi, hm => by
    by_cases hin : i = n
    · subst hin
      exact ⟨.nx σ h, by simp only [iterF, (hend σ h hI).1], (hend σ h hI).2⟩
    · obtain ⟨v, σ1, h1, e1, e2, e3⟩ := hstep i σ h (by omega) hI
      rcases e3 with ⟨σ2, h2, e3, hI2⟩ | ⟨v, h2, e3, hE⟩ | ⟨e, σ2, h2, e3, hE⟩ | ⟨σ2, h2, e3, hE⟩
      · obtain ⟨r, e, hE⟩ := iterF_out n I E hend hstep m (i + 1) σ2 h2 hI2 (by omega) (by omega)
        refine ⟨r, ?_, hE⟩
        rcases e3 with e3 | e3 <;> simp only [iterF, e1, e2, e3] <;> exact e
      · exact ⟨_, by simp only [iterF, e1, e2, e3], hE⟩
      · exact ⟨_, by simp only [iterF, e1, e2, e3], hE⟩
      · exact ⟨_, by simp only [iterF, e1, e2, e3], hE⟩
theorem x_forO {F : Calls} {t : MT} {it : MI} {b : List MS} {σ : Loc} {h h1 : Hm} {s : Src} (Φ : Option SRes → Prop) (hi : evalI F it σ h = some (.ok s h1)) (n : Nat) (hl : s.len h1 = n) (I : Nat → Loc → Hm → Prop) (h0 : I 0 σ h1)
    (hend : ∀ σ h, I n σ h → s.nth n h = some none ∧ Φ (some (.nx σ h)))
    (step : ∀ i σ h, i < n → I i σ h → ∃ v σ1 h1, s.nth i h = some (some v) ∧ evalT F t v σ h = some (σ1, h1) ∧ ((∃ σ2 h2, (execB F b σ1 h1 = some (.nx σ2 h2) ∨ execB F b σ1 h1 = some (.ct σ2 h2)) ∧ I (i + 1) σ2 h2) ∨ (∃ v h2, execB F b σ1 h1 = some (.rt v h2) ∧ Φ (some (.rt v h2))) ∨ (∃ e σ2 h2, execB F b σ1 h1 = some (.ex e σ2 h2) ∧ Φ (some (.ex e σ2 h2))) ∨ ∃ σ2 h2, execB F b σ1 h1 = some (.bk σ2 h2) ∧ Φ (some (.nx σ2 h2)))) :
    Φ (execS F (.forr t it b) σ h) := by
  obtain ⟨q, e1, e2⟩ := iterF_out (s := s) (g := fun v σ h => evalT F t v σ h) (b := fun σ h => execB F b σ h) n I (fun q => Φ (some q)) hend step (s.len h1 + 1) 0 σ h1 h0 (Nat.zero_le _) (by omega)
  rw [s_for0 hi e1]
  exact e2
/-- a for whose body only goes on -/
theorem x_for {F : Calls} {t : MT} {it : MI} {b : List MS} {σ : Loc} {h h1 : Hm} {s : Src} (Φ : Option SRes → Prop) (hi : evalI F it σ h = some (.ok s h1)) (n : Nat) (hl : s.len h1 = n) (I : Nat → Loc → Hm → Prop) (h0 : I 0 σ h1)
    (hend : ∀ σ h, I n σ h → s.nth n h = some none ∧ Φ (some (.nx σ h)))
    (step : ∀ i σ h, i < n → I i σ h → ∃ v σ1 h1, s.nth i h = some (some v) ∧ evalT F t v σ h = some (σ1, h1) ∧ ∃ σ2 h2, execB F b σ1 h1 = some (.nx σ2 h2) ∧ I (i + 1) σ2 h2) :
    Φ (execS F (.forr t it b) σ h) := x_forO Φ hi n hl I h0 hend fun i σ h hi hI => by
  obtain ⟨v, σ1, h1, e1, e2, σ2, h2, e3, e4⟩ := step i σ h hi hI
  exact ⟨v, σ1, h1, e1, e2, .inl ⟨σ2, h2, .inl e3, e4⟩⟩
/-- a while with a way out -/
theorem iterW_out {c : Loc → Hm → RO Bool} {b : Loc → Hm → Option SRes} (I : Nat → Loc → Hm → Prop) (E : SRes → Prop)
    (hstep : ∀ m σ h, I m σ h → (c σ h = some (.ok false h) ∧ E (.nx σ h)) ∨ ∃ h1, c σ h = some (.ok true h1) ∧ ((∃ m' σ2 h2, (b σ h1 = some (.nx σ2 h2) ∨ b σ h1 = some (.ct σ2 h2)) ∧ m' < m ∧ I m' σ2 h2) ∨ (∃ v h2, b σ h1 = some (.rt v h2) ∧ E (.rt v h2)) ∨ (∃ e σ2 h2, b σ h1 = some (.ex e σ2 h2) ∧ E (.ex e σ2 h2)) ∨ ∃ σ2 h2, b σ h1 = some (.bk σ2 h2) ∧ E (.nx σ2 h2))) :
    ∀ (fuel m : Nat) (σ : Loc) (h : Hm), m < fuel → I m σ h → ∃ r, iterW c b fuel σ h = some r ∧ E r
  | 0, m, σ, h, hm, _ => by omega
  | fuel + 1, m, σ, h, hm, hI => by
    rcases hstep m σ h hI with ⟨e1, hE⟩ | ⟨h1, e1, e2⟩
    · exact ⟨_, by simp only [iterW, e1], hE⟩
    · rcases e2 with ⟨m', σ2, h2, e2, hlt, hI2⟩ | ⟨v, h2, e2, hE⟩ | ⟨e, σ2, h2, e2, hE⟩ | ⟨σ2, h2, e2, hE⟩
      · obtain ⟨r, e, hE⟩ := iterW_out I E hstep fuel m' σ2 h2 (by omega) hI2
        refine ⟨r, ?_, hE⟩
        rcases e2 with e2 | e2 <;> simp only [iterW, e1, e2] <;> exact e
      · exact ⟨_, by simp only [iterW, e1, e2], hE⟩
      · exact ⟨_, by simp only [iterW, e1, e2], hE⟩
      · exact ⟨_, by simp only [iterW, e1, e2], hE⟩
theorem x_whlO {F : Calls} {c : ME} {b : List MS} {σ : Loc} {h : Hm} (Φ : Option SRes → Prop) (I : Nat → Loc → Hm → Prop) (m : Nat) (hm : m < iterMax) (h0 : I m σ h)
    (step : ∀ m σ h, I m σ h → (evalC F (some c) σ h = some (.ok false h) ∧ Φ (some (.nx σ h))) ∨ ∃ h1, evalC F (some c) σ h = some (.ok true h1) ∧ ((∃ m' σ2 h2, (execB F b σ h1 = some (.nx σ2 h2) ∨ execB F b σ h1 = some (.ct σ2 h2)) ∧ m' < m ∧ I m' σ2 h2) ∨ (∃ v h2, execB F b σ h1 = some (.rt v h2) ∧ Φ (some (.rt v h2))) ∨ (∃ e σ2 h2, execB F b σ h1 = some (.ex e σ2 h2) ∧ Φ (some (.ex e σ2 h2))) ∨ ∃ σ2 h2, execB F b σ h1 = some (.bk σ2 h2) ∧ Φ (some (.nx σ2 h2)))) :
    Φ (execS F (.whl c b) σ h) := by
  obtain ⟨q, e1, e2⟩ := iterW_out (c := fun σ h => evalC F (some c) σ h) (b := fun σ h => execB F b σ h) I (fun q => Φ (some q)) step iterMax m σ h hm h0
  rw [s_whl0 e1]
  exact e2
/-- a while whose body only goes on -/
theorem x_whl {F : Calls} {c : ME} {b : List MS} {σ : Loc} {h : Hm} (Φ : Option SRes → Prop) (I : Nat → Loc → Hm → Prop) (m : Nat) (hm : m < iterMax) (h0 : I m σ h)
    (step : ∀ m σ h, I m σ h → (evalC F (some c) σ h = some (.ok false h) ∧ Φ (some (.nx σ h))) ∨ (evalC F (some c) σ h = some (.ok true h) ∧ ∃ m' σ2 h2, execB F b σ h = some (.nx σ2 h2) ∧ m' < m ∧ I m' σ2 h2)) :
    Φ (execS F (.whl c b) σ h) := x_whlO Φ I m hm h0 fun m σ h hI => by
  rcases step m σ h hI with e | ⟨e1, m', σ2, h2, e2, e3, e4⟩
  · exact .inl e
  · exact .inr ⟨h, e1, .inl ⟨m', σ2, h2, .inl e2, e3, e4⟩⟩
/-- a comprehension with or without a test, its heap stays: what it keeps of item i -/
theorem e_lcf {F : Calls} {own : List Nat} {tg : MT} {it : MI} {c : Option ME} {elt : ME} {σ : Loc} {h : Hm} {s : Src} (n : Nat) (p : Nat → Bool) (f : Nat → MV) (hi : evalI F it σ h = some (.ok s h)) (hl : s.len h = n) (hz : n ≤ 16777216)
    (hend : s.nth n h = some none) (hs : ∀ i, i < n → ∃ v σ1, s.nth i h = some (some v) ∧ evalT F tg v (wipeL σ own) h = some (σ1, h) ∧ evalC F c σ1 h = some (.ok (p i) h) ∧ (p i = true → ∃ y, evalE F elt σ1 h = some (.ok y h) ∧ frz y = f i ∧ (f i).nol = true)) :
    evalE F (.lc own tg it c elt) σ h = some (.ok (.lst (((List.range n).filter p).map f)) h) := by
  obtain ⟨acc', h', e1, rfl, rfl⟩ := iterC_inv (s := s) (g := fun v h => evalT F tg v (wipeL σ own) h) (c := fun σ h => evalC F c σ h) (e := fun σ h => evalE F elt σ h) n (fun i acc h' => acc = ((List.range i).filter p).map f ∧ h' = h) (fun acc h' hI => by rw [hI.2]; exact hend) (fun i acc h' hlt hI => by
    obtain ⟨rfl, rfl⟩ := hI
    obtain ⟨v, σ1, e1, e2, e3, e4⟩ := hs i hlt
    refine ⟨v, σ1, h', h', e1, e2, ?_⟩
    have hr : (List.range (i + 1)).filter p = (List.range i).filter p ++ if p i = true then [i] else [] := by
      rw [List.range_succ, List.filter_append, List.filter_cons, List.filter_nil]
    cases hp : p i with
    | false => exact .inl ⟨by rw [e3, hp], by rw [hr, hp]; simp, rfl⟩
    | true =>
      obtain ⟨y, e5, e6, e7⟩ := e4 hp
      refine .inr ⟨y, h', by rw [e3, hp], e5, ?_, by rw [e6]; exact e7, by rw [hr, hp, e6]; simp, rfl⟩
      rw [List.length_map]
      have : ((List.range i).filter p).length ≤ i := by
        have := List.length_filter_le p (List.range i)
        rwa [List.length_range] at this
      exact Nat.lt_of_le_of_lt this (Nat.lt_of_lt_of_le hlt hz)) (s.len h + 1) 0 [] h ⟨by simp, rfl⟩ (Nat.zero_le _) (by omega)
  exact e_lc hi e1
/-! ### the heap's end -/
theorem hx_get0 (h l : Hm) : (h ++ l)[h.length]? = l[0]? := by rw [List.getElem?_append_right (Nat.le_refl _), Nat.sub_self]
theorem hx_getS (h l : Hm) (i : Nat) : (h ++ l)[h.length + i]? = l[i]? := by rw [List.getElem?_append_right (by omega), Nat.add_sub_cancel_left]
theorem hx_set0 (h l : Hm) (o : MO) : (h ++ l).set h.length o = h ++ l.set 0 o := by rw [List.set_append_right _ _ (Nat.le_refl _), Nat.sub_self]
theorem hx_setS (h l : Hm) (i : Nat) (o : MO) : (h ++ l).set (h.length + i) o = h ++ l.set i o := by rw [List.set_append_right _ _ (by omega), Nat.add_sub_cancel_left]
theorem hx_take (h l : Hm) : (h ++ l).take h.length = h := by simp
theorem hx_take2 (p t : Hm) (x : MO) : (p ++ x :: t).take (p.length + (t.length + 1)) = p ++ x :: t := List.take_of_length_le (by simp)
theorem hx_take1 (p : Hm) (x : MO) : (p ++ [x]).take (p.length + 1) = p ++ [x] := List.take_of_length_le (by simp)
theorem hx_take3 (p t l : Hm) (x : MO) : (p ++ x :: (t ++ l)).take (p.length + (t.length + 1)) = p ++ x :: t := by
  have e : p ++ x :: (t ++ l) = (p ++ x :: t) ++ l := by simp
  rw [e, List.take_append_of_le_length (by simp), List.take_of_length_le (by simp)]
theorem hx_take4 (p l : Hm) (x : MO) : (p ++ x :: l).take (p.length + 1) = p ++ [x] := by
  have e : p ++ x :: l = (p ++ [x]) ++ l := by simp
  rw [e, List.take_append_of_le_length (by simp), List.take_of_length_le (by simp)]
theorem hx_get3 (p t : Hm) (x y : MO) (l : Hm) : (p ++ x :: (t ++ y :: l))[p.length + (t.length + 1)]? = some y := by
  have e : p ++ x :: (t ++ y :: l) = (p ++ x :: t) ++ y :: l := by simp
  rw [e, List.getElem?_append_right (by simp)]
  simp
theorem hx_len (h : Hm) (o : MO) (l : Hm) : (h ++ o :: l).length = h.length + (l.length + 1) := by simp
theorem hx_app (h : Hm) (o : MO) (l : Hm) (o' : MO) : (h ++ o :: l) ++ [o'] = h ++ o :: (l ++ [o']) := by simp
theorem hx_ge (h : Hm) (i : Nat) : ¬ h.length + i < h.length := by omega
theorem hx_ge0 (h : Hm) : ¬ h.length < h.length := by omega
theorem m_app0 (h l : Hm) (xs : List MV) (v : MV) (hp : (frz v).pure = true) (hz : xs.length < 16777216) : methV .append (.ref h.length) [v] (h ++ .lst xs :: l) = some (.non, h ++ .lst (xs ++ [frz v]) :: l) := by
  simp only [methV, hx_get0, List.getElem?_cons_zero, hx_set0, List.set_cons_zero]
  rw [if_pos ⟨hp, hz⟩]
theorem m_app1 (h l : Hm) (o : MO) (xs : List MV) (v : MV) (hp : (frz v).pure = true) (hz : xs.length < 16777216) : methV .append (.ref (h.length + 1)) [v] (h ++ o :: .lst xs :: l) = some (.non, h ++ o :: .lst (xs ++ [frz v]) :: l) := by
  simp only [methV, hx_getS, List.getElem?_cons_zero, List.getElem?_cons_succ, hx_setS, List.set_cons_zero, List.set_cons_succ]
  rw [if_pos ⟨hp, hz⟩]
theorem m_app2 (h l : Hm) (o o2 : MO) (xs : List MV) (v : MV) (hp : (frz v).pure = true) (hz : xs.length < 16777216) : methV .append (.ref (h.length + 2)) [v] (h ++ o :: o2 :: .lst xs :: l) = some (.non, h ++ o :: o2 :: .lst (xs ++ [frz v]) :: l) := by
  simp only [methV, hx_getS, List.getElem?_cons_zero, List.getElem?_cons_succ, hx_setS, List.set_cons_zero, List.set_cons_succ]
  rw [if_pos ⟨hp, hz⟩]
theorem add_lst (xs ys : List MV) (h : Hm) (a b : MV) (ha : itemsL h a = some xs) (hb : itemsL h b = some ys) (na : ∀ zs, a ≠ .tup zs) (hz : xs.length + ys.length ≤ 16777216) : bop .add a b h = some (.lst (xs ++ ys)) := by
  have : bop .add a b h = match itemsL h a, itemsL h b with
    | some xs, some ys => if xs.length + ys.length ≤ sizeMax then some (.lst (xs ++ ys)) else none
    | _, _ => none := by
    cases a <;> cases b <;> first | rfl | cases ha | exact absurd rfl (na _)
  rw [this, ha, hb]
  exact if_pos hz
theorem add_ll (xs ys : List MV) (h : Hm) (hz : xs.length + ys.length ≤ 16777216) : bop .add (.lst xs) (.lst ys) h = some (.lst (xs ++ ys)) := add_lst xs ys h _ _ rfl rfl (fun _ e => nomatch e) hz
theorem add_rl0 (h l : Hm) (xs ys : List MV) (hz : xs.length + ys.length ≤ 16777216) : bop .add (.ref h.length) (.lst ys) (h ++ .lst xs :: l) = some (.lst (xs ++ ys)) := add_lst xs ys _ _ _ (by simp only [itemsL, hx_get0, List.getElem?_cons_zero]) rfl (fun _ e => nomatch e) hz
theorem add_rl1 (h l : Hm) (o : MO) (xs ys : List MV) (hz : xs.length + ys.length ≤ 16777216) : bop .add (.ref (h.length + 1)) (.lst ys) (h ++ o :: .lst xs :: l) = some (.lst (xs ++ ys)) := add_lst xs ys _ _ _ (by simp only [itemsL, hx_getS, List.getElem?_cons_zero, List.getElem?_cons_succ]) rfl (fun _ e => nomatch e) hz
/-! ### whole numbers -/
theorem bn_add (a b : Nat) (h : Hm) : bop .add (.int (a : Int)) (.int (b : Int)) h = some (.int ((a + b : Nat) : Int)) := rfl
theorem bn_addL (a m : Nat) (h : Hm) : bop .add (.int (a : Int)) (.int (no_index (OfNat.ofNat m))) h = some (.int ((a + OfNat.ofNat m : Nat) : Int)) := rfl
theorem bn_add1 (a : Nat) (h : Hm) : bop .add (.int (a : Int)) (.int 1) h = some (.int ((a + 1 : Nat) : Int)) := rfl
theorem an_add1 (a : Nat) (h : Hm) : augV .add (.int (a : Int)) (.int 1) h = some (.int ((a + 1 : Nat) : Int)) := rfl
theorem an_add (a b : Nat) (h : Hm) : augV .add (.int (a : Int)) (.int (b : Int)) h = some (.int ((a + b : Nat) : Int)) := rfl
theorem bn_sub1 (a : Nat) (h : Hm) (ha : 1 ≤ a) : bop .sub (.int (a : Int)) (.int 1) h = some (.int ((a - 1 : Nat) : Int)) := by
  show some (MV.int ((a : Int) - 1)) = _
  congr 2; omega
theorem bn_sub (a b : Nat) (h : Hm) (hb : b ≤ a) : bop .sub (.int (a : Int)) (.int (b : Int)) h = some (.int ((a - b : Nat) : Int)) := by
  show some (MV.int ((a : Int) - b)) = _
  congr 2; omega
theorem fdvOk_nat (b : Nat) (h1 : b ≠ 0) (h2 : b < 1073741824) : fdvOk (b : Int) = true := by
  unfold fdvOk
  rw [decide_eq_true (show (b : Int) ≠ 0 by omega), decide_eq_true (show (b : Int).natAbs < 1073741824 by omega)]
  simp
theorem bi_fdv (a b : Int) (h : Hm) (h1 : b ≠ 0) (h2 : b.natAbs < 1073741824) : bop .fdv (.int a) (.int b) h = some (.int (a.fdiv b)) := by
  have hf : fdvOk b = true := by
    unfold fdvOk
    rw [decide_eq_true h1, decide_eq_true h2]
    simp
  show (if fdvOk b then some (MV.int (a.fdiv b)) else none) = _
  rw [hf]; rfl
theorem bi_fdvW (a b : Int) (h : Hm) (h1 : b ≠ 0) (h2 : b.natAbs.log2 < 9000) : bop .fdv (.int a) (.int b) h = some (.int (a.fdiv b)) := by
  have hf : fdvOk b = true := by
    unfold fdvOk
    rw [decide_eq_true h1, decide_eq_true h2]
    simp
  show (if fdvOk b then some (MV.int (a.fdiv b)) else none) = _
  rw [hf]; rfl
theorem bn_fdv (a b : Nat) (h : Hm) (h1 : b ≠ 0) (h2 : b < 1073741824) : bop .fdv (.int (a : Int)) (.int (b : Int)) h = some (.int ((a / b : Nat) : Int)) := by
  rw [bi_fdv _ _ _ (by omega) (by omega), Int.fdiv_eq_ediv_of_nonneg _ (by omega), Int.natCast_ediv]
theorem bi_mod (a b : Int) (h : Hm) (h1 : b ≠ 0) : bop .mod (.int a) (.int b) h = some (.int (a.fmod b)) := by
  show (if b ≠ 0 then some (MV.int (Int.fmod a b)) else none) = _
  rw [if_pos h1]
theorem bn_mod (a b : Nat) (h : Hm) (h1 : b ≠ 0) : bop .mod (.int (a : Int)) (.int (b : Int)) h = some (.int ((a % b : Nat) : Int)) := by
  rw [bi_mod _ _ _ (by omega), Int.fmod_eq_emod_of_nonneg _ (by omega), Int.natCast_emod]
theorem bn_modL (a m : Nat) (h : Hm) (h1 : (OfNat.ofNat m : Nat) ≠ 0) : bop .mod (.int (a : Int)) (.int (no_index (OfNat.ofNat m))) h = some (.int ((a % OfNat.ofNat m : Nat) : Int)) := bn_mod a m h h1
theorem bn_fdvL (a m : Nat) (h : Hm) (h1 : (OfNat.ofNat m : Nat) ≠ 0) (h2 : (OfNat.ofNat m : Nat) < 1073741824) : bop .fdv (.int (a : Int)) (.int (no_index (OfNat.ofNat m))) h = some (.int ((a / OfNat.ofNat m : Nat) : Int)) := bn_fdv a m h h1 h2
theorem mulOk_l' {i : Int} (j : Int) (h : i.natAbs < 18446744073709551616) : mulOk i j = true := by
  unfold mulOk
  rw [decide_eq_true h]; rfl
theorem mulOk_r' (i : Int) {j : Int} (h : j.natAbs < 18446744073709551616) : mulOk i j = true := by
  unfold mulOk
  rw [decide_eq_true h]; simp
theorem bi_mul (a b : Int) (h : Hm) (h1 : a.natAbs < 18446744073709551616 ∨ b.natAbs < 18446744073709551616) : bop .mul (.int a) (.int b) h = some (.int (a * b)) := by
  show (if mulOk a b then some (MV.int (a * b)) else none) = _
  rcases h1 with h1 | h1
  · rw [mulOk_l' _ h1]; rfl
  · rw [mulOk_r' _ h1]; rfl
theorem bn_mul (a b : Nat) (h : Hm) (h1 : a < 18446744073709551616) : bop .mul (.int (a : Int)) (.int (b : Int)) h = some (.int ((a * b : Nat) : Int)) := by
  rw [bi_mul _ _ _ (.inl (by omega)), Int.natCast_mul]
theorem cn_le (a b : Nat) (h : Hm) : cop .le (.int (a : Int)) (.int (b : Int)) h = some (decide (a ≤ b)) := by
  show some (decide ((a : Int) ≤ b)) = _
  congr 1; apply decide_eq_decide.mpr; omega
theorem cn_lt (a b : Nat) (h : Hm) : cop .lt (.int (a : Int)) (.int (b : Int)) h = some (decide (a < b)) := by
  show some (decide ((a : Int) < b)) = _
  congr 1; apply decide_eq_decide.mpr; omega
theorem cn_ge (a b : Nat) (h : Hm) : cop .ge (.int (a : Int)) (.int (b : Int)) h = some (decide (b ≤ a)) := by
  show some (decide ((b : Int) ≤ a)) = _
  congr 1; apply decide_eq_decide.mpr; omega
theorem cn_gt (a b : Nat) (h : Hm) : cop .gt (.int (a : Int)) (.int (b : Int)) h = some (decide (b < a)) := by
  show some (decide ((b : Int) < a)) = _
  congr 1; apply decide_eq_decide.mpr; omega
theorem cn_eq (a b : Nat) (h : Hm) : cop .eq (.int (a : Int)) (.int (b : Int)) h = some (decide (a = b)) := by
  show some (decide ((a : Int) = b)) = _
  congr 1; apply decide_eq_decide.mpr; omega
theorem cn_ne (a b : Nat) (h : Hm) : cop .ne (.int (a : Int)) (.int (b : Int)) h = some (!decide (a = b)) := by
  show some (!decide ((a : Int) = b)) = _
  congr 2; apply decide_eq_decide.mpr; omega
theorem cn_gt0 (a : Nat) (h : Hm) : cop .gt (.int (a : Int)) (.int 0) h = some (decide (0 < a)) := cn_gt a 0 h
theorem cn_gt1 (a : Nat) (h : Hm) : cop .gt (.int (a : Int)) (.int 1) h = some (decide (1 < a)) := cn_gt a 1 h
theorem cn_eq0 (a : Nat) (h : Hm) : cop .eq (.int (a : Int)) (.int 0) h = some (decide (a = 0)) := cn_eq a 0 h
theorem cn_eq1 (a : Nat) (h : Hm) : cop .eq (.int (a : Int)) (.int 1) h = some (decide (a = 1)) := cn_eq a 1 h
theorem cn_ne0 (a : Nat) (h : Hm) : cop .ne (.int (a : Int)) (.int 0) h = some (!decide (a = 0)) := cn_ne a 0 h
/-- lists of whole numbers -/
abbrev nI (xs : List Nat) : List MV := xs.map fun (d : Nat) => .int (d : Int)
theorem nI_ints (xs : List Nat) : nI xs = (xs.map fun (d : Nat) => (d : Int)).map .int := by
  rw [List.map_map]; rfl
@[simp] theorem pureL_nI (xs : List Nat) : pureL (nI xs) = true := by rw [nI_ints]; exact pureL_ints _
@[simp] theorem nolL_nI (xs : List Nat) : nolL (nI xs) = true := by rw [nI_ints]; exact nolL_ints _
@[simp] theorem frozL_nI (n : Nat) (h : Hm) (xs : List Nat) : frozL n h (nI xs) = some (nI xs) := by rw [nI_ints]; exact frozL_ints _ _ _
theorem nI_app (a b : List Nat) : nI a ++ nI b = nI (a ++ b) := by rw [← List.map_append]
theorem nI_snoc (a : List Nat) (b : Nat) : nI a ++ [.int (b : Int)] = nI (a ++ [b]) := by
  show _ = List.map _ (a ++ [b])
  rw [List.map_append]; rfl
theorem nI_rev (a : List Nat) : (nI a).reverse = nI a.reverse := by rw [← List.map_reverse]
end Mi

/-! Mi19: == of values. -/
namespace Mi
open PySem
mutual
/-- data without references, at most n deep -/
def dat : Nat → MV → Bool
  | _, .non => true
  | _, .bl _ => true
  | _, .int _ => true
  | _, .str s => PyData.strOk s
  | n + 1, .tup xs => datL n xs
  | n + 1, .lst xs => datL n xs
  | n + 1, .fz xs => datL n xs
  | n + 1, .scr _ => true
  | _, _ => false
def datL : Nat → List MV → Bool
  | _, [] => true
  | n, x :: xs => dat n x && datL n xs
end
mutual
theorem dat_spec : ∀ (n : Nat) (v : MV), dat n v = true → ∃ d, toP v = some d ∧ (∀ h, toD h v = some d) ∧ d.canLay0 = true ∧ d.depth ≤ n
  | n, .non, _ => ⟨.none, rfl, fun _ => rfl, rfl, Nat.zero_le _⟩
  | n, .bl b, _ => ⟨.bool b, rfl, fun _ => rfl, rfl, Nat.zero_le _⟩
  | n, .int i, _ => ⟨.int i, rfl, fun _ => rfl, rfl, Nat.zero_le _⟩
  | n, .str s, h => ⟨.str s, rfl, fun _ => rfl, by simpa [dat, PyData.canLay0] using h, Nat.zero_le _⟩
  | 0, .tup xs, h => by simp [dat] at h
  | 0, .lst xs, h => by simp [dat] at h
  | 0, .fz xs, h => by simp [dat] at h
  | 0, .scr xs, h => by simp [dat] at h
  | n + 1, .tup xs, h => by
    obtain ⟨ds, e1, e2, e3, e4⟩ := datL_spec n xs (by simpa [dat] using h)
    exact ⟨.tuple ds, by simp only [toP, e1, Option.map_some], fun h => by simp only [toD, e2, Option.map_some], by simpa [PyData.canLay0] using e3, by simp only [PyData.depth]; omega⟩
  | n + 1, .lst xs, h => by
    obtain ⟨ds, e1, e2, e3, e4⟩ := datL_spec n xs (by simpa [dat] using h)
    exact ⟨.list ds, by simp only [toP, e1, Option.map_some], fun h => by simp only [toD, e2, Option.map_some], by simpa [PyData.canLay0] using e3, by simp only [PyData.depth]; omega⟩
  | n + 1, .fz xs, h => by
    obtain ⟨ds, e1, e2, e3, e4⟩ := datL_spec n xs (by simpa [dat] using h)
    exact ⟨.list ds, by simp only [toP, e1, Option.map_some], fun h => by simp only [toD, e2, Option.map_some], by simpa [PyData.canLay0] using e3, by simp only [PyData.depth]; omega⟩
  | n + 1, .scr ns, h => ⟨.list (ns.map .int), rfl, fun _ => rfl, by simp only [PyData.canLay0]; exact lay_ints ns, by simp only [PyData.depth, depth_ints]; omega⟩
  | n, .ref k, h => by cases n <;> simp [dat] at h
  | n, .fn k, h => by cases n <;> simp [dat] at h
theorem datL_spec : ∀ (n : Nat) (xs : List MV), datL n xs = true → ∃ ds, toDp xs = some ds ∧ (∀ h, toDs h xs = some ds) ∧ PyData.canLayAll0 ds = true ∧ PyData.depthAll ds ≤ n
  | n, [], _ => ⟨[], rfl, fun _ => rfl, rfl, Nat.zero_le _⟩
  | n, x :: xs, h => by
    simp only [datL, Bool.and_eq_true] at h
    obtain ⟨d, a1, a2, a3, a4⟩ := dat_spec n x h.1
    obtain ⟨ds, b1, b2, b3, b4⟩ := datL_spec n xs h.2
    exact ⟨d :: ds, by simp only [toDp, a1, b1], fun h => by simp only [toDs, a2, b2], by simp only [PyData.canLayAll0, a3, b3, Bool.and_self], by simp only [PyData.depthAll]; omega⟩
end
/-- two values are equal, as Python tells -/
def mvEq (a b : MV) : Bool := match toP a, toP b with
  | some d, some e => PyData.eqv d e
  | _, _ => false
def mvEqL (a b : List MV) : Bool := match toDp a, toDp b with
  | some d, some e => PyData.eqvAll d e
  | _, _ => false
theorem eq_dat {a b : MV} (h : Hm) (ha : dat 64 a = true) (hb : dat 64 b = true) : eqD a b h = some (mvEq a b) := by
  obtain ⟨d, a1, a2, a3, a4⟩ := dat_spec 64 a ha
  obtain ⟨e, b1, b2, b3, b4⟩ := dat_spec 64 b hb
  have s1 : SeqAt.shaped d = true := by unfold SeqAt.shaped; rw [a3, decide_eq_true a4]; rfl
  have s2 : SeqAt.shaped e = true := by unfold SeqAt.shaped; rw [b3, decide_eq_true b4]; rfl
  simp only [eqD, mvEq, a1, b1, a2, b2, s1, s2, Bool.and_self, if_true]
/-- two numbers, or other values -/
theorem c_eq {a b : MV} (h : Hm) (ha : dat 64 a = true) (hb : dat 64 b = true) : cop .eq a b h = some (mvEq a b) := by
  have := eq_dat h ha hb
  cases a <;> cases b <;> first | exact this | (rename_i i j; show some (decide (i = j)) = some (i == j); congr 1; by_cases q : i = j <;> simp [q])
theorem c_ne {a b : MV} (h : Hm) (ha : dat 64 a = true) (hb : dat 64 b = true) : cop .ne a b h = some (!mvEq a b) := by
  have := eq_dat h ha hb
  have e : (eqD a b h).map (!·) = some (!mvEq a b) := by rw [this]; rfl
  cases a <;> cases b <;> first | exact e | (rename_i i j; show some (!decide (i = j)) = some (!(i == j)); congr 2; by_cases q : i = j <;> simp [q])
theorem mvEq_refl {n : Nat} {a : MV} (ha : dat n a = true) : mvEq a a = true := by
  obtain ⟨d, a1, a2, a3, a4⟩ := dat_spec n a ha
  simp only [mvEq, a1]
  exact SeqAt.eqv_refl d a3
theorem mvEqL_refl {n : Nat} {a : List MV} (ha : datL n a = true) : mvEqL a a = true := by
  obtain ⟨d, a1, a2, a3, a4⟩ := datL_spec n a ha
  simp only [mvEqL, a1]
  exact SeqAt.eqvAll_refl d a3
theorem mvEq_int (i j : Int) : mvEq (.int i) (.int j) = decide (i = j) := by
  show (i == j) = _
  by_cases q : i = j <;> simp [q]
theorem mvEq_str (i j : Str) : mvEq (.str i) (.str j) = decide (i = j) := by
  show (i == j) = _
  by_cases q : i = j <;> simp [q]
theorem mvEq_bl (i j : Bool) : mvEq (.bl i) (.bl j) = decide (i = j) := by
  show (i == j) = _
  cases i <;> cases j <;> rfl
theorem mvEq_tup (a b : List MV) : mvEq (.tup a) (.tup b) = mvEqL a b := by
  simp only [mvEq, mvEqL, toP]
  cases toDp a <;> cases toDp b <;> rfl
theorem mvEq_lst (a b : List MV) : mvEq (.lst a) (.lst b) = mvEqL a b := by
  simp only [mvEq, mvEqL, toP]
  cases toDp a <;> cases toDp b <;> rfl
theorem mvEq_lf (a b : List MV) : mvEq (.lst a) (.fz b) = mvEqL a b := by
  simp only [mvEq, mvEqL, toP]
  cases toDp a <;> cases toDp b <;> rfl
theorem mvEq_fl (a b : List MV) : mvEq (.fz a) (.lst b) = mvEqL a b := by
  simp only [mvEq, mvEqL, toP]
  cases toDp a <;> cases toDp b <;> rfl
theorem mvEq_ff (a b : List MV) : mvEq (.fz a) (.fz b) = mvEqL a b := by
  simp only [mvEq, mvEqL, toP]
  cases toDp a <;> cases toDp b <;> rfl
theorem mvEqL_nil : mvEqL [] [] = true := rfl
theorem mvEqL_nc {n : Nat} {b : MV} {bs : List MV} (h : datL n (b :: bs) = true) : mvEqL [] (b :: bs) = false := by
  obtain ⟨d, a1, a2, a3, a4⟩ := datL_spec n _ h
  simp only [mvEqL, a1]
  cases d with
  | nil =>
    simp only [toDp] at a1
    split at a1 <;> cases a1
  | cons _ _ => rfl
theorem mvEqL_cn {n : Nat} {b : MV} {bs : List MV} (h : datL n (b :: bs) = true) : mvEqL (b :: bs) [] = false := by
  obtain ⟨d, a1, a2, a3, a4⟩ := datL_spec n _ h
  simp only [mvEqL, a1]
  cases d with
  | nil =>
    simp only [toDp] at a1
    split at a1 <;> cases a1
  | cons _ _ => rfl
theorem mvEqL_cons (a b : MV) (as bs : List MV) : mvEqL (a :: as) (b :: bs) = (mvEq a b && mvEqL as bs) := by
  simp only [mvEq, mvEqL, toDp]
  cases toP a <;> cases toP b <;> cases toDp as <;> cases toDp bs <;> simp [PyData.eqvAll]
/-- lists of one kind of items -/
theorem mvEqL_map {α : Type} [DecidableEq α] {n : Nat} (f : α → MV) (hf : ∀ x, dat n (f x) = true) (hi : ∀ x y, mvEq (f x) (f y) = decide (x = y)) : ∀ a b : List α, mvEqL (a.map f) (b.map f) = decide (a = b)
  | [], [] => rfl
  | [], y :: b => mvEqL_nc (n := n) (by
      have : ∀ l : List α, datL n (l.map f) = true := fun l => by
        induction l with
        | nil => rfl
        | cons x l ih => simp only [List.map_cons, datL, hf, ih, Bool.and_self]
      exact this (y :: b))
  | x :: a, [] => mvEqL_cn (n := n) (by
      have : ∀ l : List α, datL n (l.map f) = true := fun l => by
        induction l with
        | nil => rfl
        | cons x l ih => simp only [List.map_cons, datL, hf, ih, Bool.and_self]
      exact this (x :: a))
  | x :: a, y :: b => by
    rw [List.map_cons, List.map_cons, mvEqL_cons, hi, mvEqL_map f hf hi a b]
    by_cases h1 : x = y
    · by_cases h2 : a = b
      · simp [h1, h2]
      · simp [h1, h2]
    · simp [h1]
theorem datL_map {α : Type} {n : Nat} (f : α → MV) (hf : ∀ x, dat n (f x) = true) : ∀ l : List α, datL n (l.map f) = true
  | [] => rfl
  | x :: l => by simp only [List.map_cons, datL, hf, datL_map f hf l, Bool.and_self]
theorem datL_ints (n : Nat) (xs : List Int) : datL n (xs.map .int) = true := datL_map _ (fun _ => by cases n <;> rfl) xs
theorem datL_nI (n : Nat) (xs : List Nat) : datL n (nI xs) = true := datL_map _ (fun _ => by cases n <;> rfl) xs
theorem mvEqL_ints (a b : List Int) : mvEqL (a.map .int) (b.map .int) = decide (a = b) := mvEqL_map (n := 0) _ (fun _ => rfl) mvEq_int a b
theorem mvEqL_nI (a b : List Nat) : mvEqL (nI a) (nI b) = decide (a = b) := mvEqL_map (n := 0) _ (fun _ => rfl) (fun x y => by
  rw [mvEq_int]
  apply decide_eq_decide.mpr
  omega) a b
/-- a list of the small heap beside another value -/
theorem eqD_ref {n : Nat} {xs : List MV} {b : MV} {h : Hm} (e : h[n]? = some (.lst xs)) (hx : datL 63 xs = true) (hb : dat 64 b = true) : eqD (.ref n) b h = some (mvEq (.lst xs) b) := by
  rw [← eq_dat h (show dat 64 (.lst xs) = true by simp only [dat]; exact hx) hb]
  obtain ⟨ds, e1, e2, _⟩ := datL_spec 63 xs hx
  unfold eqD
  rw [show toD h (.ref n) = toD h (.lst xs) by simp only [toD, e, e1, e2, Option.map_some]]
theorem eqD_ref2 {n : Nat} {xs : List MV} {b : MV} {h : Hm} (e : h[n]? = some (.lst xs)) (hx : datL 63 xs = true) (hb : dat 64 b = true) : eqD b (.ref n) h = some (mvEq b (.lst xs)) := by
  rw [← eq_dat h hb (show dat 64 (.lst xs) = true by simp only [dat]; exact hx)]
  obtain ⟨ds, e1, e2, _⟩ := datL_spec 63 xs hx
  unfold eqD
  rw [show toD h (.ref n) = toD h (.lst xs) by simp only [toD, e, e1, e2, Option.map_some]]
/-! ### loops over lists of one kind of items -/
theorem nth_mapL {α : Type} (l : List α) (f : α → MV) (hf : ∀ x ∈ l, nl (f x) = true) (c : Cmp) (hc : c = .lv (l.map f) ∨ c = .tv (l.map f)) (i : Nat) (h : Hm) : (Src.one c).nth i h = some (l[i]?.map f) := by
  have : nthU ((l.map f)[i]?) = some (l[i]?.map f) := by
    rw [List.getElem?_map]
    cases e : l[i]? with
    | none => rfl
    | some x =>
      have := hf x (List.mem_of_getElem? e)
      simp only [Option.map_some, nthU]
      cases hx : f x <;> first | rfl | (rw [hx] at this; cases this)
  rcases hc with rfl | rfl <;> exact this
theorem x_forMO {α : Type} {F : Calls} {t : MT} {it : MI} {b : List MS} {σ : Loc} {h h1 : Hm} {c : Cmp} (Φ : Option SRes → Prop) (l : List α) (f : α → MV) (hf : ∀ x ∈ l, nl (f x) = true) (hi : evalI F it σ h = some (.ok (.one c) h1)) (hc : c = .lv (l.map f) ∨ c = .tv (l.map f)) (I : Nat → Loc → Hm → Prop) (h0 : I 0 σ h1)
    (hend : ∀ σ h, I l.length σ h → Φ (some (.nx σ h)))
    (step : ∀ i (hi : i < l.length) σ h, I i σ h → ∃ σ1 h1, evalT F t (f l[i]) σ h = some (σ1, h1) ∧ ((∃ σ2 h2, (execB F b σ1 h1 = some (.nx σ2 h2) ∨ execB F b σ1 h1 = some (.ct σ2 h2)) ∧ I (i + 1) σ2 h2) ∨ (∃ v h2, execB F b σ1 h1 = some (.rt v h2) ∧ Φ (some (.rt v h2))) ∨ (∃ e σ2 h2, execB F b σ1 h1 = some (.ex e σ2 h2) ∧ Φ (some (.ex e σ2 h2))) ∨ ∃ σ2 h2, execB F b σ1 h1 = some (.bk σ2 h2) ∧ Φ (some (.nx σ2 h2)))) :
    Φ (execS F (.forr t it b) σ h) := x_forO Φ hi l.length (by rcases hc with rfl | rfl <;> simp [Src.len, Cmp.len]) I h0
  (fun σ h hI => ⟨by rw [nth_mapL l f hf c hc, List.getElem?_eq_none (Nat.le_refl _)]; rfl, hend σ h hI⟩) fun i σ h hi hI => by
    obtain ⟨σ1, h1, e⟩ := step i hi σ h hI
    exact ⟨f l[i], σ1, h1, by rw [nth_mapL l f hf c hc, List.getElem?_eq_getElem hi]; rfl, e⟩
theorem x_forM {α : Type} {F : Calls} {t : MT} {it : MI} {b : List MS} {σ : Loc} {h h1 : Hm} {c : Cmp} (Φ : Option SRes → Prop) (l : List α) (f : α → MV) (hf : ∀ x ∈ l, nl (f x) = true) (hi : evalI F it σ h = some (.ok (.one c) h1)) (hc : c = .lv (l.map f) ∨ c = .tv (l.map f)) (I : Nat → Loc → Hm → Prop) (h0 : I 0 σ h1)
    (hend : ∀ σ h, I l.length σ h → Φ (some (.nx σ h)))
    (step : ∀ i (hi : i < l.length) σ h, I i σ h → ∃ σ1 h1, evalT F t (f l[i]) σ h = some (σ1, h1) ∧ ∃ σ2 h2, execB F b σ1 h1 = some (.nx σ2 h2) ∧ I (i + 1) σ2 h2) :
    Φ (execS F (.forr t it b) σ h) := x_forMO Φ l f hf hi hc I h0 hend fun i hi σ h hI => by
  obtain ⟨σ1, h1, e1, σ2, h2, e2, e3⟩ := step i hi σ h hI
  exact ⟨σ1, h1, e1, .inl ⟨σ2, h2, .inl e2, e3⟩⟩
/-- a range, whole numbers -/
theorem nth_rngN (lo n i : Nat) (h : Hm) : (Src.rg (rng (lo : Int) n)).nth i h = if i < n then some (some (.int ((lo + i : Nat) : Int))) else some none := by
  rw [nth_rng]
  by_cases hi : i < n
  · rw [if_pos hi, if_pos hi]; rfl
  · rw [if_neg hi, if_neg hi]
theorem len_rng (lo : Int) (n : Nat) (h : Hm) : (Src.rg (rng lo n)).len h = n := by simp [Src.len, rng]
theorem small_nn (n : Nat) (hn : n < 4611686018427387904) : small (n : Int) = true := by
  unfold small; rw [decide_eq_true (by omega), decide_eq_true (by omega)]; rfl
theorem ei_r1 {F : Calls} {a : ME} {σ : Loc} {h h1 : Hm} {n : Nat} (he : evalE F a σ h = some (.ok (.int (n : Int)) h1)) (hn : n < 4611686018427387904) : evalI F (.r1 a) σ h = some (.ok (.rg (rng ((0 : Nat) : Int) n)) h1) := by
  have e : evalI F (.r1 a) σ h = bnd (evalE F a σ h) fun x h1 => match x with
    | .int j => if small j then some (.ok (.rg (rng 0 j.toNat)) h1) else none
    | _ => none := by first | (simp only [evalI]; done) | (simp only [evalI] <;> rfl)
  rw [e, he, bnd_ok]
  show (if small (n : Int) = true then _ else none) = _
  rw [if_pos (small_nn n hn)]
  rfl
theorem ei_r2 {F : Calls} {a b : ME} {σ : Loc} {h h1 h2 : Hm} {lo hi : Nat} (ha : evalE F a σ h = some (.ok (.int (lo : Int)) h1)) (hb : evalE F b σ h1 = some (.ok (.int (hi : Int)) h2)) (hl : lo < 4611686018427387904) (hh : hi < 4611686018427387904) : evalI F (.r2 a b) σ h = some (.ok (.rg (rng (lo : Int) (hi - lo))) h2) := by
  have e : evalI F (.r2 a b) σ h = bnd (evalE F a σ h) fun x h1 => bnd (evalE F b σ h1) fun y h2 => match x, y with
    | .int i, .int j => if small i && small j then some (.ok (.rg (rng i (j - i).toNat)) h2) else none
    | _, _ => none := by first | (simp only [evalI]; done) | (simp only [evalI] <;> rfl)
  rw [e, ha, bnd_ok, hb, bnd_ok]
  show (if (small (lo : Int) && small (hi : Int)) = true then _ else none) = _
  rw [small_nn lo hl, small_nn hi hh, if_pos (by rfl), show ((hi : Int) - (lo : Int)).toNat = hi - lo by omega]
theorem x_forRO {F : Calls} {t : MT} {it : MI} {b : List MS} {σ : Loc} {h h1 : Hm} {lo n : Nat} (Φ : Option SRes → Prop) (hi : evalI F it σ h = some (.ok (.rg (rng (lo : Int) n)) h1)) (I : Nat → Loc → Hm → Prop) (h0 : I 0 σ h1)
    (hend : ∀ σ h, I n σ h → Φ (some (.nx σ h)))
    (step : ∀ i, i < n → ∀ σ h, I i σ h → ∃ σ1 h1, evalT F t (.int ((lo + i : Nat) : Int)) σ h = some (σ1, h1) ∧ ((∃ σ2 h2, (execB F b σ1 h1 = some (.nx σ2 h2) ∨ execB F b σ1 h1 = some (.ct σ2 h2)) ∧ I (i + 1) σ2 h2) ∨ (∃ v h2, execB F b σ1 h1 = some (.rt v h2) ∧ Φ (some (.rt v h2))) ∨ (∃ e σ2 h2, execB F b σ1 h1 = some (.ex e σ2 h2) ∧ Φ (some (.ex e σ2 h2))) ∨ ∃ σ2 h2, execB F b σ1 h1 = some (.bk σ2 h2) ∧ Φ (some (.nx σ2 h2)))) :
    Φ (execS F (.forr t it b) σ h) := x_forO Φ hi n (len_rng _ _ _) I h0
  (fun σ h hI => ⟨by rw [nth_rngN, if_neg (Nat.lt_irrefl _)], hend σ h hI⟩) fun i σ h hi hI => by
    obtain ⟨σ1, h1, e⟩ := step i hi σ h hI
    exact ⟨_, σ1, h1, by rw [nth_rngN, if_pos hi], e⟩
theorem x_forR {F : Calls} {t : MT} {it : MI} {b : List MS} {σ : Loc} {h h1 : Hm} {lo n : Nat} (Φ : Option SRes → Prop) (hi : evalI F it σ h = some (.ok (.rg (rng (lo : Int) n)) h1)) (I : Nat → Loc → Hm → Prop) (h0 : I 0 σ h1)
    (hend : ∀ σ h, I n σ h → Φ (some (.nx σ h)))
    (step : ∀ i, i < n → ∀ σ h, I i σ h → ∃ σ1 h1, evalT F t (.int ((lo + i : Nat) : Int)) σ h = some (σ1, h1) ∧ ∃ σ2 h2, execB F b σ1 h1 = some (.nx σ2 h2) ∧ I (i + 1) σ2 h2) :
    Φ (execS F (.forr t it b) σ h) := x_forRO Φ hi I h0 hend fun i hi σ h hI => by
  obtain ⟨σ1, h1, e1, σ2, h2, e2, e3⟩ := step i hi σ h hI
  exact ⟨σ1, h1, e1, .inl ⟨σ2, h2, .inl e2, e3⟩⟩
/-- a comprehension over a list of one kind of items, its heap stays -/
theorem e_lcM {α β : Type} {F : Calls} {own : List Nat} {tg : MT} {it : MI} {c : Option ME} {elt : ME} {σ : Loc} {h : Hm} {s : Src} (l : List α) (p : α → Bool) (f : α → β) (w : β → MV) (hi : evalI F it σ h = some (.ok s h)) (hl : s.len h = l.length) (hz : l.length ≤ 16777216)
    (g : α → MV) (hn : ∀ i, s.nth i h = some (l[i]?.map g)) (hw : ∀ y, nl (w y) = true ∧ (w y).nol = true)
    (hs : ∀ x ∈ l, ∃ σ1, evalT F tg (g x) (wipeL σ own) h = some (σ1, h) ∧ evalC F c σ1 h = some (.ok (p x) h) ∧ (p x = true → ∃ y, evalE F elt σ1 h = some (.ok y h) ∧ frz y = w (f x))) :
    evalE F (.lc own tg it c elt) σ h = some (.ok (.lst (((l.filter p).map f).map w)) h) := by
  obtain ⟨acc', h', e1, rfl, rfl⟩ := iterC_inv (s := s) (g := fun v h => evalT F tg v (wipeL σ own) h) (c := fun σ h => evalC F c σ h) (e := fun σ h => evalE F elt σ h) l.length (fun i acc h' => acc = (((l.take i).filter p).map f).map w ∧ h' = h) (fun acc h' hI => by rw [hI.2, hn, List.getElem?_eq_none (Nat.le_refl _)]; rfl) (fun i acc h' hlt hI => by
    obtain ⟨rfl, rfl⟩ := hI
    obtain ⟨σ1, e2, e3, e4⟩ := hs l[i] (List.getElem_mem hlt)
    refine ⟨g l[i], σ1, h', h', by rw [hn, List.getElem?_eq_getElem hlt]; rfl, e2, ?_⟩
    have hr : (l.take (i + 1)).filter p = (l.take i).filter p ++ if p l[i] = true then [l[i]] else [] := by
      rw [List.take_succ_eq_append_getElem hlt, List.filter_append, List.filter_cons, List.filter_nil]
    cases hp : p l[i] with
    | false => exact .inl ⟨by rw [e3, hp], by rw [hr, hp]; simp, rfl⟩
    | true =>
      obtain ⟨y, e5, e6⟩ := e4 hp
      refine .inr ⟨y, h', by rw [e3, hp], e5, ?_, by rw [e6]; exact (hw _).2, by rw [hr, hp, e6]; simp, rfl⟩
      rw [List.length_map, List.length_map]
      have : ((l.take i).filter p).length ≤ i := by
        have := List.length_filter_le p (l.take i)
        rw [List.length_take] at this
        omega
      exact Nat.lt_of_le_of_lt this (Nat.lt_of_lt_of_le hlt hz)) (s.len h + 1) 0 [] h ⟨by simp, rfl⟩ (Nat.zero_le _) (by omega)
  rw [e_lc hi e1, List.take_length]
theorem nth_ref {h : Hm} {n : Nat} {α : Type} (l : List α) (g : α → MV) (hg : ∀ x ∈ l, nl (g x) = true) (e : h[n]? = some (.lst (l.map g))) (i : Nat) : (Src.one (.at_ n)).nth i h = some (l[i]?.map g) := by
  have : nthU ((l.map g)[i]?) = some (l[i]?.map g) := by
    rw [List.getElem?_map]
    cases e : l[i]? with
    | none => rfl
    | some x =>
      have := hg x (List.mem_of_getElem? e)
      simp only [Option.map_some, nthU]
      cases hx : g x <;> first | rfl | (rw [hx] at this; cases this)
  simp only [Src.nth, Cmp.nth, items, e]
  exact this
theorem ei_ref {F : Calls} {a : ME} {σ : Loc} {h h1 : Hm} {n : Nat} {xs : List MV} (he : evalE F a σ h = some (.ok (.ref n) h1)) (e : h1[n]? = some (.lst xs)) : evalI F (.ex a) σ h = some (.ok (.one (.at_ n)) h1) := by
  simp only [evalI, he, bnd_ok, cmpOf, items, e, Option.map_some, lift_some]
theorem len_ref {h : Hm} {n : Nat} {xs : List MV} (e : h[n]? = some (.lst xs)) : (Src.one (.at_ n)).len h = xs.length := by
  simp [Src.len, Cmp.len, items, e]
/-! ### built-ins -/
theorem bv_tup (xs : List MV) (h : Hm) : biV .tuple [.lst xs] h = some (.tup xs) := rfl
theorem bv_tupt (xs : List MV) (h : Hm) : biV .tuple [.tup xs] h = some (.tup xs) := rfl
theorem bv_tupf (xs : List MV) (h : Hm) : biV .tuple [.fz xs] h = some (.tup xs) := rfl
theorem bv_lenl (xs : List MV) (h : Hm) : biV .len [.lst xs] h = some (.int (xs.length : Nat)) := rfl
theorem bv_lent (xs : List MV) (h : Hm) : biV .len [.tup xs] h = some (.int (xs.length : Nat)) := rfl
theorem bv_lenf (xs : List MV) (h : Hm) : biV .len [.fz xs] h = some (.int (xs.length : Nat)) := rfl
theorem bv_lens (ns : List Int) (h : Hm) : biV .len [.scr ns] h = some (.int (ns.length : Nat)) := by simp only [biV, seq, items, Option.map_some, List.length_map]
theorem bv_lenr0 (h l : Hm) (xs : List MV) : biV .len [.ref h.length] (h ++ .lst xs :: l) = some (.int (xs.length : Nat)) := by simp only [biV, seq, items, hx_get0, List.getElem?_cons_zero, Option.map_some]
theorem bv_lenr1 (h l : Hm) (o : MO) (xs : List MV) : biV .len [.ref (h.length + 1)] (h ++ o :: .lst xs :: l) = some (.int (xs.length : Nat)) := by simp only [biV, seq, items, hx_getS, List.getElem?_cons_zero, List.getElem?_cons_succ, Option.map_some]
theorem bv_int (i : Int) (h : Hm) : biV .int [.int i] h = some (.int i) := rfl
theorem bv_intb (b : Bool) (h : Hm) : biV .int [.bl b] h = some (.int (if b then 1 else 0)) := rfl
theorem bv_absN (n : Nat) (h : Hm) : biV .abs [.int (n : Int)] h = some (.int (n : Int)) := by
  show some (MV.int (if (n : Int) < 0 then _ else _)) = _
  rw [if_neg (by omega)]
theorem bv_abs (i : Int) (h : Hm) : biV .abs [.int i] h = some (.int (i.natAbs : Nat)) := by
  show some (MV.int (if i < 0 then -i else i)) = _
  congr 2
  split <;> omega
theorem bv_sum (xs : List Int) (h : Hm) : biV .sum [.lst (xs.map .int)] h = some (.int xs.sum) := by
  simp only [biV, items, intsOf_ints, Option.map_some]
theorem isum_nat : ∀ xs : List Nat, (xs.map fun (d : Nat) => (d : Int)).sum = (xs.sum : Nat)
  | [] => rfl
  | x :: xs => by rw [List.map_cons, List.sum_cons, List.sum_cons, isum_nat xs]; omega
theorem bv_sumN (xs : List Nat) (h : Hm) : biV .sum [.lst (nI xs)] h = some (.int (xs.sum : Nat)) := by
  rw [nI_ints, bv_sum, isum_nat]
theorem blsOf_bls' : ∀ bs : List Bool, blsOf (bs.map .bl) = some bs
  | [] => rfl
  | b :: bs => by simp only [List.map_cons, blsOf, blsOf_bls' bs]; rfl
theorem bv_any (xs : List Bool) (h : Hm) : biV .any [.lst (xs.map .bl)] h = some (.bl (xs.any id)) := by
  simp only [biV, items, blsOf_bls', Option.map_some]
theorem bv_all (xs : List Bool) (h : Hm) : biV .all [.lst (xs.map .bl)] h = some (.bl (xs.all id)) := by
  simp only [biV, items, blsOf_bls', Option.map_some]
theorem bv_maxN (a b : Nat) (h : Hm) : biV .max2 [.int (a : Int), .int (b : Int)] h = some (.int ((max a b : Nat) : Int)) := by
  show some (MV.int (if (b : Int) > a then (b : Int) else a)) = _
  congr 2
  split <;> omega
theorem bv_minN (a b : Nat) (h : Hm) : biV .min2 [.int (a : Int), .int (b : Int)] h = some (.int ((min a b : Nat) : Int)) := by
  show some (MV.int (if (b : Int) < a then (b : Int) else a)) = _
  congr 2
  split <;> omega
theorem bi_add (a b : Int) (h : Hm) : bop .add (.int a) (.int b) h = some (.int (a + b)) := rfl
theorem bi_sub (a b : Int) (h : Hm) : bop .sub (.int a) (.int b) h = some (.int (a - b)) := rfl
theorem ci_le (a b : Int) (h : Hm) : cop .le (.int a) (.int b) h = some (decide (a ≤ b)) := rfl
theorem ci_lt (a b : Int) (h : Hm) : cop .lt (.int a) (.int b) h = some (decide (a < b)) := rfl
theorem ci_ge (a b : Int) (h : Hm) : cop .ge (.int a) (.int b) h = some (decide (b ≤ a)) := rfl
theorem ci_gt (a b : Int) (h : Hm) : cop .gt (.int a) (.int b) h = some (decide (b < a)) := rfl
theorem ci_eq (a b : Int) (h : Hm) : cop .eq (.int a) (.int b) h = some (decide (a = b)) := rfl
theorem ci_ne (a b : Int) (h : Hm) : cop .ne (.int a) (.int b) h = some (!decide (a = b)) := rfl
theorem hx_get (h l : Hm) (n : Nat) (e : n = h.length) : (h ++ l)[n]? = l[0]? := by rw [e, hx_get0]
mutual
theorem froz_pure (n : Nat) (h : Hm) : ∀ v : MV, v.pure = true → froz n h v = some v
  | .non, _ => rfl
  | .bl _, _ => rfl
  | .int _, _ => rfl
  | .str _, _ => rfl
  | .scr _, _ => rfl
  | .fn _, _ => rfl
  | .tup xs, e => by simp only [froz, frozL_pure n h xs (by simpa [MV.pure] using e), Option.map_some]
  | .fz xs, e => by simp only [froz, frozL_pure n h xs (by simpa [MV.pure] using e), Option.map_some]
  | .lst _, e => by simp [MV.pure] at e
  | .ref _, e => by simp [MV.pure] at e
theorem frozL_pure (n : Nat) (h : Hm) : ∀ xs : List MV, pureL xs = true → frozL n h xs = some xs
  | [], _ => rfl
  | x :: xs, e => by
    simp only [pureL, Bool.and_eq_true] at e
    simp only [frozL, froz_pure n h x e.1, frozL_pure n h xs e.2]
end
/-! ### the same behind a def's text and within a block -/
theorem xe_forO {NN : Nat} {KK : Loc → Hm → Option SRes} {RR : RO MV} {F : Calls} {t : MT} {it : MI} {b : List MS} {σ : Loc} {h h1 : Hm} {s : Src}  (hi : evalI F it σ h = some (.ok s h1)) (n : Nat) (hl : s.len h1 = n) (I : Nat → Loc → Hm → Prop) (h0 : I 0 σ h1)
    (hend : ∀ σ h, I n σ h → s.nth n h = some none ∧ endFn NN (thenS (some (.nx σ h)) KK) = RR)
    (step : ∀ i σ h, i < n → I i σ h → ∃ v σ1 h1, s.nth i h = some (some v) ∧ evalT F t v σ h = some (σ1, h1) ∧ ((∃ σ2 h2, (execB F b σ1 h1 = some (.nx σ2 h2) ∨ execB F b σ1 h1 = some (.ct σ2 h2)) ∧ I (i + 1) σ2 h2) ∨ (∃ v h2, execB F b σ1 h1 = some (.rt v h2) ∧ endFn NN (thenS (some (.rt v h2)) KK) = RR) ∨ (∃ e σ2 h2, execB F b σ1 h1 = some (.ex e σ2 h2) ∧ endFn NN (thenS (some (.ex e σ2 h2)) KK) = RR) ∨ ∃ σ2 h2, execB F b σ1 h1 = some (.bk σ2 h2) ∧ endFn NN (thenS (some (.nx σ2 h2)) KK) = RR)) :
    endFn NN (thenS (execS F (.forr t it b) σ h) KK) = RR :=
  x_forO (fun x => endFn NN (thenS x KK) = RR) hi n hl I h0 hend step
theorem xm_forO {KK : Loc → Hm → Option SRes} {RR : Option SRes} {F : Calls} {t : MT} {it : MI} {b : List MS} {σ : Loc} {h h1 : Hm} {s : Src}  (hi : evalI F it σ h = some (.ok s h1)) (n : Nat) (hl : s.len h1 = n) (I : Nat → Loc → Hm → Prop) (h0 : I 0 σ h1)
    (hend : ∀ σ h, I n σ h → s.nth n h = some none ∧ thenS (some (.nx σ h)) KK = RR)
    (step : ∀ i σ h, i < n → I i σ h → ∃ v σ1 h1, s.nth i h = some (some v) ∧ evalT F t v σ h = some (σ1, h1) ∧ ((∃ σ2 h2, (execB F b σ1 h1 = some (.nx σ2 h2) ∨ execB F b σ1 h1 = some (.ct σ2 h2)) ∧ I (i + 1) σ2 h2) ∨ (∃ v h2, execB F b σ1 h1 = some (.rt v h2) ∧ thenS (some (.rt v h2)) KK = RR) ∨ (∃ e σ2 h2, execB F b σ1 h1 = some (.ex e σ2 h2) ∧ thenS (some (.ex e σ2 h2)) KK = RR) ∨ ∃ σ2 h2, execB F b σ1 h1 = some (.bk σ2 h2) ∧ thenS (some (.nx σ2 h2)) KK = RR)) :
    thenS (execS F (.forr t it b) σ h) KK = RR :=
  x_forO (fun x => thenS x KK = RR) hi n hl I h0 hend step
theorem xe_for {NN : Nat} {KK : Loc → Hm → Option SRes} {RR : RO MV} {F : Calls} {t : MT} {it : MI} {b : List MS} {σ : Loc} {h h1 : Hm} {s : Src}  (hi : evalI F it σ h = some (.ok s h1)) (n : Nat) (hl : s.len h1 = n) (I : Nat → Loc → Hm → Prop) (h0 : I 0 σ h1)
    (hend : ∀ σ h, I n σ h → s.nth n h = some none ∧ endFn NN (thenS (some (.nx σ h)) KK) = RR)
    (step : ∀ i σ h, i < n → I i σ h → ∃ v σ1 h1, s.nth i h = some (some v) ∧ evalT F t v σ h = some (σ1, h1) ∧ ∃ σ2 h2, execB F b σ1 h1 = some (.nx σ2 h2) ∧ I (i + 1) σ2 h2) :
    endFn NN (thenS (execS F (.forr t it b) σ h) KK) = RR :=
  x_for (fun x => endFn NN (thenS x KK) = RR) hi n hl I h0 hend step
theorem xm_for {KK : Loc → Hm → Option SRes} {RR : Option SRes} {F : Calls} {t : MT} {it : MI} {b : List MS} {σ : Loc} {h h1 : Hm} {s : Src}  (hi : evalI F it σ h = some (.ok s h1)) (n : Nat) (hl : s.len h1 = n) (I : Nat → Loc → Hm → Prop) (h0 : I 0 σ h1)
    (hend : ∀ σ h, I n σ h → s.nth n h = some none ∧ thenS (some (.nx σ h)) KK = RR)
    (step : ∀ i σ h, i < n → I i σ h → ∃ v σ1 h1, s.nth i h = some (some v) ∧ evalT F t v σ h = some (σ1, h1) ∧ ∃ σ2 h2, execB F b σ1 h1 = some (.nx σ2 h2) ∧ I (i + 1) σ2 h2) :
    thenS (execS F (.forr t it b) σ h) KK = RR :=
  x_for (fun x => thenS x KK = RR) hi n hl I h0 hend step
theorem xe_whlO {NN : Nat} {KK : Loc → Hm → Option SRes} {RR : RO MV} {F : Calls} {c : ME} {b : List MS} {σ : Loc} {h : Hm}  (I : Nat → Loc → Hm → Prop) (m : Nat) (hm : m < iterMax) (h0 : I m σ h)
    (step : ∀ m σ h, I m σ h → (evalC F (some c) σ h = some (.ok false h) ∧ endFn NN (thenS (some (.nx σ h)) KK) = RR) ∨ ∃ h1, evalC F (some c) σ h = some (.ok true h1) ∧ ((∃ m' σ2 h2, (execB F b σ h1 = some (.nx σ2 h2) ∨ execB F b σ h1 = some (.ct σ2 h2)) ∧ m' < m ∧ I m' σ2 h2) ∨ (∃ v h2, execB F b σ h1 = some (.rt v h2) ∧ endFn NN (thenS (some (.rt v h2)) KK) = RR) ∨ (∃ e σ2 h2, execB F b σ h1 = some (.ex e σ2 h2) ∧ endFn NN (thenS (some (.ex e σ2 h2)) KK) = RR) ∨ ∃ σ2 h2, execB F b σ h1 = some (.bk σ2 h2) ∧ endFn NN (thenS (some (.nx σ2 h2)) KK) = RR)) :
    endFn NN (thenS (execS F (.whl c b) σ h) KK) = RR :=
  x_whlO (fun x => endFn NN (thenS x KK) = RR) I m hm h0 step
theorem xm_whlO {KK : Loc → Hm → Option SRes} {RR : Option SRes} {F : Calls} {c : ME} {b : List MS} {σ : Loc} {h : Hm}  (I : Nat → Loc → Hm → Prop) (m : Nat) (hm : m < iterMax) (h0 : I m σ h)
    (step : ∀ m σ h, I m σ h → (evalC F (some c) σ h = some (.ok false h) ∧ thenS (some (.nx σ h)) KK = RR) ∨ ∃ h1, evalC F (some c) σ h = some (.ok true h1) ∧ ((∃ m' σ2 h2, (execB F b σ h1 = some (.nx σ2 h2) ∨ execB F b σ h1 = some (.ct σ2 h2)) ∧ m' < m ∧ I m' σ2 h2) ∨ (∃ v h2, execB F b σ h1 = some (.rt v h2) ∧ thenS (some (.rt v h2)) KK = RR) ∨ (∃ e σ2 h2, execB F b σ h1 = some (.ex e σ2 h2) ∧ thenS (some (.ex e σ2 h2)) KK = RR) ∨ ∃ σ2 h2, execB F b σ h1 = some (.bk σ2 h2) ∧ thenS (some (.nx σ2 h2)) KK = RR)) :
    thenS (execS F (.whl c b) σ h) KK = RR :=
  x_whlO (fun x => thenS x KK = RR) I m hm h0 step
theorem xe_whl {NN : Nat} {KK : Loc → Hm → Option SRes} {RR : RO MV} {F : Calls} {c : ME} {b : List MS} {σ : Loc} {h : Hm}  (I : Nat → Loc → Hm → Prop) (m : Nat) (hm : m < iterMax) (h0 : I m σ h)
    (step : ∀ m σ h, I m σ h → (evalC F (some c) σ h = some (.ok false h) ∧ endFn NN (thenS (some (.nx σ h)) KK) = RR) ∨ (evalC F (some c) σ h = some (.ok true h) ∧ ∃ m' σ2 h2, execB F b σ h = some (.nx σ2 h2) ∧ m' < m ∧ I m' σ2 h2)) :
    endFn NN (thenS (execS F (.whl c b) σ h) KK) = RR :=
  x_whl (fun x => endFn NN (thenS x KK) = RR) I m hm h0 step
theorem xm_whl {KK : Loc → Hm → Option SRes} {RR : Option SRes} {F : Calls} {c : ME} {b : List MS} {σ : Loc} {h : Hm}  (I : Nat → Loc → Hm → Prop) (m : Nat) (hm : m < iterMax) (h0 : I m σ h)
    (step : ∀ m σ h, I m σ h → (evalC F (some c) σ h = some (.ok false h) ∧ thenS (some (.nx σ h)) KK = RR) ∨ (evalC F (some c) σ h = some (.ok true h) ∧ ∃ m' σ2 h2, execB F b σ h = some (.nx σ2 h2) ∧ m' < m ∧ I m' σ2 h2)) :
    thenS (execS F (.whl c b) σ h) KK = RR :=
  x_whl (fun x => thenS x KK = RR) I m hm h0 step
theorem xe_forMO {NN : Nat} {KK : Loc → Hm → Option SRes} {RR : RO MV} {α : Type} {F : Calls} {t : MT} {it : MI} {b : List MS} {σ : Loc} {h h1 : Hm} {c : Cmp}  (l : List α) (f : α → MV) (hf : ∀ x ∈ l, nl (f x) = true) (hi : evalI F it σ h = some (.ok (.one c) h1)) (hc : c = .lv (l.map f) ∨ c = .tv (l.map f)) (I : Nat → Loc → Hm → Prop) (h0 : I 0 σ h1)
    (hend : ∀ σ h, I l.length σ h → endFn NN (thenS (some (.nx σ h)) KK) = RR)
    (step : ∀ i (hi : i < l.length) σ h, I i σ h → ∃ σ1 h1, evalT F t (f l[i]) σ h = some (σ1, h1) ∧ ((∃ σ2 h2, (execB F b σ1 h1 = some (.nx σ2 h2) ∨ execB F b σ1 h1 = some (.ct σ2 h2)) ∧ I (i + 1) σ2 h2) ∨ (∃ v h2, execB F b σ1 h1 = some (.rt v h2) ∧ endFn NN (thenS (some (.rt v h2)) KK) = RR) ∨ (∃ e σ2 h2, execB F b σ1 h1 = some (.ex e σ2 h2) ∧ endFn NN (thenS (some (.ex e σ2 h2)) KK) = RR) ∨ ∃ σ2 h2, execB F b σ1 h1 = some (.bk σ2 h2) ∧ endFn NN (thenS (some (.nx σ2 h2)) KK) = RR)) :
    endFn NN (thenS (execS F (.forr t it b) σ h) KK) = RR :=
  x_forMO (fun x => endFn NN (thenS x KK) = RR) l f hf hi hc I h0 hend step
theorem xm_forMO {KK : Loc → Hm → Option SRes} {RR : Option SRes} {α : Type} {F : Calls} {t : MT} {it : MI} {b : List MS} {σ : Loc} {h h1 : Hm} {c : Cmp}  (l : List α) (f : α → MV) (hf : ∀ x ∈ l, nl (f x) = true) (hi : evalI F it σ h = some (.ok (.one c) h1)) (hc : c = .lv (l.map f) ∨ c = .tv (l.map f)) (I : Nat → Loc → Hm → Prop) (h0 : I 0 σ h1)
    (hend : ∀ σ h, I l.length σ h → thenS (some (.nx σ h)) KK = RR)
    (step : ∀ i (hi : i < l.length) σ h, I i σ h → ∃ σ1 h1, evalT F t (f l[i]) σ h = some (σ1, h1) ∧ ((∃ σ2 h2, (execB F b σ1 h1 = some (.nx σ2 h2) ∨ execB F b σ1 h1 = some (.ct σ2 h2)) ∧ I (i + 1) σ2 h2) ∨ (∃ v h2, execB F b σ1 h1 = some (.rt v h2) ∧ thenS (some (.rt v h2)) KK = RR) ∨ (∃ e σ2 h2, execB F b σ1 h1 = some (.ex e σ2 h2) ∧ thenS (some (.ex e σ2 h2)) KK = RR) ∨ ∃ σ2 h2, execB F b σ1 h1 = some (.bk σ2 h2) ∧ thenS (some (.nx σ2 h2)) KK = RR)) :
    thenS (execS F (.forr t it b) σ h) KK = RR :=
  x_forMO (fun x => thenS x KK = RR) l f hf hi hc I h0 hend step
theorem xe_forM {NN : Nat} {KK : Loc → Hm → Option SRes} {RR : RO MV} {α : Type} {F : Calls} {t : MT} {it : MI} {b : List MS} {σ : Loc} {h h1 : Hm} {c : Cmp}  (l : List α) (f : α → MV) (hf : ∀ x ∈ l, nl (f x) = true) (hi : evalI F it σ h = some (.ok (.one c) h1)) (hc : c = .lv (l.map f) ∨ c = .tv (l.map f)) (I : Nat → Loc → Hm → Prop) (h0 : I 0 σ h1)
    (hend : ∀ σ h, I l.length σ h → endFn NN (thenS (some (.nx σ h)) KK) = RR)
    (step : ∀ i (hi : i < l.length) σ h, I i σ h → ∃ σ1 h1, evalT F t (f l[i]) σ h = some (σ1, h1) ∧ ∃ σ2 h2, execB F b σ1 h1 = some (.nx σ2 h2) ∧ I (i + 1) σ2 h2) :
    endFn NN (thenS (execS F (.forr t it b) σ h) KK) = RR :=
  x_forM (fun x => endFn NN (thenS x KK) = RR) l f hf hi hc I h0 hend step
theorem xm_forM {KK : Loc → Hm → Option SRes} {RR : Option SRes} {α : Type} {F : Calls} {t : MT} {it : MI} {b : List MS} {σ : Loc} {h h1 : Hm} {c : Cmp}  (l : List α) (f : α → MV) (hf : ∀ x ∈ l, nl (f x) = true) (hi : evalI F it σ h = some (.ok (.one c) h1)) (hc : c = .lv (l.map f) ∨ c = .tv (l.map f)) (I : Nat → Loc → Hm → Prop) (h0 : I 0 σ h1)
    (hend : ∀ σ h, I l.length σ h → thenS (some (.nx σ h)) KK = RR)
    (step : ∀ i (hi : i < l.length) σ h, I i σ h → ∃ σ1 h1, evalT F t (f l[i]) σ h = some (σ1, h1) ∧ ∃ σ2 h2, execB F b σ1 h1 = some (.nx σ2 h2) ∧ I (i + 1) σ2 h2) :
    thenS (execS F (.forr t it b) σ h) KK = RR :=
  x_forM (fun x => thenS x KK = RR) l f hf hi hc I h0 hend step
theorem xe_forRO {NN : Nat} {KK : Loc → Hm → Option SRes} {RR : RO MV} {F : Calls} {t : MT} {it : MI} {b : List MS} {σ : Loc} {h h1 : Hm} {lo n : Nat}  (hi : evalI F it σ h = some (.ok (.rg (rng (lo : Int) n)) h1)) (I : Nat → Loc → Hm → Prop) (h0 : I 0 σ h1)
    (hend : ∀ σ h, I n σ h → endFn NN (thenS (some (.nx σ h)) KK) = RR)
    (step : ∀ i, i < n → ∀ σ h, I i σ h → ∃ σ1 h1, evalT F t (.int ((lo + i : Nat) : Int)) σ h = some (σ1, h1) ∧ ((∃ σ2 h2, (execB F b σ1 h1 = some (.nx σ2 h2) ∨ execB F b σ1 h1 = some (.ct σ2 h2)) ∧ I (i + 1) σ2 h2) ∨ (∃ v h2, execB F b σ1 h1 = some (.rt v h2) ∧ endFn NN (thenS (some (.rt v h2)) KK) = RR) ∨ (∃ e σ2 h2, execB F b σ1 h1 = some (.ex e σ2 h2) ∧ endFn NN (thenS (some (.ex e σ2 h2)) KK) = RR) ∨ ∃ σ2 h2, execB F b σ1 h1 = some (.bk σ2 h2) ∧ endFn NN (thenS (some (.nx σ2 h2)) KK) = RR)) :
    endFn NN (thenS (execS F (.forr t it b) σ h) KK) = RR :=
  x_forRO (fun x => endFn NN (thenS x KK) = RR) hi I h0 hend step
theorem xm_forRO {KK : Loc → Hm → Option SRes} {RR : Option SRes} {F : Calls} {t : MT} {it : MI} {b : List MS} {σ : Loc} {h h1 : Hm} {lo n : Nat}  (hi : evalI F it σ h = some (.ok (.rg (rng (lo : Int) n)) h1)) (I : Nat → Loc → Hm → Prop) (h0 : I 0 σ h1)
    (hend : ∀ σ h, I n σ h → thenS (some (.nx σ h)) KK = RR)
    (step : ∀ i, i < n → ∀ σ h, I i σ h → ∃ σ1 h1, evalT F t (.int ((lo + i : Nat) : Int)) σ h = some (σ1, h1) ∧ ((∃ σ2 h2, (execB F b σ1 h1 = some (.nx σ2 h2) ∨ execB F b σ1 h1 = some (.ct σ2 h2)) ∧ I (i + 1) σ2 h2) ∨ (∃ v h2, execB F b σ1 h1 = some (.rt v h2) ∧ thenS (some (.rt v h2)) KK = RR) ∨ (∃ e σ2 h2, execB F b σ1 h1 = some (.ex e σ2 h2) ∧ thenS (some (.ex e σ2 h2)) KK = RR) ∨ ∃ σ2 h2, execB F b σ1 h1 = some (.bk σ2 h2) ∧ thenS (some (.nx σ2 h2)) KK = RR)) :
    thenS (execS F (.forr t it b) σ h) KK = RR :=
  x_forRO (fun x => thenS x KK = RR) hi I h0 hend step
theorem xe_forR {NN : Nat} {KK : Loc → Hm → Option SRes} {RR : RO MV} {F : Calls} {t : MT} {it : MI} {b : List MS} {σ : Loc} {h h1 : Hm} {lo n : Nat}  (hi : evalI F it σ h = some (.ok (.rg (rng (lo : Int) n)) h1)) (I : Nat → Loc → Hm → Prop) (h0 : I 0 σ h1)
    (hend : ∀ σ h, I n σ h → endFn NN (thenS (some (.nx σ h)) KK) = RR)
    (step : ∀ i, i < n → ∀ σ h, I i σ h → ∃ σ1 h1, evalT F t (.int ((lo + i : Nat) : Int)) σ h = some (σ1, h1) ∧ ∃ σ2 h2, execB F b σ1 h1 = some (.nx σ2 h2) ∧ I (i + 1) σ2 h2) :
    endFn NN (thenS (execS F (.forr t it b) σ h) KK) = RR :=
  x_forR (fun x => endFn NN (thenS x KK) = RR) hi I h0 hend step
theorem xm_forR {KK : Loc → Hm → Option SRes} {RR : Option SRes} {F : Calls} {t : MT} {it : MI} {b : List MS} {σ : Loc} {h h1 : Hm} {lo n : Nat}  (hi : evalI F it σ h = some (.ok (.rg (rng (lo : Int) n)) h1)) (I : Nat → Loc → Hm → Prop) (h0 : I 0 σ h1)
    (hend : ∀ σ h, I n σ h → thenS (some (.nx σ h)) KK = RR)
    (step : ∀ i, i < n → ∀ σ h, I i σ h → ∃ σ1 h1, evalT F t (.int ((lo + i : Nat) : Int)) σ h = some (σ1, h1) ∧ ∃ σ2 h2, execB F b σ1 h1 = some (.nx σ2 h2) ∧ I (i + 1) σ2 h2) :
    thenS (execS F (.forr t it b) σ h) KK = RR :=
  x_forR (fun x => thenS x KK = RR) hi I h0 hend step
/-! ### ranges by steps -/
def stpN (lo hi c : Nat) : Nat := if lo < hi then (hi - lo - 1) / c + 1 else 0
theorem rangeSize_stp {lo hi c : Nat} (hc : 0 < c) : Builtin.Range.rangeSize (lo : Int) (hi : Int) (c : Int) = ((stpN lo hi c : Nat) : Int) := by
  unfold Builtin.Range.rangeSize stpN
  rw [if_pos (by omega)]
  by_cases h : lo < hi
  · rw [if_pos (by omega), if_pos h, Int.natCast_add, Int.natCast_ediv]
    congr 2
    omega
  · rw [if_neg (by omega), if_neg h]; rfl
theorem stp_lt {lo hi c i : Nat} (hc : 0 < c) : i < stpN lo hi c ↔ lo + i * c < hi := by
  unfold stpN
  by_cases h : lo < hi
  · rw [if_pos h, Nat.lt_succ_iff, Nat.le_div_iff_mul_le hc]
    omega
  · rw [if_neg h]
    have := Nat.zero_le (i * c)
    omega
theorem nth_rngC (lo c : Int) (n i : Nat) (h : Hm) : (Src.rg (rngC lo c n)).nth i h = if i < n then some (some (.int (lo + (i : Nat) * c))) else some none := by
  show nthU (rngC lo c n)[i]? = _
  by_cases hi : i < n
  · rw [if_pos hi]
    simp [rngC, hi, nthU, unl]
  · rw [if_neg hi]
    simp [rngC, hi, nthU]
theorem fitsLong {i : Int} (h : -9223372036854775808 ≤ i) (h2 : i < 9223372036854775808) : Builtin.Range.rangeFitsLong i = true := by
  unfold Builtin.Range.rangeFitsLong
  rw [decide_eq_true (show -(2 ^ 63 : Int) ≤ i from h), decide_eq_true (show i < (2 ^ 63 : Int) from h2)]; rfl
theorem ei_r3 {F : Calls} {a b c : ME} {σ : Loc} {h h1 h2 h3 : Hm} {lo hi st : Nat} (ha : evalE F a σ h = some (.ok (.int (lo : Int)) h1)) (hb : evalE F b σ h1 = some (.ok (.int (hi : Int)) h2)) (hc : evalE F c σ h2 = some (.ok (.int (st : Int)) h3)) (hl : lo < 4611686018427387904) (hh : hi < 4611686018427387904) (h0 : 0 < st) (hs : st < 1073741824) : evalI F (.r3 a b c) σ h = some (.ok (.rg (rngC (lo : Int) (st : Int) (stpN lo hi st))) h3) := by
  have e : evalI F (.r3 a b c) σ h = bnd (evalE F a σ h) fun x h1 => bnd (evalE F b σ h1) fun y h2 => bnd (evalE F c σ h2) fun z h3 => match x, y, z with
    | .int i, .int j, .int k => if small i && small j && decide (k ≠ 0) && decide (k.natAbs < 1073741824) && Builtin.Range.small i j k && decide (0 ≤ Builtin.Range.rangeSize i j k) then some (.ok (.rg (rngC i k (rngN i j k))) h3) else none
    | _, _, _ => none := by first | (simp only [evalI]; done) | (simp only [evalI] <;> rfl)
  have hr := rangeSize_stp (lo := lo) (hi := hi) h0
  have hsm : Builtin.Range.small (lo : Int) (hi : Int) (st : Int) = true := by
    have hle : stpN lo hi st ≤ hi + 1 := by
      unfold stpN
      split
      · have := Nat.div_le_self (hi - lo - 1) st
        omega
      · omega
    unfold Builtin.Range.small
    rw [hr, if_pos (by omega), fitsLong (by omega) (by omega), fitsLong (by omega) (by omega), fitsLong (by omega) (by omega), fitsLong (by omega) (by omega), fitsLong (by omega) (by omega)]
    simp
  rw [e, ha, bnd_ok, hb, bnd_ok, hc, bnd_ok]
  show (if (small (lo : Int) && small (hi : Int) && decide ((st : Int) ≠ 0) && decide ((st : Int).natAbs < 1073741824) && Builtin.Range.small (lo : Int) (hi : Int) (st : Int) && decide (0 ≤ Builtin.Range.rangeSize (lo : Int) (hi : Int) (st : Int))) = true then _ else none) = _
  rw [small_nn lo hl, small_nn hi hh, decide_eq_true (show (st : Int) ≠ 0 by omega), decide_eq_true (show (st : Int).natAbs < 1073741824 by omega), hsm, hr, decide_eq_true (show (0 : Int) ≤ ((stpN lo hi st : Nat) : Int) by omega), if_pos (by rfl)]
  unfold rngN
  rw [hr, Int.toNat_natCast]
end Mi

set_option autoImplicit true
namespace Mi.k15
open PySem PySem.Spec PyProof.Rows L2
def top (i : Nat) : PySem.Stmt := PySem.Challenge.pw_turnseries_k15_whole_signs_brought_and_m.main.body.getD i (.Pass ⟨0, 0, 0, 0⟩)
def fs : List FE := [
  ⟨"is_integer", top 6, ["value"], ["value"]⟩,
  ⟨"is_within", top 7, ["value", "low", "most"], ["value", "low", "most"]⟩,
  ⟨"common_of", top 8, ["one", "other"], ["one", "other"]⟩,
  ⟨"primes_in", top 9, ["number", "found", "prime", "often"], ["number"]⟩,
  ⟨"is_square_free", top 10, ["number", "prime", "often"], ["number"]⟩,
  ⟨"square_free_in", top 11, ["integer", "found", "prime", "often"], ["integer"]⟩,
  ⟨"require_within", top 12, ["value", "low", "most"], ["value", "low", "most"]⟩,
  ⟨"square_free", top 13, ["integer"], ["integer"]⟩,
  ⟨"free_part", top 17, ["sign"], ["sign"]⟩,
  ⟨"sign_from", top 18, ["integer"], ["integer"]⟩,
  ⟨"is_sign_in", top 19, ["value"], ["value"]⟩,
  ⟨"odd_sign", top 20, ["integer", "number", "found"], ["integer", "number"]⟩,
  ⟨"sign_in", top 21, ["sign", "number", "found"], ["sign", "number"]⟩,
  ⟨"times_in", top 22, ["one", "other", "first", "second", "share"], ["one", "other"]⟩,
  ⟨"require_sign", top 23, ["sign", "most"], ["sign", "most"]⟩,
  ⟨"is_sign", top 24, ["value"], ["value"]⟩,
  ⟨"sign_of", top 25, ["sign", "number"], ["sign", "number"]⟩,
  ⟨"sign_by", top 26, ["integer"], ["integer"]⟩,
  ⟨"sign_times", top 27, ["one", "other"], ["one", "other"]⟩,
  ⟨"_law_dice", top 29, ["script", "spot", "cell", "great", "seed"], ["script", "spot"]⟩,
  ⟨"_law_roll", top 30, ["dice", "total", "found", "one", "two"], ["dice", "total"]⟩,
  ⟨"_law_pick", top 31, ["dice", "items"], ["dice", "items"]⟩,
  ⟨"_law_gcd", top 32, ["one", "other"], ["one", "other"]⟩,
  ⟨"_law_primes", top 33, ["number", "found", "prime", "left", "many"], ["number"]⟩,
  ⟨"_law_bare", top 34, ["integer", "found", "prime", "many"], ["integer"]⟩,
  ⟨"_law_sg_by", top 35, ["integer", "bare"], ["integer"]⟩,
  ⟨"_law_sign", top 36, ["dice", "most", "found"], ["dice", "most"]⟩,
  ⟨"_law_right", top 37, ["dice", "integer", "told", "most", "one", "other", "both", "turn", "number", "due"], ["dice"]⟩,
  ⟨"law", top 38, ["script", "spot", "dice", "one"], ["script"]⟩]
def cs : List (PySem.Str × Int) := [("MAX_NUMBER", 1000000), ("MAX_SIGN", 10000), ("GREATEST", 1000000000000)]
def D0 : FnD := ⟨1, 1, [
      (.ret (.and (.isi (.var 0) [.int]) (.not (.isi (.var 0) [.bool]))))]⟩
def D1 : FnD := ⟨3, 3, [
      (.ret (.and (.call 0 [(.var 0)]) (.chn .le .le (.var 1) (.var 0) (.var 2))))]⟩
def D2 : FnD := ⟨2, 2, [
      (.par [0, 1] [(.bi .abs [(.var 0)]), (.bi .abs [(.var 1)])]),
      (.whl (.cmp .gt (.var 1) (.cst (.int 0))) [(.par [0, 1] [(.var 1), (.bin .mod (.var 0) (.var 1))])]),
      (.ret (.var 0))]⟩
def D3 : FnD := ⟨1, 4, [
      (.par [1, 2] [(.lst []), (.cst (.int 2))]),
      (.whl (.cmp .le (.bin .mul (.var 2) (.var 2)) (.var 0)) [(.asg (.var 3) (.cst (.int 0))), (.whl (.cmp .eq (.bin .mod (.var 0) (.var 2)) (.cst (.int 0))) [(.par [0, 3] [(.bin .fdv (.var 0) (.var 2)), (.bin .add (.var 3) (.cst (.int 1)))])]), (.ife (.cmp .gt (.var 3) (.cst (.int 0))) [(.expr (.meth .append (.var 1) [(.tup [(.var 2), (.var 3)])]))] []), (.aug 2 .add (.cst (.int 1)))]),
      (.ret (.ite (.cmp .gt (.var 0) (.cst (.int 1))) (.bin .add (.var 1) (.lst [(.tup [(.var 0), (.cst (.int 1))])])) (.var 1)))]⟩
def D4 : FnD := ⟨1, 3, [
      (.ret (.bi .all [(.lc [1, 2] (.tup [(.var 1), (.var 2)]) (.ex (.call 3 [(.var 0)])) none (.cmp .eq (.var 2) (.cst (.int 1))))]))]⟩
def D5 : FnD := ⟨1, 4, [
      (.asg (.var 1) (.ite (.cmp .gt (.var 0) (.cst (.int 0))) (.cst (.int 1)) (.neg (.cst (.int 1))))),
      (.forr (.tup [(.var 2), (.var 3)]) (.ex (.call 3 [(.bi .abs [(.var 0)])])) [(.ife (.cmp .eq (.bin .mod (.var 3) (.cst (.int 2))) (.cst (.int 1))) [(.asg (.var 1) (.bin .mul (.var 1) (.var 2)))] [])]),
      (.ret (.var 1))]⟩
def D6 : FnD := ⟨3, 3, [
      (.ife (.not (.call 1 [(.var 0), (.var 1), (.var 2)])) [.nev] [])]⟩
def D7 : FnD := ⟨1, 1, [
      (.ife (.or (.not (.call 1 [(.var 0), (.bin .sub (.cst (.int 0)) (.cst (.int 1000000))), (.cst (.int 1000000))])) (.cmp .eq (.var 0) (.cst (.int 0)))) [.nev] []),
      (.ret (.call 5 [(.var 0)]))]⟩
def D8 : FnD := ⟨1, 1, [
      (.ret (.ite (.cmp .eq (.bin .mod (.var 0) (.cst (.int 4))) (.cst (.int 1))) (.var 0) (.bin .fdv (.var 0) (.cst (.int 4)))))]⟩
def D9 : FnD := ⟨1, 1, [
      (.ret (.ite (.cmp .eq (.bin .mod (.var 0) (.cst (.int 4))) (.cst (.int 1))) (.var 0) (.bin .mul (.cst (.int 4)) (.var 0))))]⟩
def D10 : FnD := ⟨1, 1, [
      (.ife (.or (.not (.call 0 [(.var 0)])) (.or (.cmp .eq (.var 0) (.cst (.int 0))) (.cmp .gt (.bi .abs [(.var 0)]) (.cst (.int 1000000000000))))) [(.ret (.cst (.bl false)))] []),
      (.ife (.cmp .eq (.bin .mod (.var 0) (.cst (.int 4))) (.cst (.int 1))) [(.ret (.call 4 [(.bi .abs [(.var 0)])]))] []),
      (.ret (.and (.cmp .eq (.bin .mod (.var 0) (.cst (.int 4))) (.cst (.int 0))) (.and (.cmp .isin (.bin .mod (.bin .fdv (.var 0) (.cst (.int 4))) (.cst (.int 4))) (.tup [(.cst (.int 2)), (.cst (.int 3))])) (.call 4 [(.bi .abs [(.bin .fdv (.var 0) (.cst (.int 4)))])]))))]⟩
def D11 : FnD := ⟨2, 3, [
      (.par [0, 2] [(.bin .mod (.var 0) (.var 1)), (.cst (.int 1))]),
      (.whl (.cmp .ne (.var 0) (.cst (.int 0))) [(.whl (.cmp .eq (.bin .mod (.var 0) (.cst (.int 2))) (.cst (.int 0))) [(.asg (.var 0) (.bin .fdv (.var 0) (.cst (.int 2)))), (.ife (.cmp .isin (.bin .mod (.var 1) (.cst (.int 8))) (.tup [(.cst (.int 3)), (.cst (.int 5))])) [(.asg (.var 2) (.bin .sub (.cst (.int 0)) (.var 2)))] [])]), (.par [0, 1] [(.var 1), (.var 0)]), (.ife (.and (.cmp .eq (.bin .mod (.var 0) (.cst (.int 4))) (.cst (.int 3))) (.cmp .eq (.bin .mod (.var 1) (.cst (.int 4))) (.cst (.int 3)))) [(.asg (.var 2) (.bin .sub (.cst (.int 0)) (.var 2)))] []), (.asg (.var 0) (.bin .mod (.var 0) (.var 1)))]),
      (.ret (.ite (.cmp .eq (.var 1) (.cst (.int 1))) (.var 2) (.cst (.int 0))))]⟩
def D12 : FnD := ⟨2, 3, [
      (.ife (.cmp .eq (.var 0) (.cst (.int 1))) [(.ret (.cst (.int 1)))] []),
      (.ife (.cmp .eq (.var 1) (.cst (.int 0))) [(.ret (.cst (.int 0)))] []),
      (.asg (.var 2) (.cst (.int 1))),
      (.whl (.cmp .eq (.bin .mod (.var 1) (.cst (.int 2))) (.cst (.int 0))) [(.asg (.var 1) (.bin .fdv (.var 1) (.cst (.int 2)))), (.asg (.var 2) (.bin .mul (.var 2) (.ite (.cmp .eq (.bin .mod (.var 0) (.cst (.int 2))) (.cst (.int 0))) (.cst (.int 0)) (.ite (.cmp .eq (.bin .mod (.var 0) (.cst (.int 8))) (.cst (.int 1))) (.cst (.int 1)) (.neg (.cst (.int 1)))))))]),
      (.ret (.ite (.cmp .ne (.var 2) (.cst (.int 0))) (.bin .mul (.var 2) (.call 11 [(.var 0), (.var 1)])) (.cst (.int 0))))]⟩
def D13 : FnD := ⟨2, 5, [
      (.par [2, 3] [(.call 8 [(.var 0)]), (.call 8 [(.var 1)])]),
      (.asg (.var 4) (.call 2 [(.var 2), (.var 3)])),
      (.ret (.call 9 [(.bin .mul (.bin .fdv (.var 2) (.var 4)) (.bin .fdv (.var 3) (.var 4)))]))]⟩
def D14 : FnD := ⟨2, 2, [
      (.ife (.or (.not (.call 1 [(.var 0), (.bin .sub (.cst (.int 0)) (.var 1)), (.var 1)])) (.not (.call 10 [(.var 0)]))) [.nev] [])]⟩
def D15 : FnD := ⟨1, 1, [
      (.ret (.call 10 [(.var 0)]))]⟩
def D16 : FnD := ⟨2, 2, [
      (.expr (.call 14 [(.var 0), (.cst (.int 10000))])),
      (.expr (.call 6 [(.var 1), (.cst (.int 0)), (.bin .sub (.cst (.int 1000000000000)) (.cst (.int 1)))])),
      (.ret (.call 12 [(.var 0), (.var 1)]))]⟩
def D17 : FnD := ⟨1, 1, [
      (.ret (.call 9 [(.call 7 [(.var 0)])]))]⟩
def D18 : FnD := ⟨2, 2, [
      (.expr (.call 14 [(.var 0), (.cst (.int 10000))])),
      (.expr (.call 14 [(.var 1), (.cst (.int 10000))])),
      (.ret (.call 13 [(.var 0), (.var 1)]))]⟩
def D19 : FnD := ⟨2, 5, [
      (.asg (.var 2) (.ite (.cmp .lt (.var 1) (.bi .len [(.var 0)])) (.bi .int [(.ix (.var 0) (.var 1))]) (.bin .add (.bin .mul (.cst (.int 163)) (.var 1)) (.cst (.int 67))))),
      (.asg (.var 3) (.bin .mod (.bi .int [(.bi .abs [(.var 2)])]) (.bin .pow (.bin .pow (.cst (.int 10)) (.cst (.int 54))) (.cst (.int 6))))),
      (.asg (.var 4) (.bin .add (.bin .add (.bin .add (.bin .mul (.bin .mod (.var 3) (.cst (.int 2305843009213693921))) (.cst (.int 79))) (.bin .mul (.cst (.int 761)) (.var 1))) (.bin .mul (.cst (.int 47)) (.bi .int [(.cmp .lt (.var 2) (.cst (.int 0)))]))) (.cst (.int 41)))),
      (.ret (.lst [(.bi .max2 [(.cst (.int 0)), (.bin .sub (.var 3) (.bin .pow (.cst (.int 10)) (.cst (.int 16))))]), (.var 4), (.cst (.int 0))]))]⟩
def D20 : FnD := ⟨2, 5, [
      (.ife (.cmp .gt (.ix (.var 0) (.cst (.int 0))) (.cst (.int 0))) [(.asg (.var 2) (.bin .mod (.ix (.var 0) (.cst (.int 0))) (.var 1))), (.asg (.sub (.var 0) (.cst (.int 0))) (.bin .fdv (.ix (.var 0) (.cst (.int 0))) (.var 1))), (.ret (.bi .int [(.var 2)]))] []),
      (.asg (.sub (.var 0) (.cst (.int 2))) (.bin .add (.ix (.var 0) (.cst (.int 2))) (.cst (.int 1)))),
      (.asg (.var 3) (.bin .mod (.bin .add (.ix (.var 0) (.cst (.int 1))) (.bin .mul (.cst (.int 86028157)) (.ix (.var 0) (.cst (.int 2))))) (.cst (.int 2305843009213693951)))),
      (.asg (.var 4) (.bin .add (.bin .mul (.bin .mod (.bin .add (.bin .mul (.var 3) (.var 3)) (.bin .mul (.cst (.int 193)) (.ix (.var 0) (.cst (.int 2))))) (.cst (.int 2305843009213693907))) (.cst (.int 15485867))) (.var 3))),
      (.ret (.bin .mod (.bi .int [(.bin .fdv (.var 4) (.cst (.int 65579)))]) (.var 1)))]⟩
def D21 : FnD := ⟨2, 2, [
      (.ret (.ix (.var 1) (.call 20 [(.var 0), (.bi .len [(.var 1)])])))]⟩
def D22 : FnD := ⟨2, 2, [
      (.par [0, 1] [(.bi .abs [(.var 0)]), (.bi .abs [(.var 1)])]),
      (.whl (.cmp .ne (.var 1) (.cst (.int 0))) [(.par [0, 1] [(.var 1), (.bin .mod (.var 0) (.var 1))])]),
      (.ret (.var 0))]⟩
def D23 : FnD := ⟨1, 5, [
      (.par [1, 2, 3] [(.lst []), (.cst (.int 2)), (.var 0)]),
      (.whl (.cmp .le (.bin .mul (.var 2) (.var 2)) (.var 3)) [(.asg (.var 4) (.cst (.int 0))), (.whl (.cmp .eq (.bin .mod (.var 3) (.var 2)) (.cst (.int 0))) [(.par [3, 4] [(.bin .fdv (.var 3) (.var 2)), (.bin .add (.var 4) (.cst (.int 1)))])]), (.ife (.cmp .gt (.var 4) (.cst (.int 0))) [(.expr (.meth .append (.var 1) [(.tup [(.var 2), (.var 4)])]))] []), (.asg (.var 2) (.bin .add (.var 2) (.cst (.int 1))))]),
      (.ret (.bin .add (.var 1) (.ite (.cmp .gt (.var 3) (.cst (.int 1))) (.lst [(.tup [(.var 3), (.cst (.int 1))])]) (.lst []))))]⟩
def D24 : FnD := ⟨1, 4, [
      (.asg (.var 1) (.ite (.cmp .gt (.var 0) (.cst (.int 0))) (.cst (.int 1)) (.neg (.cst (.int 1))))),
      (.forr (.tup [(.var 2), (.var 3)]) (.ex (.call 23 [(.bi .abs [(.var 0)])])) [(.ife (.cmp .eq (.bin .mod (.var 3) (.cst (.int 2))) (.cst (.int 1))) [(.asg (.var 1) (.bin .mul (.var 1) (.var 2)))] [])]),
      (.ret (.var 1))]⟩
def D25 : FnD := ⟨1, 2, [
      (.asg (.var 1) (.call 24 [(.var 0)])),
      (.ret (.ite (.cmp .eq (.bin .mod (.var 1) (.cst (.int 4))) (.cst (.int 1))) (.var 1) (.bin .mul (.cst (.int 4)) (.var 1))))]⟩
def D26 : FnD := ⟨2, 3, [
      (.whl (.cst (.bl true)) [(.asg (.var 2) (.call 25 [(.bin .mul (.call 21 [(.var 0), (.lst [(.cst (.int 1)), (.neg (.cst (.int 1)))])]) (.bin .add (.cst (.int 1)) (.call 20 [(.var 0), (.bin .fdv (.var 1) (.cst (.int 4)))])))])), (.ife (.cmp .le (.bi .abs [(.var 2)]) (.var 1)) [(.ret (.var 2))] [])])]⟩
def D27 : FnD := ⟨1, 10, [
      (.asg (.var 1) (.bin .mul (.call 21 [(.var 0), (.lst [(.cst (.int 1)), (.neg (.cst (.int 1)))])]) (.bin .add (.cst (.int 1)) (.call 20 [(.var 0), (.call 21 [(.var 0), (.lst [(.cst (.int 30)), (.cst (.int 1000)), (.cst (.int 200000))])])])))),
      (.asg (.var 2) (.call 17 [(.var 1)])),
      (.ife (.or (.cmp .ne (.var 2) (.call 25 [(.var 1)])) (.or (.cmp .notN (.call 15 [(.var 2)]) (.cst (.bl true))) (.cmp .ne (.call 7 [(.var 2)]) (.call 7 [(.var 1)])))) [(.ret (.cst (.bl false)))] []),
      (.ife (.cmp .ne (.call 17 [(.var 1)]) (.call 17 [(.call 7 [(.var 1)])])) [(.ret (.cst (.bl false)))] []),
      (.asg (.var 3) (.call 21 [(.var 0), (.lst [(.cst (.int 40)), (.cst (.int 400)), (.cst (.int 10000))])])),
      (.par [4, 5] [(.call 26 [(.var 0), (.var 3)]), (.call 26 [(.var 0), (.var 3)])]),
      (.asg (.var 6) (.call 18 [(.var 4), (.var 5)])),
      (.ife (.or (.cmp .ne (.var 6) (.call 25 [(.bin .mul (.call 24 [(.var 4)]) (.call 24 [(.var 5)]))])) (.cmp .ne (.var 6) (.call 18 [(.var 5), (.var 4)]))) [(.ret (.cst (.bl false)))] []),
      (.ife (.or (.cmp .ne (.call 18 [(.var 4), (.var 4)]) (.cst (.int 1))) (.cmp .ne (.call 18 [(.var 4), (.cst (.int 1))]) (.var 4))) [(.ret (.cst (.bl false)))] []),
      (.forr (.var 7) (.r1 (.cst (.int 8))) [(.asg (.var 8) (.call 20 [(.var 0), (.bin .pow (.cst (.int 10)) (.cst (.int 6)))])), (.ife (.cmp .eq (.call 22 [(.var 8), (.bin .mul (.var 4) (.var 5))]) (.cst (.int 1))) [(.asg (.var 9) (.bin .mul (.call 16 [(.var 4), (.var 8)]) (.call 16 [(.var 5), (.var 8)]))), (.ife (.and (.cmp .le (.bi .abs [(.var 6)]) (.cst (.int 10000))) (.cmp .ne (.call 16 [(.var 6), (.var 8)]) (.var 9))) [(.ret (.cst (.bl false)))] [])] [])]),
      (.ret (.or (.cmp .eq (.var 4) (.cst (.int 1))) (.cmp .eq (.call 16 [(.var 4), (.bin .sub (.bi .abs [(.var 4)]) (.cst (.int 1)))]) (.ite (.cmp .gt (.var 4) (.cst (.int 0))) (.cst (.int 1)) (.neg (.cst (.int 1)))))))]⟩
def D28 : FnD := ⟨1, 4, [
      (.forr (.var 1) (.r1 (.bi .max2 [(.cst (.int 1)), (.bi .min2 [(.cst (.int 6)), (.bi .len [(.var 0)])])])) [(.asg (.var 2) (.call 19 [(.var 0), (.var 1)])), (.ife (.or (.not (.call 27 [(.var 2)])) (.not (.call 27 [(.var 2)]))) [(.ret (.cst (.bl false)))] [])]),
      (.ret (.and (.cmp .eq (.lc [3] (.var 3) (.ex (.tup [(.cst (.int 1)), (.cst (.int 4)), (.neg (.cst (.int 1))), (.cst (.int 2)), (.cst (.int 3)), (.neg (.cst (.int 3)))])) none (.call 17 [(.var 3)])) (.lst [(.cst (.int 1)), (.cst (.int 1)), (.neg (.cst (.int 4))), (.cst (.int 8)), (.cst (.int 12)), (.neg (.cst (.int 3)))])) (.cmp .eq (.call 18 [(.neg (.cst (.int 4))), (.cst (.int 8))]) (.neg (.cst (.int 8))))))]⟩
def P : List FnD := [D0, D1, D2, D3, D4, D5, D6, D7, D8, D9, D10, D11, D12, D13, D14, D15, D16, D17, D18, D19, D20, D21, D22, D23, D24, D25, D26, D27, D28]
theorem c0 (k : Nat) (vs : List MV) (h : Hm) : calls P (k + 1) 0 vs h = runFn (calls P k) D0 vs h := rfl
theorem c1 (k : Nat) (vs : List MV) (h : Hm) : calls P (k + 1) 1 vs h = runFn (calls P k) D1 vs h := rfl
theorem c2 (k : Nat) (vs : List MV) (h : Hm) : calls P (k + 1) 2 vs h = runFn (calls P k) D2 vs h := rfl
theorem c3 (k : Nat) (vs : List MV) (h : Hm) : calls P (k + 1) 3 vs h = runFn (calls P k) D3 vs h := rfl
theorem c4 (k : Nat) (vs : List MV) (h : Hm) : calls P (k + 1) 4 vs h = runFn (calls P k) D4 vs h := rfl
theorem c5 (k : Nat) (vs : List MV) (h : Hm) : calls P (k + 1) 5 vs h = runFn (calls P k) D5 vs h := rfl
theorem c6 (k : Nat) (vs : List MV) (h : Hm) : calls P (k + 1) 6 vs h = runFn (calls P k) D6 vs h := rfl
theorem c7 (k : Nat) (vs : List MV) (h : Hm) : calls P (k + 1) 7 vs h = runFn (calls P k) D7 vs h := rfl
theorem c8 (k : Nat) (vs : List MV) (h : Hm) : calls P (k + 1) 8 vs h = runFn (calls P k) D8 vs h := rfl
theorem c9 (k : Nat) (vs : List MV) (h : Hm) : calls P (k + 1) 9 vs h = runFn (calls P k) D9 vs h := rfl
theorem c10 (k : Nat) (vs : List MV) (h : Hm) : calls P (k + 1) 10 vs h = runFn (calls P k) D10 vs h := rfl
theorem c11 (k : Nat) (vs : List MV) (h : Hm) : calls P (k + 1) 11 vs h = runFn (calls P k) D11 vs h := rfl
theorem c12 (k : Nat) (vs : List MV) (h : Hm) : calls P (k + 1) 12 vs h = runFn (calls P k) D12 vs h := rfl
theorem c13 (k : Nat) (vs : List MV) (h : Hm) : calls P (k + 1) 13 vs h = runFn (calls P k) D13 vs h := rfl
theorem c14 (k : Nat) (vs : List MV) (h : Hm) : calls P (k + 1) 14 vs h = runFn (calls P k) D14 vs h := rfl
theorem c15 (k : Nat) (vs : List MV) (h : Hm) : calls P (k + 1) 15 vs h = runFn (calls P k) D15 vs h := rfl
theorem c16 (k : Nat) (vs : List MV) (h : Hm) : calls P (k + 1) 16 vs h = runFn (calls P k) D16 vs h := rfl
theorem c17 (k : Nat) (vs : List MV) (h : Hm) : calls P (k + 1) 17 vs h = runFn (calls P k) D17 vs h := rfl
theorem c18 (k : Nat) (vs : List MV) (h : Hm) : calls P (k + 1) 18 vs h = runFn (calls P k) D18 vs h := rfl
theorem c19 (k : Nat) (vs : List MV) (h : Hm) : calls P (k + 1) 19 vs h = runFn (calls P k) D19 vs h := rfl
theorem c20 (k : Nat) (vs : List MV) (h : Hm) : calls P (k + 1) 20 vs h = runFn (calls P k) D20 vs h := rfl
theorem c21 (k : Nat) (vs : List MV) (h : Hm) : calls P (k + 1) 21 vs h = runFn (calls P k) D21 vs h := rfl
theorem c22 (k : Nat) (vs : List MV) (h : Hm) : calls P (k + 1) 22 vs h = runFn (calls P k) D22 vs h := rfl
theorem c23 (k : Nat) (vs : List MV) (h : Hm) : calls P (k + 1) 23 vs h = runFn (calls P k) D23 vs h := rfl
theorem c24 (k : Nat) (vs : List MV) (h : Hm) : calls P (k + 1) 24 vs h = runFn (calls P k) D24 vs h := rfl
theorem c25 (k : Nat) (vs : List MV) (h : Hm) : calls P (k + 1) 25 vs h = runFn (calls P k) D25 vs h := rfl
theorem c26 (k : Nat) (vs : List MV) (h : Hm) : calls P (k + 1) 26 vs h = runFn (calls P k) D26 vs h := rfl
theorem c27 (k : Nat) (vs : List MV) (h : Hm) : calls P (k + 1) 27 vs h = runFn (calls P k) D27 vs h := rfl
theorem c28 (k : Nat) (vs : List MV) (h : Hm) : calls P (k + 1) 28 vs h = runFn (calls P k) D28 vs h := rfl
theorem f0 (k : Nat) (i : Int) (h : Hm) : calls P (k + 1) 0 [.int i] h = some (.ok (.bl true) h) := by
  rw [c0]
  simp -implicitDefEqProofs [D0, runFn, stoL, sto, MV.nol, e_var, e_cst, e_bin, e_neg, e_not, e_and, e_or, e_ite, e_cmp, e_chn, e_tup, e_lst, e_ix, e_sl, e_rev, e_call, e_bi, e_isi, e_meth, s_asg0, s_par0, s_aug0, s_augS0, s_expr0, s_ret0, s_retN0, s_ife0, s_pass0, s_brk0, s_cnt0, thenS_rt, thenS_nx, es_nil, es_cons, eo_none, eo_some, ec_none, ec_some, et_var, et_tup, et_sub, ets_nil, ets_cons, eb_nil, eb_cons, isTy, tyOf, truth, endFn, handBack, froz, lift, cop, bop, ixV, slV, biV, seq, items, itemsL, stoAll, frz, cmpOf, setSub, getSub, augV, augOk, methV, unl, nl, nolL_ints, pureL_ints, frozL_ints, intsOf_ints, frz_ints]
theorem f1 (k : Nat) (v l m : Int) (h : Hm) : calls P (k + 2) 1 [.int v, .int l, .int m] h = some (.ok (.bl (decide (l ≤ v) && decide (v ≤ m))) h) := by
  rw [c1]
  by_cases h1 : l ≤ v <;> by_cases h2 : v ≤ m <;> simp -implicitDefEqProofs [D1, f0, h1, h2, runFn, stoL, sto, MV.nol, e_var, e_cst, e_bin, e_neg, e_not, e_and, e_or, e_ite, e_cmp, e_chn, e_tup, e_lst, e_ix, e_sl, e_rev, e_call, e_bi, e_isi, e_meth, s_asg0, s_par0, s_aug0, s_augS0, s_expr0, s_ret0, s_retN0, s_ife0, s_pass0, s_brk0, s_cnt0, thenS_rt, thenS_nx, es_nil, es_cons, eo_none, eo_some, ec_none, ec_some, et_var, et_tup, et_sub, ets_nil, ets_cons, eb_nil, eb_cons, isTy, tyOf, truth, endFn, handBack, froz, lift, cop, bop, ixV, slV, biV, seq, items, itemsL, stoAll, frz, cmpOf, setSub, getSub, augV, augOk, methV, unl, nl, nolL_ints, pureL_ints, frozL_ints, intsOf_ints, frz_ints]
theorem f6 (k : Nat) (v l m : Int) (h : Hm) (h1 : l ≤ v) (h2 : v ≤ m) : calls P (k + 3) 6 [.int v, .int l, .int m] h = some (.ok .non h) := by
  rw [c6]
  simp -implicitDefEqProofs [D6, f1, h1, h2, runFn, stoL, sto, MV.nol, e_var, e_cst, e_bin, e_neg, e_not, e_and, e_or, e_ite, e_cmp, e_chn, e_tup, e_lst, e_ix, e_sl, e_rev, e_call, e_bi, e_isi, e_meth, s_asg0, s_par0, s_aug0, s_augS0, s_expr0, s_ret0, s_retN0, s_ife0, s_pass0, s_brk0, s_cnt0, thenS_rt, thenS_nx, es_nil, es_cons, eo_none, eo_some, ec_none, ec_some, et_var, et_tup, et_sub, ets_nil, ets_cons, eb_nil, eb_cons, isTy, tyOf, truth, endFn, handBack, froz, lift, cop, bop, ixV, slV, biV, seq, items, itemsL, stoAll, frz, cmpOf, setSub, getSub, augV, augOk, methV, unl, nl, nolL_ints, pureL_ints, frozL_ints, intsOf_ints, frz_ints]

theorem get_tI (a : List Int) (i : Nat) (h : Hm) (hi : i < a.length) : ixV (tI a) (.int i) h = some (.int (a.getD i 0)) := by
  have e : a.getD i 0 = a[i] := by rw [List.getD_eq_getElem?_getD, List.getElem?_eq_getElem hi]; rfl
  simp -implicitDefEqProofs only [ixV, seq, atI_nat, List.getElem?_map, List.getElem?_eq_getElem hi, Option.map_some, Option.bind_some, unl, e]
theorem small_nat (n : Nat) (h : n ≤ 1000000) : small (n : Int) = true := by
  unfold small
  rw [decide_eq_true (by omega), decide_eq_true (by omega)]; rfl
/-- [e for x in range(n)] of ints -/
theorem lc_range {F : Calls} {own : List Nat} {i : Nat} {it : ME} {elt : ME} {σ : Loc} {h : Hm} {n : Nat} (f : Nat → Int) (hn : n ≤ 1000000) (hi : evalE F it σ h = some (.ok (.int n) h))
    (he : ∀ j, j < n → evalE F elt ((wipeL σ own).set i (some (.int j))) h = some (.ok (.int (f j)) h)) : evalE F (.lc own (.var i) (.r1 it) none elt) σ h = some (.ok (.lst (((List.range n).map f).map .int)) h) := by
  refine e_lc (s := .rg (rng 0 n)) (h1 := h) (by simp -implicitDefEqProofs only [evalI, hi, bnd_ok, small_nat n hn, if_true, Int.toNat_natCast]) (iterC_pure _ ?_ ?_ (fun j y hy => ?_) _ ?_)
  · rw [nth_rng, if_neg (by simp)]
  · simp -implicitDefEqProofs only [List.length_map, List.length_range]
    exact Nat.le_trans hn (by decide)
  · rw [List.getElem?_map, List.getElem?_map] at hy
    by_cases hj : j < n
    · rw [List.getElem?_range hj] at hy
      cases hy
      refine ⟨.int j, (wipeL σ own).set i (some (.int j)), .int (f j), ?_, ?_, ?_, he j hj, rfl, rfl⟩
      · rw [nth_rng, if_pos hj, Int.zero_add]
      · simp -implicitDefEqProofs only [et_var, sto, MV.nol, if_true]
      · simp -implicitDefEqProofs only [ec_none]
    · rw [List.getElem?_eq_none (by simpa using hj)] at hy
      cases hy
  · simp -implicitDefEqProofs [Src.len, rng]
theorem sum_lst (xs : List Int) (h : Hm) : biV .sum [.lst (xs.map .int)] h = some (.int xs.sum) := by
  simp -implicitDefEqProofs only [biV, items, intsOf_ints, Option.map_some]
/-- [e for x in range(lo, lo + n)] of ints -/
theorem lc_range2 {F : Calls} {own : List Nat} {i : Nat} {i1 i2 : ME} {elt : ME} {σ : Loc} {h : Hm} {lo hi : Int} {n : Nat} (f : Nat → Int) (hn : n ≤ 1000000) (e1 : evalE F i1 σ h = some (.ok (.int lo) h)) (e2 : evalE F i2 σ h = some (.ok (.int hi) h)) (hlo : small lo = true) (hhi : small hi = true) (hd : (hi - lo).toNat = n)
    (he : ∀ j, j < n → evalE F elt ((wipeL σ own).set i (some (.int (lo + (j : Nat))))) h = some (.ok (.int (f j)) h)) : evalE F (.lc own (.var i) (.r2 i1 i2) none elt) σ h = some (.ok (.lst (((List.range n).map f).map .int)) h) := by
  refine e_lc (s := .rg (rng lo n)) (h1 := h) (by simp -implicitDefEqProofs only [evalI, e1, e2, bnd_ok, hlo, hhi, Bool.and_self, if_true, hd]) (iterC_pure _ ?_ ?_ (fun j y hy => ?_) _ ?_)
  · rw [nth_rng, if_neg (by simp)]
  · simp -implicitDefEqProofs only [List.length_map, List.length_range]
    exact Nat.le_trans hn (by decide)
  · rw [List.getElem?_map, List.getElem?_map] at hy
    by_cases hj : j < n
    · rw [List.getElem?_range hj] at hy
      cases hy
      refine ⟨.int (lo + (j : Nat)), (wipeL σ own).set i (some (.int (lo + (j : Nat)))), .int (f j), ?_, ?_, ?_, he j hj, rfl, rfl⟩
      · rw [nth_rng, if_pos hj]
      · simp -implicitDefEqProofs only [et_var, sto, MV.nol, if_true]
      · simp -implicitDefEqProofs only [ec_none]
    · rw [List.getElem?_eq_none (by simpa using hj)] at hy
      cases hy
  · simp -implicitDefEqProofs [Src.len, rng]
theorem mulOk_pow {x y : Int} {B C : Nat} (hx : x.natAbs < 2 ^ B) (hy : y.natAbs < 2 ^ C) (h : B + C < 1000000) : mulOk x y = true := mulOk_bd (a := [x]) (b := [y]) (fun z hz => by rw [List.mem_singleton.mp hz]; exact hx) (fun z hz => by rw [List.mem_singleton.mp hz]; exact hy) h x (List.mem_singleton.mpr rfl) y (List.mem_singleton.mpr rfl)
theorem get_last (h : Hm) (xs : List Int) (i : Nat) (hi : i < xs.length) : ixV (.ref h.length) (.int i) (h ++ [.lst (xs.map .int)]) = some (.int (at_ xs i)) := by
  have e : at_ xs i = xs[i] := by unfold at_; rw [List.getD_eq_getElem?_getD, List.getElem?_eq_getElem hi]; rfl
  simp -implicitDefEqProofs only [ixV, seq, items, hl_get, atI_nat, List.getElem?_map, List.getElem?_eq_getElem hi, Option.map_some, Option.bind_some, unl, e]

/-! ### dice -/
def D (a s n : Int) : MO := .lst [.int a, .int s, .int n]
theorem d0 (a s n : Int) (p t : Hm) : ixV (.ref p.length) (.int 0) (p ++ D a s n :: t) = some (.int a) := by
  simp -implicitDefEqProofs only [ixV, seq, items, hx_get0, List.getElem?_cons_zero, D]; rfl
theorem d1 (a s n : Int) (p t : Hm) : ixV (.ref p.length) (.int 1) (p ++ D a s n :: t) = some (.int s) := by
  simp -implicitDefEqProofs only [ixV, seq, items, hx_get0, List.getElem?_cons_zero, D]; rfl
theorem d2 (a s n : Int) (p t : Hm) : ixV (.ref p.length) (.int 2) (p ++ D a s n :: t) = some (.int n) := by
  simp -implicitDefEqProofs only [ixV, seq, items, hx_get0, List.getElem?_cons_zero, D]; rfl
theorem w0 (a s n a' : Int) (p t : Hm) : setSub (.ref p.length) (.int 0) (.int a') (p ++ D a s n :: t) = some (p ++ D a' s n :: t) := by
  simp -implicitDefEqProofs only [setSub, hx_get0, List.getElem?_cons_zero, D, hx_set0]; rfl
theorem w2 (a s n n' : Int) (p t : Hm) : setSub (.ref p.length) (.int 2) (.int n') (p ++ D a s n :: t) = some (p ++ D a s n' :: t) := by
  simp -implicitDefEqProofs only [setSub, hx_get0, List.getElem?_cons_zero, D, hx_set0]; rfl
theorem fmod_pos (i j : Int) (h : 0 < j) : 0 ≤ i.fmod j ∧ i.fmod j < j := by
  rw [Int.fmod_eq_emod_of_nonneg _ (by omega)]
  exact ⟨Int.emod_nonneg _ (by omega), Int.emod_lt_of_pos _ h⟩
theorem bi_fdvK (a b : Int) (h : Hm) (hf : fdvOk b = true) : bop .fdv (.int a) (.int b) h = some (.int (a.fdiv b)) := by
  show (if fdvOk b then some (MV.int (a.fdiv b)) else none) = _
  rw [hf]; rfl
theorem roll_ok (k : Nat) (a s n total : Int) (p t : Hm) (ht : 0 < total) (hf : fdvOk total = true) : ∃ v a' n', 0 ≤ v ∧ v < total ∧ calls P (k + 1) 20 [.ref p.length, .int total] (p ++ D a s n :: t) = some (.ok (.int v) (p ++ D a' s n' :: t)) := by
  have hne : total ≠ 0 := by omega
  by_cases ha : 0 < a
  · refine ⟨a.fmod total, a.fdiv total, n, (fmod_pos a total ht).1, (fmod_pos a total ht).2, ?_⟩
    rw [c20]
    have bm := bi_mod a total (p ++ D a s n :: t) hne
    have bd := bi_fdvK a total (p ++ D a s n :: t) hf
    simp -implicitDefEqProofs only [runFn, stoL, sto, MV.nol, nolL, if_true, List.length_cons, List.length_nil, List.map_cons, List.map_nil, List.cons_append, List.nil_append, Nat.reduceSub, Nat.reduceAdd, Nat.zero_add, List.replicate, D20]
    simp -implicitDefEqProofs (disch := first | omega | assumption | rfl | decide | (simp -implicitDefEqProofs only [frz, MV.pure, pureL, MV.nol, nolL, Bool.and_self, pureL_ints, pureL_nI, nolL_ints]; done) | (simp -implicitDefEqProofs only [List.length_map, List.length_append, List.length_cons, List.length_nil, List.length_reverse]; omega)) only [stoL, sto, MV.nol, nolL, MV.pure, pureL, e_var, e_cst, e_bin, e_neg, e_not, e_and, e_or, e_ite, e_cmp, e_chn, e_tup, e_lst, e_ix, e_sl, e_rev, e_call, e_bi, e_isi, e_meth, s_asg0, s_par0, s_aug0, s_augS0, s_expr0, s_ret0, s_retN0, s_ife0, s_pass0, s_brk0, s_cnt0, es_nil, es_cons, eo_none, eo_some, ec_none, ec_some, et_var, et_tup, et_sub, ets_nil, ets_cons, eb_nil, eb_cons, truth, endFn, handBack, froz, frozL, frz, stoAll, unl, nl, nolL_ints, pureL_ints, frozL_ints, intsOf_ints, frz_ints, pureL_nI, nolL_nI, frozL_nI, hx_get0, hx_getS, hx_set0, hx_setS, hx_take, hx_take1, hx_take2, hx_take3, hx_take4, hx_get3, hx_len, hx_app, hx_ge, hx_ge0, itemsL, items, seq, m_app0, m_app1, m_app2, add_ll, add_rl0, add_rl1, evalI, cmpOf, bv_tup, bv_tupt, bv_tupf, bv_lenl, bv_lent, bv_lenf, bv_lens, bv_lenr0, bv_lenr1, bv_int, bv_intb, List.getElem?_nil, List.take_succ_cons, List.take_nil, List.take_length, List.take_zero, and_true, true_and, and_false, false_and, List.getElem?_cons_zero, List.getElem?_cons_succ, List.set_cons_zero, List.set_cons_succ, List.length_cons, List.length_nil, List.cons_append, List.nil_append, List.append_nil, List.map_cons, List.map_nil, List.length_map, List.replicate, List.all_cons, List.all_nil, Nat.reduceSub, Nat.reduceAdd, Nat.reduceLT, Nat.reduceLeDiff, Nat.zero_add, Nat.add_zero, and_self, if_true, if_false, ite_true, ite_false, decide_true, decide_false, Bool.not_true, Bool.not_false, Bool.and_true, Bool.true_and, Bool.and_false, Bool.false_and, Bool.or_true, Bool.true_or, Bool.or_false, Bool.false_or, Bool.and_self, bnd_ok, bnd_ex, exS_ok, exS_ex, lift_some, noX_ok, thenS_rt, thenS_nx, thenS_bk, thenS_ct, thenS_ex, Option.map_some, Option.bind_some, Option.some.injEq, reduceCtorEq, ite_self, Bool.false_eq_true, not_true_eq_false, not_false_eq_true, eq_self, Int.reduceSub, Int.reduceAdd, Int.reduceMul, Int.reduceNeg, bi_add, bi_sub, ci_le, ci_lt, ci_ge, ci_gt, ci_eq, ci_ne, d0, ha, bm, bd, w0]
  · obtain ⟨o, ho⟩ : ∃ o, o = (s + 86028157 * (n + 1)).fmod 2305843009213693951 := ⟨_, rfl⟩
    obtain ⟨q, hq⟩ : ∃ q, q = (o * o + 193 * (n + 1)).fmod 2305843009213693907 * 15485867 + o := ⟨_, rfl⟩
    refine ⟨(q.fdiv 65579).fmod total, a, n + 1, (fmod_pos _ total ht).1, (fmod_pos _ total ht).2, ?_⟩
    rw [c20]
    have hoo := fmod_pos (s + 86028157 * (n + 1)) 2305843009213693951 (by decide)
    rw [← ho] at hoo
    have m1 : ∀ hh, bop .mul (.int 86028157) (.int (n + 1)) hh = some (.int (86028157 * (n + 1))) := fun hh => bi_mul _ _ _ (.inl (by decide))
    have m2 : ∀ hh, bop .mul (.int o) (.int o) hh = some (.int (o * o)) := fun hh => bi_mul _ _ _ (.inl (by omega))
    have m3 : ∀ hh, bop .mul (.int 193) (.int (n + 1)) hh = some (.int (193 * (n + 1))) := fun hh => bi_mul _ _ _ (.inl (by decide))
    have m4 : ∀ (i : Int) hh, bop .mul (.int i) (.int 15485867) hh = some (.int (i * 15485867)) := fun i hh => bi_mul _ _ _ (.inr (by decide))
    have o1 : ∀ hh, bop .mod (.int (s + 86028157 * (n + 1))) (.int 2305843009213693951) hh = some (.int o) := fun hh => by rw [bi_mod _ _ _ (by decide), ho]
    have o2 : ∀ hh, bop .mod (.int (o * o + 193 * (n + 1))) (.int 2305843009213693907) hh = some (.int ((o * o + 193 * (n + 1)).fmod 2305843009213693907)) := fun hh => bi_mod _ _ _ (by decide)
    have o3 : ∀ hh, bop .fdv (.int q) (.int 65579) hh = some (.int (q.fdiv 65579)) := fun hh => bi_fdv _ _ _ (by decide) (by decide)
    have o4 : ∀ hh, bop .mod (.int (q.fdiv 65579)) (.int total) hh = some (.int ((q.fdiv 65579).fmod total)) := fun hh => bi_mod _ _ _ hne
    simp -implicitDefEqProofs only [runFn, stoL, sto, MV.nol, nolL, if_true, List.length_cons, List.length_nil, List.map_cons, List.map_nil, List.cons_append, List.nil_append, Nat.reduceSub, Nat.reduceAdd, Nat.zero_add, List.replicate, D20]
    simp -implicitDefEqProofs (disch := first | omega | assumption | rfl | decide | (simp -implicitDefEqProofs only [frz, MV.pure, pureL, MV.nol, nolL, Bool.and_self, pureL_ints, pureL_nI, nolL_ints]; done) | (simp -implicitDefEqProofs only [List.length_map, List.length_append, List.length_cons, List.length_nil, List.length_reverse]; omega)) only [stoL, sto, MV.nol, nolL, MV.pure, pureL, e_var, e_cst, e_bin, e_neg, e_not, e_and, e_or, e_ite, e_cmp, e_chn, e_tup, e_lst, e_ix, e_sl, e_rev, e_call, e_bi, e_isi, e_meth, s_asg0, s_par0, s_aug0, s_augS0, s_expr0, s_ret0, s_retN0, s_ife0, s_pass0, s_brk0, s_cnt0, es_nil, es_cons, eo_none, eo_some, ec_none, ec_some, et_var, et_tup, et_sub, ets_nil, ets_cons, eb_nil, eb_cons, truth, endFn, handBack, froz, frozL, frz, stoAll, unl, nl, nolL_ints, pureL_ints, frozL_ints, intsOf_ints, frz_ints, pureL_nI, nolL_nI, frozL_nI, hx_get0, hx_getS, hx_set0, hx_setS, hx_take, hx_take1, hx_take2, hx_take3, hx_take4, hx_get3, hx_len, hx_app, hx_ge, hx_ge0, itemsL, items, seq, m_app0, m_app1, m_app2, add_ll, add_rl0, add_rl1, evalI, cmpOf, bv_tup, bv_tupt, bv_tupf, bv_lenl, bv_lent, bv_lenf, bv_lens, bv_lenr0, bv_lenr1, bv_int, bv_intb, List.getElem?_nil, List.take_succ_cons, List.take_nil, List.take_length, List.take_zero, and_true, true_and, and_false, false_and, List.getElem?_cons_zero, List.getElem?_cons_succ, List.set_cons_zero, List.set_cons_succ, List.length_cons, List.length_nil, List.cons_append, List.nil_append, List.append_nil, List.map_cons, List.map_nil, List.length_map, List.replicate, List.all_cons, List.all_nil, Nat.reduceSub, Nat.reduceAdd, Nat.reduceLT, Nat.reduceLeDiff, Nat.zero_add, Nat.add_zero, and_self, if_true, if_false, ite_true, ite_false, decide_true, decide_false, Bool.not_true, Bool.not_false, Bool.and_true, Bool.true_and, Bool.and_false, Bool.false_and, Bool.or_true, Bool.true_or, Bool.or_false, Bool.false_or, Bool.and_self, bnd_ok, bnd_ex, exS_ok, exS_ex, lift_some, noX_ok, thenS_rt, thenS_nx, thenS_bk, thenS_ct, thenS_ex, Option.map_some, Option.bind_some, Option.some.injEq, reduceCtorEq, ite_self, Bool.false_eq_true, not_true_eq_false, not_false_eq_true, eq_self, Int.reduceSub, Int.reduceAdd, Int.reduceMul, Int.reduceNeg, bi_add, bi_sub, ci_le, ci_lt, ci_ge, ci_gt, ci_eq, ci_ne, d0, d1, d2, ha, w2, m1, o1, m2, m3, o2, m4, ← hq, o3, o4]
/-- one of a list's values -/
theorem pick_ok (k : Nat) (a s n : Int) (xs : List MV) (p t : Hm) (hx : 1 ≤ xs.length) (hx2 : xs.length ≤ 1000) (hp : pureL xs = true) : ∃ v a' n', v ∈ xs ∧ calls P (k + 2) 21 [.ref p.length, .lst xs] (p ++ D a s n :: t) = some (.ok v (p ++ D a' s n' :: t)) := by
  obtain ⟨v, a', n', v0, v1, e⟩ := roll_ok k a s n xs.length p (t ++ [.lst xs]) (by omega) (fdvOk_nat _ (by omega) (by omega))
  obtain ⟨j, rfl⟩ : ∃ j : Nat, v = j := ⟨v.toNat, by omega⟩
  have hj : j < xs.length := by omega
  have pe : ∀ {xs : List MV} {j : Nat} (h : j < xs.length), pureL xs = true → xs[j].pure = true := fun {xs} => by
    induction xs with
    | nil => intro j h; simp at h
    | cons x xs ih =>
      intro j h hp
      simp -implicitDefEqProofs only [pureL, Bool.and_eq_true] at hp
      cases j with
      | zero => exact hp.1
      | succ j => exact ih (by simpa using h) hp.2
  have hv := pe hj hp
  refine ⟨xs[j], a', n', List.getElem_mem hj, ?_⟩
  rw [c21]
  have hu : unl xs[j] = some xs[j] := by
    cases hq : xs[j] <;> first | rfl | (rw [hq] at hv; cases hv)
  have el : ∀ d : MO, biV .len [.ref (p.length + (t.length + 1))] (p ++ d :: (t ++ [.lst xs])) = some (.int xs.length) := fun d => by
    simp -implicitDefEqProofs only [biV, seq, items, hx_get3, Option.map_some]
  have ei : ∀ d : MO, ixV (.ref (p.length + (t.length + 1))) (.int j) (p ++ d :: (t ++ [.lst xs])) = some xs[j] := fun d => by
    simp -implicitDefEqProofs only [ixV, seq, items, hx_get3, atI_nat, List.getElem?_eq_getElem hj, Option.bind_some, hu]
  have hb : ∀ l, handBack (p.length + (t.length + 1)) xs[j] (p ++ D a' s n' :: (t ++ l)) = some (.ok xs[j] (p ++ D a' s n' :: t)) := fun l => by
    unfold handBack
    split
    · rename_i k hk; rw [hk] at hv; cases hv
    · rw [froz_pure _ _ _ hv, hx_take3]
  simp -implicitDefEqProofs only [runFn, D21, stoL, sto, MV.nol, hp, hx_app, hx_len, if_true, List.length_cons, List.length_nil, List.map_cons, List.map_nil, List.cons_append, List.nil_append, Nat.reduceSub, List.replicate, eb_cons, eb_nil, s_ret0, e_ix, e_var, e_call, e_bi, es_cons, es_nil, List.getElem?_cons_zero, List.getElem?_cons_succ, bnd_ok, el, lift_some, e, ei, exS_ok, thenS_rt, endFn, hb]
/-- 10 ** 54 and the like are never written out -/
theorem pow6 (b : Int) (h : Hm) (hk : powOk b 6 = true) : bop .pow (.int b) (.int 6) h = some (.int (b ^ 6)) := by
  show (if powOk b 6 then some (MV.int (b ^ (6 : Int).toNat)) else none) = _
  rw [hk]; rfl
theorem dice_ok (k : Nat) (ns : List Int) (spot : Nat) (h : Hm) : ∃ a s, calls P (k + 1) 19 [.scr ns, .int spot] h = some (.ok (.lst [.int a, .int s, .int 0]) h) := by
  have p1 : ∀ h, bop .pow (.int 10) (.int 54) h = some (.int (10 ^ 54)) := fun h => by rfl
  have pk : powOk (10 ^ 54) 6 = true := by decide +kernel
  have p2 : ∀ h, bop .pow (.int (10 ^ 54)) (.int 6) h = some (.int ((10 ^ 54) ^ 6)) := fun h => pow6 _ h pk
  have p3 : ∀ h, bop .pow (.int 10) (.int 16) h = some (.int (10 ^ 16)) := fun h => by rfl
  have hb : ((10 ^ 54) ^ 6 : Int) ≠ 0 := by decide +kernel
  generalize ((10 ^ 54) ^ 6 : Int) = big at p2 hb
  generalize ((10 ^ 54) : Int) = b1 at p1 p2
  generalize ((10 ^ 16) : Int) = b2 at p3
  have q3 : ∀ (i : Int) h, bop .mod (.int i) (.int big) h = some (.int (i.fmod big)) := fun i h => bi_mod _ _ _ hb
  have q4 : ∀ (i : Int) h, bop .mod (.int i) (.int 2305843009213693921) h = some (.int (i.fmod 2305843009213693921)) := fun i h => bi_mod _ _ _ (by decide)
  have q5 : ∀ (i : Int) h, bop .mul (.int i) (.int 79) h = some (.int (i * 79)) := fun i h => bi_mul _ _ _ (.inr (by decide))
  have q6 : ∀ (i : Int) h, bop .mul (.int 761) (.int i) h = some (.int (761 * i)) := fun i h => bi_mul _ _ _ (.inl (by decide))
  have q7 : ∀ (i : Int) h, bop .mul (.int 47) (.int i) h = some (.int (47 * i)) := fun i h => bi_mul _ _ _ (.inl (by decide))
  have q8 : ∀ (i : Int) h, bop .mul (.int 163) (.int i) h = some (.int (163 * i)) := fun i h => bi_mul _ _ _ (.inl (by decide))
  have ba : ∀ i h, biV .abs [.int i] h = some (.int (if i < 0 then -i else i)) := fun _ _ => rfl
  have bm : ∀ i j h, biV .max2 [.int i, .int j] h = some (.int (if j > i then j else i)) := fun _ _ _ => rfl
  by_cases hs : spot < ns.length
  · have g : ∀ hh, ixV (.scr ns) (.int spot) hh = some (.int ns[spot]) := fun hh => by
      simp -implicitDefEqProofs only [ixV, seq, items, atI_nat, List.getElem?_map, List.getElem?_eq_getElem hs, Option.map_some, Option.bind_some, unl]
    have hs' : ((spot : Int) < (ns.length : Int)) := by omega
    refine ⟨?_, ?_, ?_⟩
    rotate_left 2
    · rw [c19]
      simp -implicitDefEqProofs only [runFn, stoL, sto, MV.nol, nolL, if_true, List.length_cons, List.length_nil, List.map_cons, List.map_nil, List.cons_append, List.nil_append, Nat.reduceSub, Nat.reduceAdd, Nat.zero_add, List.replicate, D19]
      simp -implicitDefEqProofs (disch := first | omega | assumption | rfl | decide | (simp -implicitDefEqProofs only [frz, MV.pure, pureL, MV.nol, nolL, Bool.and_self, pureL_ints, pureL_nI, nolL_ints]; done) | (simp -implicitDefEqProofs only [List.length_map, List.length_append, List.length_cons, List.length_nil, List.length_reverse]; omega)) only [stoL, sto, MV.nol, nolL, MV.pure, pureL, e_var, e_cst, e_bin, e_neg, e_not, e_and, e_or, e_ite, e_cmp, e_chn, e_tup, e_lst, e_ix, e_sl, e_rev, e_call, e_bi, e_isi, e_meth, s_asg0, s_par0, s_aug0, s_augS0, s_expr0, s_ret0, s_retN0, s_ife0, s_pass0, s_brk0, s_cnt0, es_nil, es_cons, eo_none, eo_some, ec_none, ec_some, et_var, et_tup, et_sub, ets_nil, ets_cons, eb_nil, eb_cons, truth, endFn, handBack, froz, frozL, frz, stoAll, unl, nl, nolL_ints, pureL_ints, frozL_ints, intsOf_ints, frz_ints, pureL_nI, nolL_nI, frozL_nI, hx_get0, hx_getS, hx_set0, hx_setS, hx_take, hx_take1, hx_take2, hx_take3, hx_take4, hx_get3, hx_len, hx_app, hx_ge, hx_ge0, itemsL, items, seq, m_app0, m_app1, m_app2, add_ll, add_rl0, add_rl1, evalI, cmpOf, bv_tup, bv_tupt, bv_tupf, bv_lenl, bv_lent, bv_lenf, bv_lens, bv_lenr0, bv_lenr1, bv_int, bv_intb, List.getElem?_nil, List.take_succ_cons, List.take_nil, List.take_length, List.take_zero, and_true, true_and, and_false, false_and, List.getElem?_cons_zero, List.getElem?_cons_succ, List.set_cons_zero, List.set_cons_succ, List.length_cons, List.length_nil, List.cons_append, List.nil_append, List.append_nil, List.map_cons, List.map_nil, List.length_map, List.replicate, List.all_cons, List.all_nil, Nat.reduceSub, Nat.reduceAdd, Nat.reduceLT, Nat.reduceLeDiff, Nat.zero_add, Nat.add_zero, and_self, if_true, if_false, ite_true, ite_false, decide_true, decide_false, Bool.not_true, Bool.not_false, Bool.and_true, Bool.true_and, Bool.and_false, Bool.false_and, Bool.or_true, Bool.true_or, Bool.or_false, Bool.false_or, Bool.and_self, bnd_ok, bnd_ex, exS_ok, exS_ex, lift_some, noX_ok, thenS_rt, thenS_nx, thenS_bk, thenS_ct, thenS_ex, Option.map_some, Option.bind_some, Option.some.injEq, reduceCtorEq, ite_self, Bool.false_eq_true, not_true_eq_false, not_false_eq_true, eq_self, Int.reduceSub, Int.reduceAdd, Int.reduceMul, Int.reduceNeg, bi_add, bi_sub, ci_le, ci_lt, ci_ge, ci_gt, ci_eq, ci_ne, hs', g, p1, p2, p3, q3, q4, q5, q6, q7, q8, ba, bm]
      rfl
  · have hs' : ¬ ((spot : Int) < (ns.length : Int)) := by omega
    refine ⟨?_, ?_, ?_⟩
    rotate_left 2
    · rw [c19]
      simp -implicitDefEqProofs only [runFn, stoL, sto, MV.nol, nolL, if_true, List.length_cons, List.length_nil, List.map_cons, List.map_nil, List.cons_append, List.nil_append, Nat.reduceSub, Nat.reduceAdd, Nat.zero_add, List.replicate, D19]
      simp -implicitDefEqProofs (disch := first | omega | assumption | rfl | decide | (simp -implicitDefEqProofs only [frz, MV.pure, pureL, MV.nol, nolL, Bool.and_self, pureL_ints, pureL_nI, nolL_ints]; done) | (simp -implicitDefEqProofs only [List.length_map, List.length_append, List.length_cons, List.length_nil, List.length_reverse]; omega)) only [stoL, sto, MV.nol, nolL, MV.pure, pureL, e_var, e_cst, e_bin, e_neg, e_not, e_and, e_or, e_ite, e_cmp, e_chn, e_tup, e_lst, e_ix, e_sl, e_rev, e_call, e_bi, e_isi, e_meth, s_asg0, s_par0, s_aug0, s_augS0, s_expr0, s_ret0, s_retN0, s_ife0, s_pass0, s_brk0, s_cnt0, es_nil, es_cons, eo_none, eo_some, ec_none, ec_some, et_var, et_tup, et_sub, ets_nil, ets_cons, eb_nil, eb_cons, truth, endFn, handBack, froz, frozL, frz, stoAll, unl, nl, nolL_ints, pureL_ints, frozL_ints, intsOf_ints, frz_ints, pureL_nI, nolL_nI, frozL_nI, hx_get0, hx_getS, hx_set0, hx_setS, hx_take, hx_take1, hx_take2, hx_take3, hx_take4, hx_get3, hx_len, hx_app, hx_ge, hx_ge0, itemsL, items, seq, m_app0, m_app1, m_app2, add_ll, add_rl0, add_rl1, evalI, cmpOf, bv_tup, bv_tupt, bv_tupf, bv_lenl, bv_lent, bv_lenf, bv_lens, bv_lenr0, bv_lenr1, bv_int, bv_intb, List.getElem?_nil, List.take_succ_cons, List.take_nil, List.take_length, List.take_zero, and_true, true_and, and_false, false_and, List.getElem?_cons_zero, List.getElem?_cons_succ, List.set_cons_zero, List.set_cons_succ, List.length_cons, List.length_nil, List.cons_append, List.nil_append, List.append_nil, List.map_cons, List.map_nil, List.length_map, List.replicate, List.all_cons, List.all_nil, Nat.reduceSub, Nat.reduceAdd, Nat.reduceLT, Nat.reduceLeDiff, Nat.zero_add, Nat.add_zero, and_self, if_true, if_false, ite_true, ite_false, decide_true, decide_false, Bool.not_true, Bool.not_false, Bool.and_true, Bool.true_and, Bool.and_false, Bool.false_and, Bool.or_true, Bool.true_or, Bool.or_false, Bool.false_or, Bool.and_self, bnd_ok, bnd_ex, exS_ok, exS_ex, lift_some, noX_ok, thenS_rt, thenS_nx, thenS_bk, thenS_ct, thenS_ex, Option.map_some, Option.bind_some, Option.some.injEq, reduceCtorEq, ite_self, Bool.false_eq_true, not_true_eq_false, not_false_eq_true, eq_self, Int.reduceSub, Int.reduceAdd, Int.reduceMul, Int.reduceNeg, bi_add, bi_sub, ci_le, ci_lt, ci_ge, ci_gt, ci_eq, ci_ne, hs', p1, p2, p3, q3, q4, q5, q6, q7, q8, ba, bm]
      rfl

theorem mulOk_l (i j : Int) (h : i.natAbs < 18446744073709551616) : mulOk i j = true := mulOk_l' j h
theorem mulOk_r (i j : Int) (h : j.natAbs < 18446744073709551616) : mulOk i j = true := mulOk_r' i h

/-- how many turns Euclid's loop takes at most -/
def gm (a m : Nat) : Nat := if m = 0 then 0 else 1 + (Nat.log2 (a * m) + if a < m then 1 else 0)
theorem log2_half {p q : Nat} (hq : 0 < q) (h : 2 * q ≤ p) : Nat.log2 q < Nat.log2 p := by
  have h1 : 2 ^ Nat.log2 q ≤ q := Nat.log2_self_le (by omega)
  have h2 : 2 ^ (Nat.log2 q + 1) ≤ p := by rw [Nat.pow_succ]; omega
  have := (Nat.le_log2 (by omega)).mpr h2
  omega
theorem gm_step (a m : Nat) (hm : m ≠ 0) : gm m (a % m) < gm a m := by
  unfold gm
  rw [if_neg hm]
  by_cases h0 : a % m = 0
  · rw [if_pos h0]; omega
  · rw [if_neg h0]
    have hlt := Nat.mod_lt a (show m > 0 by omega)
    rw [if_neg (show ¬ m < a % m by omega)]
    by_cases ha : a < m
    · rw [if_pos ha, Nat.mod_eq_of_lt ha, Nat.mul_comm m a]; omega
    · rw [if_neg ha]
      have hd : a % m + m ≤ a := by
        have := Nat.div_add_mod a m
        have h1 : 1 ≤ a / m := (Nat.one_le_div_iff (by omega)).mpr (by omega)
        have h2 : m * 1 ≤ m * (a / m) := Nat.mul_le_mul_left _ h1
        omega
      have : Nat.log2 (m * (a % m)) < Nat.log2 (a * m) := log2_half (Nat.mul_pos (by omega) (by omega)) (by
        rw [Nat.mul_comm a m, ← Nat.mul_assoc, Nat.mul_comm 2 m, Nat.mul_assoc]
        exact Nat.mul_le_mul_left _ (by omega))
      omega
theorem gm_lt (a m B : Nat) (h : a * m < 2 ^ B) : gm a m ≤ B + 2 := by
  unfold gm
  split
  · omega
  · have := log2_lt h
    split <;> omega

theorem f2 (k B : Nat) (x y : Int) (h : Hm) (hB : x.natAbs * y.natAbs < 2 ^ B) (hB2 : B ≤ 1000000) : calls P (k + 1) 2 [.int x, .int y] h = some (.ok (.int (Nat.gcd x.natAbs y.natAbs)) h) := by
  rw [c2]
  obtain ⟨σ', h', e1, rfl, s, rfl⟩ := iterW_inv (c := fun σ h => evalC (calls P k) (some (.cmp .gt (.var 1) (.cst (.int 0)))) σ h)
    (b := fun σ h => execB (calls P k) [(.par [0, 1] [(.var 1), (.bin .mod (.var 0) (.var 1))])] σ h)
    (fun L σ hh => hh = h ∧ ∃ a m : Nat, L = gm a m ∧ σ = [some (.int a), some (.int m)] ∧ Nat.gcd a m = Nat.gcd x.natAbs y.natAbs)
    (fun σ hh => hh = h ∧ ∃ s, σ = [some (.int (Nat.gcd x.natAbs y.natAbs)), s])
    (fun L σ hh ⟨g1, a, m, gL, g2, g3⟩ => by
      subst g1
      subst g2
      subst gL
      by_cases hm : m = 0
      · subst hm
        have t1 : cop .gt (.int ((0 : Nat) : Int)) (.int 0) hh = some false := rfl
        refine .inl ⟨?_, rfl, some (.int ((0 : Nat) : Int)), by rw [← g3, Nat.gcd_zero_right]⟩
        simp -implicitDefEqProofs only [ec_some, e_cmp, e_var, e_cst, List.getElem?_cons_zero, List.getElem?_cons_succ, bnd_ok, t1, Option.map_some, lift_some, truth]
      · have t1 : cop .gt (.int (m : Int)) (.int 0) hh = some true := by
          have d0 : decide ((0 : Int) < (m : Int)) = true := decide_eq_true (by omega)
          have d1 : decide ((m : Int) = 0) = false := decide_eq_false (by omega)
          simp -implicitDefEqProofs only [cop, d0, d1]
          try rfl
        have t2 : bop .mod (.int (a : Int)) (.int (m : Int)) hh = some (.int ((a % m : Nat) : Int)) := by
          show (if (m : Int) ≠ 0 then some (MV.int ((a : Int).fmod m)) else none) = _
          rw [if_pos (by omega), Int.fmod_eq_emod_of_nonneg _ (by omega), Int.natCast_emod]
        refine .inr ⟨hh, gm m (a % m), [some (.int (m : Int)), some (.int ((a % m : Nat) : Int))], hh, ?_, ?_, gm_step a m hm, rfl, m, a % m, rfl, rfl, ?_⟩
        · simp -implicitDefEqProofs only [ec_some, e_cmp, e_var, e_cst, List.getElem?_cons_zero, List.getElem?_cons_succ, bnd_ok, t1, Option.map_some, lift_some, truth]
        · simp -implicitDefEqProofs only [eb_cons, eb_nil, s_par0, es_cons, es_nil, e_var, e_bin, List.getElem?_cons_zero, List.getElem?_cons_succ, bnd_ok, t2, lift_some, exS_ok, stoAll, sto, MV.nol, if_true, List.set_cons_zero, List.set_cons_succ, thenS_nx]
        · rw [← g3, Nat.gcd_comm m, ← Nat.gcd_rec, Nat.gcd_comm])
    iterMax (gm x.natAbs y.natAbs) [some (.int (x.natAbs : Int)), some (.int (y.natAbs : Int))] h (Nat.lt_of_le_of_lt (Nat.le_trans (gm_lt _ _ B hB) (show B + 2 ≤ 1000002 by omega)) (by decide)) ⟨rfl, x.natAbs, y.natAbs, rfl, rfl, rfl⟩
  have ew := s_whl0 e1
  have ab : ∀ z : Int, biV .abs [.int z] h' = some (.int (z.natAbs : Int)) := fun z => by
    show some (MV.int (if z < 0 then -z else z)) = _
    by_cases hz : z < 0
    · rw [if_pos hz]; congr 2; omega
    · rw [if_neg hz]; congr 2; omega
  simp -implicitDefEqProofs only [D2, runFn, stoL, sto, MV.nol, if_true, List.length_cons, List.length_nil, List.map_cons, List.map_nil, List.cons_append, List.nil_append, Nat.reduceSub, List.replicate, Nat.zero_add, Nat.reduceAdd, eb_cons, eb_nil, s_par0, e_bi, es_cons, es_nil, e_var, List.getElem?_cons_zero, List.getElem?_cons_succ, bnd_ok, ab, lift_some, exS_ok, stoAll, List.set_cons_zero, List.set_cons_succ, thenS_nx, ew, s_ret0, thenS_rt, endFn, handBack, froz, List.take_length]

theorem f22 (k B : Nat) (x y : Int) (h : Hm) (hB : x.natAbs * y.natAbs < 2 ^ B) (hB2 : B ≤ 1000000) : calls P (k + 1) 22 [.int x, .int y] h = some (.ok (.int (Nat.gcd x.natAbs y.natAbs)) h) := by
  rw [c22]
  obtain ⟨σ', h', e1, rfl, s, rfl⟩ := iterW_inv (c := fun σ h => evalC (calls P k) (some (.cmp .ne (.var 1) (.cst (.int 0)))) σ h)
    (b := fun σ h => execB (calls P k) [(.par [0, 1] [(.var 1), (.bin .mod (.var 0) (.var 1))])] σ h)
    (fun L σ hh => hh = h ∧ ∃ a m : Nat, L = gm a m ∧ σ = [some (.int a), some (.int m)] ∧ Nat.gcd a m = Nat.gcd x.natAbs y.natAbs)
    (fun σ hh => hh = h ∧ ∃ s, σ = [some (.int (Nat.gcd x.natAbs y.natAbs)), s])
    (fun L σ hh ⟨g1, a, m, gL, g2, g3⟩ => by
      subst g1
      subst g2
      subst gL
      by_cases hm : m = 0
      · subst hm
        have t1 : cop .ne (.int ((0 : Nat) : Int)) (.int 0) hh = some false := rfl
        refine .inl ⟨?_, rfl, some (.int ((0 : Nat) : Int)), by rw [← g3, Nat.gcd_zero_right]⟩
        simp -implicitDefEqProofs only [ec_some, e_cmp, e_var, e_cst, List.getElem?_cons_zero, List.getElem?_cons_succ, bnd_ok, t1, Option.map_some, lift_some, truth]
      · have t1 : cop .ne (.int (m : Int)) (.int 0) hh = some true := by
          have d0 : decide ((0 : Int) < (m : Int)) = true := decide_eq_true (by omega)
          have d1 : decide ((m : Int) = 0) = false := decide_eq_false (by omega)
          simp -implicitDefEqProofs only [cop, d0, d1]
          try rfl
        have t2 : bop .mod (.int (a : Int)) (.int (m : Int)) hh = some (.int ((a % m : Nat) : Int)) := by
          show (if (m : Int) ≠ 0 then some (MV.int ((a : Int).fmod m)) else none) = _
          rw [if_pos (by omega), Int.fmod_eq_emod_of_nonneg _ (by omega), Int.natCast_emod]
        refine .inr ⟨hh, gm m (a % m), [some (.int (m : Int)), some (.int ((a % m : Nat) : Int))], hh, ?_, ?_, gm_step a m hm, rfl, m, a % m, rfl, rfl, ?_⟩
        · simp -implicitDefEqProofs only [ec_some, e_cmp, e_var, e_cst, List.getElem?_cons_zero, List.getElem?_cons_succ, bnd_ok, t1, Option.map_some, lift_some, truth]
        · simp -implicitDefEqProofs only [eb_cons, eb_nil, s_par0, es_cons, es_nil, e_var, e_bin, List.getElem?_cons_zero, List.getElem?_cons_succ, bnd_ok, t2, lift_some, exS_ok, stoAll, sto, MV.nol, if_true, List.set_cons_zero, List.set_cons_succ, thenS_nx]
        · rw [← g3, Nat.gcd_comm m, ← Nat.gcd_rec, Nat.gcd_comm])
    iterMax (gm x.natAbs y.natAbs) [some (.int (x.natAbs : Int)), some (.int (y.natAbs : Int))] h (Nat.lt_of_le_of_lt (Nat.le_trans (gm_lt _ _ B hB) (show B + 2 ≤ 1000002 by omega)) (by decide)) ⟨rfl, x.natAbs, y.natAbs, rfl, rfl, rfl⟩
  have ew := s_whl0 e1
  have ab : ∀ z : Int, biV .abs [.int z] h' = some (.int (z.natAbs : Int)) := fun z => by
    show some (MV.int (if z < 0 then -z else z)) = _
    by_cases hz : z < 0
    · rw [if_pos hz]; congr 2; omega
    · rw [if_neg hz]; congr 2; omega
  simp -implicitDefEqProofs only [D22, runFn, stoL, sto, MV.nol, if_true, List.length_cons, List.length_nil, List.map_cons, List.map_nil, List.cons_append, List.nil_append, Nat.reduceSub, List.replicate, Nat.zero_add, Nat.reduceAdd, eb_cons, eb_nil, s_par0, e_bi, es_cons, es_nil, e_var, List.getElem?_cons_zero, List.getElem?_cons_succ, bnd_ok, ab, lift_some, exS_ok, stoAll, List.set_cons_zero, List.set_cons_succ, thenS_nx, ew, s_ret0, thenS_rt, endFn, handBack, froz, List.take_length]

--CUT
/-! ### trial division, plain -/
def strip (p : Nat) : Nat → Nat → Nat → Nat × Nat
  | 0, n, e => (n, e)
  | f + 1, n, e => if n % p = 0 then strip p f (n / p) (e + 1) else (n, e)
def tdv : Nat → Nat → Nat → List (Nat × Nat) → Nat × List (Nat × Nat)
  | 0, n, _, acc => (n, acc)
  | f + 1, n, p, acc => if p * p ≤ n then tdv f (strip p n n 0).1 (p + 1) (if 0 < (strip p n n 0).2 then acc ++ [(p, (strip p n n 0).2)] else acc) else (n, acc)
def primesL (n : Nat) : List (Nat × Nat) := if 1 < (tdv (n + 1) n 2 []).1 then (tdv (n + 1) n 2 []).2 ++ [((tdv (n + 1) n 2 []).1, 1)] else (tdv (n + 1) n 2 []).2
def pr (x : Nat × Nat) : MV := .tup [.int x.1, .int x.2]
theorem strip_le (p : Nat) : ∀ f n e, (strip p f n e).1 ≤ n
  | 0, n, e => Nat.le_refl _
  | f + 1, n, e => by
    unfold strip
    split
    · exact Nat.le_trans (strip_le p f _ _) (Nat.div_le_self _ _)
    · exact Nat.le_refl _
theorem strip_pos {p : Nat} (hp : 2 ≤ p) : ∀ f n e, 1 ≤ n → 1 ≤ (strip p f n e).1
  | 0, n, e, h => h
  | f + 1, n, e, h => by
    unfold strip
    split
    · rename_i hm
      refine strip_pos hp f _ _ ?_
      have := Nat.div_add_mod n p
      rw [hm, Nat.add_zero] at this
      rcases Nat.eq_zero_or_pos (n / p) with q | q
      · rw [q] at this; omega
      · exact q
    · exact h
theorem pureL_pr : ∀ xs : List (Nat × Nat), pureL (xs.map pr) = true
  | [] => rfl
  | x :: xs => by
    simp -implicitDefEqProofs only [List.map_cons, pureL, pureL_pr xs, pr, MV.pure]
    rfl
theorem frozL_pr (n : Nat) (h : Hm) : ∀ xs : List (Nat × Nat), frozL n h (xs.map pr) = some (xs.map pr)
  | [] => rfl
  | x :: xs => by
    simp -implicitDefEqProofs only [List.map_cons, frozL, frozL_pr n h xs, pr, froz]
    rfl
theorem fmod_nat (a b : Nat) : Int.fmod (a : Int) (b : Int) = ((a % b : Nat) : Int) := by
  rw [Int.fmod_eq_emod_of_nonneg _ (by omega), Int.natCast_emod]
theorem fdiv_nat (a b : Nat) : Int.fdiv (a : Int) (b : Int) = ((a / b : Nat) : Int) := by
  rw [Int.fdiv_eq_ediv_of_nonneg _ (by omega), Int.natCast_ediv]
theorem b_mod (a b : Nat) (h : Hm) (hb : b ≠ 0) : bop .mod (.int (a : Int)) (.int (b : Int)) h = some (.int ((a % b : Nat) : Int)) := by
  show (if (b : Int) ≠ 0 then some (MV.int (Int.fmod a b)) else none) = _
  rw [if_pos (by omega), fmod_nat]
theorem b_fdv (a b : Nat) (h : Hm) (hb : b ≠ 0) (hz : b < 1073741824) : bop .fdv (.int (a : Int)) (.int (b : Int)) h = some (.int ((a / b : Nat) : Int)) := by
  have hf : fdvOk (b : Int) = true := by
    unfold fdvOk
    rw [decide_eq_true (show (b : Int) ≠ 0 by omega), decide_eq_true (show (b : Int).natAbs < 1073741824 by omega)]
    simp
  show (if fdvOk (b : Int) then some (MV.int (Int.fdiv a b)) else none) = _
  rw [hf, fdiv_nat]; rfl
theorem b_mul (a b : Nat) (h : Hm) (hz : a < 18446744073709551616) : bop .mul (.int (a : Int)) (.int (b : Int)) h = some (.int ((a * b : Nat) : Int)) := by
  show (if mulOk a b then some (MV.int ((a : Int) * b)) else none) = _
  rw [mulOk_l _ _ (by omega), Int.natCast_mul]; rfl
theorem strip_eq (p : Nat) : ∀ f n e, ∃ j, (strip p f n e).2 = e + j ∧ n = p ^ j * (strip p f n e).1
  | 0, n, e => ⟨0, rfl, by simp -implicitDefEqProofs [strip]⟩
  | f + 1, n, e => by
    unfold strip
    split
    · rename_i hm
      obtain ⟨j, h1, h2⟩ := strip_eq p f (n / p) (e + 1)
      refine ⟨j + 1, by rw [h1]; omega, ?_⟩
      have := Nat.div_add_mod n p
      rw [hm, Nat.add_zero] at this
      rw [Nat.pow_succ, Nat.mul_comm (p ^ j) p, Nat.mul_assoc, ← h2, this]
    · exact ⟨0, rfl, by simp⟩
theorem strip_mod {p : Nat} (hp : 2 ≤ p) : ∀ f n e, 1 ≤ n → n ≤ f → (strip p f n e).1 % p ≠ 0
  | 0, n, e, h1, h2 => by omega
  | f + 1, n, e, h1, h2 => by
    unfold strip
    split
    · rename_i hm
      have hlt : n / p < n := Nat.div_lt_self (by omega) (by omega)
      refine strip_mod hp f _ _ ?_ (by omega)
      have := Nat.div_add_mod n p
      rw [hm, Nat.add_zero] at this
      rcases Nat.eq_zero_or_pos (n / p) with q | q
      · rw [q] at this; omega
      · exact q
    · rename_i hm; exact hm
/-- the product of the powers -/
def prodL (l : List (Nat × Nat)) : Nat := l.foldr (fun x r => x.1 ^ x.2 * r) 1
theorem prodL_append (a b : List (Nat × Nat)) : prodL (a ++ b) = prodL a * prodL b := by
  unfold prodL
  induction a with
  | nil => simp
  | cons x a ih =>
    rw [List.cons_append, List.foldr_cons, List.foldr_cons, ih, Nat.mul_assoc]
theorem tdv_prod : ∀ (f n p : Nat) (acc : List (Nat × Nat)), prodL (tdv f n p acc).2 * (tdv f n p acc).1 = prodL acc * n
  | 0, n, p, acc => rfl
  | f + 1, n, p, acc => by
    rw [tdv]
    split
    · rw [tdv_prod f]
      obtain ⟨j, h1, h2⟩ := strip_eq p n n 0
      rw [Nat.zero_add] at h1
      split
      · rw [prodL_append]
        conv => rhs; rw [h2]
        rw [h1]
        simp -implicitDefEqProofs [prodL, Nat.mul_assoc]
      · have : j = 0 := by omega
        subst this
        conv => rhs; rw [h2]
        simp
    · rfl
theorem primesL_prod (n : Nat) (h1 : 1 ≤ n) : prodL (primesL n) = n := by
  have h := tdv_prod (n + 1) n 2 []
  have e0 : prodL [] = 1 := rfl
  rw [e0, Nat.one_mul] at h
  unfold primesL
  split
  · rw [prodL_append]
    simp -implicitDefEqProofs only [prodL, List.foldr_cons, List.foldr_nil, Nat.pow_one, Nat.mul_one]
    exact h
  · rename_i hr
    rcases Nat.eq_zero_or_pos (tdv (n + 1) n 2 []).1 with q | q
    · rw [q] at h; omega
    · have : (tdv (n + 1) n 2 []).1 = 1 := by omega
      rw [this, Nat.mul_one] at h
      exact h
def isPr (p : Nat) : Prop := 2 ≤ p ∧ ∀ d, 2 ≤ d → d < p → p % d ≠ 0
theorem mod_dvd {n d : Nat} : n % d = 0 ↔ d ∣ n := (Nat.dvd_iff_mod_eq_zero ..).symm
theorem tdv_inv : ∀ (f n p : Nat) (acc : List (Nat × Nat)), 1 ≤ n → 2 ≤ p → n + 2 ≤ f + p → (∀ d, 2 ≤ d → d < p → ¬ d ∣ n) → (∀ x ∈ acc, isPr x.1 ∧ 1 ≤ x.2 ∧ x.1 < p) → acc.Pairwise (fun x y => x.1 < y.1) →
    (∀ x ∈ (tdv f n p acc).2, isPr x.1 ∧ 1 ≤ x.2) ∧ (tdv f n p acc).2.Pairwise (fun x y => x.1 < y.1) ∧ (1 < (tdv f n p acc).1 → isPr (tdv f n p acc).1 ∧ ∀ x ∈ (tdv f n p acc).2, x.1 < (tdv f n p acc).1) := by
  have fin : ∀ (n p : Nat) (acc : List (Nat × Nat)), 1 ≤ n → 2 ≤ p → ¬ p * p ≤ n → (∀ d, 2 ≤ d → d < p → ¬ d ∣ n) → (∀ x ∈ acc, isPr x.1 ∧ 1 ≤ x.2 ∧ x.1 < p) → acc.Pairwise (fun x y => x.1 < y.1) →
      (∀ x ∈ acc, isPr x.1 ∧ 1 ≤ x.2) ∧ acc.Pairwise (fun x y => x.1 < y.1) ∧ (1 < n → isPr n ∧ ∀ x ∈ acc, x.1 < n) := fun n p acc h1 h2 hpp hd ha hw => by
    refine ⟨fun x hx => ⟨(ha x hx).1, (ha x hx).2.1⟩, hw, fun hn => ⟨⟨hn, fun d d2 dn hm => ?_⟩, fun x hx => ?_⟩⟩
    · have hdv := mod_dvd.mp hm
      obtain ⟨q, hq⟩ := hdv
      by_cases hdp : d < p
      · exact hd d d2 hdp ⟨q, hq⟩
      · have hq2 : 2 ≤ q := by
          rcases Nat.lt_or_ge q 2 with c | c
          · have : q = 0 ∨ q = 1 := by omega
            rcases this with e | e
            · subst e; omega
            · subst e; omega
          · exact c
        have hqp : q < p := by
          apply Nat.lt_of_not_le
          intro hge
          have : p * p ≤ d * q := Nat.mul_le_mul (by omega) hge
          omega
        exact hd q hq2 hqp ⟨d, by rw [hq, Nat.mul_comm]⟩
    · have hpn : p ≤ n := by
        apply Nat.le_of_not_lt
        intro hlt
        exact hd n hn hlt (Nat.dvd_refl n)
      have := (ha x hx).2.2
      omega
  intro f
  induction f with
  | zero =>
    intro n p acc h1 h2 h3 hd ha hw
    refine fin n p acc h1 h2 (fun c => ?_) hd ha hw
    have : p * 1 ≤ p * p := Nat.mul_le_mul_left _ (by omega)
    omega
  | succ f ih =>
    intro n p acc h1 h2 h3 hd ha hw
    rw [tdv]
    split
    · obtain ⟨j, e1, e2⟩ := strip_eq p n n 0
      rw [Nat.zero_add] at e1
      have sp := strip_pos (p := p) h2 n n 0 h1
      have sm := strip_mod (p := p) h2 n n 0 h1 (Nat.le_refl _)
      have sl := strip_le p n n 0
      have dv : (strip p n n 0).1 ∣ n := ⟨p ^ j, by conv => lhs; rw [e2, Nat.mul_comm]⟩
      refine ih _ _ _ sp (by omega) (by omega) (fun d d2 dl hdd => ?_) (fun x hx => ?_) ?_
      · rcases Nat.lt_or_ge d p with c | c
        · exact hd d d2 c (Nat.dvd_trans hdd dv)
        · have : d = p := by omega
          subst this
          exact sm (mod_dvd.mpr hdd)
      · split at hx
        · rename_i hj
          rcases List.mem_append.mp hx with q | q
          · have := ha x q
            exact ⟨this.1, this.2.1, by omega⟩
          · have : x = (p, (strip p n n 0).2) := by simpa using q
            subst this
            refine ⟨⟨h2, fun d d2 dl hm => ?_⟩, hj, Nat.lt_succ_self _⟩
            have hpn : p ∣ n := by
              rw [e1] at hj
              obtain ⟨i, rfl⟩ : ∃ i, j = i + 1 := ⟨j - 1, by omega⟩
              exact ⟨p ^ i * (strip p n n 0).1, by conv => lhs; rw [e2, Nat.pow_succ, Nat.mul_comm (p ^ i) p, Nat.mul_assoc]⟩
            exact hd d d2 dl (Nat.dvd_trans (mod_dvd.mp hm) hpn)
        · have := ha x hx
          exact ⟨this.1, this.2.1, by omega⟩
      · split
        · rw [List.pairwise_append]
          refine ⟨hw, by simp, fun x hx y hy => ?_⟩
          have : y = (p, (strip p n n 0).2) := by simpa using hy
          subst this
          exact (ha x hx).2.2
        · exact hw
    · rename_i hpp
      exact fin n p acc h1 h2 hpp hd ha hw
/-- the list: primes in their order, exponents at least 1 -/
theorem primesL_spec (n : Nat) (h1 : 1 ≤ n) : (∀ x ∈ primesL n, isPr x.1 ∧ 1 ≤ x.2) ∧ (primesL n).Pairwise (fun x y => x.1 < y.1) := by
  obtain ⟨a, b, c⟩ := tdv_inv (n + 1) n 2 [] h1 (by omega) (by omega) (fun d d2 dl => by omega) (fun x hx => by simp at hx) List.Pairwise.nil
  unfold primesL
  split
  · rename_i hr
    obtain ⟨c1, c2⟩ := c hr
    refine ⟨fun x hx => ?_, ?_⟩
    · rcases List.mem_append.mp hx with q | q
      · exact a x q
      · have : x = ((tdv (n + 1) n 2 []).1, 1) := by simpa using q
        subst this
        exact ⟨c1, Nat.le_refl _⟩
    · rw [List.pairwise_append]
      refine ⟨b, by simp, fun x hx y hy => ?_⟩
      have : y = ((tdv (n + 1) n 2 []).1, 1) := by simpa using hy
      subst this
      exact c2 x hx
  · exact ⟨a, b⟩

/-! ### divisors by primes, plain -/
def SpecL (l : List (Nat × Nat)) : Prop := (∀ x ∈ l, isPr x.1 ∧ 1 ≤ x.2) ∧ l.Pairwise (fun x y => x.1 < y.1)
theorem SpecL.tail {x : Nat × Nat} {l : List (Nat × Nat)} (h : SpecL (x :: l)) : SpecL l := ⟨fun y hy => h.1 y (List.mem_cons_of_mem _ hy), (List.pairwise_cons.mp h.2).2⟩
theorem SpecL.lt {x : Nat × Nat} {l : List (Nat × Nat)} (h : SpecL (x :: l)) : ∀ y ∈ l, x.1 < y.1 := (List.pairwise_cons.mp h.2).1
theorem SpecL.cons {x : Nat × Nat} {l : List (Nat × Nat)} (h : SpecL l) (hp : isPr x.1) (he : 1 ≤ x.2) (hl : ∀ y ∈ l, x.1 < y.1) : SpecL (x :: l) := ⟨fun y hy => by
  rcases List.mem_cons.mp hy with q | q
  · rw [q]; exact ⟨hp, he⟩
  · exact h.1 y q, List.pairwise_cons.mpr ⟨hl, h.2⟩⟩
theorem pr_cop {p a : Nat} (hp : isPr p) (h : ¬ p ∣ a) : Nat.Coprime p a := by
  have h1 : Nat.gcd p a ∣ p := Nat.gcd_dvd_left p a
  have h2 : Nat.gcd p a ∣ a := Nat.gcd_dvd_right p a
  have h3 : Nat.gcd p a ≤ p := Nat.le_of_dvd (by have := hp.1; omega) h1
  have h4 : 0 < Nat.gcd p a := Nat.gcd_pos_of_pos_left a (by have := hp.1; omega)
  show Nat.gcd p a = 1
  apply Classical.byContradiction
  intro h5
  rcases Nat.lt_or_ge (Nat.gcd p a) p with q | q
  · exact hp.2 _ (by omega) q (mod_dvd.mpr h1)
  · have : Nat.gcd p a = p := by omega
    rw [this] at h2
    exact h h2
theorem pr_mul {p a b : Nat} (hp : isPr p) (h : p ∣ a * b) : p ∣ a ∨ p ∣ b := by
  by_cases q : p ∣ a
  · exact .inl q
  · exact .inr ((pr_cop hp q).dvd_of_dvd_mul_left h)
theorem pr_pow {p a : Nat} (hp : isPr p) : ∀ {e : Nat}, p ∣ a ^ e → p ∣ a
  | 0, h => by
    rw [Nat.pow_zero] at h
    have := Nat.le_of_dvd (by omega) h
    have := hp.1
    omega
  | e + 1, h => by
    rw [Nat.pow_succ] at h
    rcases pr_mul hp h with q | q
    · exact pr_pow hp q
    · exact q
theorem pr_eq {p q : Nat} (hp : isPr p) (hq : isPr q) (h : p ∣ q) : p = q := by
  have := Nat.le_of_dvd (by have := hq.1; omega) h
  rcases Nat.lt_or_ge p q with c | c
  · exact absurd (mod_dvd.mpr h) (hq.2 p hp.1 c)
  · omega
theorem pr_prod {p : Nat} (hp : isPr p) : ∀ {l : List (Nat × Nat)}, (∀ x ∈ l, isPr x.1) → p ∣ prodL l → ∃ x ∈ l, p = x.1
  | [], _, h => by
    have h : p ∣ 1 := h
    have := Nat.le_of_dvd (by omega) h
    have := hp.1
    omega
  | x :: l, hl, h => by
    have h : p ∣ x.1 ^ x.2 * prodL l := h
    rcases pr_mul hp h with q | q
    · exact ⟨x, List.mem_cons_self, pr_eq hp (hl x List.mem_cons_self) (pr_pow hp q)⟩
    · obtain ⟨y, hy, e⟩ := pr_prod hp (fun y hy => hl y (List.mem_cons_of_mem _ hy)) q
      exact ⟨y, List.mem_cons_of_mem _ hy, e⟩
theorem pow_cancel {p : Nat} (hp : 2 ≤ p) : ∀ {e f A B : Nat}, ¬ p ∣ A → ¬ p ∣ B → p ^ e * A = p ^ f * B → e = f ∧ A = B
  | 0, 0, A, B, _, _, h => by simpa using h
  | 0, f + 1, A, B, ha, _, h => by
    refine absurd ⟨p ^ f * B, ?_⟩ ha
    rw [Nat.pow_zero, Nat.one_mul, Nat.pow_succ, Nat.mul_comm (p ^ f) p, Nat.mul_assoc] at h
    exact h
  | e + 1, 0, A, B, _, hb, h => by
    refine absurd ⟨p ^ e * A, ?_⟩ hb
    rw [Nat.pow_zero, Nat.one_mul, Nat.pow_succ, Nat.mul_comm (p ^ e) p, Nat.mul_assoc] at h
    exact h.symm
  | e + 1, f + 1, A, B, ha, hb, h => by
    rw [Nat.pow_succ, Nat.pow_succ, Nat.mul_comm (p ^ e) p, Nat.mul_comm (p ^ f) p, Nat.mul_assoc, Nat.mul_assoc] at h
    have := pow_cancel hp ha hb (Nat.eq_of_mul_eq_mul_left (by omega) h)
    exact ⟨by omega, this.2⟩
theorem SpecL.ndvd {x : Nat × Nat} {l : List (Nat × Nat)} (h : SpecL (x :: l)) : ¬ x.1 ∣ prodL l := fun hd => by
  obtain ⟨y, hy, e⟩ := pr_prod (h.1 x List.mem_cons_self).1 (fun y hy => (h.tail.1 y hy).1) hd
  have := h.lt y hy
  omega
theorem SpecL.two {x : Nat × Nat} {l : List (Nat × Nat)} (h : SpecL (x :: l)) : x.1 ∣ prodL (x :: l) := by
  have he := (h.1 x List.mem_cons_self).2
  show x.1 ∣ x.1 ^ x.2 * prodL l
  obtain ⟨j, hj⟩ : ∃ j, x.2 = j + 1 := ⟨x.2 - 1, by omega⟩
  rw [hj, Nat.pow_succ]
  exact ⟨x.1 ^ j * prodL l, by rw [Nat.mul_comm (x.1 ^ j) x.1, Nat.mul_assoc]⟩
theorem uniqL : ∀ {a b : List (Nat × Nat)}, SpecL a → SpecL b → prodL a = prodL b → a = b
  | [], [], _, _, _ => rfl
  | [], y :: b, _, hb, h => by
    have h1 := hb.two
    rw [← h] at h1
    have : y.1 ∣ 1 := h1
    have := Nat.le_of_dvd (by omega) this
    have := (hb.1 y List.mem_cons_self).1.1
    omega
  | x :: a, [], ha, _, h => by
    have h1 := ha.two
    rw [h] at h1
    have : x.1 ∣ 1 := h1
    have := Nat.le_of_dvd (by omega) this
    have := (ha.1 x List.mem_cons_self).1.1
    omega
  | x :: a, y :: b, ha, hb, h => by
    have px := ha.1 x List.mem_cons_self
    have py := hb.1 y List.mem_cons_self
    have e1 : x.1 = y.1 := by
      have d1 : x.1 ∣ prodL (y :: b) := h ▸ ha.two
      have d2 : y.1 ∣ prodL (x :: a) := h ▸ hb.two
      obtain ⟨z, hz, q⟩ := pr_prod px.1 (fun z hz => (hb.1 z hz).1) d1
      obtain ⟨u, hu, r⟩ := pr_prod py.1 (fun z hz => (ha.1 z hz).1) d2
      have : y.1 ≤ x.1 := by
        rcases List.mem_cons.mp hz with c | c
        · rw [q, c]; omega
        · have := hb.lt z c; omega
      have : x.1 ≤ y.1 := by
        rcases List.mem_cons.mp hu with c | c
        · rw [r, c]; omega
        · have := ha.lt u c; omega
      omega
    have h2 : x.1 ^ x.2 * prodL a = x.1 ^ y.2 * prodL b := by
      have : x.1 ^ x.2 * prodL a = y.1 ^ y.2 * prodL b := h
      rw [this, e1]
    obtain ⟨e2, e3⟩ := pow_cancel px.1.1 ha.ndvd (by rw [e1]; exact hb.ndvd) h2
    have := uniqL ha.tail hb.tail e3
    rw [this, show x = y from Prod.ext e1 e2]
theorem primesL_SpecL {n : Nat} (h : 1 ≤ n) : SpecL (primesL n) := primesL_spec n h
theorem prodL_pos : ∀ {l : List (Nat × Nat)}, (∀ x ∈ l, 1 ≤ x.1) → 0 < prodL l
  | [], _ => Nat.one_pos
  | x :: l, h => Nat.mul_pos (Nat.pow_pos (h x List.mem_cons_self)) (prodL_pos fun y hy => h y (List.mem_cons_of_mem _ hy))
theorem SpecL.pos {l : List (Nat × Nat)} (h : SpecL l) : 1 ≤ prodL l := prodL_pos fun x hx => by have := (h.1 x hx).1.1; omega
theorem primesL_of {l : List (Nat × Nat)} (h : SpecL l) : primesL (prodL l) = l := uniqL (primesL_SpecL h.pos) h (primesL_prod _ h.pos)
/-- the divisors, put together -/
def divsL : List (Nat × Nat) → List Nat
  | [] => [1]
  | x :: l => (List.range (x.2 + 1)).flatMap fun f => (divsL l).map fun d => x.1 ^ f * d
theorem divsL_dvd : ∀ {l : List (Nat × Nat)} {d : Nat}, SpecL l → (d ∈ divsL l ↔ d ∣ prodL l)
  | [], d, _ => by
    simp -implicitDefEqProofs only [divsL, prodL, List.foldr_nil, List.mem_singleton]
    exact Nat.dvd_one.symm
  | x :: l, d, h => by
    have px := h.1 x List.mem_cons_self
    have hp2 := px.1.1
    simp -implicitDefEqProofs only [divsL, List.mem_flatMap, List.mem_map, List.mem_range]
    constructor
    · rintro ⟨f, hf, d', hd, rfl⟩
      have := (divsL_dvd h.tail).mp hd
      show x.1 ^ f * d' ∣ x.1 ^ x.2 * prodL l
      exact Nat.mul_dvd_mul (Nat.pow_dvd_pow _ (by omega)) this
    · intro hd
      have hd : d ∣ x.1 ^ x.2 * prodL l := hd
      have d1 : 1 ≤ d := by
        rcases Nat.eq_zero_or_pos d with q | q
        · subst q
          have := Nat.eq_zero_of_zero_dvd hd
          have := h.pos
          have e : prodL (x :: l) = x.1 ^ x.2 * prodL l := rfl
          omega
        · exact q
      obtain ⟨j, e1, e2⟩ := strip_eq x.1 d d 0
      have e3 := strip_mod hp2 d d 0 d1 (Nat.le_refl _)
      generalize (strip x.1 d d 0).1 = d' at *
      have nd : ¬ x.1 ∣ d' := fun c => e3 (mod_dvd.mpr c)
      have dl : d' ∣ prodL l := by
        have : d' ∣ x.1 ^ x.2 * prodL l := Nat.dvd_trans ⟨x.1 ^ j, by rw [Nat.mul_comm]; exact e2⟩ hd
        exact (Nat.Coprime.pow_right x.2 (pr_cop px.1 nd).symm).dvd_of_dvd_mul_left this
      refine ⟨j, ?_, d', (divsL_dvd h.tail).mpr dl, e2.symm⟩
      apply Nat.lt_of_not_le
      intro hj
      have : x.1 ^ (x.2 + 1) ∣ x.1 ^ x.2 * prodL l := Nat.dvd_trans (Nat.pow_dvd_pow _ hj) (Nat.dvd_trans ⟨d', e2⟩ hd)
      rw [Nat.pow_succ] at this
      exact h.ndvd (Nat.dvd_of_mul_dvd_mul_left (Nat.pow_pos (by omega)) this)
theorem divsL_nodup : ∀ {l : List (Nat × Nat)}, SpecL l → (divsL l).Nodup
  | [], _ => by simp -implicitDefEqProofs [divsL]
  | x :: l, h => by
    have px := h.1 x List.mem_cons_self
    have ih := divsL_nodup h.tail
    have nd : ∀ d ∈ divsL l, ¬ x.1 ∣ d := fun d hd c => h.ndvd (Nat.dvd_trans c ((divsL_dvd h.tail).mp hd))
    simp -implicitDefEqProofs only [divsL]
    refine List.pairwise_flatMap.mpr ⟨fun f hf => ?_, ?_⟩
    · refine List.pairwise_map.mpr (List.Pairwise.imp_of_mem (fun {a b} ha hb hab he => hab ?_) ih)
      exact Nat.eq_of_mul_eq_mul_left (Nat.pow_pos (by have := px.1.1; omega)) he
    · refine List.Pairwise.imp (fun {a b} hab y hy z hz he => ?_) (List.nodup_range (n := x.2 + 1))
      obtain ⟨y', hy', rfl⟩ := List.mem_map.mp hy
      obtain ⟨z', hz', rfl⟩ := List.mem_map.mp hz
      exact hab (pow_cancel px.1.1 (nd _ hy') (nd _ hz') he).1
theorem isum_append (a b : List Int) : (a ++ b).sum = a.sum + b.sum := by
  induction a with
  | nil => simp
  | cons x a ih => simp -implicitDefEqProofs only [List.cons_append, List.sum_cons, ih]; omega
theorem isum_flatMap {α β : Type} (l : List α) (f : α → List β) (g : β → Int) : ((l.flatMap f).map g).sum = (l.map fun a => ((f a).map g).sum).sum := by
  induction l with
  | nil => rfl
  | cons x l ih => rw [List.flatMap_cons, List.map_append, isum_append, ih]; simp
theorem isum_mul {α : Type} (l : List α) (c : Int) (g : α → Int) : (l.map fun a => c * g a).sum = c * (l.map g).sum := by
  induction l with
  | nil => simp
  | cons x l ih => simp -implicitDefEqProofs only [List.map_cons, List.sum_cons, ih, Int.mul_add]
theorem isum_perm {a b : List Int} (h : a.Perm b) : a.sum = b.sum := by
  induction h with
  | nil => rfl
  | cons x _ ih => simp -implicitDefEqProofs [ih]
  | swap x y l => simp -implicitDefEqProofs only [List.sum_cons]; omega
  | trans _ _ i1 i2 => rw [i1, i2]
theorem primesL_step {x : Nat × Nat} {l : List (Nat × Nat)} (h : SpecL (x :: l)) {d f : Nat} (hd : d ∈ divsL l) : primesL (x.1 ^ f * d) = if f = 0 then primesL d else (x.1, f) :: primesL d := by
  have px := h.1 x List.mem_cons_self
  have dd := (divsL_dvd h.tail).mp hd
  have d1 : 1 ≤ d := Nat.pos_of_dvd_of_pos dd h.tail.pos
  have sp := primesL_SpecL d1
  by_cases hf : f = 0
  · rw [if_pos hf, hf]; simp
  · rw [if_neg hf]
    have sc : SpecL ((x.1, f) :: primesL d) := sp.cons px.1 (by show 1 ≤ f; omega) fun y hy => by
      have : y.1 ∣ d := by
        rw [← primesL_prod d d1]
        obtain ⟨a, b, e⟩ := List.append_of_mem hy
        rw [e, prodL_append]
        have e2 := (sp.1 y hy).2
        obtain ⟨j, hj⟩ : ∃ j, y.2 = j + 1 := ⟨y.2 - 1, by omega⟩
        refine Nat.dvd_trans ?_ (Nat.dvd_mul_left _ _)
        show y.1 ∣ y.1 ^ y.2 * prodL b
        rw [hj, Nat.pow_succ]
        exact ⟨y.1 ^ j * prodL b, by rw [Nat.mul_comm (y.1 ^ j) y.1, Nat.mul_assoc]⟩
      obtain ⟨z, hz, e⟩ := pr_prod (sp.1 y hy).1 (fun z hz => (h.tail.1 z hz).1) (Nat.dvd_trans this dd)
      show x.1 < y.1
      rw [e]; exact h.lt z hz
    have := primesL_of sc
    rw [← this]
    congr 1
    show _ = x.1 ^ f * prodL (primesL d)
    rw [primesL_prod d d1]
/-- a sum over the divisors of what is multiplied along the primes -/
theorem divs_sum {G : List (Nat × Nat) → Int} {w : Nat → Nat → Int} (h0 : G [] = 1) (hc : ∀ p f l, 1 ≤ f → G ((p, f) :: l) = w p f * G l) : ∀ {l : List (Nat × Nat)}, SpecL l →
    ((divsL l).map fun d => G (primesL d)).sum = l.foldr (fun x r => ((List.range (x.2 + 1)).map fun f => if f = 0 then 1 else w x.1 f).sum * r) 1
  | [], _ => by
    simp -implicitDefEqProofs only [divsL, List.map_cons, List.map_nil, List.sum_cons, List.sum_nil, List.foldr_nil]
    rw [show primesL 1 = [] from by decide, h0]; rfl
  | x :: l, h => by
    simp -implicitDefEqProofs only [divsL, List.foldr_cons]
    rw [isum_flatMap, ← divs_sum h0 hc h.tail]
    have : ∀ f, (((divsL l).map fun d => x.1 ^ f * d).map fun d => G (primesL d)).sum = ((divsL l).map fun d => G (primesL d)).sum * (if f = 0 then 1 else w x.1 f) := fun f => by
      rw [List.map_map, Int.mul_comm, ← isum_mul]
      congr 1
      refine List.map_congr_left fun d hd => ?_
      show G (primesL (x.1 ^ f * d)) = _
      rw [primesL_step h hd]
      by_cases hf : f = 0
      · rw [if_pos hf, if_pos hf, Int.one_mul]
      · rw [if_neg hf, if_neg hf, hc _ _ _ (by omega)]
    simp -implicitDefEqProofs only [this]
    rw [isum_mul, Int.mul_comm]
/-! ### the divisors by pairs, plain -/
def dvs (n part : Nat) : List Nat := (List.range part).filter fun d => decide (n % d = 0)
def dvh (n part : Nat) : List Nat := ((dvs n part).filter fun d => decide (d * d < n)).map fun d => n / d
theorem dvs_succ (n part : Nat) : dvs n (part + 1) = if n % part = 0 then dvs n part ++ [part] else dvs n part := by
  unfold dvs
  rw [List.range_succ, List.filter_append, List.filter_cons, List.filter_nil]
  by_cases h : n % part = 0
  · rw [if_pos h, if_pos (by simpa using h)]
  · rw [if_neg h, if_neg (by simpa using h), List.append_nil]
theorem dvh_succ (n part : Nat) : dvh n (part + 1) = if n % part = 0 ∧ part * part < n then dvh n part ++ [n / part] else dvh n part := by
  unfold dvh
  rw [dvs_succ]
  by_cases h : n % part = 0
  · rw [if_pos h, List.filter_append, List.map_append, List.filter_cons, List.filter_nil]
    by_cases h2 : part * part < n
    · simp -implicitDefEqProofs [h, h2]
    · simp -implicitDefEqProofs [h, h2]
  · rw [if_neg h, if_neg (fun c => h c.1)]
theorem mem_dvs {n part d : Nat} : d ∈ dvs n part ↔ d < part ∧ d ∣ n := by
  unfold dvs
  rw [List.mem_filter, List.mem_range, decide_eq_true_iff, mod_dvd]
theorem dvs_sorted (n part : Nat) : (dvs n part).Pairwise (· < ·) := List.Pairwise.filter _ List.pairwise_lt_range
theorem dvs_one {n : Nat} (h : 1 ≤ n) : dvs n 1 = [] := by
  rw [dvs_succ, if_neg (by rw [Nat.mod_zero]; omega)]
  rfl
theorem dvh_one {n : Nat} (h : 1 ≤ n) : dvh n 1 = [] := by
  unfold dvh
  rw [dvs_one h]; rfl
def divr (n part : Nat) : List Nat := dvs n part ++ (dvh n part).reverse
theorem mem_dvh {n part d : Nat} : d ∈ dvh n part ↔ ∃ e, e < part ∧ e ∣ n ∧ e * e < n ∧ n / e = d := by
  unfold dvh
  rw [List.mem_map]
  constructor
  · rintro ⟨e, he, h⟩
    rw [List.mem_filter, decide_eq_true_iff, mem_dvs] at he
    exact ⟨e, he.1.1, he.1.2, he.2, h⟩
  · rintro ⟨e, h1, h2, h3, h4⟩
    exact ⟨e, by rw [List.mem_filter, decide_eq_true_iff, mem_dvs]; exact ⟨⟨h1, h2⟩, h3⟩, h4⟩
theorem divr_spec {n part : Nat} (h : 1 ≤ n) (hl : ∀ d, d < part → d * d ≤ n) (hu : n < part * part) : (divr n part).Pairwise (· < ·) ∧ ∀ d, d ∈ divr n part ↔ d ∣ n := by
  have big : ∀ {e}, e ∣ n → e * e < n → e < n / e ∧ e * (n / e) = n := fun {e} hd hs => by
    have e1 := Nat.mul_div_cancel' hd
    refine ⟨?_, e1⟩
    apply Nat.lt_of_not_le
    intro c
    have := Nat.mul_le_mul_left e c
    omega
  refine ⟨?_, fun d => ?_⟩
  · unfold divr
    rw [List.pairwise_append]
    refine ⟨dvs_sorted n part, ?_, fun a ha b hb => ?_⟩
    · rw [List.pairwise_reverse]
      unfold dvh
      refine List.pairwise_map.mpr (List.Pairwise.imp_of_mem (fun {a b} ha hb hab => ?_) (List.Pairwise.filter _ (dvs_sorted n part)))
      rw [List.mem_filter, decide_eq_true_iff, mem_dvs] at ha hb
      obtain ⟨_, e1⟩ := big ha.1.2 ha.2
      obtain ⟨_, e2⟩ := big hb.1.2 hb.2
      apply Nat.lt_of_not_le
      intro c
      have h1 : a * (n / a) ≤ a * (n / b) := Nat.mul_le_mul_left a c
      have hb0 : 0 < n / b := by
        rcases Nat.eq_zero_or_pos (n / b) with q | q
        · rw [q] at e2; omega
        · exact q
      have h2 : a * (n / b) < b * (n / b) := Nat.mul_lt_mul_of_pos_right hab hb0
      omega
    · have ha := (mem_dvs.mp ha)
      obtain ⟨e, e1, e2, e3, rfl⟩ := mem_dvh.mp (List.mem_reverse.mp hb)
      obtain ⟨b1, b2⟩ := big e2 e3
      apply Nat.lt_of_not_le
      intro c
      have := hl a ha.1
      have h1 : n / e * (n / e) ≤ a * a := Nat.mul_le_mul c c
      have h2 : e * (n / e) < n / e * (n / e) := Nat.mul_lt_mul_of_pos_right b1 (by omega)
      omega
  · unfold divr
    rw [List.mem_append, List.mem_reverse, mem_dvs, mem_dvh]
    constructor
    · rintro (h1 | ⟨e, h1, h2, h3, rfl⟩)
      · exact h1.2
      · exact ⟨e, by rw [Nat.mul_comm]; exact (big h2 h3).2.symm⟩
    · intro hd
      by_cases c : d < part
      · exact .inl ⟨c, hd⟩
      · refine .inr ⟨n / d, ?_, ⟨d, by rw [Nat.mul_comm]; exact (Nat.mul_div_cancel' hd).symm⟩, ?_, ?_⟩
        all_goals
          have e1 := Nat.mul_div_cancel' hd
          have hlt : n / d < part := by
            apply Nat.lt_of_not_le
            intro q
            have : part * part ≤ d * (n / d) := Nat.mul_le_mul (by omega) q
            omega
        · exact hlt
        · have : n / d < d := by omega
          have h0 : 0 < n / d := by
            rcases Nat.eq_zero_or_pos (n / d) with q | q
            · rw [q] at e1; omega
            · exact q
          have : n / d * (n / d) < d * (n / d) := Nat.mul_lt_mul_of_pos_right this h0
          omega
        · have h0 : 0 < n / d := by
            rcases Nat.eq_zero_or_pos (n / d) with q | q
            · rw [q] at e1; omega
            · exact q
          conv => lhs; lhs; rw [← e1]
          exact Nat.mul_div_cancel _ h0
theorem sorted_nodup {l : List Nat} (h : l.Pairwise (· < ·)) : l.Nodup := h.imp fun h => by omega
/-- two ascending lists of the same numbers are one -/
theorem sorted_eq : ∀ {a b : List Nat}, a.Pairwise (· < ·) → b.Pairwise (· < ·) → (∀ d, d ∈ a ↔ d ∈ b) → a = b
  | [], [], _, _, _ => rfl
  | [], y :: b, _, _, h => absurd ((h y).mpr List.mem_cons_self) (by simp)
  | x :: a, [], _, _, h => absurd ((h x).mp List.mem_cons_self) (by simp)
  | x :: a, y :: b, ha, hb, h => by
    obtain ⟨a1, a2⟩ := List.pairwise_cons.mp ha
    obtain ⟨b1, b2⟩ := List.pairwise_cons.mp hb
    have e : x = y := by
      have h1 := (h x).mp List.mem_cons_self
      have h2 := (h y).mpr List.mem_cons_self
      rcases List.mem_cons.mp h1 with q | q
      · exact q
      · rcases List.mem_cons.mp h2 with r | r
        · exact r.symm
        · have := a1 y r
          have := b1 x q
          omega
    subst e
    rw [sorted_eq a2 b2 fun d => ?_]
    constructor
    · intro hd
      rcases List.mem_cons.mp ((h d).mp (List.mem_cons_of_mem _ hd)) with q | q
      · subst q; exact absurd (a1 d hd) (by omega)
      · exact q
    · intro hd
      rcases List.mem_cons.mp ((h d).mpr (List.mem_cons_of_mem _ hd)) with q | q
      · subst q; exact absurd (b1 d hd) (by omega)
      · exact q

--CUT
/-! ### Gauss's lemma for odd moduli -/
def xo (l : List Bool) : Bool := l.foldr xor false
theorem xo_perm {a b : List Bool} (h : a.Perm b) : xo a = xo b := by
  unfold xo
  induction h with
  | nil => rfl
  | cons x _ ih => simp -implicitDefEqProofs only [List.foldr_cons, ih]
  | swap x y l => simp -implicitDefEqProofs only [List.foldr_cons]; cases x <;> cases y <;> simp
  | trans _ _ i1 i2 => rw [i1, i2]
theorem xo_map_xor {α : Type} (l : List α) (f g : α → Bool) : xo (l.map fun a => xor (f a) (g a)) = xor (xo (l.map f)) (xo (l.map g)) := by
  unfold xo
  induction l with
  | nil => rfl
  | cons x l ih =>
    simp -implicitDefEqProofs only [List.map_cons, List.foldr_cons, ih]
    cases f x <;> cases g x <;> cases (l.map f).foldr xor false <;> cases (l.map g).foldr xor false <;> rfl
/-- 1 .. n / 2 -/
def hs (n : Nat) : List Nat := (List.range (n / 2)).map fun i => i + 1
theorem mem_hs {n k : Nat} : k ∈ hs n ↔ 1 ≤ k ∧ k ≤ n / 2 := by
  unfold hs
  rw [List.mem_map]
  constructor
  · rintro ⟨i, hi, rfl⟩
    have := List.mem_range.mp hi
    omega
  · intro h
    exact ⟨k - 1, List.mem_range.mpr (by omega), by omega⟩
theorem hs_nodup (n : Nat) : (hs n).Nodup := List.pairwise_map.mpr (List.Pairwise.imp (fun {a b} h c => by omega) (List.nodup_range (n := n / 2)))
def ngk (a n k : Nat) : Bool := decide (n / 2 < a * k % n)
def rsk (a n k : Nat) : Nat := if n / 2 < a * k % n then n - a * k % n else a * k % n
/-- the sign's parity -/
def gp (a n : Nat) : Bool := xo ((hs n).map (ngk a n))
theorem cop_mod {a n k : Nat} (hc : Nat.gcd a n = 1) (hk : 1 ≤ k) (hk2 : k < n) : 1 ≤ a * k % n := by
  rcases Nat.eq_zero_or_pos (a * k % n) with q | q
  · exfalso
    have : n ∣ a * k := Nat.dvd_of_mod_eq_zero q
    have : n ∣ k := (Nat.Coprime.symm hc : Nat.Coprime n a).dvd_of_dvd_mul_left this
    have := Nat.le_of_dvd hk this
    omega
  · exact q
theorem rsk_rg {a n k : Nat} (ho : n % 2 = 1) (hc : Nat.gcd a n = 1) (hk : k ∈ hs n) : rsk a n k ∈ hs n := by
  have h := mem_hs.mp hk
  have h1 := cop_mod hc h.1 (show k < n by omega)
  have h2 := Nat.mod_lt (a * k) (show n > 0 by omega)
  rw [mem_hs]
  unfold rsk
  split <;> omega
theorem dvd_small {n d : Nat} (h : n ∣ d) (hd : d < n) : d = 0 := by
  rcases Nat.eq_zero_or_pos d with q | q
  · exact q
  · have := Nat.le_of_dvd q h
    omega
theorem mod_eq_dvd {x y n : Nat} (h : x % n = y % n) (hle : y ≤ x) : n ∣ x - y := Nat.dvd_of_mod_eq_zero (Nat.sub_mod_eq_zero_of_mod_eq h)
theorem mod_neg_dvd {x y n : Nat} (hn : 0 < n) (h : x % n = n - y % n) (hy : 1 ≤ y % n) : n ∣ x + y := by
  refine Nat.dvd_of_mod_eq_zero ?_
  have h2 := Nat.mod_lt y hn
  rw [Nat.add_mod, h, show n - y % n + y % n = n by omega, Nat.mod_self]
theorem rsk_inj {a n k j : Nat} (ho : n % 2 = 1) (hc : Nat.gcd a n = 1) (hk : k ∈ hs n) (hj : j ∈ hs n) (h : rsk a n k = rsk a n j) : k = j := by
  have a1 := mem_hs.mp hk
  have a2 := mem_hs.mp hj
  have b1 := cop_mod hc a1.1 (show k < n by omega)
  have b2 := cop_mod hc a2.1 (show j < n by omega)
  have c1 := Nat.mod_lt (a * k) (show n > 0 by omega)
  have c2 := Nat.mod_lt (a * j) (show n > 0 by omega)
  have cn : Nat.Coprime n a := Nat.Coprime.symm hc
  have eqc : a * k % n = a * j % n → k = j := fun e => by
    rcases Nat.le_total j k with q | q
    · have := mod_eq_dvd e (Nat.mul_le_mul_left a q)
      rw [← Nat.mul_sub] at this
      have := dvd_small (cn.dvd_of_dvd_mul_left this) (by omega)
      omega
    · have := mod_eq_dvd e.symm (Nat.mul_le_mul_left a q)
      rw [← Nat.mul_sub] at this
      have := dvd_small (cn.dvd_of_dvd_mul_left this) (by omega)
      omega
  have nec : a * k % n = n - a * j % n → False := fun e => by
    have := mod_neg_dvd (by omega) e b2
    rw [← Nat.mul_add] at this
    have := dvd_small (cn.dvd_of_dvd_mul_left this) (by omega)
    omega
  unfold rsk at h
  split at h <;> split at h
  · exact eqc (by omega)
  · exact (nec (by omega)).elim
  · exact (nec (by omega)).elim
  · exact eqc h
theorem perm_of {l m : List Nat} (h1 : l.Nodup) (h2 : m.Nodup) (hs : ∀ x ∈ l, x ∈ m) (hl : m.length ≤ l.length) : l.Perm m := by
  refine (List.perm_ext_iff_of_nodup h1 h2).mpr fun x => ⟨hs x, fun hx => ?_⟩
  apply Classical.byContradiction
  intro c
  have nd : (x :: l).Nodup := List.nodup_cons.mpr ⟨c, h1⟩
  have := nd.length_le_of_subset (l₂ := m) (fun y hy => by
    rcases List.mem_cons.mp hy with q | q
    · rw [q]; exact hx
    · exact hs y q)
  rw [List.length_cons] at this
  omega
theorem rsk_perm {a n : Nat} (ho : n % 2 = 1) (hc : Nat.gcd a n = 1) : ((hs n).map (rsk a n)).Perm (hs n) := by
  refine perm_of ?_ (hs_nodup n) (fun x hx => ?_) (by rw [List.length_map]; exact Nat.le_refl _)
  · exact List.pairwise_map.mpr (List.Pairwise.imp_of_mem (fun {x y} hx hy hne h => hne (rsk_inj ho hc hx hy h)) (hs_nodup n))
  · obtain ⟨k, hk, rfl⟩ := List.mem_map.mp hx
    exact rsk_rg ho hc hk
theorem ngk_mul {a b n k : Nat} (ho : n % 2 = 1) (ha : Nat.gcd a n = 1) (hb : Nat.gcd b n = 1) (hk : k ∈ hs n) : ngk (a * b) n k = xor (ngk b n k) (ngk a n (rsk b n k)) := by
  have h := mem_hs.mp hk
  have rr := mem_hs.mp (rsk_rg ho hb hk)
  have b1 := cop_mod hb h.1 (show k < n by omega)
  have b3 := cop_mod ha rr.1 (show rsk b n k < n by omega)
  have c1 := Nat.mod_lt (b * k) (show n > 0 by omega)
  have c3 := Nat.mod_lt (a * rsk b n k) (show n > 0 by omega)
  have e0 : a * b * k % n = a * (b * k % n) % n := by rw [Nat.mul_assoc, Nat.mul_mod_mod]
  unfold ngk
  rw [e0]
  by_cases q : n / 2 < b * k % n
  · have er : rsk b n k = n - b * k % n := by unfold rsk; rw [if_pos q]
    have e1 : (a * (b * k % n) + a * rsk b n k) % n = 0 := by
      rw [← Nat.mul_add, er, show b * k % n + (n - b * k % n) = n by omega, Nat.mul_mod_left]
    have c2 := Nat.mod_lt (a * (b * k % n)) (show n > 0 by omega)
    have e2 : a * (b * k % n) % n + a * rsk b n k % n = n := by
      rw [Nat.add_mod] at e1
      have := Nat.dvd_of_mod_eq_zero e1
      obtain ⟨d, hd⟩ := this
      have : d = 1 := by
        rcases d with _ | _ | d
        · omega
        · rfl
        · have : n * (d + 1 + 1) = n * d + n + n := by rw [Nat.mul_succ, Nat.mul_succ]
          omega
      rw [this] at hd
      omega
    rw [decide_eq_true q, Bool.true_xor]
    by_cases t : n / 2 < a * rsk b n k % n
    · rw [decide_eq_true t, decide_eq_false (by omega)]; rfl
    · rw [decide_eq_false t, decide_eq_true (by omega)]; rfl
  · have er : rsk b n k = b * k % n := by unfold rsk; rw [if_neg q]
    rw [decide_eq_false q, Bool.false_xor, er]
/-- products in the top -/
theorem gp_mul {a b n : Nat} (ho : n % 2 = 1) (ha : Nat.gcd a n = 1) (hb : Nat.gcd b n = 1) : gp (a * b) n = xor (gp a n) (gp b n) := by
  unfold gp
  have e : (hs n).map (ngk (a * b) n) = (hs n).map fun k => xor (ngk b n k) (ngk a n (rsk b n k)) := List.map_congr_left fun k hk => ngk_mul ho ha hb hk
  rw [e, xo_map_xor]
  have e2 : (hs n).map (fun k => ngk a n (rsk b n k)) = ((hs n).map (rsk b n)).map (ngk a n) := by rw [List.map_map]; rfl
  rw [e2, xo_perm ((rsk_perm ho hb).map (ngk a n)), Bool.xor_comm]
theorem gp_mod (a n : Nat) : gp (a % n) n = gp a n := by
  unfold gp
  congr 1
  refine List.map_congr_left fun k _ => ?_
  unfold ngk
  rw [Nat.mod_mul_mod]
theorem xo_false {α : Type} (l : List α) (f : α → Bool) (h : ∀ a ∈ l, f a = false) : xo (l.map f) = false := by
  unfold xo
  induction l with
  | nil => rfl
  | cons x l ih => rw [List.map_cons, List.foldr_cons, h x List.mem_cons_self, ih fun a ha => h a (List.mem_cons_of_mem _ ha)]; rfl
theorem gp_one (n : Nat) (ho : n % 2 = 1) : gp 1 n = false := xo_false _ _ fun k hk => by
  have h := mem_hs.mp hk
  unfold ngk
  rw [Nat.one_mul, Nat.mod_eq_of_lt (by omega), decide_eq_false (by omega)]
/-- how many, in parity -/
theorem xo_count (l : List Bool) : xo l = decide ((l.filter id).length % 2 = 1) := by
  unfold xo
  induction l with
  | nil => rfl
  | cons x l ih =>
    rw [List.foldr_cons, ih, List.filter_cons]
    cases x with
    | false => simp
    | true =>
      simp -implicitDefEqProofs only [id, if_true, List.length_cons, Bool.true_xor]
      by_cases h : (l.filter id).length % 2 = 1
      · rw [decide_eq_true h, decide_eq_false (by omega)]; rfl
      · rw [decide_eq_false h, decide_eq_true (by omega)]; rfl
def b2n (b : Bool) : Nat := if b then 1 else 0
theorem xo_sum {α : Type} (l : List α) (f : α → Bool) : xo (l.map f) = decide ((l.map fun a => b2n (f a)).sum % 2 = 1) := by
  unfold xo
  induction l with
  | nil => rfl
  | cons x l ih =>
    rw [List.map_cons, List.foldr_cons, ih, List.map_cons, List.sum_cons]
    generalize (l.map fun a => b2n (f a)).sum = S
    cases f x with
    | false =>
      show xor false (decide (S % 2 = 1)) = decide ((0 + S) % 2 = 1)
      rw [Nat.zero_add, Bool.false_xor]
    | true =>
      show xor true (decide (S % 2 = 1)) = decide ((1 + S) % 2 = 1)
      rw [Bool.true_xor]
      by_cases h : S % 2 = 1
      · rw [decide_eq_true h, decide_eq_false (by omega)]; rfl
      · rw [decide_eq_false h, decide_eq_true (by omega)]; rfl
theorem gs_add {α : Type} (l : List α) (f g : α → Nat) : (l.map fun a => f a + g a).sum = (l.map f).sum + (l.map g).sum := by
  induction l with
  | nil => rfl
  | cons x l ih => simp -implicitDefEqProofs only [List.map_cons, List.sum_cons, ih]; omega
theorem gs_perm {a b : List Nat} (h : a.Perm b) : a.sum = b.sum := by
  induction h with
  | nil => rfl
  | cons x _ ih => simp -implicitDefEqProofs [ih]
  | swap x y l => simp -implicitDefEqProofs only [List.sum_cons]; omega
  | trans _ _ i1 i2 => rw [i1, i2]
theorem gs_even {α : Type} (l : List α) (f : α → Nat) (h : ∀ a ∈ l, f a % 2 = 0) : (l.map f).sum % 2 = 0 := by
  induction l with
  | nil => rfl
  | cons x l ih =>
    rw [List.map_cons, List.sum_cons]
    have := h x List.mem_cons_self
    have := ih fun a ha => h a (List.mem_cons_of_mem _ ha)
    omega
theorem gs_congr {α : Type} {l : List α} {f g : α → Nat} (h : ∀ a ∈ l, f a = g a) : (l.map f).sum = (l.map g).sum := by rw [List.map_congr_left h]
theorem gs_swap {α β : Type} (l : List α) (m : List β) (f : α → β → Nat) : (l.map fun a => (m.map fun b => f a b).sum).sum = (m.map fun b => (l.map fun a => f a b).sum).sum := by
  induction l with
  | nil =>
    rw [List.map_nil, List.sum_nil]
    induction m with
    | nil => rfl
    | cons y m ih => rw [List.map_cons, List.sum_cons, ← ih]; rfl
  | cons x l ih =>
    rw [List.map_cons, List.sum_cons, ih, ← gs_add]
    rfl
theorem gs_const {α : Type} (l : List α) (c : Nat) : (l.map fun _ => c).sum = l.length * c := by
  induction l with
  | nil => simp
  | cons x l ih => rw [List.map_cons, List.sum_cons, ih, List.length_cons, Nat.succ_mul, Nat.add_comm]
theorem hs_len (n : Nat) : (hs n).length = n / 2 := by simp -implicitDefEqProofs [hs]
/-- Eisenstein -/
theorem gp_floor {a n : Nat} (ha : a % 2 = 1) (ho : n % 2 = 1) (hc : Nat.gcd a n = 1) : gp a n = decide (((hs n).map fun k => a * k / n).sum % 2 = 1) := by
  have e : ∀ k ∈ hs n, ((k + a * k / n) + (rsk a n k + b2n (ngk a n k))) % 2 = 0 := fun k hk => by
    have h := mem_hs.mp hk
    have h2 := Nat.mod_lt (a * k) (show n > 0 by omega)
    have hd := Nat.div_add_mod (a * k) n
    obtain ⟨x, hx⟩ : ∃ x, a = 2 * x + 1 := ⟨a / 2, by omega⟩
    obtain ⟨y, hy⟩ : ∃ y, n = 2 * y + 1 := ⟨n / 2, by omega⟩
    have e1 : a * k = 2 * (x * k) + k := by rw [hx, Nat.add_mul, Nat.mul_assoc, Nat.one_mul]
    have e2 : n * (a * k / n) = 2 * (y * (a * k / n)) + a * k / n := by
      generalize a * k / n = q
      rw [hy, Nat.add_mul, Nat.mul_assoc, Nat.one_mul]
    unfold rsk ngk b2n
    by_cases q : n / 2 < a * k % n
    · rw [if_pos q, decide_eq_true q, if_pos rfl]
      omega
    · rw [if_neg q, decide_eq_false q, if_neg (by decide)]
      omega
  have s := gs_even _ _ e
  rw [gs_add, gs_add, gs_add] at s
  have p := gs_perm (rsk_perm ho hc)
  have hid : ((hs n).map fun k => k).sum = (hs n).sum := by rw [List.map_id']
  rw [hid, p] at s
  unfold gp
  rw [xo_sum]
  apply decide_eq_decide.mpr
  omega
theorem count_le (q : Nat) : ∀ m : Nat, (((List.range m).map fun i => i + 1).map fun j => b2n (decide (j ≤ q))).sum = min q m
  | 0 => by simp
  | m + 1 => by
    rw [List.range_succ, List.map_append, List.map_append, List.sum_append, count_le q m]
    simp -implicitDefEqProofs only [List.map_cons, List.map_nil, List.sum_cons, List.sum_nil, b2n, decide_eq_true_eq, Nat.add_zero]
    split <;> omega
theorem ne_lat {a n k j : Nat} (hc : Nat.gcd a n = 1) (hk : k ∈ hs n) : n * j ≠ a * k := fun e => by
  have h := mem_hs.mp hk
  have : n ∣ k := (Nat.Coprime.symm hc : Nat.Coprime n a).dvd_of_dvd_mul_left ⟨j, e.symm⟩
  have := Nat.le_of_dvd h.1 this
  omega
theorem floor_count {a n : Nat} (ha : a % 2 = 1) (ho : n % 2 = 1) (hc : Nat.gcd a n = 1) {k : Nat} (hk : k ∈ hs n) : a * k / n = ((hs a).map fun j => b2n (decide (n * j < a * k))).sum := by
  have h := mem_hs.mp hk
  have e : ((hs a).map fun j => b2n (decide (n * j < a * k))).sum = ((hs a).map fun j => b2n (decide (j ≤ a * k / n))).sum := gs_congr fun j _ => by
    congr 1
    apply decide_eq_decide.mpr
    rw [Nat.le_div_iff_mul_le (by omega), Nat.mul_comm j n]
    have := ne_lat (j := j) hc hk
    omega
  rw [e]
  unfold hs
  rw [count_le]
  have : a * k / n ≤ a / 2 := by
    apply Nat.le_of_lt_succ
    apply (Nat.div_lt_iff_lt_mul (by omega)).mpr
    have h1 : a * k ≤ a * (n / 2) := Nat.mul_le_mul_left a h.2
    have h2 : a * n = 2 * (a * (n / 2)) + a := by
      conv => lhs; rw [show n = 2 * (n / 2) + 1 by omega]
      rw [Nat.mul_add, Nat.mul_one, ← Nat.mul_assoc, Nat.mul_comm a 2, Nat.mul_assoc]
    have h3 : (a / 2).succ * n * 2 = a * n + n := by
      rw [Nat.mul_assoc, Nat.mul_comm n 2, ← Nat.mul_assoc, show (a / 2).succ * 2 = a + 1 by omega, Nat.add_mul, Nat.one_mul]
    omega
  omega
/-- reciprocity -/
theorem gp_recip {a n : Nat} (ha : a % 2 = 1) (ho : n % 2 = 1) (hc : Nat.gcd a n = 1) : gp a n = xor (gp n a) (decide (a % 4 = 3) && decide (n % 4 = 3)) := by
  have hc' : Nat.gcd n a = 1 := by rw [Nat.gcd_comm]; exact hc
  have e1 : ((hs n).map fun k => a * k / n).sum = ((hs n).map fun k => ((hs a).map fun j => b2n (decide (n * j < a * k))).sum).sum := gs_congr fun k hk => floor_count ha ho hc hk
  have e2 : ((hs a).map fun k => n * k / a).sum = ((hs n).map fun k => ((hs a).map fun j => b2n (decide (a * k < n * j))).sum).sum := by
    rw [gs_swap]
    exact gs_congr fun k hk => floor_count ho ha hc' hk
  have e3 : ((hs n).map fun k => a * k / n).sum + ((hs a).map fun k => n * k / a).sum = n / 2 * (a / 2) := by
    rw [e1, e2, ← gs_add]
    have : ((hs n).map fun k => ((hs a).map fun j => b2n (decide (n * j < a * k))).sum + ((hs a).map fun j => b2n (decide (a * k < n * j))).sum).sum = ((hs n).map fun _ => a / 2).sum := gs_congr fun k hk => by
      rw [← gs_add]
      have : ((hs a).map fun j => b2n (decide (n * j < a * k)) + b2n (decide (a * k < n * j))).sum = ((hs a).map fun _ => 1).sum := gs_congr fun j _ => by
        have := ne_lat (j := j) hc hk
        unfold b2n
        by_cases q : n * j < a * k
        · rw [decide_eq_true q, decide_eq_false (by omega)]; rfl
        · rw [decide_eq_false q, decide_eq_true (by omega)]; rfl
      rw [this, gs_const, hs_len, Nat.mul_one]
    rw [this, gs_const, hs_len]
  rw [gp_floor ha ho hc, gp_floor ho ha hc']
  generalize ((hs n).map fun k => a * k / n).sum = X at *
  generalize ((hs a).map fun k => n * k / a).sum = Y at *
  have e4 : n / 2 * (a / 2) % 2 = (n / 2 % 2) * (a / 2 % 2) % 2 := Nat.mul_mod _ _ _
  have m1 : a / 2 % 2 = 0 ∨ a / 2 % 2 = 1 := by omega
  have m2 : n / 2 % 2 = 0 ∨ n / 2 % 2 = 1 := by omega
  have mx : X % 2 = 0 ∨ X % 2 = 1 := by omega
  have my : Y % 2 = 0 ∨ Y % 2 = 1 := by omega
  have a4 : a % 4 = 3 ↔ a / 2 % 2 = 1 := by omega
  have n4 : n % 4 = 3 ↔ n / 2 % 2 = 1 := by omega
  have ad := Nat.add_mod X Y 2
  rw [e3, e4] at ad
  have d1 : decide (a % 4 = 3) = decide (a / 2 % 2 = 1) := decide_eq_decide.mpr a4
  have d2 : decide (n % 4 = 3) = decide (n / 2 % 2 = 1) := decide_eq_decide.mpr n4
  rw [d1, d2]
  clear d1 d2 a4 n4 e1 e2 e3 e4
  generalize a / 2 % 2 = u at *
  generalize n / 2 % 2 = v at *
  generalize X % 2 = x at *
  generalize Y % 2 = y at *
  rcases m1 with rfl | rfl <;> rcases m2 with rfl | rfl <;> rcases mx with rfl | rfl <;> rcases my with rfl | rfl <;> first | rfl | (exfalso; revert ad; decide)
theorem gp_two {n : Nat} (ho : n % 2 = 1) : gp 2 n = (decide (n % 8 = 3) || decide (n % 8 = 5)) := by
  unfold gp
  rw [xo_sum]
  have e : ((hs n).map fun k => b2n (ngk 2 n k)).sum + ((hs n).map fun k => b2n (decide (k ≤ n / 2 / 2))).sum = ((hs n).map fun _ => 1).sum := by
    rw [← gs_add]
    refine gs_congr fun k hk => ?_
    have h := mem_hs.mp hk
    unfold ngk b2n
    rw [Nat.mod_eq_of_lt (show 2 * k < n by omega)]
    by_cases q : k ≤ n / 2 / 2
    · rw [decide_eq_true q, decide_eq_false (by omega)]; rfl
    · rw [decide_eq_false q, decide_eq_true (by omega)]; rfl
  have c : ((hs n).map fun k => b2n (decide (k ≤ n / 2 / 2))).sum = min (n / 2 / 2) (n / 2) := count_le _ _
  rw [c, gs_const, hs_len] at e
  generalize ((hs n).map fun k => b2n (ngk 2 n k)).sum = X at *
  rw [← Bool.decide_or]
  apply decide_eq_decide.mpr
  omega
theorem gp_neg {n : Nat} (ho : n % 2 = 1) : gp (n - 1) n = decide (n % 4 = 3) := by
  unfold gp
  rw [xo_sum]
  have e : ((hs n).map fun k => b2n (ngk (n - 1) n k)).sum = ((hs n).map fun _ => 1).sum := gs_congr fun k hk => by
    have h := mem_hs.mp hk
    have e1 : (n - 1) * k = n - k + n * (k - 1) := by
      rw [Nat.sub_mul, Nat.mul_sub, Nat.one_mul, Nat.mul_one]
      have : n * 1 ≤ n * k := Nat.mul_le_mul_left n h.1
      omega
    unfold ngk b2n
    rw [e1, Nat.add_mul_mod_self_left, Nat.mod_eq_of_lt (by omega), decide_eq_true (by omega)]; rfl
  rw [e, gs_const, hs_len]
  apply decide_eq_decide.mpr
  omega
/-! ### the sign of an odd number by a whole one -/
def jac (a n : Nat) : Int := if Nat.gcd a n = 1 then (if gp a n then -1 else 1) else 0
theorem jac_c {a n : Nat} (h : Nat.gcd a n = 1) : jac a n = if gp a n then -1 else 1 := if_pos h
theorem jac_n {a n : Nat} (h : ¬ Nat.gcd a n = 1) : jac a n = 0 := if_neg h
theorem jac_mod (a n : Nat) : jac (a % n) n = jac a n := by
  have : Nat.gcd (a % n) n = Nat.gcd a n := by rw [Nat.gcd_comm a n, Nat.gcd_rec n a]
  by_cases h : Nat.gcd a n = 1
  · rw [jac_c h, jac_c (this.trans h), gp_mod]
  · rw [jac_n h, jac_n (fun c => h (this.symm.trans c))]
theorem jac_mul {n : Nat} (ho : n % 2 = 1) (a b : Nat) : jac (a * b) n = jac a n * jac b n := by
  unfold jac
  by_cases ha : Nat.gcd a n = 1
  · by_cases hb : Nat.gcd b n = 1
    · have hab : Nat.gcd (a * b) n = 1 := Nat.Coprime.mul_left ha hb
      rw [if_pos ha, if_pos hb, if_pos hab, gp_mul ho ha hb]
      cases gp a n <;> cases gp b n <;> rfl
    · have hab : ¬ Nat.gcd (a * b) n = 1 := fun c => hb (Nat.Coprime.coprime_dvd_left (Nat.dvd_mul_left b a) c)
      rw [if_neg hb, if_neg hab, Int.mul_zero]
  · have hab : ¬ Nat.gcd (a * b) n = 1 := fun c => ha (Nat.Coprime.coprime_dvd_left (Nat.dvd_mul_right a b) c)
    rw [if_neg ha, if_neg hab, Int.zero_mul]
theorem gcd_two {n : Nat} (ho : n % 2 = 1) : Nat.gcd 2 n = 1 := by
  rw [Nat.gcd_rec, ho]; exact Nat.gcd_one_left 2
theorem jac_two {n : Nat} (ho : n % 2 = 1) : jac 2 n = if n % 8 = 3 ∨ n % 8 = 5 then -1 else 1 := by
  unfold jac
  rw [if_pos (gcd_two ho), gp_two ho]
  by_cases h3 : n % 8 = 3
  · rw [decide_eq_true h3, Bool.true_or, if_pos rfl, if_pos (.inl h3)]
  · by_cases h5 : n % 8 = 5
    · rw [decide_eq_false h3, decide_eq_true h5, Bool.false_or, if_pos rfl, if_pos (.inr h5)]
    · rw [decide_eq_false h3, decide_eq_false h5, Bool.false_or, if_neg (by decide), if_neg (by omega)]
theorem jac_recip {a n : Nat} (ha : a % 2 = 1) (ho : n % 2 = 1) : jac a n = (if a % 4 = 3 ∧ n % 4 = 3 then -1 else 1) * jac n a := by
  by_cases hc : Nat.gcd a n = 1
  · rw [jac_c hc, jac_c ((Nat.gcd_comm n a).trans hc), gp_recip ha ho hc]
    by_cases h1 : a % 4 = 3
    · by_cases h2 : n % 4 = 3
      · rw [if_pos (show a % 4 = 3 ∧ n % 4 = 3 from ⟨h1, h2⟩), decide_eq_true h1, decide_eq_true h2]
        cases gp n a <;> rfl
      · rw [if_neg (show ¬ (a % 4 = 3 ∧ n % 4 = 3) from fun c => h2 c.2), decide_eq_true h1, decide_eq_false h2]
        cases gp n a <;> rfl
    · rw [if_neg (show ¬ (a % 4 = 3 ∧ n % 4 = 3) from fun c => h1 c.1), decide_eq_false h1]
      cases gp n a <;> rfl
  · rw [jac_n hc, jac_n (fun c => hc ((Nat.gcd_comm a n).trans c)), Int.mul_zero]
theorem jac_zero (n : Nat) : jac 0 n = if n = 1 then 1 else 0 := by
  by_cases h : n = 1
  · subst h; rfl
  · rw [if_neg h, jac_n (by rw [Nat.gcd_zero_left]; exact h)]
theorem jac_one {n : Nat} (ho : n % 2 = 1) : jac 1 n = 1 := by
  rw [jac_c (Nat.gcd_one_left n), gp_one n ho]; rfl
theorem jac_neg {n : Nat} (ho : n % 2 = 1) : jac (n - 1) n = if n % 4 = 3 then -1 else 1 := by
  have hc : Nat.gcd (n - 1) n = 1 := by
    have d1 := Nat.gcd_dvd_left (n - 1) n
    have d2 := Nat.gcd_dvd_right (n - 1) n
    have := Nat.dvd_sub d2 d1
    rw [show n - (n - 1) = 1 by omega] at this
    exact Nat.dvd_one.mp this
  unfold jac
  rw [if_pos hc, gp_neg ho]
  by_cases h : n % 4 = 3
  · rw [decide_eq_true h, if_pos rfl, if_pos h]
  · rw [decide_eq_false h, if_neg (by decide), if_neg h]
theorem jac_one_right (a : Nat) : jac a 1 = 1 := by
  rw [jac_c (Nat.gcd_one_right a)]; rfl
theorem jac_sq {x n : Nat} (ho : n % 2 = 1) (hc : Nat.gcd x n = 1) (a : Nat) : jac (x * x * a) n = jac a n := by
  rw [jac_mul ho, jac_mul ho]
  have : jac x n * jac x n = 1 := by
    unfold jac
    rw [if_pos hc]
    cases gp x n <;> rfl
  rw [this, Int.one_mul]
/-- an integer on top -/
def jacI (d : Int) (n : Nat) : Int := jac (d % (n : Int)).toNat n
theorem jacI_nat (a n : Nat) : jacI (a : Int) n = jac a n := by
  unfold jacI
  rw [← Int.natCast_emod, Int.toNat_natCast, jac_mod]
theorem jacI_congr {d e : Int} {n : Nat} (h : d % (n : Int) = e % (n : Int)) : jacI d n = jacI e n := by
  unfold jacI
  rw [h]
theorem jacI_rep {n : Nat} (hn : 0 < n) (d : Int) : ∃ a : Nat, jacI d n = jac a n ∧ d % (n : Int) = (a : Int) % (n : Int) := by
  refine ⟨(d % (n : Int)).toNat, rfl, ?_⟩
  rw [Int.toNat_of_nonneg (Int.emod_nonneg _ (by omega)), Int.emod_emod_of_dvd _ (Int.dvd_refl _)]
theorem jacI_mul {n : Nat} (ho : n % 2 = 1) (d e : Int) : jacI (d * e) n = jacI d n * jacI e n := by
  obtain ⟨a, ha, ha2⟩ := jacI_rep (n := n) (by omega) d
  obtain ⟨b, hb, hb2⟩ := jacI_rep (n := n) (by omega) e
  have : jacI (d * e) n = jacI ((a * b : Nat) : Int) n := jacI_congr (by rw [Int.mul_emod, ha2, hb2, ← Int.mul_emod, Int.natCast_mul])
  rw [this, jacI_nat, jac_mul ho, ha, hb]
theorem jacI_sq {n : Nat} (ho : n % 2 = 1) {x : Int} (hc : Nat.gcd x.natAbs n = 1) (d : Int) : jacI (x * x * d) n = jacI d n := by
  have e : x * x = ((x.natAbs * x.natAbs : Nat) : Int) := by rw [Int.natCast_mul, ← Int.natAbs_mul_self' x]
  rw [jacI_mul ho, e, jacI_nat]
  have := jac_sq ho hc 1
  rw [Nat.mul_one] at this
  rw [this, jac_one ho, Int.one_mul]

/-! ### signs of all whole numbers -/
def two (d : Int) : Int := if d % 2 = 0 then 0 else if d % 8 = 1 then 1 else -1
def kr (d : Int) (n : Nat) : Int := if d = 1 then 1 else if n = 0 then 0 else two d ^ (strip 2 n n 0).2 * jacI d (strip 2 n n 0).1
def freeI (d : Int) : Int := if d % 4 = 1 then d else d / 4
def sgf (x : Int) : Int := if x % 4 = 1 then x else 4 * x
theorem jacI_one {m : Nat} (hm : m % 2 = 1) : jacI 1 m = 1 := by
  have := jacI_nat 1 m
  rw [jac_one hm] at this
  exact this
theorem kr_pos {d : Int} {n : Nat} (hn : 1 ≤ n) : kr d n = two d ^ (strip 2 n n 0).2 * jacI d (strip 2 n n 0).1 := by
  unfold kr
  by_cases h : d = 1
  · have hm := strip_mod (p := 2) (by decide) n n 0 hn (Nat.le_refl _)
    rw [if_pos h, h, jacI_one (by omega), show two 1 = 1 from rfl, Int.one_pow]; rfl
  · rw [if_neg h, if_neg (by omega)]
theorem jacI_sgf {m : Nat} (hm : m % 2 = 1) (x : Int) : jacI (sgf x) m = jacI x m := by
  unfold sgf
  split
  · rfl
  · rw [show (4 : Int) * x = 2 * 2 * x from rfl, jacI_sq (x := 2) hm (gcd_two hm)]
theorem jacI_free {m : Nat} (hm : m % 2 = 1) {d : Int} (hd : d % 4 = 0 ∨ d % 4 = 1) : jacI d m = jacI (freeI d) m := by
  unfold freeI
  split
  · rfl
  · obtain ⟨x, hx⟩ : ∃ x, d = 2 * 2 * x := ⟨d / 4, by omega⟩
    have : d / 4 = x := by omega
    rw [this, hx, jacI_sq (x := 2) hm (gcd_two hm)]
theorem mod8_sq {g : Int} (h : g % 2 = 1) : g * g % 8 = 1 := by
  have : g % 8 = 1 ∨ g % 8 = 3 ∨ g % 8 = 5 ∨ g % 8 = 7 := by omega
  rw [Int.mul_emod]
  rcases this with q | q | q | q <;> rw [q] <;> rfl
theorem mod2_mul {a b : Int} (h : a * b % 2 = 1) : a % 2 = 1 ∧ b % 2 = 1 := by
  rw [Int.mul_emod] at h
  have h1 : a % 2 = 0 ∨ a % 2 = 1 := by omega
  have h2 : b % 2 = 0 ∨ b % 2 = 1 := by omega
  rcases h1 with q | q <;> rcases h2 with r | r <;> rw [q, r] at h <;> first | exact ⟨q, r⟩ | exact absurd h (by decide)
theorem two_mul {a b c g : Int} (ha : a % 4 = 1) (hb : b % 4 = 1) (h : c * (g * g) = a * b) : c % 4 = 1 ∧ two c = two a * two b := by
  have h8 : a * b % 8 = (a % 8) * (b % 8) % 8 := Int.mul_emod ..
  have a8 : a % 8 = 1 ∨ a % 8 = 5 := by omega
  have b8 : b % 8 = 1 ∨ b % 8 = 5 := by omega
  have hab : a * b % 8 = 1 ∨ a * b % 8 = 5 := by
    rw [h8]
    rcases a8 with q | q <;> rcases b8 with r | r <;> rw [q, r] <;> decide
  have hgg := mod2_mul (a := c) (b := g * g) (by rw [h]; omega)
  have hg := (mod2_mul hgg.2).1
  have c8 : c % 8 = a * b % 8 := by
    rw [← h, Int.mul_emod, mod8_sq hg, Int.mul_one, Int.emod_emod_of_dvd _ (Int.dvd_refl _)]
  have c4 : c % 4 = 1 := by omega
  have tw : ∀ x : Int, x % 4 = 1 → two x = if x % 8 = 1 then 1 else -1 := fun x hx => by
    unfold two
    rw [if_neg (by omega)]
  refine ⟨c4, ?_⟩
  rw [tw c c4, tw a ha, tw b hb, c8, h8]
  rcases a8 with q | q <;> rcases b8 with r | r <;> rw [q, r] <;> rfl
/-- the sign of a product -/
theorem kr_times {a b c g : Int} {n : Nat} (hn : 1 ≤ n) (ha : a % 4 = 0 ∨ a % 4 = 1) (hb : b % 4 = 0 ∨ b % 4 = 1) (hg : Nat.gcd g.natAbs n = 1) (h : c * (g * g) = freeI a * freeI b) (he : n % 2 = 0 → a % 4 = 1 ∧ b % 4 = 1) : kr (sgf c) n = kr a n * kr b n := by
  rw [kr_pos hn, kr_pos hn, kr_pos hn]
  have hm := strip_mod (p := 2) (by decide) n n 0 hn (Nat.le_refl _)
  obtain ⟨j, e1, e2⟩ := strip_eq 2 n n 0
  generalize (strip 2 n n 0).1 = m at *
  generalize (strip 2 n n 0).2 = e at *
  have ho : m % 2 = 1 := by omega
  have hgm : Nat.gcd g.natAbs m = 1 := Nat.Coprime.coprime_dvd_right ⟨2 ^ j, by rw [Nat.mul_comm]; exact e2⟩ hg
  have e3 : jacI (sgf c) m = jacI a m * jacI b m := by
    rw [jacI_sgf ho, jacI_free ho ha, jacI_free ho hb, ← jacI_mul ho, ← h, ← jacI_sq ho hgm c, Int.mul_comm (g * g) c]
  rw [e3]
  by_cases h0 : e = 0
  · rw [h0, Int.pow_zero, Int.pow_zero, Int.pow_zero]
    simp
  · have hn2 : n % 2 = 0 := by
      obtain ⟨i, hi⟩ : ∃ i, j = i + 1 := ⟨j - 1, by omega⟩
      rw [e2, hi, Nat.pow_succ, Nat.mul_comm (2 ^ i) 2, Nat.mul_assoc, Nat.mul_mod_right]
    obtain ⟨a4, b4⟩ := he hn2
    have fa : freeI a = a := if_pos a4
    have fb : freeI b = b := if_pos b4
    rw [fa, fb] at h
    obtain ⟨c4, t⟩ := two_mul a4 b4 h
    have fc : sgf c = c := if_pos c4
    rw [fc, t, Int.mul_pow]
    simp -implicitDefEqProofs only [Int.mul_assoc, Int.mul_comm, Int.mul_left_comm]
/-- the sign of the number below the size -/
theorem jacI_sub {s : Int} {m k : Nat} {d : Int} (hs : d = s * ((k * m + 1 : Nat) : Int)) : jacI d m = jacI s m := by
  refine jacI_congr ?_
  rw [hs, Int.natCast_add, Int.natCast_mul, Int.mul_add, show ((1 : Nat) : Int) = 1 from rfl, Int.mul_one, ← Int.mul_assoc, Int.add_comm, Int.add_mul_emod_self_right]
theorem jacI_m1 {m : Nat} (ho : m % 2 = 1) : jacI (-1) m = if m % 4 = 3 then -1 else 1 := by
  rw [← jac_neg ho, ← jacI_nat]
  refine jacI_congr ?_
  have : ((m - 1 : Nat) : Int) = -1 + (m : Int) := by omega
  rw [this, Int.add_emod_right]
theorem kr_below {s : Int} {d : Nat} (hs : s = 1 ∨ s = -1) (hd : 2 ≤ d) (h4 : s * d % 4 = 0 ∨ s * d % 4 = 1) : kr (s * d) (d - 1) = s := by
  rw [kr_pos (by omega)]
  have hm := strip_mod (p := 2) (by decide) (d - 1) (d - 1) 0 (by omega) (Nat.le_refl _)
  obtain ⟨j, e1, e2⟩ := strip_eq 2 (d - 1) (d - 1) 0
  generalize (strip 2 (d - 1) (d - 1) 0).1 = m at *
  generalize (strip 2 (d - 1) (d - 1) 0).2 = e at *
  have ho : m % 2 = 1 := by omega
  have hej : e = j := by omega
  subst hej
  have dd : d = 2 ^ e * m + 1 := by omega
  rw [jacI_sub (s := s) (m := m) (k := 2 ^ e) (by rw [← dd])]
  rcases hs with rfl | rfl
  · rw [jacI_one ho, Int.mul_one, Int.one_mul]
    rw [Int.one_mul] at h4
    rcases e with _ | _ | _ | e
    · rw [Int.pow_zero]
    · rw [Nat.pow_one] at dd
      omega
    · rw [show (0 : Nat) + 1 + 1 = 2 from rfl] at dd ⊢
      rw [show (2 : Nat) ^ 2 = 4 from rfl] at dd
      have : two (d : Int) = 1 ∨ two (d : Int) = -1 := by
        unfold two
        rw [if_neg (by omega)]
        split
        · exact .inl rfl
        · exact .inr rfl
      rcases this with q | q <;> rw [q] <;> rfl
    · have : two (d : Int) = 1 := by
        unfold two
        have p8 : 2 ^ (e + 1 + 1 + 1) * m = 2 * (2 * (2 * (2 ^ e * m))) := by
          rw [Nat.pow_succ, Nat.pow_succ, Nat.pow_succ]
          simp -implicitDefEqProofs only [Nat.mul_assoc, Nat.mul_comm, Nat.mul_left_comm]
        rw [p8] at dd
        generalize 2 ^ e * m = x at *
        rw [if_neg (by omega), if_pos (by omega)]
      rw [this, Int.one_pow]
  · rw [jacI_m1 ho]
    rcases e with _ | _ | e
    · rw [Nat.pow_zero, Nat.one_mul] at dd
      rw [Int.pow_zero, if_pos (by omega), Int.one_mul]
    · rw [Nat.pow_one] at dd
      rw [show (0 : Nat) + 1 = 1 from rfl, Int.pow_succ, Int.pow_zero, Int.one_mul]
      unfold two
      rw [if_neg (by omega)]
      by_cases h3 : m % 4 = 3
      · rw [if_pos h3, if_pos (by omega)]; rfl
      · rw [if_neg h3, if_neg (by omega)]; rfl
    · exfalso
      have p4 : 2 ^ (e + 1 + 1) * m = 2 * (2 * (2 ^ e * m)) := by
        rw [Nat.pow_succ, Nat.pow_succ]
        simp -implicitDefEqProofs only [Nat.mul_assoc, Nat.mul_comm, Nat.mul_left_comm]
      rw [p4] at dd
      generalize 2 ^ e * m = x at *
      omega

--CUT
def phiP (l : List (Nat × Nat)) : Int := l.foldr (fun x r => (x.1 : Int) ^ (x.2 - 1) * ((x.1 : Int) - 1) * r) 1
def muL (l : List (Nat × Nat)) : Int := if l.any (fun x => decide (1 < x.2)) then 0 else 1 - 2 * ((l.length % 2 : Nat) : Int)
theorem phi_geo (p : Nat) : ∀ e : Nat, ((List.range (e + 1)).map fun f => if f = 0 then (1 : Int) else (p : Int) ^ (f - 1) * ((p : Int) - 1)).sum = (p : Int) ^ e
  | 0 => by simp
  | e + 1 => by
    rw [List.range_succ, List.map_append, isum_append, phi_geo p e]
    simp -implicitDefEqProofs only [List.map_cons, List.map_nil, List.sum_cons, List.sum_nil, Int.add_zero]
    rw [if_neg (by omega), show e + 1 - 1 = e by omega, Int.mul_sub, Int.mul_one, Int.pow_succ]
    omega
theorem phi_sum {l : List (Nat × Nat)} (h : SpecL l) : ((divsL l).map fun d => phiP (primesL d)).sum = (prodL l : Nat) := by
  rw [divs_sum (G := phiP) (w := fun p f => (p : Int) ^ (f - 1) * ((p : Int) - 1)) rfl (fun p f l _ => rfl) h]
  clear h
  induction l with
  | nil => rfl
  | cons x l ih =>
    rw [List.foldr_cons, ih, phi_geo]
    show _ = ((x.1 ^ x.2 * prodL l : Nat) : Int)
    rw [Int.natCast_mul, Int.natCast_pow]
theorem muL_cons (p f : Nat) (l : List (Nat × Nat)) (hf : 1 ≤ f) : muL ((p, f) :: l) = (if f = 1 then -1 else 0) * muL l := by
  unfold muL
  rw [List.any_cons]
  by_cases h : f = 1
  · rw [if_pos h, h]
    simp -implicitDefEqProofs only [Nat.lt_irrefl, decide_false, Bool.false_or, List.length_cons]
    split
    · rfl
    · omega
  · rw [if_neg h, decide_eq_true (show 1 < f by omega), Bool.true_or, if_pos rfl, Int.zero_mul]
theorem mu_geo (e : Nat) : ((List.range (e + 2)).map fun f => if f = 0 then (1 : Int) else if f = 1 then -1 else 0).sum = 0 := by
  induction e with
  | zero => decide
  | succ e ih =>
    rw [List.range_succ, List.map_append, isum_append, ih]
    simp
theorem mu_sum {l : List (Nat × Nat)} (h : SpecL l) : ((divsL l).map fun d => muL (primesL d)).sum = if l = [] then 1 else 0 := by
  rw [divs_sum (G := muL) (w := fun _ f => if f = 1 then -1 else 0) rfl (fun p f l h => muL_cons p f l h) h]
  cases l with
  | nil => rfl
  | cons x l =>
    obtain ⟨j, hj⟩ : ∃ j, x.2 = j + 1 := ⟨x.2 - 1, by have := (h.1 x List.mem_cons_self).2; omega⟩
    rw [List.foldr_cons, hj, mu_geo, Int.zero_mul]
    rfl
/-- any list of the divisors without repetition -/
theorem divs_perm {n : Nat} {D : List Nat} (h : 1 ≤ n) (nd : D.Nodup) (hm : ∀ d, d ∈ D ↔ d ∣ n) : D.Perm (divsL (primesL n)) :=
  (List.perm_ext_iff_of_nodup nd (divsL_nodup (primesL_SpecL h))).mpr fun d => by rw [hm, divsL_dvd (primesL_SpecL h), primesL_prod n h]
theorem phi_divs {n : Nat} {D : List Nat} (h : 1 ≤ n) (nd : D.Nodup) (hm : ∀ d, d ∈ D ↔ d ∣ n) : (D.map fun d => phiP (primesL d)).sum = (n : Int) := by
  rw [isum_perm ((divs_perm h nd hm).map _), phi_sum (primesL_SpecL h), primesL_prod n h]
theorem mu_divs {n : Nat} {D : List Nat} (h : 1 ≤ n) (nd : D.Nodup) (hm : ∀ d, d ∈ D ↔ d ∣ n) : (D.map fun d => muL (primesL d)).sum = if n = 1 then 1 else 0 := by
  rw [isum_perm ((divs_perm h nd hm).map _), mu_sum (primesL_SpecL h)]
  by_cases q : n = 1
  · rw [if_pos q, q, if_pos (by decide)]
  · rw [if_neg q, if_neg]
    intro e
    have := primesL_prod n h
    rw [e] at this
    exact q this.symm
/-- the integer without squares -/
def bareL (l : List (Nat × Nat)) : Nat := l.foldr (fun x r => if x.2 % 2 = 1 then x.1 * r else r) 1
def bareP (l : List (Nat × Nat)) : List (Nat × Nat) := l.filterMap fun x => if x.2 % 2 = 1 then some (x.1, 1) else none
def halfL (l : List (Nat × Nat)) : Nat := l.foldr (fun x r => x.1 ^ (x.2 / 2) * r) 1
theorem bare_prod : ∀ l : List (Nat × Nat), prodL (bareP l) = bareL l
  | [] => rfl
  | x :: l => by
    have ih := bare_prod l
    unfold bareP bareL at *
    rw [List.filterMap_cons, List.foldr_cons]
    by_cases h : x.2 % 2 = 1
    · simp -implicitDefEqProofs only [h, if_true]
      show x.1 ^ 1 * prodL _ = _
      rw [ih, Nat.pow_one]
    · simp -implicitDefEqProofs only [h, if_false]
      exact ih
theorem bare_half : ∀ l : List (Nat × Nat), prodL l = bareL l * (halfL l * halfL l)
  | [] => rfl
  | x :: l => by
    have ih := bare_half l
    show x.1 ^ x.2 * prodL l = (if x.2 % 2 = 1 then x.1 * bareL l else bareL l) * (x.1 ^ (x.2 / 2) * halfL l * (x.1 ^ (x.2 / 2) * halfL l))
    rw [ih]
    have e1 : x.1 ^ (x.2 / 2) * halfL l * (x.1 ^ (x.2 / 2) * halfL l) = x.1 ^ (x.2 / 2) * x.1 ^ (x.2 / 2) * (halfL l * halfL l) := by
      simp -implicitDefEqProofs only [Nat.mul_assoc, Nat.mul_comm, Nat.mul_left_comm]
    rw [e1, ← Nat.pow_add]
    by_cases h : x.2 % 2 = 1
    · rw [if_pos h]
      have : x.1 ^ x.2 = x.1 * x.1 ^ (x.2 / 2 + x.2 / 2) := by
        rw [← Nat.pow_succ']
        congr 1; omega
      rw [this]
      simp -implicitDefEqProofs only [Nat.mul_assoc, Nat.mul_comm, Nat.mul_left_comm]
    · rw [if_neg h, show x.2 / 2 + x.2 / 2 = x.2 by omega]
      simp -implicitDefEqProofs only [Nat.mul_assoc, Nat.mul_comm, Nat.mul_left_comm]
theorem bare_mem {l : List (Nat × Nat)} {y : Nat × Nat} (h : y ∈ bareP l) : y.2 = 1 ∧ ∃ x ∈ l, y.1 = x.1 := by
  obtain ⟨x, hx, e⟩ := List.mem_filterMap.mp h
  split at e
  · cases e
    exact ⟨rfl, x, hx, rfl⟩
  · cases e
theorem bare_spec {l : List (Nat × Nat)} (h : SpecL l) : SpecL (bareP l) := by
  refine ⟨fun y hy => ?_, ?_⟩
  · obtain ⟨e1, x, hx, e2⟩ := bare_mem hy
    rw [e2, e1]
    exact ⟨(h.1 x hx).1, Nat.le_refl _⟩
  · refine List.pairwise_filterMap.mpr (h.2.imp fun {x y} hxy a ha b hb => ?_)
    split at ha
    · cases ha
      split at hb
      · cases hb; exact hxy
      · cases hb
    · cases ha
theorem bareP_ones : ∀ {l : List (Nat × Nat)}, (∀ x ∈ l, x.2 = 1) → bareL l = prodL l
  | [], _ => rfl
  | x :: l, h => by
    show (if x.2 % 2 = 1 then x.1 * bareL l else bareL l) = x.1 ^ x.2 * prodL l
    rw [h x List.mem_cons_self, if_pos (by decide), Nat.pow_one, bareP_ones fun y hy => h y (List.mem_cons_of_mem _ hy)]
/-- once more without squares -/
theorem bare_bare {n : Nat} (h : 1 ≤ n) : bareL (primesL (bareL (primesL n))) = bareL (primesL n) := by
  have sp := bare_spec (primesL_SpecL h)
  rw [← bare_prod (primesL n), primesL_of sp]
  exact bareP_ones fun x hx => (bare_mem hx).1
theorem bare_eq {n : Nat} (h : 1 ≤ n) : n = bareL (primesL n) * (halfL (primesL n) * halfL (primesL n)) := by
  rw [← bare_half, primesL_prod n h]
theorem bare_pos {n : Nat} (h : 1 ≤ n) : 1 ≤ bareL (primesL n) := by
  rcases Nat.eq_zero_or_pos (bareL (primesL n)) with q | q
  · have := bare_eq h
    rw [q] at this
    omega
  · exact q

/-! ### integers without squares -/
def SqF (b : Nat) : Prop := ∀ p, isPr p → ¬ p * p ∣ b
theorem ex_pr {n : Nat} (h : 2 ≤ n) : ∃ p, isPr p ∧ p ∣ n := by
  have sp := primesL_SpecL (show 1 ≤ n by omega)
  have pp := primesL_prod n (by omega)
  cases hl : primesL n with
  | nil =>
    rw [hl] at pp
    have : prodL [] = 1 := rfl
    omega
  | cons x l =>
    rw [hl] at sp pp
    refine ⟨x.1, (sp.1 x List.mem_cons_self).1, ?_⟩
    rw [← pp]
    exact sp.two
theorem SqF.ones {n : Nat} (h : 1 ≤ n) (hs : SqF n) : ∀ x ∈ primesL n, x.2 = 1 := by
  intro x hx
  have sp := primesL_SpecL h
  have h2 := (sp.1 x hx).2
  apply Classical.byContradiction
  intro c
  refine hs x.1 (sp.1 x hx).1 ?_
  rw [← primesL_prod n h]
  obtain ⟨a, b, e⟩ := List.append_of_mem hx
  rw [e, prodL_append]
  refine Nat.dvd_trans ?_ (Nat.dvd_mul_left _ _)
  show x.1 * x.1 ∣ x.1 ^ x.2 * prodL b
  obtain ⟨j, hj⟩ : ∃ j, x.2 = j + 2 := ⟨x.2 - 2, by omega⟩
  rw [hj, Nat.pow_add, Nat.pow_two]
  exact ⟨x.1 ^ j * prodL b, by rw [Nat.mul_assoc, Nat.mul_left_comm]⟩
theorem sqf_ones : ∀ {l : List (Nat × Nat)}, SpecL l → (∀ x ∈ l, x.2 = 1) → SqF (prodL l)
  | [], _, _, p, hp, hd => by
    have h1 : p * p ∣ 1 := hd
    have := Nat.le_of_dvd (by decide) h1
    have h2 := hp.1
    have : 2 * 2 ≤ p * p := Nat.mul_le_mul h2 h2
    omega
  | x :: l, sp, h1, p, hp, hd => by
    have e : prodL (x :: l) = x.1 * prodL l := by
      show x.1 ^ x.2 * prodL l = _
      rw [h1 x List.mem_cons_self, Nat.pow_one]
    rw [e] at hd
    have px := (sp.1 x List.mem_cons_self).1
    by_cases hpx : p ∣ x.1
    · have : p = x.1 := by
        apply Classical.byContradiction
        intro c
        have hle := Nat.le_of_dvd (by have := px.1; omega) hpx
        exact px.2 p hp.1 (by omega) (Nat.mod_eq_zero_of_dvd hpx)
      subst this
      exact sp.ndvd (Nat.dvd_of_mul_dvd_mul_left (by have := px.1; omega) hd)
    · have cp := pr_cop hp hpx
      have : Nat.Coprime (p * p) x.1 := Nat.Coprime.mul_left cp cp
      exact sqf_ones sp.tail (fun y hy => h1 y (List.mem_cons_of_mem _ hy)) p hp (this.dvd_of_dvd_mul_left hd)
theorem bare_sqf {n : Nat} (h : 1 ≤ n) : SqF (bareL (primesL n)) := by
  rw [← bare_prod]
  exact sqf_ones (bare_spec (primesL_SpecL h)) fun x hx => (bare_mem hx).1
theorem sqf_uniq {b c s t : Nat} (hb : SqF b) (hc : SqF c) (hb1 : 1 ≤ b) (hs : 1 ≤ s) (ht : 1 ≤ t) (h : b * (s * s) = c * (t * t)) : b = c := by
  have hg : 0 < Nat.gcd s t := Nat.gcd_pos_of_pos_left _ hs
  obtain ⟨s', e1⟩ := Nat.gcd_dvd_left s t
  obtain ⟨t', e2⟩ := Nat.gcd_dvd_right s t
  have hst : Nat.Coprime s' t' := by
    have := Nat.gcd_mul_left (Nat.gcd s t) s' t'
    rw [← e1, ← e2] at this
    exact (Nat.eq_of_mul_eq_mul_left hg (by rw [Nat.mul_one]; exact this)).symm
  generalize Nat.gcd s t = g at *
  have h' : b * (s' * s') = c * (t' * t') := by
    apply Nat.eq_of_mul_eq_mul_left (Nat.mul_pos hg hg)
    have q1 : g * g * (b * (s' * s')) = b * (s * s) := by
      rw [e1]
      simp -implicitDefEqProofs only [Nat.mul_assoc, Nat.mul_comm, Nat.mul_left_comm]
    have q2 : g * g * (c * (t' * t')) = c * (t * t) := by
      rw [e2]
      simp -implicitDefEqProofs only [Nat.mul_assoc, Nat.mul_comm, Nat.mul_left_comm]
    rw [q1, q2, h]
  have s0 : 1 ≤ s' := Nat.pos_of_ne_zero fun c => by subst c; omega
  have t0 : 1 ≤ t' := Nat.pos_of_ne_zero fun c => by subst c; omega
  have one : ∀ {u v b c : Nat}, Nat.Coprime u v → SqF c → 1 ≤ u → b * (u * u) = c * (v * v) → u = 1 := fun {u v b c} huv hc hu h => by
    apply Classical.byContradiction
    intro ne
    obtain ⟨p, hp, hd⟩ := ex_pr (show 2 ≤ u by omega)
    have d1 : u * u ∣ c * (v * v) := ⟨b, by rw [← h, Nat.mul_comm]⟩
    have cp : Nat.Coprime (u * u) (v * v) := Nat.Coprime.mul_left (Nat.Coprime.mul_right huv huv) (Nat.Coprime.mul_right huv huv)
    exact hc p hp (Nat.dvd_trans (Nat.mul_dvd_mul hd hd) (cp.dvd_of_dvd_mul_right d1))
  have r1 := one hst hc s0 h'
  have r2 := one hst.symm hb t0 h'.symm
  rw [r1, r2] at h'
  omega
theorem bare_of {n b s : Nat} (hb : SqF b) (hb1 : 1 ≤ b) (hs : 1 ≤ s) (h : n = b * (s * s)) : bareL (primesL n) = b := by
  have hn : 1 ≤ n := by
    rw [h]
    exact Nat.mul_pos hb1 (Nat.mul_pos hs hs)
  have e := bare_eq hn
  have hh : 1 ≤ halfL (primesL n) := Nat.pos_of_ne_zero fun c => by
    rw [c] at e
    omega
  exact sqf_uniq (bare_sqf hn) hb (bare_pos hn) hh hs (by rw [← e, h])
theorem sqf_mul {a b : Nat} (ha : SqF a) (hb : SqF b) (hc : Nat.gcd a b = 1) : SqF (a * b) := fun p hp hd => by
  by_cases h : p ∣ a
  · have nb : ¬ p ∣ b := fun c => by
      have := Nat.dvd_gcd h c
      rw [hc] at this
      have := Nat.le_of_dvd (by decide) this
      have := hp.1
      omega
    have cp := pr_cop hp nb
    exact ha p hp ((Nat.Coprime.mul_left cp cp : Nat.Coprime (p * p) b).dvd_of_dvd_mul_right hd)
  · have cp := pr_cop hp h
    exact hb p hp ((Nat.Coprime.mul_left cp cp : Nat.Coprime (p * p) a).dvd_of_dvd_mul_left hd)
theorem sqf_dvd {a b : Nat} (hb : SqF b) (h : a ∣ b) : SqF a := fun p hp hd => hb p hp (Nat.dvd_trans hd h)
theorem bare_le {n : Nat} (h : 1 ≤ n) : bareL (primesL n) ≤ n := by
  have e := bare_eq h
  have hh : 1 ≤ halfL (primesL n) * halfL (primesL n) := Nat.pos_of_ne_zero fun c => by
    rw [c] at e
    omega
  conv => rhs; rw [e]
  exact Nat.le_mul_of_pos_right _ hh
theorem sqf_mod4 {b : Nat} (hb : SqF b) (h1 : 1 ≤ b) : b % 4 ≠ 0 := fun c => hb 2 ⟨by decide, fun d d2 dl => by omega⟩ (Nat.dvd_of_mod_eq_zero c)

--CUT
/-- the inner loop of primes_in -/
theorem pin_in (k p : Nat) (hp : 2 ≤ p) (hp2 : p < 1073741824) (h : Hm) : ∀ (n e : Nat), 1 ≤ n → n < iterMax → ∀ r : MV,
    execS (calls P k) (.whl (.cmp .eq (.bin .mod (.var 0) (.var 2)) (.cst (.int 0))) [(.par [0, 3] [(.bin .fdv (.var 0) (.var 2)), (.bin .add (.var 3) (.cst (.int 1)))])]) [some (.int n), some r, some (.int p), some (.int e)] h =
      some (.nx [some (.int (strip p n n e).1), some r, some (.int p), some (.int (strip p n n e).2)] h) := by
  intro n0 e0 hn hlt r
  obtain ⟨σ', h', e1, rfl, rfl⟩ := iterW_inv (c := fun σ h => evalC (calls P k) (some (.cmp .eq (.bin .mod (.var 0) (.var 2)) (.cst (.int 0)))) σ h)
    (b := fun σ h => execB (calls P k) [(.par [0, 3] [(.bin .fdv (.var 0) (.var 2)), (.bin .add (.var 3) (.cst (.int 1)))])] σ h)
    (fun f σ hh => hh = h ∧ ∃ n e : Nat, 1 ≤ n ∧ n ≤ f ∧ σ = [some (.int n), some r, some (.int p), some (.int e)] ∧ strip p f n e = strip p n0 n0 e0)
    (fun σ hh => hh = h ∧ σ = [some (.int (strip p n0 n0 e0).1), some r, some (.int p), some (.int (strip p n0 n0 e0).2)])
    (fun f σ hh ⟨g1, n, e, g2, g3, g4, g5⟩ => by
      subst g1
      subst g4
      have bm := b_mod n p hh (by omega)
      cases f with
      | zero => omega
      | succ f =>
        rw [strip] at g5
        by_cases hm : n % p = 0
        · rw [if_pos hm] at g5
          have t1 : cop .eq (.int ((n % p : Nat) : Int)) (.int 0) hh = some true := by rw [hm]; rfl
          have bd := b_fdv n p hh (by omega) hp2
          have hlt : n / p < n := Nat.div_lt_self (by omega) (by omega)
          have hpos : 1 ≤ n / p := by
            have := Nat.div_add_mod n p
            rw [hm, Nat.add_zero] at this
            rcases Nat.eq_zero_or_pos (n / p) with q | q
            · rw [q] at this; omega
            · exact q
          have q1 : ∀ (i j : Int) h, bop .add (.int i) (.int j) h = some (.int (i + j)) := fun _ _ _ => rfl
          refine .inr ⟨hh, f, [some (.int ((n / p : Nat) : Int)), some r, some (.int p), some (.int ((e + 1 : Nat) : Int))], hh, ?_, ?_, Nat.lt_succ_self _, rfl, n / p, e + 1, hpos, by omega, rfl, g5⟩
          · simp -implicitDefEqProofs only [ec_some, e_cmp, e_bin, e_var, e_cst, List.getElem?_cons_zero, List.getElem?_cons_succ, bnd_ok, bm, lift_some, t1, Option.map_some, truth]
          · simp -implicitDefEqProofs only [eb_cons, eb_nil, s_par0, es_cons, es_nil, e_var, e_bin, e_cst, List.getElem?_cons_zero, List.getElem?_cons_succ, bnd_ok, bd, q1, lift_some, exS_ok, stoAll, sto, MV.nol, if_true, List.set_cons_zero, List.set_cons_succ, thenS_nx]
            rfl
        · rw [if_neg hm] at g5
          have t1 : cop .eq (.int ((n % p : Nat) : Int)) (.int 0) hh = some false := by
            show some (decide (((n % p : Nat) : Int) = 0)) = some false
            rw [decide_eq_false (by omega)]
          refine .inl ⟨?_, rfl, by rw [← g5]⟩
          simp -implicitDefEqProofs only [ec_some, e_cmp, e_bin, e_var, e_cst, List.getElem?_cons_zero, List.getElem?_cons_succ, bnd_ok, bm, lift_some, t1, Option.map_some, truth])
    iterMax n0 [some (.int n0), some r, some (.int p), some (.int e0)] h hlt ⟨rfl, n0, e0, hn, Nat.le_refl _, rfl, rfl⟩
  exact s_whl0 e1
theorem pin_loop (k n0 : Nat) (h : Hm) (h1 : 1 ≤ n0) (h2 : n0 + 1 < iterMax) : ∃ s2 s3, execS (calls P k) (.whl (.cmp .le (.bin .mul (.var 2) (.var 2)) (.var 0)) [(.asg (.var 3) (.cst (.int 0))), (.whl (.cmp .eq (.bin .mod (.var 0) (.var 2)) (.cst (.int 0))) [(.par [0, 3] [(.bin .fdv (.var 0) (.var 2)), (.bin .add (.var 3) (.cst (.int 1)))])]), (.ife (.cmp .gt (.var 3) (.cst (.int 0))) [(.expr (.meth .append (.var 1) [(.tup [(.var 2), (.var 3)])]))] []), (.aug 2 .add (.cst (.int 1)))])
    [some (.int n0), some (.ref h.length), some (.int 2), none] (h ++ [.lst []]) = some (.nx [some (.int (tdv (n0 + 1) n0 2 []).1), some (.ref h.length), s2, s3] (h ++ [.lst ((tdv (n0 + 1) n0 2 []).2.map pr)])) := by
  have him : iterMax = 1099511627776 := rfl
  obtain ⟨σ', h', e1, rfl, s2, s3, rfl⟩ := iterW_inv (c := fun σ h => evalC (calls P k) (some (.cmp .le (.bin .mul (.var 2) (.var 2)) (.var 0))) σ h)
    (b := fun σ h => execB (calls P k) [(.asg (.var 3) (.cst (.int 0))), (.whl (.cmp .eq (.bin .mod (.var 0) (.var 2)) (.cst (.int 0))) [(.par [0, 3] [(.bin .fdv (.var 0) (.var 2)), (.bin .add (.var 3) (.cst (.int 1)))])]), (.ife (.cmp .gt (.var 3) (.cst (.int 0))) [(.expr (.meth .append (.var 1) [(.tup [(.var 2), (.var 3)])]))] []), (.aug 2 .add (.cst (.int 1)))] σ h)
    (fun f σ hh => ∃ (n p : Nat) (acc : List (Nat × Nat)) (oft : Option MV), 1 ≤ n ∧ n ≤ n0 ∧ 2 ≤ p ∧ p ≤ 1048577 ∧ acc.length ≤ p ∧ n + 2 ≤ f + p ∧ hh = h ++ [.lst (acc.map pr)] ∧ σ = [some (.int n), some (.ref h.length), some (.int p), oft] ∧ tdv f n p acc = tdv (n0 + 1) n0 2 [])
    (fun σ hh => hh = h ++ [.lst ((tdv (n0 + 1) n0 2 []).2.map pr)] ∧ ∃ s2 s3, σ = [some (.int (tdv (n0 + 1) n0 2 []).1), some (.ref h.length), s2, s3])
    (fun f σ hh ⟨n, p, acc, oft, g1, g2, g3, g4, g5, g6, g7, g8, g9⟩ => by
      subst g7
      subst g8
      have bm := b_mul p p (h ++ [.lst (acc.map pr)]) (by omega)
      by_cases hp : p * p ≤ n
      · have t1 : cop .le (.int ((p * p : Nat) : Int)) (.int (n : Int)) (h ++ [.lst (acc.map pr)]) = some true := by
          show some (decide (((p * p : Nat) : Int) ≤ (n : Int))) = some true
          rw [decide_eq_true (by omega)]
        have hpp : p < 1048576 := by
          apply Nat.lt_of_not_le
          intro hge
          have : 1048576 * 1048576 ≤ p * p := Nat.mul_le_mul hge hge
          omega
        cases f with
        | zero =>
          have : p * 1 ≤ p * p := Nat.mul_le_mul_left _ (by omega)
          omega
        | succ f =>
          rw [tdv, if_pos hp] at g9
          have ein := pin_in k p g3 (by omega) (h ++ [.lst (acc.map pr)]) n 0 g1 (by omega) (.ref h.length)
          have sle := strip_le p n n 0
          have spos := strip_pos (p := p) g3 n n 0 g1
          have q1 : ∀ h, augV .add (.int (p : Int)) (.int 1) h = some (.int ((p + 1 : Nat) : Int)) := fun _ => rfl
          have test : evalC (calls P k) (some (.cmp .le (.bin .mul (.var 2) (.var 2)) (.var 0))) [some (.int n), some (.ref h.length), some (.int p), oft] (h ++ [.lst (acc.map pr)]) = some (.ok true (h ++ [.lst (acc.map pr)])) := by
            simp -implicitDefEqProofs only [ec_some, e_cmp, e_bin, e_var, e_cst, List.getElem?_cons_zero, List.getElem?_cons_succ, bnd_ok, bm, lift_some, t1, Option.map_some, truth]
          have ein : execS (calls P k) (.whl (.cmp .eq (.bin .mod (.var 0) (.var 2)) (.cst (.int 0))) [(.par [0, 3] [(.bin .fdv (.var 0) (.var 2)), (.bin .add (.var 3) (.cst (.int 1)))])]) [some (.int n), some (.ref h.length), some (.int p), some (.int 0)] (h ++ [.lst (acc.map pr)]) = some (.nx [some (.int (strip p n n 0).1), some (.ref h.length), some (.int p), some (.int (strip p n n 0).2)] (h ++ [.lst (acc.map pr)])) := ein
          generalize strip p n n 0 = st at *
          obtain ⟨n', e'⟩ := st
          simp only at *
          by_cases he : 0 < e'
          · rw [if_pos he] at g9
            have t2 : ∀ hh, cop .gt (.int (e' : Int)) (.int 0) hh = some true := fun hh => by
              show some (decide ((0 : Int) < (e' : Int))) = some true
              rw [decide_eq_true (by omega)]
            have em : methV .append (.ref h.length) [.tup [.int p, .int e']] (h ++ [.lst (acc.map pr)]) = some (.non, h ++ [.lst ((acc ++ [(p, e')]).map pr)]) := by
              have hlt : (acc.map pr).length < sizeMax := by
                rw [List.length_map]
                exact Nat.lt_of_lt_of_le (show acc.length < 1048577 by omega) (by decide)
              simp -implicitDefEqProofs only [methV, hl_get, frz, MV.pure, pureL, Bool.and_self, hlt, and_self, if_true, hl_set]
              rw [List.map_append]
              rfl
            refine .inr ⟨_, f, [some (.int (n' : Int)), some (.ref h.length), some (.int ((p + 1 : Nat) : Int)), some (.int (e' : Int))], h ++ [.lst ((acc ++ [(p, e')]).map pr)], test, ?_, Nat.lt_succ_self _, n', p + 1, acc ++ [(p, e')], _, spos, by omega, by omega, by omega, by simp; omega, by omega, rfl, rfl, g9⟩
            simp -implicitDefEqProofs only [eb_cons, eb_nil, s_asg0, s_ife0, s_expr0, s_aug0, e_cst, e_cmp, e_var, e_meth, e_tup, es_cons, es_nil, List.map_cons, List.map_nil, frz, bnd_ok, exS_ok, et_var, sto, MV.nol, if_true, List.set_cons_zero, List.set_cons_succ, thenS_nx, ein, List.getElem?_cons_zero, List.getElem?_cons_succ, t2, Option.map_some, lift_some, truth, itemsL, hl_get, em, q1]
          · rw [if_neg he] at g9
            have t2 : ∀ hh, cop .gt (.int (e' : Int)) (.int 0) hh = some false := fun hh => by
              show some (decide ((0 : Int) < (e' : Int))) = some false
              rw [decide_eq_false (by omega)]
            refine .inr ⟨_, f, [some (.int (n' : Int)), some (.ref h.length), some (.int ((p + 1 : Nat) : Int)), some (.int (e' : Int))], h ++ [.lst (acc.map pr)], test, ?_, Nat.lt_succ_self _, n', p + 1, acc, _, spos, by omega, by omega, by omega, by omega, by omega, rfl, rfl, g9⟩
            simp -implicitDefEqProofs only [eb_cons, eb_nil, s_asg0, s_ife0, s_expr0, s_aug0, e_cst, e_cmp, e_var, bnd_ok, exS_ok, et_var, sto, MV.nol, if_true, List.set_cons_zero, List.set_cons_succ, thenS_nx, ein, List.getElem?_cons_zero, List.getElem?_cons_succ, t2, Option.map_some, lift_some, truth, q1]
      · have t1 : cop .le (.int ((p * p : Nat) : Int)) (.int (n : Int)) (h ++ [.lst (acc.map pr)]) = some false := by
          show some (decide (((p * p : Nat) : Int) ≤ (n : Int))) = some false
          rw [decide_eq_false (by omega)]
        have e9 : tdv f n p acc = (n, acc) := by
          cases f with
          | zero => rfl
          | succ f => rw [tdv, if_neg hp]
        rw [e9] at g9
        refine .inl ⟨?_, by rw [← g9], some (.int p), oft, by rw [← g9]⟩
        simp -implicitDefEqProofs only [ec_some, e_cmp, e_bin, e_var, e_cst, List.getElem?_cons_zero, List.getElem?_cons_succ, bnd_ok, bm, lift_some, t1, Option.map_some, truth])
    iterMax (n0 + 1) [some (.int n0), some (.ref h.length), some (.int 2), none] (h ++ [.lst []]) h2 ⟨n0, 2, [], none, h1, Nat.le_refl _, by omega, by omega, by simp, by omega, rfl, rfl, rfl⟩
  exact ⟨s2, s3, s_whl0 e1⟩
theorem tdv_len : ∀ (f n p : Nat) (acc : List (Nat × Nat)), (tdv f n p acc).2.length ≤ acc.length + f
  | 0, n, p, acc => Nat.le_refl _
  | f + 1, n, p, acc => by
    rw [tdv]
    split
    · refine Nat.le_trans (tdv_len f _ _ _) ?_
      split
      · simp; omega
      · omega
    · show acc.length ≤ _; omega
theorem primes_in_ok (k n0 : Nat) (h : Hm) (h1 : 1 ≤ n0) (h2 : n0 ≤ 1000000) : calls P (k + 1) 3 [.int n0] h = some (.ok (.lst ((primesL n0).map pr)) h) := by
  obtain ⟨s2, s3, ew⟩ := pin_loop k n0 h h1 (Nat.lt_of_le_of_lt (show n0 + 1 ≤ 1000001 by omega) (by decide))
  have tl := tdv_len (n0 + 1) n0 2 []
  rw [c3]
  unfold primesL
  generalize tdv (n0 + 1) n0 2 [] = t at *
  obtain ⟨r, acc⟩ := t
  simp only at ew tl ⊢
  have htk : ∀ o : MO, (h ++ [o]).take h.length = h := hl_take h
  by_cases hr : 1 < r
  · rw [if_pos hr]
    have t1 : ∀ hh, cop .gt (.int (r : Int)) (.int 1) hh = some true := fun hh => by
      show some (decide ((1 : Int) < (r : Int))) = some true
      rw [decide_eq_true (by omega)]
    have ba : bop .add (.ref h.length) (.lst [.tup [.int r, .int 1]]) (h ++ [.lst (acc.map pr)]) = some (.lst ((acc ++ [(r, 1)]).map pr)) := by
      have hz : (acc.map pr).length + [MV.tup [.int r, .int 1]].length ≤ sizeMax := by
        rw [List.length_map]
        exact Nat.le_trans (show acc.length + 1 ≤ 1000002 by simp at tl; omega) (by decide)
      have i1 : itemsL (h ++ [.lst (acc.map pr)]) (.ref h.length) = some (acc.map pr) := by simp -implicitDefEqProofs only [itemsL, hl_get]
      have i2 : itemsL (h ++ [.lst (acc.map pr)]) (.lst [.tup [.int r, .int 1]]) = some [.tup [.int r, .int 1]] := rfl
      simp -implicitDefEqProofs only [bop, i1, i2]
      rw [if_pos hz, List.map_append]
      rfl
    have fz := frozL_pr h.length (h ++ [.lst (acc.map pr)]) (acc ++ [(r, 1)])
    have pl := pureL_pr (acc ++ [(r, 1)])
    generalize (acc ++ [(r, 1)]).map pr = res at *
    simp -implicitDefEqProofs only [D3, runFn, stoL, sto, MV.nol, if_true, List.length_cons, List.length_nil, List.map_cons, List.map_nil, List.cons_append, List.nil_append, Nat.reduceSub, List.replicate, Nat.zero_add, Nat.reduceAdd, eb_cons, eb_nil, s_par0, s_ret0, e_lst, e_cst, es_cons, es_nil, bnd_ok, exS_ok, stoAll, pureL, List.set_cons_zero, List.set_cons_succ, thenS_nx, ew, e_ite, e_cmp, e_var, e_bin, e_tup, List.getElem?_cons_zero, List.getElem?_cons_succ, t1, Option.map_some, lift_some, truth, frz, ba, thenS_rt, endFn, handBack, froz, fz, htk]
  · rw [if_neg hr]
    have t1 : ∀ hh, cop .gt (.int (r : Int)) (.int 1) hh = some false := fun hh => by
      show some (decide ((1 : Int) < (r : Int))) = some false
      rw [decide_eq_false (by omega)]
    have nlt : ¬ h.length < h.length := Nat.lt_irrefl _
    generalize acc.map pr = res at *
    simp -implicitDefEqProofs only [D3, runFn, stoL, sto, MV.nol, if_true, List.length_cons, List.length_nil, List.map_cons, List.map_nil, List.cons_append, List.nil_append, Nat.reduceSub, List.replicate, Nat.zero_add, Nat.reduceAdd, eb_cons, eb_nil, s_par0, s_ret0, e_lst, e_cst, es_cons, es_nil, bnd_ok, exS_ok, stoAll, pureL, List.set_cons_zero, List.set_cons_succ, thenS_nx, ew, e_ite, e_cmp, e_var, e_bin, e_tup, List.getElem?_cons_zero, List.getElem?_cons_succ, t1, Option.map_some, lift_some, truth, thenS_rt, endFn, handBack, if_neg nlt, hl_get, htk]

/-- the inner loop of _law_primes -/
theorem plw_in (k p : Nat) (N : Int) (hp : 2 ≤ p) (hp2 : p < 1073741824) (h : Hm) : ∀ (n e : Nat), 1 ≤ n → n < iterMax → ∀ r : MV,
    execS (calls P k) (.whl (.cmp .eq (.bin .mod (.var 3) (.var 2)) (.cst (.int 0))) [(.par [3, 4] [(.bin .fdv (.var 3) (.var 2)), (.bin .add (.var 4) (.cst (.int 1)))])]) [some (.int N), some r, some (.int p), some (.int n), some (.int e)] h =
      some (.nx [some (.int N), some r, some (.int p), some (.int (strip p n n e).1), some (.int (strip p n n e).2)] h) := by
  intro n0 e0 hn hlt r
  obtain ⟨σ', h', e1, rfl, rfl⟩ := iterW_inv (c := fun σ h => evalC (calls P k) (some (.cmp .eq (.bin .mod (.var 3) (.var 2)) (.cst (.int 0)))) σ h)
    (b := fun σ h => execB (calls P k) [(.par [3, 4] [(.bin .fdv (.var 3) (.var 2)), (.bin .add (.var 4) (.cst (.int 1)))])] σ h)
    (fun f σ hh => hh = h ∧ ∃ n e : Nat, 1 ≤ n ∧ n ≤ f ∧ σ = [some (.int N), some r, some (.int p), some (.int n), some (.int e)] ∧ strip p f n e = strip p n0 n0 e0)
    (fun σ hh => hh = h ∧ σ = [some (.int N), some r, some (.int p), some (.int (strip p n0 n0 e0).1), some (.int (strip p n0 n0 e0).2)])
    (fun f σ hh ⟨g1, n, e, g2, g3, g4, g5⟩ => by
      subst g1
      subst g4
      have bm := b_mod n p hh (by omega)
      cases f with
      | zero => omega
      | succ f =>
        rw [strip] at g5
        by_cases hm : n % p = 0
        · rw [if_pos hm] at g5
          have t1 : cop .eq (.int ((n % p : Nat) : Int)) (.int 0) hh = some true := by rw [hm]; rfl
          have bd := b_fdv n p hh (by omega) hp2
          have hlt : n / p < n := Nat.div_lt_self (by omega) (by omega)
          have hpos : 1 ≤ n / p := by
            have := Nat.div_add_mod n p
            rw [hm, Nat.add_zero] at this
            rcases Nat.eq_zero_or_pos (n / p) with q | q
            · rw [q] at this; omega
            · exact q
          have q1 : ∀ (i j : Int) h, bop .add (.int i) (.int j) h = some (.int (i + j)) := fun _ _ _ => rfl
          refine .inr ⟨hh, f, [some (.int N), some r, some (.int p), some (.int ((n / p : Nat) : Int)), some (.int ((e + 1 : Nat) : Int))], hh, ?_, ?_, Nat.lt_succ_self _, rfl, n / p, e + 1, hpos, by omega, rfl, g5⟩
          · simp -implicitDefEqProofs only [ec_some, e_cmp, e_bin, e_var, e_cst, List.getElem?_cons_zero, List.getElem?_cons_succ, bnd_ok, bm, lift_some, t1, Option.map_some, truth]
          · simp -implicitDefEqProofs only [eb_cons, eb_nil, s_par0, es_cons, es_nil, e_var, e_bin, e_cst, List.getElem?_cons_zero, List.getElem?_cons_succ, bnd_ok, bd, q1, lift_some, exS_ok, stoAll, sto, MV.nol, if_true, List.set_cons_zero, List.set_cons_succ, thenS_nx]
            rfl
        · rw [if_neg hm] at g5
          have t1 : cop .eq (.int ((n % p : Nat) : Int)) (.int 0) hh = some false := by
            show some (decide (((n % p : Nat) : Int) = 0)) = some false
            rw [decide_eq_false (by omega)]
          refine .inl ⟨?_, rfl, by rw [← g5]⟩
          simp -implicitDefEqProofs only [ec_some, e_cmp, e_bin, e_var, e_cst, List.getElem?_cons_zero, List.getElem?_cons_succ, bnd_ok, bm, lift_some, t1, Option.map_some, truth])
    iterMax n0 [some (.int N), some r, some (.int p), some (.int n0), some (.int e0)] h hlt ⟨rfl, n0, e0, hn, Nat.le_refl _, rfl, rfl⟩
  exact s_whl0 e1
theorem plw_loop (k n0 : Nat) (N : Int) (h : Hm) (h1 : 1 ≤ n0) (h2 : n0 + 1 < iterMax) : ∃ s2 s3, execS (calls P k) (.whl (.cmp .le (.bin .mul (.var 2) (.var 2)) (.var 3)) [(.asg (.var 4) (.cst (.int 0))), (.whl (.cmp .eq (.bin .mod (.var 3) (.var 2)) (.cst (.int 0))) [(.par [3, 4] [(.bin .fdv (.var 3) (.var 2)), (.bin .add (.var 4) (.cst (.int 1)))])]), (.ife (.cmp .gt (.var 4) (.cst (.int 0))) [(.expr (.meth .append (.var 1) [(.tup [(.var 2), (.var 4)])]))] []), (.asg (.var 2) (.bin .add (.var 2) (.cst (.int 1))))])
    [some (.int N), some (.ref h.length), some (.int 2), some (.int n0), none] (h ++ [.lst []]) = some (.nx [some (.int N), some (.ref h.length), s2, some (.int (tdv (n0 + 1) n0 2 []).1), s3] (h ++ [.lst ((tdv (n0 + 1) n0 2 []).2.map pr)])) := by
  have him : iterMax = 1099511627776 := rfl
  obtain ⟨σ', h', e1, rfl, s2, s3, rfl⟩ := iterW_inv (c := fun σ h => evalC (calls P k) (some (.cmp .le (.bin .mul (.var 2) (.var 2)) (.var 3))) σ h)
    (b := fun σ h => execB (calls P k) [(.asg (.var 4) (.cst (.int 0))), (.whl (.cmp .eq (.bin .mod (.var 3) (.var 2)) (.cst (.int 0))) [(.par [3, 4] [(.bin .fdv (.var 3) (.var 2)), (.bin .add (.var 4) (.cst (.int 1)))])]), (.ife (.cmp .gt (.var 4) (.cst (.int 0))) [(.expr (.meth .append (.var 1) [(.tup [(.var 2), (.var 4)])]))] []), (.asg (.var 2) (.bin .add (.var 2) (.cst (.int 1))))] σ h)
    (fun f σ hh => ∃ (n p : Nat) (acc : List (Nat × Nat)) (oft : Option MV), 1 ≤ n ∧ n ≤ n0 ∧ 2 ≤ p ∧ p ≤ 1048577 ∧ acc.length ≤ p ∧ n + 2 ≤ f + p ∧ hh = h ++ [.lst (acc.map pr)] ∧ σ = [some (.int N), some (.ref h.length), some (.int p), some (.int n), oft] ∧ tdv f n p acc = tdv (n0 + 1) n0 2 [])
    (fun σ hh => hh = h ++ [.lst ((tdv (n0 + 1) n0 2 []).2.map pr)] ∧ ∃ s2 s3, σ = [some (.int N), some (.ref h.length), s2, some (.int (tdv (n0 + 1) n0 2 []).1), s3])
    (fun f σ hh ⟨n, p, acc, oft, g1, g2, g3, g4, g5, g6, g7, g8, g9⟩ => by
      subst g7
      subst g8
      have bm := b_mul p p (h ++ [.lst (acc.map pr)]) (by omega)
      by_cases hp : p * p ≤ n
      · have t1 : cop .le (.int ((p * p : Nat) : Int)) (.int (n : Int)) (h ++ [.lst (acc.map pr)]) = some true := by
          show some (decide (((p * p : Nat) : Int) ≤ (n : Int))) = some true
          rw [decide_eq_true (by omega)]
        have hpp : p < 1048576 := by
          apply Nat.lt_of_not_le
          intro hge
          have : 1048576 * 1048576 ≤ p * p := Nat.mul_le_mul hge hge
          omega
        cases f with
        | zero =>
          have : p * 1 ≤ p * p := Nat.mul_le_mul_left _ (by omega)
          omega
        | succ f =>
          rw [tdv, if_pos hp] at g9
          have ein := plw_in k p N g3 (by omega) (h ++ [.lst (acc.map pr)]) n 0 g1 (by omega) (.ref h.length)
          have sle := strip_le p n n 0
          have spos := strip_pos (p := p) g3 n n 0 g1
          have q1 : ∀ h, bop .add (.int (p : Int)) (.int 1) h = some (.int ((p + 1 : Nat) : Int)) := fun _ => rfl
          have test : evalC (calls P k) (some (.cmp .le (.bin .mul (.var 2) (.var 2)) (.var 3))) [some (.int N), some (.ref h.length), some (.int p), some (.int n), oft] (h ++ [.lst (acc.map pr)]) = some (.ok true (h ++ [.lst (acc.map pr)])) := by
            simp -implicitDefEqProofs only [ec_some, e_cmp, e_bin, e_var, e_cst, List.getElem?_cons_zero, List.getElem?_cons_succ, bnd_ok, bm, lift_some, t1, Option.map_some, truth]
          have ein : execS (calls P k) (.whl (.cmp .eq (.bin .mod (.var 3) (.var 2)) (.cst (.int 0))) [(.par [3, 4] [(.bin .fdv (.var 3) (.var 2)), (.bin .add (.var 4) (.cst (.int 1)))])]) [some (.int N), some (.ref h.length), some (.int p), some (.int n), some (.int 0)] (h ++ [.lst (acc.map pr)]) = some (.nx [some (.int N), some (.ref h.length), some (.int p), some (.int (strip p n n 0).1), some (.int (strip p n n 0).2)] (h ++ [.lst (acc.map pr)])) := ein
          generalize strip p n n 0 = st at *
          obtain ⟨n', e'⟩ := st
          simp only at *
          by_cases he : 0 < e'
          · rw [if_pos he] at g9
            have t2 : ∀ hh, cop .gt (.int (e' : Int)) (.int 0) hh = some true := fun hh => by
              show some (decide ((0 : Int) < (e' : Int))) = some true
              rw [decide_eq_true (by omega)]
            have em : methV .append (.ref h.length) [.tup [.int p, .int e']] (h ++ [.lst (acc.map pr)]) = some (.non, h ++ [.lst ((acc ++ [(p, e')]).map pr)]) := by
              have hlt : (acc.map pr).length < sizeMax := by
                rw [List.length_map]
                exact Nat.lt_of_lt_of_le (show acc.length < 1048577 by omega) (by decide)
              simp -implicitDefEqProofs only [methV, hl_get, frz, MV.pure, pureL, Bool.and_self, hlt, and_self, if_true, hl_set]
              rw [List.map_append]
              rfl
            refine .inr ⟨_, f, [some (.int N), some (.ref h.length), some (.int ((p + 1 : Nat) : Int)), some (.int (n' : Int)), some (.int (e' : Int))], h ++ [.lst ((acc ++ [(p, e')]).map pr)], test, ?_, Nat.lt_succ_self _, n', p + 1, acc ++ [(p, e')], _, spos, by omega, by omega, by omega, by simp; omega, by omega, rfl, rfl, g9⟩
            simp -implicitDefEqProofs only [eb_cons, eb_nil, s_asg0, s_ife0, s_expr0, e_bin, e_cst, e_cmp, e_var, e_meth, e_tup, es_cons, es_nil, List.map_cons, List.map_nil, frz, bnd_ok, exS_ok, et_var, sto, MV.nol, if_true, List.set_cons_zero, List.set_cons_succ, thenS_nx, ein, List.getElem?_cons_zero, List.getElem?_cons_succ, t2, Option.map_some, lift_some, truth, itemsL, hl_get, em, q1]
          · rw [if_neg he] at g9
            have t2 : ∀ hh, cop .gt (.int (e' : Int)) (.int 0) hh = some false := fun hh => by
              show some (decide ((0 : Int) < (e' : Int))) = some false
              rw [decide_eq_false (by omega)]
            refine .inr ⟨_, f, [some (.int N), some (.ref h.length), some (.int ((p + 1 : Nat) : Int)), some (.int (n' : Int)), some (.int (e' : Int))], h ++ [.lst (acc.map pr)], test, ?_, Nat.lt_succ_self _, n', p + 1, acc, _, spos, by omega, by omega, by omega, by omega, by omega, rfl, rfl, g9⟩
            simp -implicitDefEqProofs only [eb_cons, eb_nil, s_asg0, s_ife0, s_expr0, e_bin, e_cst, e_cmp, e_var, bnd_ok, exS_ok, et_var, sto, MV.nol, if_true, List.set_cons_zero, List.set_cons_succ, thenS_nx, ein, List.getElem?_cons_zero, List.getElem?_cons_succ, t2, Option.map_some, lift_some, truth, q1]
      · have t1 : cop .le (.int ((p * p : Nat) : Int)) (.int (n : Int)) (h ++ [.lst (acc.map pr)]) = some false := by
          show some (decide (((p * p : Nat) : Int) ≤ (n : Int))) = some false
          rw [decide_eq_false (by omega)]
        have e9 : tdv f n p acc = (n, acc) := by
          cases f with
          | zero => rfl
          | succ f => rw [tdv, if_neg hp]
        rw [e9] at g9
        refine .inl ⟨?_, by rw [← g9], some (.int p), oft, by rw [← g9]⟩
        simp -implicitDefEqProofs only [ec_some, e_cmp, e_bin, e_var, e_cst, List.getElem?_cons_zero, List.getElem?_cons_succ, bnd_ok, bm, lift_some, t1, Option.map_some, truth])
    iterMax (n0 + 1) [some (.int N), some (.ref h.length), some (.int 2), some (.int n0), none] (h ++ [.lst []]) h2 ⟨n0, 2, [], none, h1, Nat.le_refl _, by omega, by omega, by simp, by omega, rfl, rfl, rfl⟩
  exact ⟨s2, s3, s_whl0 e1⟩
theorem prodL_ge : ∀ {l : List (Nat × Nat)}, SpecL l → 2 ^ l.length ≤ prodL l
  | [], _ => Nat.le_refl _
  | x :: l, h => by
    have p := h.1 x List.mem_cons_self
    have ih := prodL_ge h.tail
    show 2 ^ (l.length + 1) ≤ x.1 ^ x.2 * prodL l
    rw [Nat.pow_succ, Nat.mul_comm]
    refine Nat.mul_le_mul ?_ ih
    have h1 : x.1 ^ 1 ≤ x.1 ^ x.2 := Nat.pow_le_pow_right (by have := p.1.1; omega) p.2
    rw [Nat.pow_one] at h1
    have := p.1.1
    omega
theorem primesL_len (n : Nat) (h1 : 1 ≤ n) (h2 : n ≤ 1000000000) : (primesL n).length ≤ 30 := by
  have h := prodL_ge (primesL_SpecL h1)
  rw [primesL_prod n h1] at h
  apply Nat.le_of_not_lt
  intro c
  have : 2 ^ 31 ≤ 2 ^ (primesL n).length := Nat.pow_le_pow_right (by decide) c
  omega
theorem accL_len (n : Nat) (h1 : 1 ≤ n) (h2 : n ≤ 1000000000) : (tdv (n + 1) n 2 []).2.length ≤ 30 := by
  have h := primesL_len n h1 h2
  unfold primesL at h
  split at h
  · rw [List.length_append] at h
    omega
  · exact h
theorem law_primes_ok (k n0 : Nat) (h : Hm) (h1 : 1 ≤ n0) (h2 : n0 ≤ 1000000000) : calls P (k + 1) 23 [.int n0] h = some (.ok (.lst ((primesL n0).map pr)) h) := by
  obtain ⟨s2, s3, ew⟩ := plw_loop k n0 n0 h h1 (Nat.lt_of_le_of_lt (show n0 + 1 ≤ 1000000001 by omega) (by decide))
  have tl := accL_len n0 h1 h2
  rw [c23]
  unfold primesL
  generalize tdv (n0 + 1) n0 2 [] = t at *
  obtain ⟨r, acc⟩ := t
  simp only at ew tl ⊢
  have htk : ∀ o : MO, (h ++ [o]).take h.length = h := hl_take h
  have i1 : itemsL (h ++ [.lst (acc.map pr)]) (.ref h.length) = some (acc.map pr) := by simp -implicitDefEqProofs only [itemsL, hl_get]
  by_cases hr : 1 < r
  · rw [if_pos hr]
    have t1 : ∀ hh, cop .gt (.int (r : Int)) (.int 1) hh = some true := fun hh => by
      show some (decide ((1 : Int) < (r : Int))) = some true
      rw [decide_eq_true (by omega)]
    have ba : bop .add (.ref h.length) (.lst [.tup [.int r, .int 1]]) (h ++ [.lst (acc.map pr)]) = some (.lst ((acc ++ [(r, 1)]).map pr)) := by
      have hz : (acc.map pr).length + [MV.tup [.int r, .int 1]].length ≤ sizeMax := by
        rw [List.length_map]
        exact Nat.le_trans (show acc.length + 1 ≤ 1000002 by omega) (by decide)
      have i2 : itemsL (h ++ [.lst (acc.map pr)]) (.lst [.tup [.int r, .int 1]]) = some [.tup [.int r, .int 1]] := rfl
      simp -implicitDefEqProofs only [bop, i1, i2]
      rw [if_pos hz, List.map_append]
      rfl
    have fz := frozL_pr h.length (h ++ [.lst (acc.map pr)]) (acc ++ [(r, 1)])
    generalize (acc ++ [(r, 1)]).map pr = res at *
    simp -implicitDefEqProofs only [D23, runFn, stoL, sto, MV.nol, if_true, List.length_cons, List.length_nil, List.map_cons, List.map_nil, List.cons_append, List.nil_append, Nat.reduceSub, List.replicate, Nat.zero_add, Nat.reduceAdd, eb_cons, eb_nil, s_par0, s_ret0, e_lst, e_cst, es_cons, es_nil, bnd_ok, exS_ok, stoAll, pureL, List.set_cons_zero, List.set_cons_succ, thenS_nx, ew, e_ite, e_cmp, e_var, e_bin, e_tup, List.getElem?_cons_zero, List.getElem?_cons_succ, t1, Option.map_some, lift_some, truth, frz, ba, thenS_rt, endFn, handBack, froz, fz, htk]
  · rw [if_neg hr]
    have t1 : ∀ hh, cop .gt (.int (r : Int)) (.int 1) hh = some false := fun hh => by
      show some (decide ((1 : Int) < (r : Int))) = some false
      rw [decide_eq_false (by omega)]
    have ba : bop .add (.ref h.length) (.lst []) (h ++ [.lst (acc.map pr)]) = some (.lst (acc.map pr)) := by
      have hz : (acc.map pr).length + ([] : List MV).length ≤ sizeMax := by
        rw [List.length_map]
        exact Nat.le_trans (show acc.length + 0 ≤ 1000002 by omega) (by decide)
      have i2 : itemsL (h ++ [.lst (acc.map pr)]) (.lst []) = some [] := rfl
      simp -implicitDefEqProofs only [bop, i1, i2]
      rw [if_pos hz, List.append_nil]
    have fz := frozL_pr h.length (h ++ [.lst (acc.map pr)]) acc
    generalize acc.map pr = res at *
    simp -implicitDefEqProofs only [D23, runFn, stoL, sto, MV.nol, if_true, List.length_cons, List.length_nil, List.map_cons, List.map_nil, List.cons_append, List.nil_append, Nat.reduceSub, List.replicate, Nat.zero_add, Nat.reduceAdd, eb_cons, eb_nil, s_par0, s_ret0, e_lst, e_cst, es_cons, es_nil, bnd_ok, exS_ok, stoAll, pureL, List.set_cons_zero, List.set_cons_succ, thenS_nx, ew, e_ite, e_cmp, e_var, e_bin, e_tup, List.getElem?_cons_zero, List.getElem?_cons_succ, t1, Option.map_some, lift_some, truth, frz, ba, thenS_rt, endFn, handBack, froz, fz, htk]

theorem tdv_fst : ∀ (f n p : Nat) (acc : List (Nat × Nat)), (tdv f n p acc).1 ≤ n
  | 0, n, p, acc => Nat.le_refl _
  | f + 1, n, p, acc => by
    rw [tdv]
    split
    · exact Nat.le_trans (tdv_fst f _ _ _) (strip_le p n n 0)
    · exact Nat.le_refl _
theorem tdv_mem : ∀ (f n p : Nat) (acc : List (Nat × Nat)), 2 ≤ p → ∀ x ∈ (tdv f n p acc).2, x ∈ acc ∨ (2 ≤ x.1 ∧ x.1 ≤ n)
  | 0, n, p, acc, _, x, hx => .inl hx
  | f + 1, n, p, acc, hp, x, hx => by
    rw [tdv] at hx
    split at hx
    · rename_i hpn
      rcases tdv_mem f _ _ _ (by omega) x hx with q | ⟨q1, q2⟩
      · split at q
        · rcases List.mem_append.mp q with q | q
          · exact .inl q
          · have : x = (p, (strip p n n 0).2) := by simpa using q
            subst this
            have : p * 1 ≤ p * p := Nat.mul_le_mul_left _ (by omega)
            exact .inr ⟨hp, by show p ≤ n; omega⟩
        · exact .inl q
      · exact .inr ⟨q1, Nat.le_trans q2 (strip_le p n n 0)⟩
    · exact .inl hx
theorem primesL_mem (n : Nat) : ∀ x ∈ primesL n, 2 ≤ x.1 ∧ x.1 ≤ n := fun x hx => by
  have h1 := tdv_fst (n + 1) n 2 []
  have h2 : ∀ x ∈ (tdv (n + 1) n 2 []).2, 2 ≤ x.1 ∧ x.1 ≤ n := fun x hx => by
    rcases tdv_mem (n + 1) n 2 [] (by omega) x hx with q | q
    · simp at q
    · exact q
  unfold primesL at hx
  split at hx
  · rename_i hr
    rcases List.mem_append.mp hx with q | q
    · exact h2 x q
    · have : x = ((tdv (n + 1) n 2 []).1, 1) := by simpa using q
      subst this
      exact ⟨hr, h1⟩
  · exact h2 x hx

theorem bareL_append (a b : List (Nat × Nat)) : bareL (a ++ b) = bareL a * bareL b := by
  unfold bareL
  induction a with
  | nil => simp
  | cons x a ih =>
    rw [List.cons_append, List.foldr_cons, List.foldr_cons, ih]
    split
    · rw [Nat.mul_assoc]
    · rfl
theorem bareL_take {l : List (Nat × Nat)} {i : Nat} (hi : i < l.length) : bareL (l.take (i + 1)) = if l[i].2 % 2 = 1 then bareL (l.take i) * l[i].1 else bareL (l.take i) := by
  rw [List.take_succ_eq_append_getElem hi, bareL_append]
  show bareL (l.take i) * (if l[i].2 % 2 = 1 then l[i].1 * 1 else 1) = _
  split <;> simp
theorem abs_sg (s : Int) (n : Nat) (hs : s = 1 ∨ s = -1) (h : Hm) : biV .abs [.int (s * n)] h = some (.int (n : Int)) := by
  show some (MV.int (if s * (n : Int) < 0 then -(s * (n : Int)) else s * n)) = _
  congr 2
  rcases hs with rfl | rfl
  · rw [if_neg (by omega)]; omega
  · split <;> omega
theorem nl_pr : ∀ (l : List (Nat × Nat)), ∀ x ∈ l, nl (pr x) = true := fun _ _ _ => rfl
theorem f5 (k n : Nat) (s : Int) (h : Hm) (hs : s = 1 ∨ s = -1) (h1 : 1 ≤ n) (h2 : n ≤ 1000000) : calls P (k + 2) 5 [.int (s * n)] h = some (.ok (.int (s * (bareL (primesL n) : Nat))) h) := by
  have e4 := primes_in_ok k n h h1 h2
  have hm := primesL_mem n
  have ab := abs_sg s n hs h
  have cg : cop .gt (.int (s * n)) (.int 0) h = some (decide (s = 1)) := by
    show some (decide ((0 : Int) < s * n)) = _
    congr 1
    rcases hs with rfl | rfl
    · rw [decide_eq_true (by omega), decide_eq_true rfl]
    · rw [decide_eq_false (by omega), decide_eq_false (by omega)]
  rw [c5]
  generalize primesL n = l at *
  simp -implicitDefEqProofs only [runFn, stoL, sto, MV.nol, nolL, if_true, List.length_cons, List.length_nil, List.map_cons, List.map_nil, List.cons_append, List.nil_append, Nat.reduceSub, Nat.reduceAdd, Nat.zero_add, List.replicate, D5]
  have key : execS (calls P (k + 1)) (D5.body.headD .pass) [some (.int (s * n)), none, none, none] h = some (.nx [some (.int (s * n)), some (.int s), none, none] h) := by
    rcases hs with rfl | rfl <;> (show execS _ (.asg _ _) _ _ = _; simp -implicitDefEqProofs (disch := first | omega | assumption | rfl | decide | (simp -implicitDefEqProofs only [frz, MV.pure, pureL, MV.nol, nolL, Bool.and_self, pureL_ints, pureL_nI, nolL_ints]; done) | (simp -implicitDefEqProofs only [List.length_map, List.length_append, List.length_cons, List.length_nil, List.length_reverse]; omega)) only [stoL, sto, MV.nol, nolL, MV.pure, pureL, e_var, e_cst, e_bin, e_neg, e_not, e_and, e_or, e_ite, e_cmp, e_chn, e_tup, e_lst, e_ix, e_sl, e_rev, e_call, e_bi, e_isi, e_meth, s_asg0, s_par0, s_aug0, s_augS0, s_expr0, s_ret0, s_retN0, s_ife0, s_pass0, s_brk0, s_cnt0, es_nil, es_cons, eo_none, eo_some, ec_none, ec_some, et_var, et_tup, et_sub, ets_nil, ets_cons, eb_nil, eb_cons, truth, endFn, handBack, froz, frozL, frz, stoAll, unl, nl, nolL_ints, pureL_ints, frozL_ints, intsOf_ints, frz_ints, pureL_nI, nolL_nI, frozL_nI, hx_get0, hx_getS, hx_set0, hx_setS, hx_take, hx_take1, hx_take2, hx_take3, hx_take4, hx_get3, hx_len, hx_app, hx_ge, hx_ge0, itemsL, items, seq, m_app0, m_app1, m_app2, add_ll, add_rl0, add_rl1, evalI, cmpOf, bv_tup, bv_tupt, bv_tupf, bv_lenl, bv_lent, bv_lenf, bv_lens, bv_lenr0, bv_lenr1, bv_int, bv_intb, List.getElem?_nil, List.take_succ_cons, List.take_nil, List.take_length, List.take_zero, and_true, true_and, and_false, false_and, List.getElem?_cons_zero, List.getElem?_cons_succ, List.set_cons_zero, List.set_cons_succ, List.length_cons, List.length_nil, List.cons_append, List.nil_append, List.append_nil, List.map_cons, List.map_nil, List.length_map, List.replicate, List.all_cons, List.all_nil, Nat.reduceSub, Nat.reduceAdd, Nat.reduceLT, Nat.reduceLeDiff, Nat.zero_add, Nat.add_zero, and_self, if_true, if_false, ite_true, ite_false, decide_true, decide_false, Bool.not_true, Bool.not_false, Bool.and_true, Bool.true_and, Bool.and_false, Bool.false_and, Bool.or_true, Bool.true_or, Bool.or_false, Bool.false_or, Bool.and_self, bnd_ok, bnd_ex, exS_ok, exS_ex, lift_some, noX_ok, thenS_rt, thenS_nx, thenS_bk, thenS_ct, thenS_ex, Option.map_some, Option.bind_some, Option.some.injEq, reduceCtorEq, ite_self, Bool.false_eq_true, not_true_eq_false, not_false_eq_true, eq_self, D5, List.headD, cg])
  rw [eb_cons, show (MS.asg (.var 1) (.ite (.cmp .gt (.var 0) (.cst (.int 0))) (.cst (.int 1)) (.neg (.cst (.int 1))))) = D5.body.headD .pass from rfl, key, thenS_nx, eb_cons]
  refine xe_forM l pr (nl_pr l) (by simp -implicitDefEqProofs (disch := first | omega | assumption | rfl | decide | (simp -implicitDefEqProofs only [frz, MV.pure, pureL, MV.nol, nolL, Bool.and_self, pureL_ints, pureL_nI, nolL_ints]; done) | (simp -implicitDefEqProofs only [List.length_map, List.length_append, List.length_cons, List.length_nil, List.length_reverse]; omega)) only [stoL, sto, MV.nol, nolL, MV.pure, pureL, e_var, e_cst, e_bin, e_neg, e_not, e_and, e_or, e_ite, e_cmp, e_chn, e_tup, e_lst, e_ix, e_sl, e_rev, e_call, e_bi, e_isi, e_meth, s_asg0, s_par0, s_aug0, s_augS0, s_expr0, s_ret0, s_retN0, s_ife0, s_pass0, s_brk0, s_cnt0, es_nil, es_cons, eo_none, eo_some, ec_none, ec_some, et_var, et_tup, et_sub, ets_nil, ets_cons, eb_nil, eb_cons, truth, endFn, handBack, froz, frozL, frz, stoAll, unl, nl, nolL_ints, pureL_ints, frozL_ints, intsOf_ints, frz_ints, pureL_nI, nolL_nI, frozL_nI, hx_get0, hx_getS, hx_set0, hx_setS, hx_take, hx_take1, hx_take2, hx_take3, hx_take4, hx_get3, hx_len, hx_app, hx_ge, hx_ge0, itemsL, items, seq, m_app0, m_app1, m_app2, add_ll, add_rl0, add_rl1, evalI, cmpOf, bv_tup, bv_tupt, bv_tupf, bv_lenl, bv_lent, bv_lenf, bv_lens, bv_lenr0, bv_lenr1, bv_int, bv_intb, List.getElem?_nil, List.take_succ_cons, List.take_nil, List.take_length, List.take_zero, and_true, true_and, and_false, false_and, List.getElem?_cons_zero, List.getElem?_cons_succ, List.set_cons_zero, List.set_cons_succ, List.length_cons, List.length_nil, List.cons_append, List.nil_append, List.append_nil, List.map_cons, List.map_nil, List.length_map, List.replicate, List.all_cons, List.all_nil, Nat.reduceSub, Nat.reduceAdd, Nat.reduceLT, Nat.reduceLeDiff, Nat.zero_add, Nat.add_zero, and_self, if_true, if_false, ite_true, ite_false, decide_true, decide_false, Bool.not_true, Bool.not_false, Bool.and_true, Bool.true_and, Bool.and_false, Bool.false_and, Bool.or_true, Bool.true_or, Bool.or_false, Bool.false_or, Bool.and_self, bnd_ok, bnd_ex, exS_ok, exS_ex, lift_some, noX_ok, thenS_rt, thenS_nx, thenS_bk, thenS_ct, thenS_ex, Option.map_some, Option.bind_some, Option.some.injEq, reduceCtorEq, ite_self, Bool.false_eq_true, not_true_eq_false, not_false_eq_true, eq_self, ab, e4]) (.inl rfl) (fun i σ hh => hh = h ∧ ∃ s2 s3, σ = [some (.int (s * n)), some (.int (s * (bareL (l.take i) : Nat))), s2, s3]) ⟨rfl, none, none, by simp -implicitDefEqProofs [bareL]⟩ ?_ ?_
  · rintro σ hh ⟨rfl, s2, s3, rfl⟩
    simp -implicitDefEqProofs (disch := first | omega | assumption | rfl | decide | (simp -implicitDefEqProofs only [frz, MV.pure, pureL, MV.nol, nolL, Bool.and_self, pureL_ints, pureL_nI, nolL_ints]; done) | (simp -implicitDefEqProofs only [List.length_map, List.length_append, List.length_cons, List.length_nil, List.length_reverse]; omega)) only [stoL, sto, MV.nol, nolL, MV.pure, pureL, e_var, e_cst, e_bin, e_neg, e_not, e_and, e_or, e_ite, e_cmp, e_chn, e_tup, e_lst, e_ix, e_sl, e_rev, e_call, e_bi, e_isi, e_meth, s_asg0, s_par0, s_aug0, s_augS0, s_expr0, s_ret0, s_retN0, s_ife0, s_pass0, s_brk0, s_cnt0, es_nil, es_cons, eo_none, eo_some, ec_none, ec_some, et_var, et_tup, et_sub, ets_nil, ets_cons, eb_nil, eb_cons, truth, endFn, handBack, froz, frozL, frz, stoAll, unl, nl, nolL_ints, pureL_ints, frozL_ints, intsOf_ints, frz_ints, pureL_nI, nolL_nI, frozL_nI, hx_get0, hx_getS, hx_set0, hx_setS, hx_take, hx_take1, hx_take2, hx_take3, hx_take4, hx_get3, hx_len, hx_app, hx_ge, hx_ge0, itemsL, items, seq, m_app0, m_app1, m_app2, add_ll, add_rl0, add_rl1, evalI, cmpOf, bv_tup, bv_tupt, bv_tupf, bv_lenl, bv_lent, bv_lenf, bv_lens, bv_lenr0, bv_lenr1, bv_int, bv_intb, List.getElem?_nil, List.take_succ_cons, List.take_nil, List.take_length, List.take_zero, and_true, true_and, and_false, false_and, List.getElem?_cons_zero, List.getElem?_cons_succ, List.set_cons_zero, List.set_cons_succ, List.length_cons, List.length_nil, List.cons_append, List.nil_append, List.append_nil, List.map_cons, List.map_nil, List.length_map, List.replicate, List.all_cons, List.all_nil, Nat.reduceSub, Nat.reduceAdd, Nat.reduceLT, Nat.reduceLeDiff, Nat.zero_add, Nat.add_zero, and_self, if_true, if_false, ite_true, ite_false, decide_true, decide_false, Bool.not_true, Bool.not_false, Bool.and_true, Bool.true_and, Bool.and_false, Bool.false_and, Bool.or_true, Bool.true_or, Bool.or_false, Bool.false_or, Bool.and_self, bnd_ok, bnd_ex, exS_ok, exS_ex, lift_some, noX_ok, thenS_rt, thenS_nx, thenS_bk, thenS_ct, thenS_ex, Option.map_some, Option.bind_some, Option.some.injEq, reduceCtorEq, ite_self, Bool.false_eq_true, not_true_eq_false, not_false_eq_true, eq_self, List.take_length]
  · rintro i hi σ hh ⟨rfl, s2, s3, rfl⟩
    refine ⟨[some (.int (s * n)), some (.int (s * (bareL (l.take i) : Nat))), some (.int (l[i].1 : Nat)), some (.int (l[i].2 : Nat))], hh, by simp -implicitDefEqProofs (disch := first | omega | assumption | rfl | decide | (simp -implicitDefEqProofs only [frz, MV.pure, pureL, MV.nol, nolL, Bool.and_self, pureL_ints, pureL_nI, nolL_ints]; done) | (simp -implicitDefEqProofs only [List.length_map, List.length_append, List.length_cons, List.length_nil, List.length_reverse]; omega)) only [stoL, sto, MV.nol, nolL, MV.pure, pureL, e_var, e_cst, e_bin, e_neg, e_not, e_and, e_or, e_ite, e_cmp, e_chn, e_tup, e_lst, e_ix, e_sl, e_rev, e_call, e_bi, e_isi, e_meth, s_asg0, s_par0, s_aug0, s_augS0, s_expr0, s_ret0, s_retN0, s_ife0, s_pass0, s_brk0, s_cnt0, es_nil, es_cons, eo_none, eo_some, ec_none, ec_some, et_var, et_tup, et_sub, ets_nil, ets_cons, eb_nil, eb_cons, truth, endFn, handBack, froz, frozL, frz, stoAll, unl, nl, nolL_ints, pureL_ints, frozL_ints, intsOf_ints, frz_ints, pureL_nI, nolL_nI, frozL_nI, hx_get0, hx_getS, hx_set0, hx_setS, hx_take, hx_take1, hx_take2, hx_take3, hx_take4, hx_get3, hx_len, hx_app, hx_ge, hx_ge0, itemsL, items, seq, m_app0, m_app1, m_app2, add_ll, add_rl0, add_rl1, evalI, cmpOf, bv_tup, bv_tupt, bv_tupf, bv_lenl, bv_lent, bv_lenf, bv_lens, bv_lenr0, bv_lenr1, bv_int, bv_intb, List.getElem?_nil, List.take_succ_cons, List.take_nil, List.take_length, List.take_zero, and_true, true_and, and_false, false_and, List.getElem?_cons_zero, List.getElem?_cons_succ, List.set_cons_zero, List.set_cons_succ, List.length_cons, List.length_nil, List.cons_append, List.nil_append, List.append_nil, List.map_cons, List.map_nil, List.length_map, List.replicate, List.all_cons, List.all_nil, Nat.reduceSub, Nat.reduceAdd, Nat.reduceLT, Nat.reduceLeDiff, Nat.zero_add, Nat.add_zero, and_self, if_true, if_false, ite_true, ite_false, decide_true, decide_false, Bool.not_true, Bool.not_false, Bool.and_true, Bool.true_and, Bool.and_false, Bool.false_and, Bool.or_true, Bool.true_or, Bool.or_false, Bool.false_or, Bool.and_self, bnd_ok, bnd_ex, exS_ok, exS_ex, lift_some, noX_ok, thenS_rt, thenS_nx, thenS_bk, thenS_ct, thenS_ex, Option.map_some, Option.bind_some, Option.some.injEq, reduceCtorEq, ite_self, Bool.false_eq_true, not_true_eq_false, not_false_eq_true, eq_self, nI_app, nI_snoc, nI_rev, bn_add, bn_addL, bn_add1, an_add1, an_add, bn_sub1, bn_sub, bn_fdv, bn_mod, bn_modL, bn_fdvL, bn_mul, cn_le, cn_lt, cn_ge, cn_gt, cn_eq, cn_ne, cn_gt0, cn_gt1, cn_eq0, cn_eq1, cn_ne0, pr], [some (.int (s * n)), some (.int (s * (bareL (l.take (i + 1)) : Nat))), some (.int (l[i].1 : Nat)), some (.int (l[i].2 : Nat))], hh, ?_, rfl, _, _, rfl⟩
    have hx := hm l[i] (List.getElem_mem hi)
    rw [bareL_take hi]
    by_cases ho : l[i].2 % 2 = 1
    · simp -implicitDefEqProofs (disch := first | omega | assumption | rfl | decide | (simp -implicitDefEqProofs only [frz, MV.pure, pureL, MV.nol, nolL, Bool.and_self, pureL_ints, pureL_nI, nolL_ints]; done) | (simp -implicitDefEqProofs only [List.length_map, List.length_append, List.length_cons, List.length_nil, List.length_reverse]; omega)) only [stoL, sto, MV.nol, nolL, MV.pure, pureL, e_var, e_cst, e_bin, e_neg, e_not, e_and, e_or, e_ite, e_cmp, e_chn, e_tup, e_lst, e_ix, e_sl, e_rev, e_call, e_bi, e_isi, e_meth, s_asg0, s_par0, s_aug0, s_augS0, s_expr0, s_ret0, s_retN0, s_ife0, s_pass0, s_brk0, s_cnt0, es_nil, es_cons, eo_none, eo_some, ec_none, ec_some, et_var, et_tup, et_sub, ets_nil, ets_cons, eb_nil, eb_cons, truth, endFn, handBack, froz, frozL, frz, stoAll, unl, nl, nolL_ints, pureL_ints, frozL_ints, intsOf_ints, frz_ints, pureL_nI, nolL_nI, frozL_nI, hx_get0, hx_getS, hx_set0, hx_setS, hx_take, hx_take1, hx_take2, hx_take3, hx_take4, hx_get3, hx_len, hx_app, hx_ge, hx_ge0, itemsL, items, seq, m_app0, m_app1, m_app2, add_ll, add_rl0, add_rl1, evalI, cmpOf, bv_tup, bv_tupt, bv_tupf, bv_lenl, bv_lent, bv_lenf, bv_lens, bv_lenr0, bv_lenr1, bv_int, bv_intb, List.getElem?_nil, List.take_succ_cons, List.take_nil, List.take_length, List.take_zero, and_true, true_and, and_false, false_and, List.getElem?_cons_zero, List.getElem?_cons_succ, List.set_cons_zero, List.set_cons_succ, List.length_cons, List.length_nil, List.cons_append, List.nil_append, List.append_nil, List.map_cons, List.map_nil, List.length_map, List.replicate, List.all_cons, List.all_nil, Nat.reduceSub, Nat.reduceAdd, Nat.reduceLT, Nat.reduceLeDiff, Nat.zero_add, Nat.add_zero, and_self, if_true, if_false, ite_true, ite_false, decide_true, decide_false, Bool.not_true, Bool.not_false, Bool.and_true, Bool.true_and, Bool.and_false, Bool.false_and, Bool.or_true, Bool.true_or, Bool.or_false, Bool.false_or, Bool.and_self, bnd_ok, bnd_ex, exS_ok, exS_ex, lift_some, noX_ok, thenS_rt, thenS_nx, thenS_bk, thenS_ct, thenS_ex, Option.map_some, Option.bind_some, Option.some.injEq, reduceCtorEq, ite_self, Bool.false_eq_true, not_true_eq_false, not_false_eq_true, eq_self, nI_app, nI_snoc, nI_rev, bn_add, bn_addL, bn_add1, an_add1, an_add, bn_sub1, bn_sub, bn_fdv, bn_mod, bn_modL, bn_fdvL, bn_mul, cn_le, cn_lt, cn_ge, cn_gt, cn_eq, cn_ne, cn_gt0, cn_gt1, cn_eq0, cn_eq1, cn_ne0, ho, bi_mul, Int.natCast_mul, Int.mul_assoc]
    · simp -implicitDefEqProofs (disch := first | omega | assumption | rfl | decide | (simp -implicitDefEqProofs only [frz, MV.pure, pureL, MV.nol, nolL, Bool.and_self, pureL_ints, pureL_nI, nolL_ints]; done) | (simp -implicitDefEqProofs only [List.length_map, List.length_append, List.length_cons, List.length_nil, List.length_reverse]; omega)) only [stoL, sto, MV.nol, nolL, MV.pure, pureL, e_var, e_cst, e_bin, e_neg, e_not, e_and, e_or, e_ite, e_cmp, e_chn, e_tup, e_lst, e_ix, e_sl, e_rev, e_call, e_bi, e_isi, e_meth, s_asg0, s_par0, s_aug0, s_augS0, s_expr0, s_ret0, s_retN0, s_ife0, s_pass0, s_brk0, s_cnt0, es_nil, es_cons, eo_none, eo_some, ec_none, ec_some, et_var, et_tup, et_sub, ets_nil, ets_cons, eb_nil, eb_cons, truth, endFn, handBack, froz, frozL, frz, stoAll, unl, nl, nolL_ints, pureL_ints, frozL_ints, intsOf_ints, frz_ints, pureL_nI, nolL_nI, frozL_nI, hx_get0, hx_getS, hx_set0, hx_setS, hx_take, hx_take1, hx_take2, hx_take3, hx_take4, hx_get3, hx_len, hx_app, hx_ge, hx_ge0, itemsL, items, seq, m_app0, m_app1, m_app2, add_ll, add_rl0, add_rl1, evalI, cmpOf, bv_tup, bv_tupt, bv_tupf, bv_lenl, bv_lent, bv_lenf, bv_lens, bv_lenr0, bv_lenr1, bv_int, bv_intb, List.getElem?_nil, List.take_succ_cons, List.take_nil, List.take_length, List.take_zero, and_true, true_and, and_false, false_and, List.getElem?_cons_zero, List.getElem?_cons_succ, List.set_cons_zero, List.set_cons_succ, List.length_cons, List.length_nil, List.cons_append, List.nil_append, List.append_nil, List.map_cons, List.map_nil, List.length_map, List.replicate, List.all_cons, List.all_nil, Nat.reduceSub, Nat.reduceAdd, Nat.reduceLT, Nat.reduceLeDiff, Nat.zero_add, Nat.add_zero, and_self, if_true, if_false, ite_true, ite_false, decide_true, decide_false, Bool.not_true, Bool.not_false, Bool.and_true, Bool.true_and, Bool.and_false, Bool.false_and, Bool.or_true, Bool.true_or, Bool.or_false, Bool.false_or, Bool.and_self, bnd_ok, bnd_ex, exS_ok, exS_ex, lift_some, noX_ok, thenS_rt, thenS_nx, thenS_bk, thenS_ct, thenS_ex, Option.map_some, Option.bind_some, Option.some.injEq, reduceCtorEq, ite_self, Bool.false_eq_true, not_true_eq_false, not_false_eq_true, eq_self, nI_app, nI_snoc, nI_rev, bn_add, bn_addL, bn_add1, an_add1, an_add, bn_sub1, bn_sub, bn_fdv, bn_mod, bn_modL, bn_fdvL, bn_mul, cn_le, cn_lt, cn_ge, cn_gt, cn_eq, cn_ne, cn_gt0, cn_gt1, cn_eq0, cn_eq1, cn_ne0, ho]

theorem f24 (k n : Nat) (s : Int) (h : Hm) (hs : s = 1 ∨ s = -1) (h1 : 1 ≤ n) (h2 : n ≤ 1000000000) : calls P (k + 2) 24 [.int (s * n)] h = some (.ok (.int (s * (bareL (primesL n) : Nat))) h) := by
  have e4 := law_primes_ok k n h h1 h2
  have hm := primesL_mem n
  have ab := abs_sg s n hs h
  have cg : cop .gt (.int (s * n)) (.int 0) h = some (decide (s = 1)) := by
    show some (decide ((0 : Int) < s * n)) = _
    congr 1
    rcases hs with rfl | rfl
    · rw [decide_eq_true (by omega), decide_eq_true rfl]
    · rw [decide_eq_false (by omega), decide_eq_false (by omega)]
  rw [c24]
  generalize primesL n = l at *
  simp -implicitDefEqProofs only [runFn, stoL, sto, MV.nol, nolL, if_true, List.length_cons, List.length_nil, List.map_cons, List.map_nil, List.cons_append, List.nil_append, Nat.reduceSub, Nat.reduceAdd, Nat.zero_add, List.replicate, D24]
  have key : execS (calls P (k + 1)) (D24.body.headD .pass) [some (.int (s * n)), none, none, none] h = some (.nx [some (.int (s * n)), some (.int s), none, none] h) := by
    rcases hs with rfl | rfl <;> (show execS _ (.asg _ _) _ _ = _; simp -implicitDefEqProofs (disch := first | omega | assumption | rfl | decide | (simp -implicitDefEqProofs only [frz, MV.pure, pureL, MV.nol, nolL, Bool.and_self, pureL_ints, pureL_nI, nolL_ints]; done) | (simp -implicitDefEqProofs only [List.length_map, List.length_append, List.length_cons, List.length_nil, List.length_reverse]; omega)) only [stoL, sto, MV.nol, nolL, MV.pure, pureL, e_var, e_cst, e_bin, e_neg, e_not, e_and, e_or, e_ite, e_cmp, e_chn, e_tup, e_lst, e_ix, e_sl, e_rev, e_call, e_bi, e_isi, e_meth, s_asg0, s_par0, s_aug0, s_augS0, s_expr0, s_ret0, s_retN0, s_ife0, s_pass0, s_brk0, s_cnt0, es_nil, es_cons, eo_none, eo_some, ec_none, ec_some, et_var, et_tup, et_sub, ets_nil, ets_cons, eb_nil, eb_cons, truth, endFn, handBack, froz, frozL, frz, stoAll, unl, nl, nolL_ints, pureL_ints, frozL_ints, intsOf_ints, frz_ints, pureL_nI, nolL_nI, frozL_nI, hx_get0, hx_getS, hx_set0, hx_setS, hx_take, hx_take1, hx_take2, hx_take3, hx_take4, hx_get3, hx_len, hx_app, hx_ge, hx_ge0, itemsL, items, seq, m_app0, m_app1, m_app2, add_ll, add_rl0, add_rl1, evalI, cmpOf, bv_tup, bv_tupt, bv_tupf, bv_lenl, bv_lent, bv_lenf, bv_lens, bv_lenr0, bv_lenr1, bv_int, bv_intb, List.getElem?_nil, List.take_succ_cons, List.take_nil, List.take_length, List.take_zero, and_true, true_and, and_false, false_and, List.getElem?_cons_zero, List.getElem?_cons_succ, List.set_cons_zero, List.set_cons_succ, List.length_cons, List.length_nil, List.cons_append, List.nil_append, List.append_nil, List.map_cons, List.map_nil, List.length_map, List.replicate, List.all_cons, List.all_nil, Nat.reduceSub, Nat.reduceAdd, Nat.reduceLT, Nat.reduceLeDiff, Nat.zero_add, Nat.add_zero, and_self, if_true, if_false, ite_true, ite_false, decide_true, decide_false, Bool.not_true, Bool.not_false, Bool.and_true, Bool.true_and, Bool.and_false, Bool.false_and, Bool.or_true, Bool.true_or, Bool.or_false, Bool.false_or, Bool.and_self, bnd_ok, bnd_ex, exS_ok, exS_ex, lift_some, noX_ok, thenS_rt, thenS_nx, thenS_bk, thenS_ct, thenS_ex, Option.map_some, Option.bind_some, Option.some.injEq, reduceCtorEq, ite_self, Bool.false_eq_true, not_true_eq_false, not_false_eq_true, eq_self, D24, List.headD, cg])
  rw [eb_cons, show (MS.asg (.var 1) (.ite (.cmp .gt (.var 0) (.cst (.int 0))) (.cst (.int 1)) (.neg (.cst (.int 1))))) = D24.body.headD .pass from rfl, key, thenS_nx, eb_cons]
  refine xe_forM l pr (nl_pr l) (by simp -implicitDefEqProofs (disch := first | omega | assumption | rfl | decide | (simp -implicitDefEqProofs only [frz, MV.pure, pureL, MV.nol, nolL, Bool.and_self, pureL_ints, pureL_nI, nolL_ints]; done) | (simp -implicitDefEqProofs only [List.length_map, List.length_append, List.length_cons, List.length_nil, List.length_reverse]; omega)) only [stoL, sto, MV.nol, nolL, MV.pure, pureL, e_var, e_cst, e_bin, e_neg, e_not, e_and, e_or, e_ite, e_cmp, e_chn, e_tup, e_lst, e_ix, e_sl, e_rev, e_call, e_bi, e_isi, e_meth, s_asg0, s_par0, s_aug0, s_augS0, s_expr0, s_ret0, s_retN0, s_ife0, s_pass0, s_brk0, s_cnt0, es_nil, es_cons, eo_none, eo_some, ec_none, ec_some, et_var, et_tup, et_sub, ets_nil, ets_cons, eb_nil, eb_cons, truth, endFn, handBack, froz, frozL, frz, stoAll, unl, nl, nolL_ints, pureL_ints, frozL_ints, intsOf_ints, frz_ints, pureL_nI, nolL_nI, frozL_nI, hx_get0, hx_getS, hx_set0, hx_setS, hx_take, hx_take1, hx_take2, hx_take3, hx_take4, hx_get3, hx_len, hx_app, hx_ge, hx_ge0, itemsL, items, seq, m_app0, m_app1, m_app2, add_ll, add_rl0, add_rl1, evalI, cmpOf, bv_tup, bv_tupt, bv_tupf, bv_lenl, bv_lent, bv_lenf, bv_lens, bv_lenr0, bv_lenr1, bv_int, bv_intb, List.getElem?_nil, List.take_succ_cons, List.take_nil, List.take_length, List.take_zero, and_true, true_and, and_false, false_and, List.getElem?_cons_zero, List.getElem?_cons_succ, List.set_cons_zero, List.set_cons_succ, List.length_cons, List.length_nil, List.cons_append, List.nil_append, List.append_nil, List.map_cons, List.map_nil, List.length_map, List.replicate, List.all_cons, List.all_nil, Nat.reduceSub, Nat.reduceAdd, Nat.reduceLT, Nat.reduceLeDiff, Nat.zero_add, Nat.add_zero, and_self, if_true, if_false, ite_true, ite_false, decide_true, decide_false, Bool.not_true, Bool.not_false, Bool.and_true, Bool.true_and, Bool.and_false, Bool.false_and, Bool.or_true, Bool.true_or, Bool.or_false, Bool.false_or, Bool.and_self, bnd_ok, bnd_ex, exS_ok, exS_ex, lift_some, noX_ok, thenS_rt, thenS_nx, thenS_bk, thenS_ct, thenS_ex, Option.map_some, Option.bind_some, Option.some.injEq, reduceCtorEq, ite_self, Bool.false_eq_true, not_true_eq_false, not_false_eq_true, eq_self, ab, e4]) (.inl rfl) (fun i σ hh => hh = h ∧ ∃ s2 s3, σ = [some (.int (s * n)), some (.int (s * (bareL (l.take i) : Nat))), s2, s3]) ⟨rfl, none, none, by simp -implicitDefEqProofs [bareL]⟩ ?_ ?_
  · rintro σ hh ⟨rfl, s2, s3, rfl⟩
    simp -implicitDefEqProofs (disch := first | omega | assumption | rfl | decide | (simp -implicitDefEqProofs only [frz, MV.pure, pureL, MV.nol, nolL, Bool.and_self, pureL_ints, pureL_nI, nolL_ints]; done) | (simp -implicitDefEqProofs only [List.length_map, List.length_append, List.length_cons, List.length_nil, List.length_reverse]; omega)) only [stoL, sto, MV.nol, nolL, MV.pure, pureL, e_var, e_cst, e_bin, e_neg, e_not, e_and, e_or, e_ite, e_cmp, e_chn, e_tup, e_lst, e_ix, e_sl, e_rev, e_call, e_bi, e_isi, e_meth, s_asg0, s_par0, s_aug0, s_augS0, s_expr0, s_ret0, s_retN0, s_ife0, s_pass0, s_brk0, s_cnt0, es_nil, es_cons, eo_none, eo_some, ec_none, ec_some, et_var, et_tup, et_sub, ets_nil, ets_cons, eb_nil, eb_cons, truth, endFn, handBack, froz, frozL, frz, stoAll, unl, nl, nolL_ints, pureL_ints, frozL_ints, intsOf_ints, frz_ints, pureL_nI, nolL_nI, frozL_nI, hx_get0, hx_getS, hx_set0, hx_setS, hx_take, hx_take1, hx_take2, hx_take3, hx_take4, hx_get3, hx_len, hx_app, hx_ge, hx_ge0, itemsL, items, seq, m_app0, m_app1, m_app2, add_ll, add_rl0, add_rl1, evalI, cmpOf, bv_tup, bv_tupt, bv_tupf, bv_lenl, bv_lent, bv_lenf, bv_lens, bv_lenr0, bv_lenr1, bv_int, bv_intb, List.getElem?_nil, List.take_succ_cons, List.take_nil, List.take_length, List.take_zero, and_true, true_and, and_false, false_and, List.getElem?_cons_zero, List.getElem?_cons_succ, List.set_cons_zero, List.set_cons_succ, List.length_cons, List.length_nil, List.cons_append, List.nil_append, List.append_nil, List.map_cons, List.map_nil, List.length_map, List.replicate, List.all_cons, List.all_nil, Nat.reduceSub, Nat.reduceAdd, Nat.reduceLT, Nat.reduceLeDiff, Nat.zero_add, Nat.add_zero, and_self, if_true, if_false, ite_true, ite_false, decide_true, decide_false, Bool.not_true, Bool.not_false, Bool.and_true, Bool.true_and, Bool.and_false, Bool.false_and, Bool.or_true, Bool.true_or, Bool.or_false, Bool.false_or, Bool.and_self, bnd_ok, bnd_ex, exS_ok, exS_ex, lift_some, noX_ok, thenS_rt, thenS_nx, thenS_bk, thenS_ct, thenS_ex, Option.map_some, Option.bind_some, Option.some.injEq, reduceCtorEq, ite_self, Bool.false_eq_true, not_true_eq_false, not_false_eq_true, eq_self, List.take_length]
  · rintro i hi σ hh ⟨rfl, s2, s3, rfl⟩
    refine ⟨[some (.int (s * n)), some (.int (s * (bareL (l.take i) : Nat))), some (.int (l[i].1 : Nat)), some (.int (l[i].2 : Nat))], hh, by simp -implicitDefEqProofs (disch := first | omega | assumption | rfl | decide | (simp -implicitDefEqProofs only [frz, MV.pure, pureL, MV.nol, nolL, Bool.and_self, pureL_ints, pureL_nI, nolL_ints]; done) | (simp -implicitDefEqProofs only [List.length_map, List.length_append, List.length_cons, List.length_nil, List.length_reverse]; omega)) only [stoL, sto, MV.nol, nolL, MV.pure, pureL, e_var, e_cst, e_bin, e_neg, e_not, e_and, e_or, e_ite, e_cmp, e_chn, e_tup, e_lst, e_ix, e_sl, e_rev, e_call, e_bi, e_isi, e_meth, s_asg0, s_par0, s_aug0, s_augS0, s_expr0, s_ret0, s_retN0, s_ife0, s_pass0, s_brk0, s_cnt0, es_nil, es_cons, eo_none, eo_some, ec_none, ec_some, et_var, et_tup, et_sub, ets_nil, ets_cons, eb_nil, eb_cons, truth, endFn, handBack, froz, frozL, frz, stoAll, unl, nl, nolL_ints, pureL_ints, frozL_ints, intsOf_ints, frz_ints, pureL_nI, nolL_nI, frozL_nI, hx_get0, hx_getS, hx_set0, hx_setS, hx_take, hx_take1, hx_take2, hx_take3, hx_take4, hx_get3, hx_len, hx_app, hx_ge, hx_ge0, itemsL, items, seq, m_app0, m_app1, m_app2, add_ll, add_rl0, add_rl1, evalI, cmpOf, bv_tup, bv_tupt, bv_tupf, bv_lenl, bv_lent, bv_lenf, bv_lens, bv_lenr0, bv_lenr1, bv_int, bv_intb, List.getElem?_nil, List.take_succ_cons, List.take_nil, List.take_length, List.take_zero, and_true, true_and, and_false, false_and, List.getElem?_cons_zero, List.getElem?_cons_succ, List.set_cons_zero, List.set_cons_succ, List.length_cons, List.length_nil, List.cons_append, List.nil_append, List.append_nil, List.map_cons, List.map_nil, List.length_map, List.replicate, List.all_cons, List.all_nil, Nat.reduceSub, Nat.reduceAdd, Nat.reduceLT, Nat.reduceLeDiff, Nat.zero_add, Nat.add_zero, and_self, if_true, if_false, ite_true, ite_false, decide_true, decide_false, Bool.not_true, Bool.not_false, Bool.and_true, Bool.true_and, Bool.and_false, Bool.false_and, Bool.or_true, Bool.true_or, Bool.or_false, Bool.false_or, Bool.and_self, bnd_ok, bnd_ex, exS_ok, exS_ex, lift_some, noX_ok, thenS_rt, thenS_nx, thenS_bk, thenS_ct, thenS_ex, Option.map_some, Option.bind_some, Option.some.injEq, reduceCtorEq, ite_self, Bool.false_eq_true, not_true_eq_false, not_false_eq_true, eq_self, nI_app, nI_snoc, nI_rev, bn_add, bn_addL, bn_add1, an_add1, an_add, bn_sub1, bn_sub, bn_fdv, bn_mod, bn_modL, bn_fdvL, bn_mul, cn_le, cn_lt, cn_ge, cn_gt, cn_eq, cn_ne, cn_gt0, cn_gt1, cn_eq0, cn_eq1, cn_ne0, pr], [some (.int (s * n)), some (.int (s * (bareL (l.take (i + 1)) : Nat))), some (.int (l[i].1 : Nat)), some (.int (l[i].2 : Nat))], hh, ?_, rfl, _, _, rfl⟩
    have hx := hm l[i] (List.getElem_mem hi)
    rw [bareL_take hi]
    by_cases ho : l[i].2 % 2 = 1
    · simp -implicitDefEqProofs (disch := first | omega | assumption | rfl | decide | (simp -implicitDefEqProofs only [frz, MV.pure, pureL, MV.nol, nolL, Bool.and_self, pureL_ints, pureL_nI, nolL_ints]; done) | (simp -implicitDefEqProofs only [List.length_map, List.length_append, List.length_cons, List.length_nil, List.length_reverse]; omega)) only [stoL, sto, MV.nol, nolL, MV.pure, pureL, e_var, e_cst, e_bin, e_neg, e_not, e_and, e_or, e_ite, e_cmp, e_chn, e_tup, e_lst, e_ix, e_sl, e_rev, e_call, e_bi, e_isi, e_meth, s_asg0, s_par0, s_aug0, s_augS0, s_expr0, s_ret0, s_retN0, s_ife0, s_pass0, s_brk0, s_cnt0, es_nil, es_cons, eo_none, eo_some, ec_none, ec_some, et_var, et_tup, et_sub, ets_nil, ets_cons, eb_nil, eb_cons, truth, endFn, handBack, froz, frozL, frz, stoAll, unl, nl, nolL_ints, pureL_ints, frozL_ints, intsOf_ints, frz_ints, pureL_nI, nolL_nI, frozL_nI, hx_get0, hx_getS, hx_set0, hx_setS, hx_take, hx_take1, hx_take2, hx_take3, hx_take4, hx_get3, hx_len, hx_app, hx_ge, hx_ge0, itemsL, items, seq, m_app0, m_app1, m_app2, add_ll, add_rl0, add_rl1, evalI, cmpOf, bv_tup, bv_tupt, bv_tupf, bv_lenl, bv_lent, bv_lenf, bv_lens, bv_lenr0, bv_lenr1, bv_int, bv_intb, List.getElem?_nil, List.take_succ_cons, List.take_nil, List.take_length, List.take_zero, and_true, true_and, and_false, false_and, List.getElem?_cons_zero, List.getElem?_cons_succ, List.set_cons_zero, List.set_cons_succ, List.length_cons, List.length_nil, List.cons_append, List.nil_append, List.append_nil, List.map_cons, List.map_nil, List.length_map, List.replicate, List.all_cons, List.all_nil, Nat.reduceSub, Nat.reduceAdd, Nat.reduceLT, Nat.reduceLeDiff, Nat.zero_add, Nat.add_zero, and_self, if_true, if_false, ite_true, ite_false, decide_true, decide_false, Bool.not_true, Bool.not_false, Bool.and_true, Bool.true_and, Bool.and_false, Bool.false_and, Bool.or_true, Bool.true_or, Bool.or_false, Bool.false_or, Bool.and_self, bnd_ok, bnd_ex, exS_ok, exS_ex, lift_some, noX_ok, thenS_rt, thenS_nx, thenS_bk, thenS_ct, thenS_ex, Option.map_some, Option.bind_some, Option.some.injEq, reduceCtorEq, ite_self, Bool.false_eq_true, not_true_eq_false, not_false_eq_true, eq_self, nI_app, nI_snoc, nI_rev, bn_add, bn_addL, bn_add1, an_add1, an_add, bn_sub1, bn_sub, bn_fdv, bn_mod, bn_modL, bn_fdvL, bn_mul, cn_le, cn_lt, cn_ge, cn_gt, cn_eq, cn_ne, cn_gt0, cn_gt1, cn_eq0, cn_eq1, cn_ne0, ho, bi_mul, Int.natCast_mul, Int.mul_assoc]
    · simp -implicitDefEqProofs (disch := first | omega | assumption | rfl | decide | (simp -implicitDefEqProofs only [frz, MV.pure, pureL, MV.nol, nolL, Bool.and_self, pureL_ints, pureL_nI, nolL_ints]; done) | (simp -implicitDefEqProofs only [List.length_map, List.length_append, List.length_cons, List.length_nil, List.length_reverse]; omega)) only [stoL, sto, MV.nol, nolL, MV.pure, pureL, e_var, e_cst, e_bin, e_neg, e_not, e_and, e_or, e_ite, e_cmp, e_chn, e_tup, e_lst, e_ix, e_sl, e_rev, e_call, e_bi, e_isi, e_meth, s_asg0, s_par0, s_aug0, s_augS0, s_expr0, s_ret0, s_retN0, s_ife0, s_pass0, s_brk0, s_cnt0, es_nil, es_cons, eo_none, eo_some, ec_none, ec_some, et_var, et_tup, et_sub, ets_nil, ets_cons, eb_nil, eb_cons, truth, endFn, handBack, froz, frozL, frz, stoAll, unl, nl, nolL_ints, pureL_ints, frozL_ints, intsOf_ints, frz_ints, pureL_nI, nolL_nI, frozL_nI, hx_get0, hx_getS, hx_set0, hx_setS, hx_take, hx_take1, hx_take2, hx_take3, hx_take4, hx_get3, hx_len, hx_app, hx_ge, hx_ge0, itemsL, items, seq, m_app0, m_app1, m_app2, add_ll, add_rl0, add_rl1, evalI, cmpOf, bv_tup, bv_tupt, bv_tupf, bv_lenl, bv_lent, bv_lenf, bv_lens, bv_lenr0, bv_lenr1, bv_int, bv_intb, List.getElem?_nil, List.take_succ_cons, List.take_nil, List.take_length, List.take_zero, and_true, true_and, and_false, false_and, List.getElem?_cons_zero, List.getElem?_cons_succ, List.set_cons_zero, List.set_cons_succ, List.length_cons, List.length_nil, List.cons_append, List.nil_append, List.append_nil, List.map_cons, List.map_nil, List.length_map, List.replicate, List.all_cons, List.all_nil, Nat.reduceSub, Nat.reduceAdd, Nat.reduceLT, Nat.reduceLeDiff, Nat.zero_add, Nat.add_zero, and_self, if_true, if_false, ite_true, ite_false, decide_true, decide_false, Bool.not_true, Bool.not_false, Bool.and_true, Bool.true_and, Bool.and_false, Bool.false_and, Bool.or_true, Bool.true_or, Bool.or_false, Bool.false_or, Bool.and_self, bnd_ok, bnd_ex, exS_ok, exS_ex, lift_some, noX_ok, thenS_rt, thenS_nx, thenS_bk, thenS_ct, thenS_ex, Option.map_some, Option.bind_some, Option.some.injEq, reduceCtorEq, ite_self, Bool.false_eq_true, not_true_eq_false, not_false_eq_true, eq_self, nI_app, nI_snoc, nI_rev, bn_add, bn_addL, bn_add1, an_add1, an_add, bn_sub1, bn_sub, bn_fdv, bn_mod, bn_modL, bn_fdvL, bn_mul, cn_le, cn_lt, cn_ge, cn_gt, cn_eq, cn_ne, cn_gt0, cn_gt1, cn_eq0, cn_eq1, cn_ne0, ho]

--CUT
theorem isin35 (x : Int) (h : Hm) : cop .isin (.int x) (.tup [.int 3, .int 5]) h = some (decide (x = 3) || decide (x = 5)) := by
  show some ((3 == x) || ((5 == x) || false)) = _
  congr 1
  by_cases h1 : x = 3
  · subst h1; rfl
  · by_cases h2 : x = 5
    · subst h2; rfl
    · rw [decide_eq_false h1, decide_eq_false h2, show ((3 : Int) == x) = false from by simp; omega, show ((5 : Int) == x) = false from by simp; omega]; rfl
theorem jac_half {n i : Nat} (ho : n % 2 = 1) (hi : i % 2 = 0) (f : Int) : (if n % 8 = 3 ∨ n % 8 = 5 then 0 - f else f) * jac (i / 2) n = f * jac i n := by
  have e : jac i n = jac 2 n * jac (i / 2) n := by
    rw [← jac_mul ho, show 2 * (i / 2) = i by omega]
  rw [e, jac_two ho]
  by_cases c : n % 8 = 3 ∨ n % 8 = 5
  · rw [if_pos c, if_pos c, Int.zero_sub, Int.neg_mul, Int.neg_mul, Int.mul_neg, Int.one_mul]
  · rw [if_neg c, if_neg c, Int.one_mul]
theorem jac_swap {n i : Nat} (ho : n % 2 = 1) (hi : i % 2 = 1) (f : Int) : (if n % 4 = 3 ∧ i % 4 = 3 then 0 - f else f) * jac (n % i) i = f * jac i n := by
  rw [jac_mod, jac_recip hi ho]
  by_cases c : i % 4 = 3 ∧ n % 4 = 3
  · rw [if_pos c, if_pos ⟨c.2, c.1⟩, Int.zero_sub, Int.neg_mul, Int.neg_mul, Int.mul_neg, Int.one_mul]
  · rw [if_neg c, if_neg (fun q => c ⟨q.2, q.1⟩), Int.one_mul]
theorem halves (k n : Nat) (ho : n % 2 = 1) (hn : n < 1099511627776) (h : Hm) (i0 : Nat) (f0 : Int) (h1 : 1 ≤ i0) (hi : i0 < 1099511627776) : ∃ (i : Nat) (f : Int), 1 ≤ i ∧ i ≤ i0 ∧ i % 2 = 1 ∧ f * jac i n = f0 * jac i0 n ∧ execS (calls P k) (.whl (.cmp .eq (.bin .mod (.var 0) (.cst (.int 2))) (.cst (.int 0))) [(.asg (.var 0) (.bin .fdv (.var 0) (.cst (.int 2)))), (.ife (.cmp .isin (.bin .mod (.var 1) (.cst (.int 8))) (.tup [(.cst (.int 3)), (.cst (.int 5))])) [(.asg (.var 2) (.bin .sub (.cst (.int 0)) (.var 2)))] [])])
    [some (.int (i0 : Int)), some (.int (n : Int)), some (.int f0)] h = some (.nx [some (.int (i : Int)), some (.int (n : Int)), some (.int f)] h) := by
  obtain ⟨σ', h', e1, rfl, i, f, q1, q2, q3, q4, rfl⟩ := iterW_inv (c := fun σ h => evalC (calls P k) (some (.cmp .eq (.bin .mod (.var 0) (.cst (.int 2))) (.cst (.int 0)))) σ h)
    (b := fun σ h => execB (calls P k) [(.asg (.var 0) (.bin .fdv (.var 0) (.cst (.int 2)))), (.ife (.cmp .isin (.bin .mod (.var 1) (.cst (.int 8))) (.tup [(.cst (.int 3)), (.cst (.int 5))])) [(.asg (.var 2) (.bin .sub (.cst (.int 0)) (.var 2)))] [])] σ h)
    (fun m σ hh => hh = h ∧ ∃ (i : Nat) (f : Int), m = i ∧ 1 ≤ i ∧ i ≤ i0 ∧ f * jac i n = f0 * jac i0 n ∧ σ = [some (.int (i : Int)), some (.int (n : Int)), some (.int f)])
    (fun σ hh => hh = h ∧ ∃ (i : Nat) (f : Int), 1 ≤ i ∧ i ≤ i0 ∧ i % 2 = 1 ∧ f * jac i n = f0 * jac i0 n ∧ σ = [some (.int (i : Int)), some (.int (n : Int)), some (.int f)])
    (fun m σ hh ⟨g1, i, f, g2, g3, g4, g5, g6⟩ => by
      subst g1
      subst g2
      subst g6
      by_cases hm : m % 2 = 0
      · have hf := jac_half (i := m) ho hm f
        refine .inr ⟨hh, m / 2, [some (.int ((m / 2 : Nat) : Int)), some (.int (n : Int)), some (.int (if n % 8 = 3 ∨ n % 8 = 5 then 0 - f else f))], hh, by simp -implicitDefEqProofs (disch := first | omega | assumption | rfl | decide | (simp -implicitDefEqProofs only [frz, MV.pure, pureL, MV.nol, nolL, Bool.and_self, pureL_ints, pureL_nI, nolL_ints]; done) | (simp -implicitDefEqProofs only [List.length_map, List.length_append, List.length_cons, List.length_nil, List.length_reverse]; omega)) only [stoL, sto, MV.nol, nolL, MV.pure, pureL, e_var, e_cst, e_bin, e_neg, e_not, e_and, e_or, e_ite, e_cmp, e_chn, e_tup, e_lst, e_ix, e_sl, e_rev, e_call, e_bi, e_isi, e_meth, s_asg0, s_par0, s_aug0, s_augS0, s_expr0, s_ret0, s_retN0, s_ife0, s_pass0, s_brk0, s_cnt0, es_nil, es_cons, eo_none, eo_some, ec_none, ec_some, et_var, et_tup, et_sub, ets_nil, ets_cons, eb_nil, eb_cons, truth, endFn, handBack, froz, frozL, frz, stoAll, unl, nl, nolL_ints, pureL_ints, frozL_ints, intsOf_ints, frz_ints, pureL_nI, nolL_nI, frozL_nI, hx_get0, hx_getS, hx_set0, hx_setS, hx_take, hx_take1, hx_take2, hx_take3, hx_take4, hx_get3, hx_len, hx_app, hx_ge, hx_ge0, itemsL, items, seq, m_app0, m_app1, m_app2, add_ll, add_rl0, add_rl1, evalI, cmpOf, bv_tup, bv_tupt, bv_tupf, bv_lenl, bv_lent, bv_lenf, bv_lens, bv_lenr0, bv_lenr1, bv_int, bv_intb, List.getElem?_nil, List.take_succ_cons, List.take_nil, List.take_length, List.take_zero, and_true, true_and, and_false, false_and, List.getElem?_cons_zero, List.getElem?_cons_succ, List.set_cons_zero, List.set_cons_succ, List.length_cons, List.length_nil, List.cons_append, List.nil_append, List.append_nil, List.map_cons, List.map_nil, List.length_map, List.replicate, List.all_cons, List.all_nil, Nat.reduceSub, Nat.reduceAdd, Nat.reduceLT, Nat.reduceLeDiff, Nat.zero_add, Nat.add_zero, and_self, if_true, if_false, ite_true, ite_false, decide_true, decide_false, Bool.not_true, Bool.not_false, Bool.and_true, Bool.true_and, Bool.and_false, Bool.false_and, Bool.or_true, Bool.true_or, Bool.or_false, Bool.false_or, Bool.and_self, bnd_ok, bnd_ex, exS_ok, exS_ex, lift_some, noX_ok, thenS_rt, thenS_nx, thenS_bk, thenS_ct, thenS_ex, Option.map_some, Option.bind_some, Option.some.injEq, reduceCtorEq, ite_self, Bool.false_eq_true, not_true_eq_false, not_false_eq_true, eq_self, nI_app, nI_snoc, nI_rev, bn_add, bn_addL, bn_add1, an_add1, an_add, bn_sub1, bn_sub, bn_fdv, bn_mod, bn_modL, bn_fdvL, bn_mul, cn_le, cn_lt, cn_ge, cn_gt, cn_eq, cn_ne, cn_gt0, cn_gt1, cn_eq0, cn_eq1, cn_ne0, hm], ?_, by omega, rfl, m / 2, _, rfl, by omega, by omega, by rw [hf, g5], rfl⟩
        have i3 : ((n % 8 : Nat) : Int) = 3 ↔ n % 8 = 3 := by omega
        have i5 : ((n % 8 : Nat) : Int) = 5 ↔ n % 8 = 5 := by omega
        have x33 : decide (((3 : Nat) : Int) = 3) = true := rfl
        have x53 : decide (((5 : Nat) : Int) = 3) = false := rfl
        have x55 : decide (((5 : Nat) : Int) = 5) = true := rfl
        by_cases c3 : n % 8 = 3
        · rw [if_pos (.inl c3)]
          simp -implicitDefEqProofs (disch := first | omega | assumption | rfl | decide | (simp -implicitDefEqProofs only [frz, MV.pure, pureL, MV.nol, nolL, Bool.and_self, pureL_ints, pureL_nI, nolL_ints]; done) | (simp -implicitDefEqProofs only [List.length_map, List.length_append, List.length_cons, List.length_nil, List.length_reverse]; omega)) only [stoL, sto, MV.nol, nolL, MV.pure, pureL, e_var, e_cst, e_bin, e_neg, e_not, e_and, e_or, e_ite, e_cmp, e_chn, e_tup, e_lst, e_ix, e_sl, e_rev, e_call, e_bi, e_isi, e_meth, s_asg0, s_par0, s_aug0, s_augS0, s_expr0, s_ret0, s_retN0, s_ife0, s_pass0, s_brk0, s_cnt0, es_nil, es_cons, eo_none, eo_some, ec_none, ec_some, et_var, et_tup, et_sub, ets_nil, ets_cons, eb_nil, eb_cons, truth, endFn, handBack, froz, frozL, frz, stoAll, unl, nl, nolL_ints, pureL_ints, frozL_ints, intsOf_ints, frz_ints, pureL_nI, nolL_nI, frozL_nI, hx_get0, hx_getS, hx_set0, hx_setS, hx_take, hx_take1, hx_take2, hx_take3, hx_take4, hx_get3, hx_len, hx_app, hx_ge, hx_ge0, itemsL, items, seq, m_app0, m_app1, m_app2, add_ll, add_rl0, add_rl1, evalI, cmpOf, bv_tup, bv_tupt, bv_tupf, bv_lenl, bv_lent, bv_lenf, bv_lens, bv_lenr0, bv_lenr1, bv_int, bv_intb, List.getElem?_nil, List.take_succ_cons, List.take_nil, List.take_length, List.take_zero, and_true, true_and, and_false, false_and, List.getElem?_cons_zero, List.getElem?_cons_succ, List.set_cons_zero, List.set_cons_succ, List.length_cons, List.length_nil, List.cons_append, List.nil_append, List.append_nil, List.map_cons, List.map_nil, List.length_map, List.replicate, List.all_cons, List.all_nil, Nat.reduceSub, Nat.reduceAdd, Nat.reduceLT, Nat.reduceLeDiff, Nat.zero_add, Nat.add_zero, and_self, if_true, if_false, ite_true, ite_false, decide_true, decide_false, Bool.not_true, Bool.not_false, Bool.and_true, Bool.true_and, Bool.and_false, Bool.false_and, Bool.or_true, Bool.true_or, Bool.or_false, Bool.false_or, Bool.and_self, bnd_ok, bnd_ex, exS_ok, exS_ex, lift_some, noX_ok, thenS_rt, thenS_nx, thenS_bk, thenS_ct, thenS_ex, Option.map_some, Option.bind_some, Option.some.injEq, reduceCtorEq, ite_self, Bool.false_eq_true, not_true_eq_false, not_false_eq_true, eq_self, nI_app, nI_snoc, nI_rev, bn_add, bn_addL, bn_add1, an_add1, an_add, bn_sub1, bn_sub, bn_fdv, bn_mod, bn_modL, bn_fdvL, bn_mul, cn_le, cn_lt, cn_ge, cn_gt, cn_eq, cn_ne, cn_gt0, cn_gt1, cn_eq0, cn_eq1, cn_ne0, isin35, i3, i5, c3, bi_sub, x33]
        · by_cases c5 : n % 8 = 5
          · rw [if_pos (.inr c5)]
            simp -implicitDefEqProofs (disch := first | omega | assumption | rfl | decide | (simp -implicitDefEqProofs only [frz, MV.pure, pureL, MV.nol, nolL, Bool.and_self, pureL_ints, pureL_nI, nolL_ints]; done) | (simp -implicitDefEqProofs only [List.length_map, List.length_append, List.length_cons, List.length_nil, List.length_reverse]; omega)) only [stoL, sto, MV.nol, nolL, MV.pure, pureL, e_var, e_cst, e_bin, e_neg, e_not, e_and, e_or, e_ite, e_cmp, e_chn, e_tup, e_lst, e_ix, e_sl, e_rev, e_call, e_bi, e_isi, e_meth, s_asg0, s_par0, s_aug0, s_augS0, s_expr0, s_ret0, s_retN0, s_ife0, s_pass0, s_brk0, s_cnt0, es_nil, es_cons, eo_none, eo_some, ec_none, ec_some, et_var, et_tup, et_sub, ets_nil, ets_cons, eb_nil, eb_cons, truth, endFn, handBack, froz, frozL, frz, stoAll, unl, nl, nolL_ints, pureL_ints, frozL_ints, intsOf_ints, frz_ints, pureL_nI, nolL_nI, frozL_nI, hx_get0, hx_getS, hx_set0, hx_setS, hx_take, hx_take1, hx_take2, hx_take3, hx_take4, hx_get3, hx_len, hx_app, hx_ge, hx_ge0, itemsL, items, seq, m_app0, m_app1, m_app2, add_ll, add_rl0, add_rl1, evalI, cmpOf, bv_tup, bv_tupt, bv_tupf, bv_lenl, bv_lent, bv_lenf, bv_lens, bv_lenr0, bv_lenr1, bv_int, bv_intb, List.getElem?_nil, List.take_succ_cons, List.take_nil, List.take_length, List.take_zero, and_true, true_and, and_false, false_and, List.getElem?_cons_zero, List.getElem?_cons_succ, List.set_cons_zero, List.set_cons_succ, List.length_cons, List.length_nil, List.cons_append, List.nil_append, List.append_nil, List.map_cons, List.map_nil, List.length_map, List.replicate, List.all_cons, List.all_nil, Nat.reduceSub, Nat.reduceAdd, Nat.reduceLT, Nat.reduceLeDiff, Nat.zero_add, Nat.add_zero, and_self, if_true, if_false, ite_true, ite_false, decide_true, decide_false, Bool.not_true, Bool.not_false, Bool.and_true, Bool.true_and, Bool.and_false, Bool.false_and, Bool.or_true, Bool.true_or, Bool.or_false, Bool.false_or, Bool.and_self, bnd_ok, bnd_ex, exS_ok, exS_ex, lift_some, noX_ok, thenS_rt, thenS_nx, thenS_bk, thenS_ct, thenS_ex, Option.map_some, Option.bind_some, Option.some.injEq, reduceCtorEq, ite_self, Bool.false_eq_true, not_true_eq_false, not_false_eq_true, eq_self, nI_app, nI_snoc, nI_rev, bn_add, bn_addL, bn_add1, an_add1, an_add, bn_sub1, bn_sub, bn_fdv, bn_mod, bn_modL, bn_fdvL, bn_mul, cn_le, cn_lt, cn_ge, cn_gt, cn_eq, cn_ne, cn_gt0, cn_gt1, cn_eq0, cn_eq1, cn_ne0, isin35, i3, i5, c5, bi_sub, x53, x55]
          · rw [if_neg (fun c => c.elim c3 c5)]
            simp -implicitDefEqProofs (disch := first | omega | assumption | rfl | decide | (simp -implicitDefEqProofs only [frz, MV.pure, pureL, MV.nol, nolL, Bool.and_self, pureL_ints, pureL_nI, nolL_ints]; done) | (simp -implicitDefEqProofs only [List.length_map, List.length_append, List.length_cons, List.length_nil, List.length_reverse]; omega)) only [stoL, sto, MV.nol, nolL, MV.pure, pureL, e_var, e_cst, e_bin, e_neg, e_not, e_and, e_or, e_ite, e_cmp, e_chn, e_tup, e_lst, e_ix, e_sl, e_rev, e_call, e_bi, e_isi, e_meth, s_asg0, s_par0, s_aug0, s_augS0, s_expr0, s_ret0, s_retN0, s_ife0, s_pass0, s_brk0, s_cnt0, es_nil, es_cons, eo_none, eo_some, ec_none, ec_some, et_var, et_tup, et_sub, ets_nil, ets_cons, eb_nil, eb_cons, truth, endFn, handBack, froz, frozL, frz, stoAll, unl, nl, nolL_ints, pureL_ints, frozL_ints, intsOf_ints, frz_ints, pureL_nI, nolL_nI, frozL_nI, hx_get0, hx_getS, hx_set0, hx_setS, hx_take, hx_take1, hx_take2, hx_take3, hx_take4, hx_get3, hx_len, hx_app, hx_ge, hx_ge0, itemsL, items, seq, m_app0, m_app1, m_app2, add_ll, add_rl0, add_rl1, evalI, cmpOf, bv_tup, bv_tupt, bv_tupf, bv_lenl, bv_lent, bv_lenf, bv_lens, bv_lenr0, bv_lenr1, bv_int, bv_intb, List.getElem?_nil, List.take_succ_cons, List.take_nil, List.take_length, List.take_zero, and_true, true_and, and_false, false_and, List.getElem?_cons_zero, List.getElem?_cons_succ, List.set_cons_zero, List.set_cons_succ, List.length_cons, List.length_nil, List.cons_append, List.nil_append, List.append_nil, List.map_cons, List.map_nil, List.length_map, List.replicate, List.all_cons, List.all_nil, Nat.reduceSub, Nat.reduceAdd, Nat.reduceLT, Nat.reduceLeDiff, Nat.zero_add, Nat.add_zero, and_self, if_true, if_false, ite_true, ite_false, decide_true, decide_false, Bool.not_true, Bool.not_false, Bool.and_true, Bool.true_and, Bool.and_false, Bool.false_and, Bool.or_true, Bool.true_or, Bool.or_false, Bool.false_or, Bool.and_self, bnd_ok, bnd_ex, exS_ok, exS_ex, lift_some, noX_ok, thenS_rt, thenS_nx, thenS_bk, thenS_ct, thenS_ex, Option.map_some, Option.bind_some, Option.some.injEq, reduceCtorEq, ite_self, Bool.false_eq_true, not_true_eq_false, not_false_eq_true, eq_self, nI_app, nI_snoc, nI_rev, bn_add, bn_addL, bn_add1, an_add1, an_add, bn_sub1, bn_sub, bn_fdv, bn_mod, bn_modL, bn_fdvL, bn_mul, cn_le, cn_lt, cn_ge, cn_gt, cn_eq, cn_ne, cn_gt0, cn_gt1, cn_eq0, cn_eq1, cn_ne0, isin35, i3, i5, c3, c5, bi_sub]
      · refine .inl ⟨by simp -implicitDefEqProofs (disch := first | omega | assumption | rfl | decide | (simp -implicitDefEqProofs only [frz, MV.pure, pureL, MV.nol, nolL, Bool.and_self, pureL_ints, pureL_nI, nolL_ints]; done) | (simp -implicitDefEqProofs only [List.length_map, List.length_append, List.length_cons, List.length_nil, List.length_reverse]; omega)) only [stoL, sto, MV.nol, nolL, MV.pure, pureL, e_var, e_cst, e_bin, e_neg, e_not, e_and, e_or, e_ite, e_cmp, e_chn, e_tup, e_lst, e_ix, e_sl, e_rev, e_call, e_bi, e_isi, e_meth, s_asg0, s_par0, s_aug0, s_augS0, s_expr0, s_ret0, s_retN0, s_ife0, s_pass0, s_brk0, s_cnt0, es_nil, es_cons, eo_none, eo_some, ec_none, ec_some, et_var, et_tup, et_sub, ets_nil, ets_cons, eb_nil, eb_cons, truth, endFn, handBack, froz, frozL, frz, stoAll, unl, nl, nolL_ints, pureL_ints, frozL_ints, intsOf_ints, frz_ints, pureL_nI, nolL_nI, frozL_nI, hx_get0, hx_getS, hx_set0, hx_setS, hx_take, hx_take1, hx_take2, hx_take3, hx_take4, hx_get3, hx_len, hx_app, hx_ge, hx_ge0, itemsL, items, seq, m_app0, m_app1, m_app2, add_ll, add_rl0, add_rl1, evalI, cmpOf, bv_tup, bv_tupt, bv_tupf, bv_lenl, bv_lent, bv_lenf, bv_lens, bv_lenr0, bv_lenr1, bv_int, bv_intb, List.getElem?_nil, List.take_succ_cons, List.take_nil, List.take_length, List.take_zero, and_true, true_and, and_false, false_and, List.getElem?_cons_zero, List.getElem?_cons_succ, List.set_cons_zero, List.set_cons_succ, List.length_cons, List.length_nil, List.cons_append, List.nil_append, List.append_nil, List.map_cons, List.map_nil, List.length_map, List.replicate, List.all_cons, List.all_nil, Nat.reduceSub, Nat.reduceAdd, Nat.reduceLT, Nat.reduceLeDiff, Nat.zero_add, Nat.add_zero, and_self, if_true, if_false, ite_true, ite_false, decide_true, decide_false, Bool.not_true, Bool.not_false, Bool.and_true, Bool.true_and, Bool.and_false, Bool.false_and, Bool.or_true, Bool.true_or, Bool.or_false, Bool.false_or, Bool.and_self, bnd_ok, bnd_ex, exS_ok, exS_ex, lift_some, noX_ok, thenS_rt, thenS_nx, thenS_bk, thenS_ct, thenS_ex, Option.map_some, Option.bind_some, Option.some.injEq, reduceCtorEq, ite_self, Bool.false_eq_true, not_true_eq_false, not_false_eq_true, eq_self, nI_app, nI_snoc, nI_rev, bn_add, bn_addL, bn_add1, an_add1, an_add, bn_sub1, bn_sub, bn_fdv, bn_mod, bn_modL, bn_fdvL, bn_mul, cn_le, cn_lt, cn_ge, cn_gt, cn_eq, cn_ne, cn_gt0, cn_gt1, cn_eq0, cn_eq1, cn_ne0, hm], rfl, m, f, g3, g4, by omega, g5, rfl⟩)
    iterMax i0 [some (.int (i0 : Int)), some (.int (n : Int)), some (.int f0)] h hi ⟨rfl, i0, f0, rfl, h1, Nat.le_refl _, rfl, rfl⟩
  exact ⟨i, f, q1, q2, q3, q4, s_whl0 e1⟩
theorem odd_sign_ok (k : Nat) (d : Int) (n : Nat) (h : Hm) (ho : n % 2 = 1) (hn : n < 1073741824 * 1000) : calls P (k + 1) 11 [.int d, .int (n : Int)] h = some (.ok (.int (jacI d n)) h) := by
  obtain ⟨a, ha⟩ : ∃ a : Nat, d % (n : Int) = (a : Int) := ⟨(d % (n : Int)).toNat, (Int.toNat_of_nonneg (Int.emod_nonneg _ (by omega))).symm⟩
  have han : a < n := by
    have := Int.emod_lt_of_pos d (show (0 : Int) < n by omega)
    omega
  have ej : jacI d n = jac a n := by
    unfold jacI
    rw [ha, Int.toNat_natCast]
  rw [ej]
  have bm : ∀ h, bop .mod (.int d) (.int (n : Int)) h = some (.int (a : Int)) := fun h => by
    rw [bi_mod _ _ _ (by omega), Int.fmod_eq_emod_of_nonneg _ (by omega), ha]
  rw [c11]
  simp -implicitDefEqProofs only [runFn, stoL, sto, MV.nol, nolL, if_true, List.length_cons, List.length_nil, List.map_cons, List.map_nil, List.cons_append, List.nil_append, Nat.reduceSub, Nat.reduceAdd, Nat.zero_add, List.replicate, D11]
  simp -implicitDefEqProofs (disch := first | omega | assumption | rfl | decide | (simp -implicitDefEqProofs only [frz, MV.pure, pureL, MV.nol, nolL, Bool.and_self, pureL_ints, pureL_nI, nolL_ints]; done) | (simp -implicitDefEqProofs only [List.length_map, List.length_append, List.length_cons, List.length_nil, List.length_reverse]; omega)) only [stoL, sto, MV.nol, nolL, MV.pure, pureL, e_var, e_cst, e_bin, e_neg, e_not, e_and, e_or, e_ite, e_cmp, e_chn, e_tup, e_lst, e_ix, e_sl, e_rev, e_call, e_bi, e_isi, e_meth, s_asg0, s_par0, s_aug0, s_augS0, s_expr0, s_ret0, s_retN0, s_ife0, s_pass0, s_brk0, s_cnt0, es_nil, es_cons, eo_none, eo_some, ec_none, ec_some, et_var, et_tup, et_sub, ets_nil, ets_cons, eb_nil, eb_cons, truth, frz, stoAll, unl, nl, nolL_ints, pureL_ints, frozL_ints, intsOf_ints, frz_ints, pureL_nI, nolL_nI, frozL_nI, hx_get0, hx_getS, hx_set0, hx_setS, hx_take, hx_take1, hx_take2, hx_take3, hx_take4, hx_get3, hx_len, hx_app, hx_ge, hx_ge0, itemsL, items, seq, m_app0, m_app1, m_app2, add_ll, add_rl0, add_rl1, evalI, cmpOf, bv_tup, bv_tupt, bv_tupf, bv_lenl, bv_lent, bv_lenf, bv_lens, bv_lenr0, bv_lenr1, bv_int, bv_intb, List.getElem?_nil, List.take_succ_cons, List.take_nil, List.take_length, List.take_zero, and_true, true_and, and_false, false_and, List.getElem?_cons_zero, List.getElem?_cons_succ, List.set_cons_zero, List.set_cons_succ, List.length_cons, List.length_nil, List.cons_append, List.nil_append, List.append_nil, List.map_cons, List.map_nil, List.length_map, List.replicate, List.all_cons, List.all_nil, Nat.reduceSub, Nat.reduceAdd, Nat.reduceLT, Nat.reduceLeDiff, Nat.zero_add, Nat.add_zero, and_self, if_true, if_false, ite_true, ite_false, decide_true, decide_false, Bool.not_true, Bool.not_false, Bool.and_true, Bool.true_and, Bool.and_false, Bool.false_and, Bool.or_true, Bool.true_or, Bool.or_false, Bool.false_or, Bool.and_self, bnd_ok, bnd_ex, exS_ok, exS_ex, lift_some, noX_ok, thenS_rt, thenS_nx, thenS_bk, thenS_ct, thenS_ex, Option.map_some, Option.bind_some, Option.some.injEq, reduceCtorEq, ite_self, Bool.false_eq_true, not_true_eq_false, not_false_eq_true, eq_self, bm]
  refine xe_whl (fun m σ hh => hh = h ∧ ∃ (i m' : Nat) (f : Int), m = i ∧ i < m' ∧ m' ≤ n ∧ m' % 2 = 1 ∧ f * jac i m' = jac a n ∧ σ = [some (.int (i : Int)), some (.int (m' : Int)), some (.int f)]) a (Nat.lt_trans han (Nat.lt_trans hn (by decide))) ⟨rfl, a, n, 1, rfl, han, Nat.le_refl _, ho, Int.one_mul _, rfl⟩ ?_
  rintro m σ hh ⟨rfl, i, m', f, rfl, g1, g2, g3, g4, rfl⟩
  by_cases hi : m = 0
  · subst hi
    refine .inl ⟨by simp -implicitDefEqProofs (disch := first | omega | assumption | rfl | decide | (simp -implicitDefEqProofs only [frz, MV.pure, pureL, MV.nol, nolL, Bool.and_self, pureL_ints, pureL_nI, nolL_ints]; done) | (simp -implicitDefEqProofs only [List.length_map, List.length_append, List.length_cons, List.length_nil, List.length_reverse]; omega)) only [stoL, sto, MV.nol, nolL, MV.pure, pureL, e_var, e_cst, e_bin, e_neg, e_not, e_and, e_or, e_ite, e_cmp, e_chn, e_tup, e_lst, e_ix, e_sl, e_rev, e_call, e_bi, e_isi, e_meth, s_asg0, s_par0, s_aug0, s_augS0, s_expr0, s_ret0, s_retN0, s_ife0, s_pass0, s_brk0, s_cnt0, es_nil, es_cons, eo_none, eo_some, ec_none, ec_some, et_var, et_tup, et_sub, ets_nil, ets_cons, eb_nil, eb_cons, truth, endFn, handBack, froz, frozL, frz, stoAll, unl, nl, nolL_ints, pureL_ints, frozL_ints, intsOf_ints, frz_ints, pureL_nI, nolL_nI, frozL_nI, hx_get0, hx_getS, hx_set0, hx_setS, hx_take, hx_take1, hx_take2, hx_take3, hx_take4, hx_get3, hx_len, hx_app, hx_ge, hx_ge0, itemsL, items, seq, m_app0, m_app1, m_app2, add_ll, add_rl0, add_rl1, evalI, cmpOf, bv_tup, bv_tupt, bv_tupf, bv_lenl, bv_lent, bv_lenf, bv_lens, bv_lenr0, bv_lenr1, bv_int, bv_intb, List.getElem?_nil, List.take_succ_cons, List.take_nil, List.take_length, List.take_zero, and_true, true_and, and_false, false_and, List.getElem?_cons_zero, List.getElem?_cons_succ, List.set_cons_zero, List.set_cons_succ, List.length_cons, List.length_nil, List.cons_append, List.nil_append, List.append_nil, List.map_cons, List.map_nil, List.length_map, List.replicate, List.all_cons, List.all_nil, Nat.reduceSub, Nat.reduceAdd, Nat.reduceLT, Nat.reduceLeDiff, Nat.zero_add, Nat.add_zero, and_self, if_true, if_false, ite_true, ite_false, decide_true, decide_false, Bool.not_true, Bool.not_false, Bool.and_true, Bool.true_and, Bool.and_false, Bool.false_and, Bool.or_true, Bool.true_or, Bool.or_false, Bool.false_or, Bool.and_self, bnd_ok, bnd_ex, exS_ok, exS_ex, lift_some, noX_ok, thenS_rt, thenS_nx, thenS_bk, thenS_ct, thenS_ex, Option.map_some, Option.bind_some, Option.some.injEq, reduceCtorEq, ite_self, Bool.false_eq_true, not_true_eq_false, not_false_eq_true, eq_self, nI_app, nI_snoc, nI_rev, bn_add, bn_addL, bn_add1, an_add1, an_add, bn_sub1, bn_sub, bn_fdv, bn_mod, bn_modL, bn_fdvL, bn_mul, cn_le, cn_lt, cn_ge, cn_gt, cn_eq, cn_ne, cn_gt0, cn_gt1, cn_eq0, cn_eq1, cn_ne0], ?_⟩
    rw [jac_zero] at g4
    by_cases h1 : m' = 1
    · rw [if_pos h1, Int.mul_one] at g4
      subst h1
      rw [← g4]
      have q : ∀ h, cop .eq (.int ((1 : Nat) : Int)) (.int 1) h = some true := fun _ => rfl
      simp -implicitDefEqProofs (disch := first | omega | assumption | rfl | decide | (simp -implicitDefEqProofs only [frz, MV.pure, pureL, MV.nol, nolL, Bool.and_self, pureL_ints, pureL_nI, nolL_ints]; done) | (simp -implicitDefEqProofs only [List.length_map, List.length_append, List.length_cons, List.length_nil, List.length_reverse]; omega)) only [stoL, sto, MV.nol, nolL, MV.pure, pureL, e_var, e_cst, e_bin, e_neg, e_not, e_and, e_or, e_ite, e_cmp, e_chn, e_tup, e_lst, e_ix, e_sl, e_rev, e_call, e_bi, e_isi, e_meth, s_asg0, s_par0, s_aug0, s_augS0, s_expr0, s_ret0, s_retN0, s_ife0, s_pass0, s_brk0, s_cnt0, es_nil, es_cons, eo_none, eo_some, ec_none, ec_some, et_var, et_tup, et_sub, ets_nil, ets_cons, eb_nil, eb_cons, truth, endFn, handBack, froz, frozL, frz, stoAll, unl, nl, nolL_ints, pureL_ints, frozL_ints, intsOf_ints, frz_ints, pureL_nI, nolL_nI, frozL_nI, hx_get0, hx_getS, hx_set0, hx_setS, hx_take, hx_take1, hx_take2, hx_take3, hx_take4, hx_get3, hx_len, hx_app, hx_ge, hx_ge0, itemsL, items, seq, m_app0, m_app1, m_app2, add_ll, add_rl0, add_rl1, evalI, cmpOf, bv_tup, bv_tupt, bv_tupf, bv_lenl, bv_lent, bv_lenf, bv_lens, bv_lenr0, bv_lenr1, bv_int, bv_intb, List.getElem?_nil, List.take_succ_cons, List.take_nil, List.take_length, List.take_zero, and_true, true_and, and_false, false_and, List.getElem?_cons_zero, List.getElem?_cons_succ, List.set_cons_zero, List.set_cons_succ, List.length_cons, List.length_nil, List.cons_append, List.nil_append, List.append_nil, List.map_cons, List.map_nil, List.length_map, List.replicate, List.all_cons, List.all_nil, Nat.reduceSub, Nat.reduceAdd, Nat.reduceLT, Nat.reduceLeDiff, Nat.zero_add, Nat.add_zero, and_self, if_true, if_false, ite_true, ite_false, decide_true, decide_false, Bool.not_true, Bool.not_false, Bool.and_true, Bool.true_and, Bool.and_false, Bool.false_and, Bool.or_true, Bool.true_or, Bool.or_false, Bool.false_or, Bool.and_self, bnd_ok, bnd_ex, exS_ok, exS_ex, lift_some, noX_ok, thenS_rt, thenS_nx, thenS_bk, thenS_ct, thenS_ex, Option.map_some, Option.bind_some, Option.some.injEq, reduceCtorEq, ite_self, Bool.false_eq_true, not_true_eq_false, not_false_eq_true, eq_self, q]
    · rw [if_neg h1, Int.mul_zero] at g4
      rw [← g4]
      simp -implicitDefEqProofs (disch := first | omega | assumption | rfl | decide | (simp -implicitDefEqProofs only [frz, MV.pure, pureL, MV.nol, nolL, Bool.and_self, pureL_ints, pureL_nI, nolL_ints]; done) | (simp -implicitDefEqProofs only [List.length_map, List.length_append, List.length_cons, List.length_nil, List.length_reverse]; omega)) only [stoL, sto, MV.nol, nolL, MV.pure, pureL, e_var, e_cst, e_bin, e_neg, e_not, e_and, e_or, e_ite, e_cmp, e_chn, e_tup, e_lst, e_ix, e_sl, e_rev, e_call, e_bi, e_isi, e_meth, s_asg0, s_par0, s_aug0, s_augS0, s_expr0, s_ret0, s_retN0, s_ife0, s_pass0, s_brk0, s_cnt0, es_nil, es_cons, eo_none, eo_some, ec_none, ec_some, et_var, et_tup, et_sub, ets_nil, ets_cons, eb_nil, eb_cons, truth, endFn, handBack, froz, frozL, frz, stoAll, unl, nl, nolL_ints, pureL_ints, frozL_ints, intsOf_ints, frz_ints, pureL_nI, nolL_nI, frozL_nI, hx_get0, hx_getS, hx_set0, hx_setS, hx_take, hx_take1, hx_take2, hx_take3, hx_take4, hx_get3, hx_len, hx_app, hx_ge, hx_ge0, itemsL, items, seq, m_app0, m_app1, m_app2, add_ll, add_rl0, add_rl1, evalI, cmpOf, bv_tup, bv_tupt, bv_tupf, bv_lenl, bv_lent, bv_lenf, bv_lens, bv_lenr0, bv_lenr1, bv_int, bv_intb, List.getElem?_nil, List.take_succ_cons, List.take_nil, List.take_length, List.take_zero, and_true, true_and, and_false, false_and, List.getElem?_cons_zero, List.getElem?_cons_succ, List.set_cons_zero, List.set_cons_succ, List.length_cons, List.length_nil, List.cons_append, List.nil_append, List.append_nil, List.map_cons, List.map_nil, List.length_map, List.replicate, List.all_cons, List.all_nil, Nat.reduceSub, Nat.reduceAdd, Nat.reduceLT, Nat.reduceLeDiff, Nat.zero_add, Nat.add_zero, and_self, if_true, if_false, ite_true, ite_false, decide_true, decide_false, Bool.not_true, Bool.not_false, Bool.and_true, Bool.true_and, Bool.and_false, Bool.false_and, Bool.or_true, Bool.true_or, Bool.or_false, Bool.false_or, Bool.and_self, bnd_ok, bnd_ex, exS_ok, exS_ex, lift_some, noX_ok, thenS_rt, thenS_nx, thenS_bk, thenS_ct, thenS_ex, Option.map_some, Option.bind_some, Option.some.injEq, reduceCtorEq, ite_self, Bool.false_eq_true, not_true_eq_false, not_false_eq_true, eq_self, nI_app, nI_snoc, nI_rev, bn_add, bn_addL, bn_add1, an_add1, an_add, bn_sub1, bn_sub, bn_fdv, bn_mod, bn_modL, bn_fdvL, bn_mul, cn_le, cn_lt, cn_ge, cn_gt, cn_eq, cn_ne, cn_gt0, cn_gt1, cn_eq0, cn_eq1, cn_ne0, h1]
  · obtain ⟨i, f2, q1, q2, q3, q4, ew⟩ := halves k m' g3 (by omega) hh m f (by omega) (by omega)
    have hs := jac_swap (n := m') (i := i) g3 q3 f2
    have hlt := Nat.mod_lt m' q1
    refine .inr ⟨by simp -implicitDefEqProofs (disch := first | omega | assumption | rfl | decide | (simp -implicitDefEqProofs only [frz, MV.pure, pureL, MV.nol, nolL, Bool.and_self, pureL_ints, pureL_nI, nolL_ints]; done) | (simp -implicitDefEqProofs only [List.length_map, List.length_append, List.length_cons, List.length_nil, List.length_reverse]; omega)) only [stoL, sto, MV.nol, nolL, MV.pure, pureL, e_var, e_cst, e_bin, e_neg, e_not, e_and, e_or, e_ite, e_cmp, e_chn, e_tup, e_lst, e_ix, e_sl, e_rev, e_call, e_bi, e_isi, e_meth, s_asg0, s_par0, s_aug0, s_augS0, s_expr0, s_ret0, s_retN0, s_ife0, s_pass0, s_brk0, s_cnt0, es_nil, es_cons, eo_none, eo_some, ec_none, ec_some, et_var, et_tup, et_sub, ets_nil, ets_cons, eb_nil, eb_cons, truth, endFn, handBack, froz, frozL, frz, stoAll, unl, nl, nolL_ints, pureL_ints, frozL_ints, intsOf_ints, frz_ints, pureL_nI, nolL_nI, frozL_nI, hx_get0, hx_getS, hx_set0, hx_setS, hx_take, hx_take1, hx_take2, hx_take3, hx_take4, hx_get3, hx_len, hx_app, hx_ge, hx_ge0, itemsL, items, seq, m_app0, m_app1, m_app2, add_ll, add_rl0, add_rl1, evalI, cmpOf, bv_tup, bv_tupt, bv_tupf, bv_lenl, bv_lent, bv_lenf, bv_lens, bv_lenr0, bv_lenr1, bv_int, bv_intb, List.getElem?_nil, List.take_succ_cons, List.take_nil, List.take_length, List.take_zero, and_true, true_and, and_false, false_and, List.getElem?_cons_zero, List.getElem?_cons_succ, List.set_cons_zero, List.set_cons_succ, List.length_cons, List.length_nil, List.cons_append, List.nil_append, List.append_nil, List.map_cons, List.map_nil, List.length_map, List.replicate, List.all_cons, List.all_nil, Nat.reduceSub, Nat.reduceAdd, Nat.reduceLT, Nat.reduceLeDiff, Nat.zero_add, Nat.add_zero, and_self, if_true, if_false, ite_true, ite_false, decide_true, decide_false, Bool.not_true, Bool.not_false, Bool.and_true, Bool.true_and, Bool.and_false, Bool.false_and, Bool.or_true, Bool.true_or, Bool.or_false, Bool.false_or, Bool.and_self, bnd_ok, bnd_ex, exS_ok, exS_ex, lift_some, noX_ok, thenS_rt, thenS_nx, thenS_bk, thenS_ct, thenS_ex, Option.map_some, Option.bind_some, Option.some.injEq, reduceCtorEq, ite_self, Bool.false_eq_true, not_true_eq_false, not_false_eq_true, eq_self, nI_app, nI_snoc, nI_rev, bn_add, bn_addL, bn_add1, an_add1, an_add, bn_sub1, bn_sub, bn_fdv, bn_mod, bn_modL, bn_fdvL, bn_mul, cn_le, cn_lt, cn_ge, cn_gt, cn_eq, cn_ne, cn_gt0, cn_gt1, cn_eq0, cn_eq1, cn_ne0, hi], m' % i, [some (.int ((m' % i : Nat) : Int)), some (.int (i : Int)), some (.int (if m' % 4 = 3 ∧ i % 4 = 3 then 0 - f2 else f2))], hh, ?_, by omega, rfl, m' % i, i, _, rfl, hlt, by omega, q3, by rw [hs, q4, g4], rfl⟩
    have c4 : ∀ (x : Nat) h, cop .eq (.int (x : Int)) (.int 3) h = some (decide (x = 3)) := fun x h => cn_eq x 3 h
    have i0 : i ≠ 0 := by omega
    by_cases c1 : m' % 4 = 3
    · by_cases c2 : i % 4 = 3
      · rw [if_pos ⟨c1, c2⟩]
        simp -implicitDefEqProofs (disch := first | omega | assumption | rfl | decide | (simp -implicitDefEqProofs only [frz, MV.pure, pureL, MV.nol, nolL, Bool.and_self, pureL_ints, pureL_nI, nolL_ints]; done) | (simp -implicitDefEqProofs only [List.length_map, List.length_append, List.length_cons, List.length_nil, List.length_reverse]; omega)) only [stoL, sto, MV.nol, nolL, MV.pure, pureL, e_var, e_cst, e_bin, e_neg, e_not, e_and, e_or, e_ite, e_cmp, e_chn, e_tup, e_lst, e_ix, e_sl, e_rev, e_call, e_bi, e_isi, e_meth, s_asg0, s_par0, s_aug0, s_augS0, s_expr0, s_ret0, s_retN0, s_ife0, s_pass0, s_brk0, s_cnt0, es_nil, es_cons, eo_none, eo_some, ec_none, ec_some, et_var, et_tup, et_sub, ets_nil, ets_cons, eb_nil, eb_cons, truth, endFn, handBack, froz, frozL, frz, stoAll, unl, nl, nolL_ints, pureL_ints, frozL_ints, intsOf_ints, frz_ints, pureL_nI, nolL_nI, frozL_nI, hx_get0, hx_getS, hx_set0, hx_setS, hx_take, hx_take1, hx_take2, hx_take3, hx_take4, hx_get3, hx_len, hx_app, hx_ge, hx_ge0, itemsL, items, seq, m_app0, m_app1, m_app2, add_ll, add_rl0, add_rl1, evalI, cmpOf, bv_tup, bv_tupt, bv_tupf, bv_lenl, bv_lent, bv_lenf, bv_lens, bv_lenr0, bv_lenr1, bv_int, bv_intb, List.getElem?_nil, List.take_succ_cons, List.take_nil, List.take_length, List.take_zero, and_true, true_and, and_false, false_and, List.getElem?_cons_zero, List.getElem?_cons_succ, List.set_cons_zero, List.set_cons_succ, List.length_cons, List.length_nil, List.cons_append, List.nil_append, List.append_nil, List.map_cons, List.map_nil, List.length_map, List.replicate, List.all_cons, List.all_nil, Nat.reduceSub, Nat.reduceAdd, Nat.reduceLT, Nat.reduceLeDiff, Nat.zero_add, Nat.add_zero, and_self, if_true, if_false, ite_true, ite_false, decide_true, decide_false, Bool.not_true, Bool.not_false, Bool.and_true, Bool.true_and, Bool.and_false, Bool.false_and, Bool.or_true, Bool.true_or, Bool.or_false, Bool.false_or, Bool.and_self, bnd_ok, bnd_ex, exS_ok, exS_ex, lift_some, noX_ok, thenS_rt, thenS_nx, thenS_bk, thenS_ct, thenS_ex, Option.map_some, Option.bind_some, Option.some.injEq, reduceCtorEq, ite_self, Bool.false_eq_true, not_true_eq_false, not_false_eq_true, eq_self, nI_app, nI_snoc, nI_rev, bn_add, bn_addL, bn_add1, an_add1, an_add, bn_sub1, bn_sub, bn_fdv, bn_mod, bn_modL, bn_fdvL, bn_mul, cn_le, cn_lt, cn_ge, cn_gt, cn_eq, cn_ne, cn_gt0, cn_gt1, cn_eq0, cn_eq1, cn_ne0, ew, c4, c1, c2, bi_sub]
      · rw [if_neg (fun c => c2 c.2)]
        simp -implicitDefEqProofs (disch := first | omega | assumption | rfl | decide | (simp -implicitDefEqProofs only [frz, MV.pure, pureL, MV.nol, nolL, Bool.and_self, pureL_ints, pureL_nI, nolL_ints]; done) | (simp -implicitDefEqProofs only [List.length_map, List.length_append, List.length_cons, List.length_nil, List.length_reverse]; omega)) only [stoL, sto, MV.nol, nolL, MV.pure, pureL, e_var, e_cst, e_bin, e_neg, e_not, e_and, e_or, e_ite, e_cmp, e_chn, e_tup, e_lst, e_ix, e_sl, e_rev, e_call, e_bi, e_isi, e_meth, s_asg0, s_par0, s_aug0, s_augS0, s_expr0, s_ret0, s_retN0, s_ife0, s_pass0, s_brk0, s_cnt0, es_nil, es_cons, eo_none, eo_some, ec_none, ec_some, et_var, et_tup, et_sub, ets_nil, ets_cons, eb_nil, eb_cons, truth, endFn, handBack, froz, frozL, frz, stoAll, unl, nl, nolL_ints, pureL_ints, frozL_ints, intsOf_ints, frz_ints, pureL_nI, nolL_nI, frozL_nI, hx_get0, hx_getS, hx_set0, hx_setS, hx_take, hx_take1, hx_take2, hx_take3, hx_take4, hx_get3, hx_len, hx_app, hx_ge, hx_ge0, itemsL, items, seq, m_app0, m_app1, m_app2, add_ll, add_rl0, add_rl1, evalI, cmpOf, bv_tup, bv_tupt, bv_tupf, bv_lenl, bv_lent, bv_lenf, bv_lens, bv_lenr0, bv_lenr1, bv_int, bv_intb, List.getElem?_nil, List.take_succ_cons, List.take_nil, List.take_length, List.take_zero, and_true, true_and, and_false, false_and, List.getElem?_cons_zero, List.getElem?_cons_succ, List.set_cons_zero, List.set_cons_succ, List.length_cons, List.length_nil, List.cons_append, List.nil_append, List.append_nil, List.map_cons, List.map_nil, List.length_map, List.replicate, List.all_cons, List.all_nil, Nat.reduceSub, Nat.reduceAdd, Nat.reduceLT, Nat.reduceLeDiff, Nat.zero_add, Nat.add_zero, and_self, if_true, if_false, ite_true, ite_false, decide_true, decide_false, Bool.not_true, Bool.not_false, Bool.and_true, Bool.true_and, Bool.and_false, Bool.false_and, Bool.or_true, Bool.true_or, Bool.or_false, Bool.false_or, Bool.and_self, bnd_ok, bnd_ex, exS_ok, exS_ex, lift_some, noX_ok, thenS_rt, thenS_nx, thenS_bk, thenS_ct, thenS_ex, Option.map_some, Option.bind_some, Option.some.injEq, reduceCtorEq, ite_self, Bool.false_eq_true, not_true_eq_false, not_false_eq_true, eq_self, nI_app, nI_snoc, nI_rev, bn_add, bn_addL, bn_add1, an_add1, an_add, bn_sub1, bn_sub, bn_fdv, bn_mod, bn_modL, bn_fdvL, bn_mul, cn_le, cn_lt, cn_ge, cn_gt, cn_eq, cn_ne, cn_gt0, cn_gt1, cn_eq0, cn_eq1, cn_ne0, ew, c4, c1, c2, bi_sub]
    · rw [if_neg (fun c => c1 c.1)]
      simp -implicitDefEqProofs (disch := first | omega | assumption | rfl | decide | (simp -implicitDefEqProofs only [frz, MV.pure, pureL, MV.nol, nolL, Bool.and_self, pureL_ints, pureL_nI, nolL_ints]; done) | (simp -implicitDefEqProofs only [List.length_map, List.length_append, List.length_cons, List.length_nil, List.length_reverse]; omega)) only [stoL, sto, MV.nol, nolL, MV.pure, pureL, e_var, e_cst, e_bin, e_neg, e_not, e_and, e_or, e_ite, e_cmp, e_chn, e_tup, e_lst, e_ix, e_sl, e_rev, e_call, e_bi, e_isi, e_meth, s_asg0, s_par0, s_aug0, s_augS0, s_expr0, s_ret0, s_retN0, s_ife0, s_pass0, s_brk0, s_cnt0, es_nil, es_cons, eo_none, eo_some, ec_none, ec_some, et_var, et_tup, et_sub, ets_nil, ets_cons, eb_nil, eb_cons, truth, endFn, handBack, froz, frozL, frz, stoAll, unl, nl, nolL_ints, pureL_ints, frozL_ints, intsOf_ints, frz_ints, pureL_nI, nolL_nI, frozL_nI, hx_get0, hx_getS, hx_set0, hx_setS, hx_take, hx_take1, hx_take2, hx_take3, hx_take4, hx_get3, hx_len, hx_app, hx_ge, hx_ge0, itemsL, items, seq, m_app0, m_app1, m_app2, add_ll, add_rl0, add_rl1, evalI, cmpOf, bv_tup, bv_tupt, bv_tupf, bv_lenl, bv_lent, bv_lenf, bv_lens, bv_lenr0, bv_lenr1, bv_int, bv_intb, List.getElem?_nil, List.take_succ_cons, List.take_nil, List.take_length, List.take_zero, and_true, true_and, and_false, false_and, List.getElem?_cons_zero, List.getElem?_cons_succ, List.set_cons_zero, List.set_cons_succ, List.length_cons, List.length_nil, List.cons_append, List.nil_append, List.append_nil, List.map_cons, List.map_nil, List.length_map, List.replicate, List.all_cons, List.all_nil, Nat.reduceSub, Nat.reduceAdd, Nat.reduceLT, Nat.reduceLeDiff, Nat.zero_add, Nat.add_zero, and_self, if_true, if_false, ite_true, ite_false, decide_true, decide_false, Bool.not_true, Bool.not_false, Bool.and_true, Bool.true_and, Bool.and_false, Bool.false_and, Bool.or_true, Bool.true_or, Bool.or_false, Bool.false_or, Bool.and_self, bnd_ok, bnd_ex, exS_ok, exS_ex, lift_some, noX_ok, thenS_rt, thenS_nx, thenS_bk, thenS_ct, thenS_ex, Option.map_some, Option.bind_some, Option.some.injEq, reduceCtorEq, ite_self, Bool.false_eq_true, not_true_eq_false, not_false_eq_true, eq_self, nI_app, nI_snoc, nI_rev, bn_add, bn_addL, bn_add1, an_add1, an_add, bn_sub1, bn_sub, bn_fdv, bn_mod, bn_modL, bn_fdvL, bn_mul, cn_le, cn_lt, cn_ge, cn_gt, cn_eq, cn_ne, cn_gt0, cn_gt1, cn_eq0, cn_eq1, cn_ne0, ew, c4, c1, bi_sub]
--CUT
theorem two_cases (d : Int) : two d = 0 ∨ two d = 1 ∨ two d = -1 := by
  unfold two
  split
  · exact .inl rfl
  · split
    · exact .inr (.inl rfl)
    · exact .inr (.inr rfl)
theorem sign_in_ok (k : Nat) (d : Int) (n : Nat) (h : Hm) (hn : n < 1073741824 * 1000) : calls P (k + 2) 12 [.int d, .int (n : Int)] h = some (.ok (.int (kr d n)) h) := by
  rw [c12]
  simp -implicitDefEqProofs only [runFn, stoL, sto, MV.nol, nolL, if_true, List.length_cons, List.length_nil, List.map_cons, List.map_nil, List.cons_append, List.nil_append, Nat.reduceSub, Nat.reduceAdd, Nat.zero_add, List.replicate, D12]
  have m2 : ∀ h, bop .mod (.int d) (.int 2) h = some (.int (d % 2)) := fun h => by rw [bi_mod _ _ _ (by decide), Int.fmod_eq_emod_of_nonneg _ (by decide)]
  have m8 : ∀ h, bop .mod (.int d) (.int 8) h = some (.int (d % 8)) := fun h => by rw [bi_mod _ _ _ (by decide), Int.fmod_eq_emod_of_nonneg _ (by decide)]
  by_cases hd : d = 1
  · subst hd
    have e : kr 1 n = 1 := if_pos rfl
    have q : ∀ h, cop .eq (.int 1) (.int 1) h = some true := fun _ => rfl
    rw [e]
    simp -implicitDefEqProofs (disch := first | omega | assumption | rfl | decide | (simp -implicitDefEqProofs only [frz, MV.pure, pureL, MV.nol, nolL, Bool.and_self, pureL_ints, pureL_nI, nolL_ints]; done) | (simp -implicitDefEqProofs only [List.length_map, List.length_append, List.length_cons, List.length_nil, List.length_reverse]; omega)) only [stoL, sto, MV.nol, nolL, MV.pure, pureL, e_var, e_cst, e_bin, e_neg, e_not, e_and, e_or, e_ite, e_cmp, e_chn, e_tup, e_lst, e_ix, e_sl, e_rev, e_call, e_bi, e_isi, e_meth, s_asg0, s_par0, s_aug0, s_augS0, s_expr0, s_ret0, s_retN0, s_ife0, s_pass0, s_brk0, s_cnt0, es_nil, es_cons, eo_none, eo_some, ec_none, ec_some, et_var, et_tup, et_sub, ets_nil, ets_cons, eb_nil, eb_cons, truth, endFn, handBack, froz, frozL, frz, stoAll, unl, nl, nolL_ints, pureL_ints, frozL_ints, intsOf_ints, frz_ints, pureL_nI, nolL_nI, frozL_nI, hx_get0, hx_getS, hx_set0, hx_setS, hx_take, hx_take1, hx_take2, hx_take3, hx_take4, hx_get3, hx_len, hx_app, hx_ge, hx_ge0, itemsL, items, seq, m_app0, m_app1, m_app2, add_ll, add_rl0, add_rl1, evalI, cmpOf, bv_tup, bv_tupt, bv_tupf, bv_lenl, bv_lent, bv_lenf, bv_lens, bv_lenr0, bv_lenr1, bv_int, bv_intb, List.getElem?_nil, List.take_succ_cons, List.take_nil, List.take_length, List.take_zero, and_true, true_and, and_false, false_and, List.getElem?_cons_zero, List.getElem?_cons_succ, List.set_cons_zero, List.set_cons_succ, List.length_cons, List.length_nil, List.cons_append, List.nil_append, List.append_nil, List.map_cons, List.map_nil, List.length_map, List.replicate, List.all_cons, List.all_nil, Nat.reduceSub, Nat.reduceAdd, Nat.reduceLT, Nat.reduceLeDiff, Nat.zero_add, Nat.add_zero, and_self, if_true, if_false, ite_true, ite_false, decide_true, decide_false, Bool.not_true, Bool.not_false, Bool.and_true, Bool.true_and, Bool.and_false, Bool.false_and, Bool.or_true, Bool.true_or, Bool.or_false, Bool.false_or, Bool.and_self, bnd_ok, bnd_ex, exS_ok, exS_ex, lift_some, noX_ok, thenS_rt, thenS_nx, thenS_bk, thenS_ct, thenS_ex, Option.map_some, Option.bind_some, Option.some.injEq, reduceCtorEq, ite_self, Bool.false_eq_true, not_true_eq_false, not_false_eq_true, eq_self, Int.reduceSub, Int.reduceAdd, Int.reduceMul, Int.reduceNeg, bi_add, bi_sub, ci_le, ci_lt, ci_ge, ci_gt, ci_eq, ci_ne, q]
  · by_cases h0 : n = 0
    · subst h0
      have e : kr d 0 = 0 := by unfold kr; rw [if_neg hd, if_pos rfl]
      rw [e]
      have q : ∀ h, cop .eq (.int ((0 : Nat) : Int)) (.int 0) h = some true := fun _ => rfl
      simp -implicitDefEqProofs (disch := first | omega | assumption | rfl | decide | (simp -implicitDefEqProofs only [frz, MV.pure, pureL, MV.nol, nolL, Bool.and_self, pureL_ints, pureL_nI, nolL_ints]; done) | (simp -implicitDefEqProofs only [List.length_map, List.length_append, List.length_cons, List.length_nil, List.length_reverse]; omega)) only [stoL, sto, MV.nol, nolL, MV.pure, pureL, e_var, e_cst, e_bin, e_neg, e_not, e_and, e_or, e_ite, e_cmp, e_chn, e_tup, e_lst, e_ix, e_sl, e_rev, e_call, e_bi, e_isi, e_meth, s_asg0, s_par0, s_aug0, s_augS0, s_expr0, s_ret0, s_retN0, s_ife0, s_pass0, s_brk0, s_cnt0, es_nil, es_cons, eo_none, eo_some, ec_none, ec_some, et_var, et_tup, et_sub, ets_nil, ets_cons, eb_nil, eb_cons, truth, endFn, handBack, froz, frozL, frz, stoAll, unl, nl, nolL_ints, pureL_ints, frozL_ints, intsOf_ints, frz_ints, pureL_nI, nolL_nI, frozL_nI, hx_get0, hx_getS, hx_set0, hx_setS, hx_take, hx_take1, hx_take2, hx_take3, hx_take4, hx_get3, hx_len, hx_app, hx_ge, hx_ge0, itemsL, items, seq, m_app0, m_app1, m_app2, add_ll, add_rl0, add_rl1, evalI, cmpOf, bv_tup, bv_tupt, bv_tupf, bv_lenl, bv_lent, bv_lenf, bv_lens, bv_lenr0, bv_lenr1, bv_int, bv_intb, List.getElem?_nil, List.take_succ_cons, List.take_nil, List.take_length, List.take_zero, and_true, true_and, and_false, false_and, List.getElem?_cons_zero, List.getElem?_cons_succ, List.set_cons_zero, List.set_cons_succ, List.length_cons, List.length_nil, List.cons_append, List.nil_append, List.append_nil, List.map_cons, List.map_nil, List.length_map, List.replicate, List.all_cons, List.all_nil, Nat.reduceSub, Nat.reduceAdd, Nat.reduceLT, Nat.reduceLeDiff, Nat.zero_add, Nat.add_zero, and_self, if_true, if_false, ite_true, ite_false, decide_true, decide_false, Bool.not_true, Bool.not_false, Bool.and_true, Bool.true_and, Bool.and_false, Bool.false_and, Bool.or_true, Bool.true_or, Bool.or_false, Bool.false_or, Bool.and_self, bnd_ok, bnd_ex, exS_ok, exS_ex, lift_some, noX_ok, thenS_rt, thenS_nx, thenS_bk, thenS_ct, thenS_ex, Option.map_some, Option.bind_some, Option.some.injEq, reduceCtorEq, ite_self, Bool.false_eq_true, not_true_eq_false, not_false_eq_true, eq_self, Int.reduceSub, Int.reduceAdd, Int.reduceMul, Int.reduceNeg, bi_add, bi_sub, ci_le, ci_lt, ci_ge, ci_gt, ci_eq, ci_ne, q, hd]
    · have n1 : 1 ≤ n := by omega
      rw [kr_pos n1]
      have sm := strip_mod (p := 2) (by decide) n n 0 n1 (Nat.le_refl _)
      have sl := strip_le 2 n n 0
      obtain ⟨σ', h', e1, rfl, rfl⟩ := iterW_inv (c := fun σ h => evalC (calls P (k + 1)) (some (.cmp .eq (.bin .mod (.var 1) (.cst (.int 2))) (.cst (.int 0)))) σ h)
        (b := fun σ h => execB (calls P (k + 1)) [(.asg (.var 1) (.bin .fdv (.var 1) (.cst (.int 2)))), (.asg (.var 2) (.bin .mul (.var 2) (.ite (.cmp .eq (.bin .mod (.var 0) (.cst (.int 2))) (.cst (.int 0))) (.cst (.int 0)) (.ite (.cmp .eq (.bin .mod (.var 0) (.cst (.int 8))) (.cst (.int 1))) (.cst (.int 1)) (.neg (.cst (.int 1)))))))] σ h)
        (fun f σ hh => hh = h ∧ ∃ m e : Nat, 1 ≤ m ∧ m ≤ f ∧ strip 2 f m e = strip 2 n n 0 ∧ σ = [some (.int d), some (.int (m : Int)), some (.int (two d ^ e))])
        (fun σ hh => hh = h ∧ σ = [some (.int d), some (.int ((strip 2 n n 0).1 : Nat)), some (.int (two d ^ (strip 2 n n 0).2))])
        (fun f σ hh ⟨g1, m, e, g2, g3, g4, g5⟩ => by
          subst g1
          subst g5
          cases f with
          | zero => omega
          | succ f =>
            rw [strip] at g4
            by_cases hm : m % 2 = 0
            · rw [if_pos hm] at g4
              have mu : ∀ h, bop .mul (.int (two d ^ e)) (.int (two d)) h = some (.int (two d ^ (e + 1))) := fun h => by
                rw [bi_mul _ _ _ (.inr (by rcases two_cases d with q | q | q <;> rw [q] <;> decide)), Int.pow_succ]
              refine .inr ⟨hh, f, [some (.int d), some (.int ((m / 2 : Nat) : Int)), some (.int (two d ^ (e + 1)))], hh, by simp -implicitDefEqProofs (disch := first | omega | assumption | rfl | decide | (simp -implicitDefEqProofs only [frz, MV.pure, pureL, MV.nol, nolL, Bool.and_self, pureL_ints, pureL_nI, nolL_ints]; done) | (simp -implicitDefEqProofs only [List.length_map, List.length_append, List.length_cons, List.length_nil, List.length_reverse]; omega)) only [stoL, sto, MV.nol, nolL, MV.pure, pureL, e_var, e_cst, e_bin, e_neg, e_not, e_and, e_or, e_ite, e_cmp, e_chn, e_tup, e_lst, e_ix, e_sl, e_rev, e_call, e_bi, e_isi, e_meth, s_asg0, s_par0, s_aug0, s_augS0, s_expr0, s_ret0, s_retN0, s_ife0, s_pass0, s_brk0, s_cnt0, es_nil, es_cons, eo_none, eo_some, ec_none, ec_some, et_var, et_tup, et_sub, ets_nil, ets_cons, eb_nil, eb_cons, truth, endFn, handBack, froz, frozL, frz, stoAll, unl, nl, nolL_ints, pureL_ints, frozL_ints, intsOf_ints, frz_ints, pureL_nI, nolL_nI, frozL_nI, hx_get0, hx_getS, hx_set0, hx_setS, hx_take, hx_take1, hx_take2, hx_take3, hx_take4, hx_get3, hx_len, hx_app, hx_ge, hx_ge0, itemsL, items, seq, m_app0, m_app1, m_app2, add_ll, add_rl0, add_rl1, evalI, cmpOf, bv_tup, bv_tupt, bv_tupf, bv_lenl, bv_lent, bv_lenf, bv_lens, bv_lenr0, bv_lenr1, bv_int, bv_intb, List.getElem?_nil, List.take_succ_cons, List.take_nil, List.take_length, List.take_zero, and_true, true_and, and_false, false_and, List.getElem?_cons_zero, List.getElem?_cons_succ, List.set_cons_zero, List.set_cons_succ, List.length_cons, List.length_nil, List.cons_append, List.nil_append, List.append_nil, List.map_cons, List.map_nil, List.length_map, List.replicate, List.all_cons, List.all_nil, Nat.reduceSub, Nat.reduceAdd, Nat.reduceLT, Nat.reduceLeDiff, Nat.zero_add, Nat.add_zero, and_self, if_true, if_false, ite_true, ite_false, decide_true, decide_false, Bool.not_true, Bool.not_false, Bool.and_true, Bool.true_and, Bool.and_false, Bool.false_and, Bool.or_true, Bool.true_or, Bool.or_false, Bool.false_or, Bool.and_self, bnd_ok, bnd_ex, exS_ok, exS_ex, lift_some, noX_ok, thenS_rt, thenS_nx, thenS_bk, thenS_ct, thenS_ex, Option.map_some, Option.bind_some, Option.some.injEq, reduceCtorEq, ite_self, Bool.false_eq_true, not_true_eq_false, not_false_eq_true, eq_self, nI_app, nI_snoc, nI_rev, bn_add, bn_addL, bn_add1, an_add1, an_add, bn_sub1, bn_sub, bn_fdv, bn_mod, bn_modL, bn_fdvL, bn_mul, cn_le, cn_lt, cn_ge, cn_gt, cn_eq, cn_ne, cn_gt0, cn_gt1, cn_eq0, cn_eq1, cn_ne0, hm], ?_, Nat.lt_succ_self _, rfl, m / 2, e + 1, by omega, by omega, g4, rfl⟩
              unfold two at mu ⊢
              by_cases c2 : d % 2 = 0
              · rw [if_pos c2] at mu ⊢
                simp -implicitDefEqProofs (disch := first | omega | assumption | rfl | decide | (simp -implicitDefEqProofs only [frz, MV.pure, pureL, MV.nol, nolL, Bool.and_self, pureL_ints, pureL_nI, nolL_ints]; done) | (simp -implicitDefEqProofs only [List.length_map, List.length_append, List.length_cons, List.length_nil, List.length_reverse]; omega)) only [stoL, sto, MV.nol, nolL, MV.pure, pureL, e_var, e_cst, e_bin, e_neg, e_not, e_and, e_or, e_ite, e_cmp, e_chn, e_tup, e_lst, e_ix, e_sl, e_rev, e_call, e_bi, e_isi, e_meth, s_asg0, s_par0, s_aug0, s_augS0, s_expr0, s_ret0, s_retN0, s_ife0, s_pass0, s_brk0, s_cnt0, es_nil, es_cons, eo_none, eo_some, ec_none, ec_some, et_var, et_tup, et_sub, ets_nil, ets_cons, eb_nil, eb_cons, truth, frz, stoAll, unl, nl, nolL_ints, pureL_ints, frozL_ints, intsOf_ints, frz_ints, pureL_nI, nolL_nI, frozL_nI, hx_get0, hx_getS, hx_set0, hx_setS, hx_take, hx_take1, hx_take2, hx_take3, hx_take4, hx_get3, hx_len, hx_app, hx_ge, hx_ge0, itemsL, items, seq, m_app0, m_app1, m_app2, add_ll, add_rl0, add_rl1, evalI, cmpOf, bv_tup, bv_tupt, bv_tupf, bv_lenl, bv_lent, bv_lenf, bv_lens, bv_lenr0, bv_lenr1, bv_int, bv_intb, List.getElem?_nil, List.take_succ_cons, List.take_nil, List.take_length, List.take_zero, and_true, true_and, and_false, false_and, List.getElem?_cons_zero, List.getElem?_cons_succ, List.set_cons_zero, List.set_cons_succ, List.length_cons, List.length_nil, List.cons_append, List.nil_append, List.append_nil, List.map_cons, List.map_nil, List.length_map, List.replicate, List.all_cons, List.all_nil, Nat.reduceSub, Nat.reduceAdd, Nat.reduceLT, Nat.reduceLeDiff, Nat.zero_add, Nat.add_zero, and_self, if_true, if_false, ite_true, ite_false, decide_true, decide_false, Bool.not_true, Bool.not_false, Bool.and_true, Bool.true_and, Bool.and_false, Bool.false_and, Bool.or_true, Bool.true_or, Bool.or_false, Bool.false_or, Bool.and_self, bnd_ok, bnd_ex, exS_ok, exS_ex, lift_some, noX_ok, thenS_rt, thenS_nx, thenS_bk, thenS_ct, thenS_ex, Option.map_some, Option.bind_some, Option.some.injEq, reduceCtorEq, ite_self, Bool.false_eq_true, not_true_eq_false, not_false_eq_true, eq_self, nI_app, nI_snoc, nI_rev, bn_add, bn_addL, bn_add1, an_add1, an_add, bn_sub1, bn_sub, bn_fdv, bn_mod, bn_modL, bn_fdvL, bn_mul, cn_le, cn_lt, cn_ge, cn_gt, cn_eq, cn_ne, cn_gt0, cn_gt1, cn_eq0, cn_eq1, cn_ne0, m2, m8, ci_eq, c2, mu]
              · rw [if_neg c2] at mu ⊢
                by_cases c8 : d % 8 = 1
                · rw [if_pos c8] at mu ⊢
                  simp -implicitDefEqProofs (disch := first | omega | assumption | rfl | decide | (simp -implicitDefEqProofs only [frz, MV.pure, pureL, MV.nol, nolL, Bool.and_self, pureL_ints, pureL_nI, nolL_ints]; done) | (simp -implicitDefEqProofs only [List.length_map, List.length_append, List.length_cons, List.length_nil, List.length_reverse]; omega)) only [stoL, sto, MV.nol, nolL, MV.pure, pureL, e_var, e_cst, e_bin, e_neg, e_not, e_and, e_or, e_ite, e_cmp, e_chn, e_tup, e_lst, e_ix, e_sl, e_rev, e_call, e_bi, e_isi, e_meth, s_asg0, s_par0, s_aug0, s_augS0, s_expr0, s_ret0, s_retN0, s_ife0, s_pass0, s_brk0, s_cnt0, es_nil, es_cons, eo_none, eo_some, ec_none, ec_some, et_var, et_tup, et_sub, ets_nil, ets_cons, eb_nil, eb_cons, truth, frz, stoAll, unl, nl, nolL_ints, pureL_ints, frozL_ints, intsOf_ints, frz_ints, pureL_nI, nolL_nI, frozL_nI, hx_get0, hx_getS, hx_set0, hx_setS, hx_take, hx_take1, hx_take2, hx_take3, hx_take4, hx_get3, hx_len, hx_app, hx_ge, hx_ge0, itemsL, items, seq, m_app0, m_app1, m_app2, add_ll, add_rl0, add_rl1, evalI, cmpOf, bv_tup, bv_tupt, bv_tupf, bv_lenl, bv_lent, bv_lenf, bv_lens, bv_lenr0, bv_lenr1, bv_int, bv_intb, List.getElem?_nil, List.take_succ_cons, List.take_nil, List.take_length, List.take_zero, and_true, true_and, and_false, false_and, List.getElem?_cons_zero, List.getElem?_cons_succ, List.set_cons_zero, List.set_cons_succ, List.length_cons, List.length_nil, List.cons_append, List.nil_append, List.append_nil, List.map_cons, List.map_nil, List.length_map, List.replicate, List.all_cons, List.all_nil, Nat.reduceSub, Nat.reduceAdd, Nat.reduceLT, Nat.reduceLeDiff, Nat.zero_add, Nat.add_zero, and_self, if_true, if_false, ite_true, ite_false, decide_true, decide_false, Bool.not_true, Bool.not_false, Bool.and_true, Bool.true_and, Bool.and_false, Bool.false_and, Bool.or_true, Bool.true_or, Bool.or_false, Bool.false_or, Bool.and_self, bnd_ok, bnd_ex, exS_ok, exS_ex, lift_some, noX_ok, thenS_rt, thenS_nx, thenS_bk, thenS_ct, thenS_ex, Option.map_some, Option.bind_some, Option.some.injEq, reduceCtorEq, ite_self, Bool.false_eq_true, not_true_eq_false, not_false_eq_true, eq_self, nI_app, nI_snoc, nI_rev, bn_add, bn_addL, bn_add1, an_add1, an_add, bn_sub1, bn_sub, bn_fdv, bn_mod, bn_modL, bn_fdvL, bn_mul, cn_le, cn_lt, cn_ge, cn_gt, cn_eq, cn_ne, cn_gt0, cn_gt1, cn_eq0, cn_eq1, cn_ne0, m2, m8, ci_eq, c2, c8, mu]
                · rw [if_neg c8] at mu ⊢
                  simp -implicitDefEqProofs (disch := first | omega | assumption | rfl | decide | (simp -implicitDefEqProofs only [frz, MV.pure, pureL, MV.nol, nolL, Bool.and_self, pureL_ints, pureL_nI, nolL_ints]; done) | (simp -implicitDefEqProofs only [List.length_map, List.length_append, List.length_cons, List.length_nil, List.length_reverse]; omega)) only [stoL, sto, MV.nol, nolL, MV.pure, pureL, e_var, e_cst, e_bin, e_neg, e_not, e_and, e_or, e_ite, e_cmp, e_chn, e_tup, e_lst, e_ix, e_sl, e_rev, e_call, e_bi, e_isi, e_meth, s_asg0, s_par0, s_aug0, s_augS0, s_expr0, s_ret0, s_retN0, s_ife0, s_pass0, s_brk0, s_cnt0, es_nil, es_cons, eo_none, eo_some, ec_none, ec_some, et_var, et_tup, et_sub, ets_nil, ets_cons, eb_nil, eb_cons, truth, frz, stoAll, unl, nl, nolL_ints, pureL_ints, frozL_ints, intsOf_ints, frz_ints, pureL_nI, nolL_nI, frozL_nI, hx_get0, hx_getS, hx_set0, hx_setS, hx_take, hx_take1, hx_take2, hx_take3, hx_take4, hx_get3, hx_len, hx_app, hx_ge, hx_ge0, itemsL, items, seq, m_app0, m_app1, m_app2, add_ll, add_rl0, add_rl1, evalI, cmpOf, bv_tup, bv_tupt, bv_tupf, bv_lenl, bv_lent, bv_lenf, bv_lens, bv_lenr0, bv_lenr1, bv_int, bv_intb, List.getElem?_nil, List.take_succ_cons, List.take_nil, List.take_length, List.take_zero, and_true, true_and, and_false, false_and, List.getElem?_cons_zero, List.getElem?_cons_succ, List.set_cons_zero, List.set_cons_succ, List.length_cons, List.length_nil, List.cons_append, List.nil_append, List.append_nil, List.map_cons, List.map_nil, List.length_map, List.replicate, List.all_cons, List.all_nil, Nat.reduceSub, Nat.reduceAdd, Nat.reduceLT, Nat.reduceLeDiff, Nat.zero_add, Nat.add_zero, and_self, if_true, if_false, ite_true, ite_false, decide_true, decide_false, Bool.not_true, Bool.not_false, Bool.and_true, Bool.true_and, Bool.and_false, Bool.false_and, Bool.or_true, Bool.true_or, Bool.or_false, Bool.false_or, Bool.and_self, bnd_ok, bnd_ex, exS_ok, exS_ex, lift_some, noX_ok, thenS_rt, thenS_nx, thenS_bk, thenS_ct, thenS_ex, Option.map_some, Option.bind_some, Option.some.injEq, reduceCtorEq, ite_self, Bool.false_eq_true, not_true_eq_false, not_false_eq_true, eq_self, nI_app, nI_snoc, nI_rev, bn_add, bn_addL, bn_add1, an_add1, an_add, bn_sub1, bn_sub, bn_fdv, bn_mod, bn_modL, bn_fdvL, bn_mul, cn_le, cn_lt, cn_ge, cn_gt, cn_eq, cn_ne, cn_gt0, cn_gt1, cn_eq0, cn_eq1, cn_ne0, m2, m8, ci_eq, c2, c8, mu]
            · rw [if_neg hm] at g4
              refine .inl ⟨by simp -implicitDefEqProofs (disch := first | omega | assumption | rfl | decide | (simp -implicitDefEqProofs only [frz, MV.pure, pureL, MV.nol, nolL, Bool.and_self, pureL_ints, pureL_nI, nolL_ints]; done) | (simp -implicitDefEqProofs only [List.length_map, List.length_append, List.length_cons, List.length_nil, List.length_reverse]; omega)) only [stoL, sto, MV.nol, nolL, MV.pure, pureL, e_var, e_cst, e_bin, e_neg, e_not, e_and, e_or, e_ite, e_cmp, e_chn, e_tup, e_lst, e_ix, e_sl, e_rev, e_call, e_bi, e_isi, e_meth, s_asg0, s_par0, s_aug0, s_augS0, s_expr0, s_ret0, s_retN0, s_ife0, s_pass0, s_brk0, s_cnt0, es_nil, es_cons, eo_none, eo_some, ec_none, ec_some, et_var, et_tup, et_sub, ets_nil, ets_cons, eb_nil, eb_cons, truth, endFn, handBack, froz, frozL, frz, stoAll, unl, nl, nolL_ints, pureL_ints, frozL_ints, intsOf_ints, frz_ints, pureL_nI, nolL_nI, frozL_nI, hx_get0, hx_getS, hx_set0, hx_setS, hx_take, hx_take1, hx_take2, hx_take3, hx_take4, hx_get3, hx_len, hx_app, hx_ge, hx_ge0, itemsL, items, seq, m_app0, m_app1, m_app2, add_ll, add_rl0, add_rl1, evalI, cmpOf, bv_tup, bv_tupt, bv_tupf, bv_lenl, bv_lent, bv_lenf, bv_lens, bv_lenr0, bv_lenr1, bv_int, bv_intb, List.getElem?_nil, List.take_succ_cons, List.take_nil, List.take_length, List.take_zero, and_true, true_and, and_false, false_and, List.getElem?_cons_zero, List.getElem?_cons_succ, List.set_cons_zero, List.set_cons_succ, List.length_cons, List.length_nil, List.cons_append, List.nil_append, List.append_nil, List.map_cons, List.map_nil, List.length_map, List.replicate, List.all_cons, List.all_nil, Nat.reduceSub, Nat.reduceAdd, Nat.reduceLT, Nat.reduceLeDiff, Nat.zero_add, Nat.add_zero, and_self, if_true, if_false, ite_true, ite_false, decide_true, decide_false, Bool.not_true, Bool.not_false, Bool.and_true, Bool.true_and, Bool.and_false, Bool.false_and, Bool.or_true, Bool.true_or, Bool.or_false, Bool.false_or, Bool.and_self, bnd_ok, bnd_ex, exS_ok, exS_ex, lift_some, noX_ok, thenS_rt, thenS_nx, thenS_bk, thenS_ct, thenS_ex, Option.map_some, Option.bind_some, Option.some.injEq, reduceCtorEq, ite_self, Bool.false_eq_true, not_true_eq_false, not_false_eq_true, eq_self, nI_app, nI_snoc, nI_rev, bn_add, bn_addL, bn_add1, an_add1, an_add, bn_sub1, bn_sub, bn_fdv, bn_mod, bn_modL, bn_fdvL, bn_mul, cn_le, cn_lt, cn_ge, cn_gt, cn_eq, cn_ne, cn_gt0, cn_gt1, cn_eq0, cn_eq1, cn_ne0, hm], rfl, by rw [← g4]⟩)
        iterMax n [some (.int d), some (.int (n : Int)), some (.int 1)] h (Nat.lt_trans hn (by decide)) ⟨rfl, n, 0, n1, Nat.le_refl _, rfl, by rw [Int.pow_zero]⟩
      have ew := s_whl0 e1
      have eo := odd_sign_ok k d (strip 2 n n 0).1 h' (by omega) (by omega)
      generalize (strip 2 n n 0).1 = m at *
      generalize two d ^ (strip 2 n n 0).2 = t at *
      have c0 : ∀ h, cop .eq (.int (n : Int)) (.int 0) h = some false := fun h => by rw [ci_eq, decide_eq_false (by omega)]
      have jb : jacI d m = 0 ∨ jacI d m = 1 ∨ jacI d m = -1 := by
        unfold jacI jac
        split
        · split
          · exact .inr (.inr rfl)
          · exact .inr (.inl rfl)
        · exact .inl rfl
      have mu : ∀ h, bop .mul (.int t) (.int (jacI d m)) h = some (.int (t * jacI d m)) := fun h => bi_mul _ _ _ (.inr (by rcases jb with q | q | q <;> rw [q] <;> decide))
      by_cases ht : t = 0
      · subst ht
        rw [Int.zero_mul]
        simp -implicitDefEqProofs (disch := first | omega | assumption | rfl | decide | (simp -implicitDefEqProofs only [frz, MV.pure, pureL, MV.nol, nolL, Bool.and_self, pureL_ints, pureL_nI, nolL_ints]; done) | (simp -implicitDefEqProofs only [List.length_map, List.length_append, List.length_cons, List.length_nil, List.length_reverse]; omega)) only [stoL, sto, MV.nol, nolL, MV.pure, pureL, e_var, e_cst, e_bin, e_neg, e_not, e_and, e_or, e_ite, e_cmp, e_chn, e_tup, e_lst, e_ix, e_sl, e_rev, e_call, e_bi, e_isi, e_meth, s_asg0, s_par0, s_aug0, s_augS0, s_expr0, s_ret0, s_retN0, s_ife0, s_pass0, s_brk0, s_cnt0, es_nil, es_cons, eo_none, eo_some, ec_none, ec_some, et_var, et_tup, et_sub, ets_nil, ets_cons, eb_nil, eb_cons, truth, endFn, handBack, froz, frozL, frz, stoAll, unl, nl, nolL_ints, pureL_ints, frozL_ints, intsOf_ints, frz_ints, pureL_nI, nolL_nI, frozL_nI, hx_get0, hx_getS, hx_set0, hx_setS, hx_take, hx_take1, hx_take2, hx_take3, hx_take4, hx_get3, hx_len, hx_app, hx_ge, hx_ge0, itemsL, items, seq, m_app0, m_app1, m_app2, add_ll, add_rl0, add_rl1, evalI, cmpOf, bv_tup, bv_tupt, bv_tupf, bv_lenl, bv_lent, bv_lenf, bv_lens, bv_lenr0, bv_lenr1, bv_int, bv_intb, List.getElem?_nil, List.take_succ_cons, List.take_nil, List.take_length, List.take_zero, and_true, true_and, and_false, false_and, List.getElem?_cons_zero, List.getElem?_cons_succ, List.set_cons_zero, List.set_cons_succ, List.length_cons, List.length_nil, List.cons_append, List.nil_append, List.append_nil, List.map_cons, List.map_nil, List.length_map, List.replicate, List.all_cons, List.all_nil, Nat.reduceSub, Nat.reduceAdd, Nat.reduceLT, Nat.reduceLeDiff, Nat.zero_add, Nat.add_zero, and_self, if_true, if_false, ite_true, ite_false, decide_true, decide_false, Bool.not_true, Bool.not_false, Bool.and_true, Bool.true_and, Bool.and_false, Bool.false_and, Bool.or_true, Bool.true_or, Bool.or_false, Bool.false_or, Bool.and_self, bnd_ok, bnd_ex, exS_ok, exS_ex, lift_some, noX_ok, thenS_rt, thenS_nx, thenS_bk, thenS_ct, thenS_ex, Option.map_some, Option.bind_some, Option.some.injEq, reduceCtorEq, ite_self, Bool.false_eq_true, not_true_eq_false, not_false_eq_true, eq_self, Int.reduceSub, Int.reduceAdd, Int.reduceMul, Int.reduceNeg, bi_add, bi_sub, ci_le, ci_lt, ci_ge, ci_gt, ci_eq, ci_ne, hd, c0, ew]
      · simp -implicitDefEqProofs (disch := first | omega | assumption | rfl | decide | (simp -implicitDefEqProofs only [frz, MV.pure, pureL, MV.nol, nolL, Bool.and_self, pureL_ints, pureL_nI, nolL_ints]; done) | (simp -implicitDefEqProofs only [List.length_map, List.length_append, List.length_cons, List.length_nil, List.length_reverse]; omega)) only [stoL, sto, MV.nol, nolL, MV.pure, pureL, e_var, e_cst, e_bin, e_neg, e_not, e_and, e_or, e_ite, e_cmp, e_chn, e_tup, e_lst, e_ix, e_sl, e_rev, e_call, e_bi, e_isi, e_meth, s_asg0, s_par0, s_aug0, s_augS0, s_expr0, s_ret0, s_retN0, s_ife0, s_pass0, s_brk0, s_cnt0, es_nil, es_cons, eo_none, eo_some, ec_none, ec_some, et_var, et_tup, et_sub, ets_nil, ets_cons, eb_nil, eb_cons, truth, endFn, handBack, froz, frozL, frz, stoAll, unl, nl, nolL_ints, pureL_ints, frozL_ints, intsOf_ints, frz_ints, pureL_nI, nolL_nI, frozL_nI, hx_get0, hx_getS, hx_set0, hx_setS, hx_take, hx_take1, hx_take2, hx_take3, hx_take4, hx_get3, hx_len, hx_app, hx_ge, hx_ge0, itemsL, items, seq, m_app0, m_app1, m_app2, add_ll, add_rl0, add_rl1, evalI, cmpOf, bv_tup, bv_tupt, bv_tupf, bv_lenl, bv_lent, bv_lenf, bv_lens, bv_lenr0, bv_lenr1, bv_int, bv_intb, List.getElem?_nil, List.take_succ_cons, List.take_nil, List.take_length, List.take_zero, and_true, true_and, and_false, false_and, List.getElem?_cons_zero, List.getElem?_cons_succ, List.set_cons_zero, List.set_cons_succ, List.length_cons, List.length_nil, List.cons_append, List.nil_append, List.append_nil, List.map_cons, List.map_nil, List.length_map, List.replicate, List.all_cons, List.all_nil, Nat.reduceSub, Nat.reduceAdd, Nat.reduceLT, Nat.reduceLeDiff, Nat.zero_add, Nat.add_zero, and_self, if_true, if_false, ite_true, ite_false, decide_true, decide_false, Bool.not_true, Bool.not_false, Bool.and_true, Bool.true_and, Bool.and_false, Bool.false_and, Bool.or_true, Bool.true_or, Bool.or_false, Bool.false_or, Bool.and_self, bnd_ok, bnd_ex, exS_ok, exS_ex, lift_some, noX_ok, thenS_rt, thenS_nx, thenS_bk, thenS_ct, thenS_ex, Option.map_some, Option.bind_some, Option.some.injEq, reduceCtorEq, ite_self, Bool.false_eq_true, not_true_eq_false, not_false_eq_true, eq_self, Int.reduceSub, Int.reduceAdd, Int.reduceMul, Int.reduceNeg, bi_add, bi_sub, ci_le, ci_lt, ci_ge, ci_gt, ci_eq, ci_ne, hd, c0, ew, ht, eo, mu]
--CUT
theorem fm4 (x : Int) (h : Hm) : bop .mod (.int x) (.int 4) h = some (.int (x % 4)) := by rw [bi_mod _ _ _ (by decide), Int.fmod_eq_emod_of_nonneg _ (by decide)]
theorem fd4 (x : Int) (h : Hm) : bop .fdv (.int x) (.int 4) h = some (.int (x / 4)) := by rw [bi_fdv _ _ _ (by decide) (by decide), Int.fdiv_eq_ediv_of_nonneg _ (by decide)]
theorem m4 (x : Int) (h : Hm) : bop .mul (.int 4) (.int x) h = some (.int (4 * x)) := bi_mul _ _ _ (.inl (by decide))
theorem isin23 (x : Int) (h : Hm) : cop .isin (.int x) (.tup [.int 2, .int 3]) h = some (decide (x = 2) || decide (x = 3)) := by
  show some ((2 == x) || ((3 == x) || false)) = _
  congr 1
  by_cases h1 : x = 2
  · subst h1; rfl
  · by_cases h2 : x = 3
    · subst h2; rfl
    · rw [decide_eq_false h1, decide_eq_false h2, show ((2 : Int) == x) = false from by simp; omega, show ((3 : Int) == x) = false from by simp; omega]; rfl
theorem free_part_ok (k : Nat) (d : Int) (h : Hm) : calls P (k + 1) 8 [.int d] h = some (.ok (.int (freeI d)) h) := by
  rw [c8]
  simp -implicitDefEqProofs only [runFn, stoL, sto, MV.nol, nolL, if_true, List.length_cons, List.length_nil, List.map_cons, List.map_nil, List.cons_append, List.nil_append, Nat.reduceSub, Nat.reduceAdd, Nat.zero_add, List.replicate, D8]
  unfold freeI
  by_cases c : d % 4 = 1
  · rw [if_pos c]
    simp -implicitDefEqProofs (disch := first | omega | assumption | rfl | decide | (simp -implicitDefEqProofs only [frz, MV.pure, pureL, MV.nol, nolL, Bool.and_self, pureL_ints, pureL_nI, nolL_ints]; done) | (simp -implicitDefEqProofs only [List.length_map, List.length_append, List.length_cons, List.length_nil, List.length_reverse]; omega)) only [stoL, sto, MV.nol, nolL, MV.pure, pureL, e_var, e_cst, e_bin, e_neg, e_not, e_and, e_or, e_ite, e_cmp, e_chn, e_tup, e_lst, e_ix, e_sl, e_rev, e_call, e_bi, e_isi, e_meth, s_asg0, s_par0, s_aug0, s_augS0, s_expr0, s_ret0, s_retN0, s_ife0, s_pass0, s_brk0, s_cnt0, es_nil, es_cons, eo_none, eo_some, ec_none, ec_some, et_var, et_tup, et_sub, ets_nil, ets_cons, eb_nil, eb_cons, truth, endFn, handBack, froz, frozL, frz, stoAll, unl, nl, nolL_ints, pureL_ints, frozL_ints, intsOf_ints, frz_ints, pureL_nI, nolL_nI, frozL_nI, hx_get0, hx_getS, hx_set0, hx_setS, hx_take, hx_take1, hx_take2, hx_take3, hx_take4, hx_get3, hx_len, hx_app, hx_ge, hx_ge0, itemsL, items, seq, m_app0, m_app1, m_app2, add_ll, add_rl0, add_rl1, evalI, cmpOf, bv_tup, bv_tupt, bv_tupf, bv_lenl, bv_lent, bv_lenf, bv_lens, bv_lenr0, bv_lenr1, bv_int, bv_intb, List.getElem?_nil, List.take_succ_cons, List.take_nil, List.take_length, List.take_zero, and_true, true_and, and_false, false_and, List.getElem?_cons_zero, List.getElem?_cons_succ, List.set_cons_zero, List.set_cons_succ, List.length_cons, List.length_nil, List.cons_append, List.nil_append, List.append_nil, List.map_cons, List.map_nil, List.length_map, List.replicate, List.all_cons, List.all_nil, Nat.reduceSub, Nat.reduceAdd, Nat.reduceLT, Nat.reduceLeDiff, Nat.zero_add, Nat.add_zero, and_self, if_true, if_false, ite_true, ite_false, decide_true, decide_false, Bool.not_true, Bool.not_false, Bool.and_true, Bool.true_and, Bool.and_false, Bool.false_and, Bool.or_true, Bool.true_or, Bool.or_false, Bool.false_or, Bool.and_self, bnd_ok, bnd_ex, exS_ok, exS_ex, lift_some, noX_ok, thenS_rt, thenS_nx, thenS_bk, thenS_ct, thenS_ex, Option.map_some, Option.bind_some, Option.some.injEq, reduceCtorEq, ite_self, Bool.false_eq_true, not_true_eq_false, not_false_eq_true, eq_self, Int.reduceSub, Int.reduceAdd, Int.reduceMul, Int.reduceNeg, bi_add, bi_sub, ci_le, ci_lt, ci_ge, ci_gt, ci_eq, ci_ne, fm4, c]
  · rw [if_neg c]
    simp -implicitDefEqProofs (disch := first | omega | assumption | rfl | decide | (simp -implicitDefEqProofs only [frz, MV.pure, pureL, MV.nol, nolL, Bool.and_self, pureL_ints, pureL_nI, nolL_ints]; done) | (simp -implicitDefEqProofs only [List.length_map, List.length_append, List.length_cons, List.length_nil, List.length_reverse]; omega)) only [stoL, sto, MV.nol, nolL, MV.pure, pureL, e_var, e_cst, e_bin, e_neg, e_not, e_and, e_or, e_ite, e_cmp, e_chn, e_tup, e_lst, e_ix, e_sl, e_rev, e_call, e_bi, e_isi, e_meth, s_asg0, s_par0, s_aug0, s_augS0, s_expr0, s_ret0, s_retN0, s_ife0, s_pass0, s_brk0, s_cnt0, es_nil, es_cons, eo_none, eo_some, ec_none, ec_some, et_var, et_tup, et_sub, ets_nil, ets_cons, eb_nil, eb_cons, truth, endFn, handBack, froz, frozL, frz, stoAll, unl, nl, nolL_ints, pureL_ints, frozL_ints, intsOf_ints, frz_ints, pureL_nI, nolL_nI, frozL_nI, hx_get0, hx_getS, hx_set0, hx_setS, hx_take, hx_take1, hx_take2, hx_take3, hx_take4, hx_get3, hx_len, hx_app, hx_ge, hx_ge0, itemsL, items, seq, m_app0, m_app1, m_app2, add_ll, add_rl0, add_rl1, evalI, cmpOf, bv_tup, bv_tupt, bv_tupf, bv_lenl, bv_lent, bv_lenf, bv_lens, bv_lenr0, bv_lenr1, bv_int, bv_intb, List.getElem?_nil, List.take_succ_cons, List.take_nil, List.take_length, List.take_zero, and_true, true_and, and_false, false_and, List.getElem?_cons_zero, List.getElem?_cons_succ, List.set_cons_zero, List.set_cons_succ, List.length_cons, List.length_nil, List.cons_append, List.nil_append, List.append_nil, List.map_cons, List.map_nil, List.length_map, List.replicate, List.all_cons, List.all_nil, Nat.reduceSub, Nat.reduceAdd, Nat.reduceLT, Nat.reduceLeDiff, Nat.zero_add, Nat.add_zero, and_self, if_true, if_false, ite_true, ite_false, decide_true, decide_false, Bool.not_true, Bool.not_false, Bool.and_true, Bool.true_and, Bool.and_false, Bool.false_and, Bool.or_true, Bool.true_or, Bool.or_false, Bool.false_or, Bool.and_self, bnd_ok, bnd_ex, exS_ok, exS_ex, lift_some, noX_ok, thenS_rt, thenS_nx, thenS_bk, thenS_ct, thenS_ex, Option.map_some, Option.bind_some, Option.some.injEq, reduceCtorEq, ite_self, Bool.false_eq_true, not_true_eq_false, not_false_eq_true, eq_self, Int.reduceSub, Int.reduceAdd, Int.reduceMul, Int.reduceNeg, bi_add, bi_sub, ci_le, ci_lt, ci_ge, ci_gt, ci_eq, ci_ne, fm4, fd4, c]
theorem sign_from_ok (k : Nat) (d : Int) (h : Hm) : calls P (k + 1) 9 [.int d] h = some (.ok (.int (sgf d)) h) := by
  rw [c9]
  simp -implicitDefEqProofs only [runFn, stoL, sto, MV.nol, nolL, if_true, List.length_cons, List.length_nil, List.map_cons, List.map_nil, List.cons_append, List.nil_append, Nat.reduceSub, Nat.reduceAdd, Nat.zero_add, List.replicate, D9]
  unfold sgf
  by_cases c : d % 4 = 1
  · rw [if_pos c]
    simp -implicitDefEqProofs (disch := first | omega | assumption | rfl | decide | (simp -implicitDefEqProofs only [frz, MV.pure, pureL, MV.nol, nolL, Bool.and_self, pureL_ints, pureL_nI, nolL_ints]; done) | (simp -implicitDefEqProofs only [List.length_map, List.length_append, List.length_cons, List.length_nil, List.length_reverse]; omega)) only [stoL, sto, MV.nol, nolL, MV.pure, pureL, e_var, e_cst, e_bin, e_neg, e_not, e_and, e_or, e_ite, e_cmp, e_chn, e_tup, e_lst, e_ix, e_sl, e_rev, e_call, e_bi, e_isi, e_meth, s_asg0, s_par0, s_aug0, s_augS0, s_expr0, s_ret0, s_retN0, s_ife0, s_pass0, s_brk0, s_cnt0, es_nil, es_cons, eo_none, eo_some, ec_none, ec_some, et_var, et_tup, et_sub, ets_nil, ets_cons, eb_nil, eb_cons, truth, endFn, handBack, froz, frozL, frz, stoAll, unl, nl, nolL_ints, pureL_ints, frozL_ints, intsOf_ints, frz_ints, pureL_nI, nolL_nI, frozL_nI, hx_get0, hx_getS, hx_set0, hx_setS, hx_take, hx_take1, hx_take2, hx_take3, hx_take4, hx_get3, hx_len, hx_app, hx_ge, hx_ge0, itemsL, items, seq, m_app0, m_app1, m_app2, add_ll, add_rl0, add_rl1, evalI, cmpOf, bv_tup, bv_tupt, bv_tupf, bv_lenl, bv_lent, bv_lenf, bv_lens, bv_lenr0, bv_lenr1, bv_int, bv_intb, List.getElem?_nil, List.take_succ_cons, List.take_nil, List.take_length, List.take_zero, and_true, true_and, and_false, false_and, List.getElem?_cons_zero, List.getElem?_cons_succ, List.set_cons_zero, List.set_cons_succ, List.length_cons, List.length_nil, List.cons_append, List.nil_append, List.append_nil, List.map_cons, List.map_nil, List.length_map, List.replicate, List.all_cons, List.all_nil, Nat.reduceSub, Nat.reduceAdd, Nat.reduceLT, Nat.reduceLeDiff, Nat.zero_add, Nat.add_zero, and_self, if_true, if_false, ite_true, ite_false, decide_true, decide_false, Bool.not_true, Bool.not_false, Bool.and_true, Bool.true_and, Bool.and_false, Bool.false_and, Bool.or_true, Bool.true_or, Bool.or_false, Bool.false_or, Bool.and_self, bnd_ok, bnd_ex, exS_ok, exS_ex, lift_some, noX_ok, thenS_rt, thenS_nx, thenS_bk, thenS_ct, thenS_ex, Option.map_some, Option.bind_some, Option.some.injEq, reduceCtorEq, ite_self, Bool.false_eq_true, not_true_eq_false, not_false_eq_true, eq_self, Int.reduceSub, Int.reduceAdd, Int.reduceMul, Int.reduceNeg, bi_add, bi_sub, ci_le, ci_lt, ci_ge, ci_gt, ci_eq, ci_ne, fm4, c]
  · rw [if_neg c]
    simp -implicitDefEqProofs (disch := first | omega | assumption | rfl | decide | (simp -implicitDefEqProofs only [frz, MV.pure, pureL, MV.nol, nolL, Bool.and_self, pureL_ints, pureL_nI, nolL_ints]; done) | (simp -implicitDefEqProofs only [List.length_map, List.length_append, List.length_cons, List.length_nil, List.length_reverse]; omega)) only [stoL, sto, MV.nol, nolL, MV.pure, pureL, e_var, e_cst, e_bin, e_neg, e_not, e_and, e_or, e_ite, e_cmp, e_chn, e_tup, e_lst, e_ix, e_sl, e_rev, e_call, e_bi, e_isi, e_meth, s_asg0, s_par0, s_aug0, s_augS0, s_expr0, s_ret0, s_retN0, s_ife0, s_pass0, s_brk0, s_cnt0, es_nil, es_cons, eo_none, eo_some, ec_none, ec_some, et_var, et_tup, et_sub, ets_nil, ets_cons, eb_nil, eb_cons, truth, endFn, handBack, froz, frozL, frz, stoAll, unl, nl, nolL_ints, pureL_ints, frozL_ints, intsOf_ints, frz_ints, pureL_nI, nolL_nI, frozL_nI, hx_get0, hx_getS, hx_set0, hx_setS, hx_take, hx_take1, hx_take2, hx_take3, hx_take4, hx_get3, hx_len, hx_app, hx_ge, hx_ge0, itemsL, items, seq, m_app0, m_app1, m_app2, add_ll, add_rl0, add_rl1, evalI, cmpOf, bv_tup, bv_tupt, bv_tupf, bv_lenl, bv_lent, bv_lenf, bv_lens, bv_lenr0, bv_lenr1, bv_int, bv_intb, List.getElem?_nil, List.take_succ_cons, List.take_nil, List.take_length, List.take_zero, and_true, true_and, and_false, false_and, List.getElem?_cons_zero, List.getElem?_cons_succ, List.set_cons_zero, List.set_cons_succ, List.length_cons, List.length_nil, List.cons_append, List.nil_append, List.append_nil, List.map_cons, List.map_nil, List.length_map, List.replicate, List.all_cons, List.all_nil, Nat.reduceSub, Nat.reduceAdd, Nat.reduceLT, Nat.reduceLeDiff, Nat.zero_add, Nat.add_zero, and_self, if_true, if_false, ite_true, ite_false, decide_true, decide_false, Bool.not_true, Bool.not_false, Bool.and_true, Bool.true_and, Bool.and_false, Bool.false_and, Bool.or_true, Bool.true_or, Bool.or_false, Bool.false_or, Bool.and_self, bnd_ok, bnd_ex, exS_ok, exS_ex, lift_some, noX_ok, thenS_rt, thenS_nx, thenS_bk, thenS_ct, thenS_ex, Option.map_some, Option.bind_some, Option.some.injEq, reduceCtorEq, ite_self, Bool.false_eq_true, not_true_eq_false, not_false_eq_true, eq_self, Int.reduceSub, Int.reduceAdd, Int.reduceMul, Int.reduceNeg, bi_add, bi_sub, ci_le, ci_lt, ci_ge, ci_gt, ci_eq, ci_ne, fm4, m4, c]
theorem free_sgf (x : Int) : freeI (sgf x) = x := by
  unfold sgf
  by_cases c : x % 4 = 1
  · rw [if_pos c]
    exact if_pos c
  · rw [if_neg c]
    unfold freeI
    rw [if_neg (by omega)]
    omega
theorem sgf_mod (x : Int) : sgf x % 4 = 0 ∨ sgf x % 4 = 1 := by
  unfold sgf
  split
  · exact .inr (by assumption)
  · exact .inl (by omega)
theorem is_square_free_ok (k n : Nat) (h : Hm) (h1 : 1 ≤ n) (h2 : n ≤ 1000000) (hs : SqF n) : calls P (k + 2) 4 [.int (n : Int)] h = some (.ok (.bl true) h) := by
  have e4 := primes_in_ok k n h h1 h2
  have ones := hs.ones h1
  have pl := primesL_len n h1 (by omega)
  rw [c4]
  generalize primesL n = l at *
  simp -implicitDefEqProofs only [runFn, stoL, sto, MV.nol, nolL, if_true, List.length_cons, List.length_nil, List.map_cons, List.map_nil, List.cons_append, List.nil_append, Nat.reduceSub, Nat.reduceAdd, Nat.zero_add, List.replicate, D4]
  have e : evalE (calls P (k + 1)) (.lc [1, 2] (.tup [(.var 1), (.var 2)]) (.ex (.call 3 [(.var 0)])) none (.cmp .eq (.var 2) (.cst (.int 1)))) [some (.int (n : Int)), none, none] h = some (.ok (.lst (((l.filter fun _ => true).map fun _ => true).map MV.bl)) h) := by
    refine e_lcM (s := .one (.lv (l.map pr))) l (fun _ => true) (fun _ => true) MV.bl (by simp -implicitDefEqProofs (disch := first | omega | assumption | rfl | decide | (simp -implicitDefEqProofs only [frz, MV.pure, pureL, MV.nol, nolL, Bool.and_self, pureL_ints, pureL_nI, nolL_ints]; done) | (simp -implicitDefEqProofs only [List.length_map, List.length_append, List.length_cons, List.length_nil, List.length_reverse]; omega)) only [stoL, sto, MV.nol, nolL, MV.pure, pureL, e_var, e_cst, e_bin, e_neg, e_not, e_and, e_or, e_ite, e_cmp, e_chn, e_tup, e_lst, e_ix, e_sl, e_rev, e_call, e_bi, e_isi, e_meth, s_asg0, s_par0, s_aug0, s_augS0, s_expr0, s_ret0, s_retN0, s_ife0, s_pass0, s_brk0, s_cnt0, es_nil, es_cons, eo_none, eo_some, ec_none, ec_some, et_var, et_tup, et_sub, ets_nil, ets_cons, eb_nil, eb_cons, truth, endFn, handBack, froz, frozL, frz, stoAll, unl, nl, nolL_ints, pureL_ints, frozL_ints, intsOf_ints, frz_ints, pureL_nI, nolL_nI, frozL_nI, hx_get0, hx_getS, hx_set0, hx_setS, hx_take, hx_take1, hx_take2, hx_take3, hx_take4, hx_get3, hx_len, hx_app, hx_ge, hx_ge0, itemsL, items, seq, m_app0, m_app1, m_app2, add_ll, add_rl0, add_rl1, evalI, cmpOf, bv_tup, bv_tupt, bv_tupf, bv_lenl, bv_lent, bv_lenf, bv_lens, bv_lenr0, bv_lenr1, bv_int, bv_intb, List.getElem?_nil, List.take_succ_cons, List.take_nil, List.take_length, List.take_zero, and_true, true_and, and_false, false_and, List.getElem?_cons_zero, List.getElem?_cons_succ, List.set_cons_zero, List.set_cons_succ, List.length_cons, List.length_nil, List.cons_append, List.nil_append, List.append_nil, List.map_cons, List.map_nil, List.length_map, List.replicate, List.all_cons, List.all_nil, Nat.reduceSub, Nat.reduceAdd, Nat.reduceLT, Nat.reduceLeDiff, Nat.zero_add, Nat.add_zero, and_self, if_true, if_false, ite_true, ite_false, decide_true, decide_false, Bool.not_true, Bool.not_false, Bool.and_true, Bool.true_and, Bool.and_false, Bool.false_and, Bool.or_true, Bool.true_or, Bool.or_false, Bool.false_or, Bool.and_self, bnd_ok, bnd_ex, exS_ok, exS_ex, lift_some, noX_ok, thenS_rt, thenS_nx, thenS_bk, thenS_ct, thenS_ex, Option.map_some, Option.bind_some, Option.some.injEq, reduceCtorEq, ite_self, Bool.false_eq_true, not_true_eq_false, not_false_eq_true, eq_self, e4]) (by simp -implicitDefEqProofs [Src.len, Cmp.len]) (by omega) pr (fun i => nth_mapL l pr (nl_pr l) _ (.inl rfl) i h) (fun _ => ⟨rfl, rfl⟩) (fun x hx => ⟨[some (.int (n : Int)), some (.int (x.1 : Int)), some (.int (x.2 : Int))], by simp -implicitDefEqProofs (disch := first | omega | assumption | rfl | decide | (simp -implicitDefEqProofs only [frz, MV.pure, pureL, MV.nol, nolL, Bool.and_self, pureL_ints, pureL_nI, nolL_ints]; done) | (simp -implicitDefEqProofs only [List.length_map, List.length_append, List.length_cons, List.length_nil, List.length_reverse]; omega)) only [stoL, sto, MV.nol, nolL, MV.pure, pureL, e_var, e_cst, e_bin, e_neg, e_not, e_and, e_or, e_ite, e_cmp, e_chn, e_tup, e_lst, e_ix, e_sl, e_rev, e_call, e_bi, e_isi, e_meth, s_asg0, s_par0, s_aug0, s_augS0, s_expr0, s_ret0, s_retN0, s_ife0, s_pass0, s_brk0, s_cnt0, es_nil, es_cons, eo_none, eo_some, ec_none, ec_some, et_var, et_tup, et_sub, ets_nil, ets_cons, eb_nil, eb_cons, truth, endFn, handBack, froz, frozL, frz, stoAll, unl, nl, nolL_ints, pureL_ints, frozL_ints, intsOf_ints, frz_ints, pureL_nI, nolL_nI, frozL_nI, hx_get0, hx_getS, hx_set0, hx_setS, hx_take, hx_take1, hx_take2, hx_take3, hx_take4, hx_get3, hx_len, hx_app, hx_ge, hx_ge0, itemsL, items, seq, m_app0, m_app1, m_app2, add_ll, add_rl0, add_rl1, evalI, cmpOf, bv_tup, bv_tupt, bv_tupf, bv_lenl, bv_lent, bv_lenf, bv_lens, bv_lenr0, bv_lenr1, bv_int, bv_intb, List.getElem?_nil, List.take_succ_cons, List.take_nil, List.take_length, List.take_zero, and_true, true_and, and_false, false_and, List.getElem?_cons_zero, List.getElem?_cons_succ, List.set_cons_zero, List.set_cons_succ, List.length_cons, List.length_nil, List.cons_append, List.nil_append, List.append_nil, List.map_cons, List.map_nil, List.length_map, List.replicate, List.all_cons, List.all_nil, Nat.reduceSub, Nat.reduceAdd, Nat.reduceLT, Nat.reduceLeDiff, Nat.zero_add, Nat.add_zero, and_self, if_true, if_false, ite_true, ite_false, decide_true, decide_false, Bool.not_true, Bool.not_false, Bool.and_true, Bool.true_and, Bool.and_false, Bool.false_and, Bool.or_true, Bool.true_or, Bool.or_false, Bool.false_or, Bool.and_self, bnd_ok, bnd_ex, exS_ok, exS_ex, lift_some, noX_ok, thenS_rt, thenS_nx, thenS_bk, thenS_ct, thenS_ex, Option.map_some, Option.bind_some, Option.some.injEq, reduceCtorEq, ite_self, Bool.false_eq_true, not_true_eq_false, not_false_eq_true, eq_self, wipeL, pr], by simp -implicitDefEqProofs (disch := first | omega | assumption | rfl | decide | (simp -implicitDefEqProofs only [frz, MV.pure, pureL, MV.nol, nolL, Bool.and_self, pureL_ints, pureL_nI, nolL_ints]; done) | (simp -implicitDefEqProofs only [List.length_map, List.length_append, List.length_cons, List.length_nil, List.length_reverse]; omega)) only [stoL, sto, MV.nol, nolL, MV.pure, pureL, e_var, e_cst, e_bin, e_neg, e_not, e_and, e_or, e_ite, e_cmp, e_chn, e_tup, e_lst, e_ix, e_sl, e_rev, e_call, e_bi, e_isi, e_meth, s_asg0, s_par0, s_aug0, s_augS0, s_expr0, s_ret0, s_retN0, s_ife0, s_pass0, s_brk0, s_cnt0, es_nil, es_cons, eo_none, eo_some, ec_none, ec_some, et_var, et_tup, et_sub, ets_nil, ets_cons, eb_nil, eb_cons, truth, endFn, handBack, froz, frozL, frz, stoAll, unl, nl, nolL_ints, pureL_ints, frozL_ints, intsOf_ints, frz_ints, pureL_nI, nolL_nI, frozL_nI, hx_get0, hx_getS, hx_set0, hx_setS, hx_take, hx_take1, hx_take2, hx_take3, hx_take4, hx_get3, hx_len, hx_app, hx_ge, hx_ge0, itemsL, items, seq, m_app0, m_app1, m_app2, add_ll, add_rl0, add_rl1, evalI, cmpOf, bv_tup, bv_tupt, bv_tupf, bv_lenl, bv_lent, bv_lenf, bv_lens, bv_lenr0, bv_lenr1, bv_int, bv_intb, List.getElem?_nil, List.take_succ_cons, List.take_nil, List.take_length, List.take_zero, and_true, true_and, and_false, false_and, List.getElem?_cons_zero, List.getElem?_cons_succ, List.set_cons_zero, List.set_cons_succ, List.length_cons, List.length_nil, List.cons_append, List.nil_append, List.append_nil, List.map_cons, List.map_nil, List.length_map, List.replicate, List.all_cons, List.all_nil, Nat.reduceSub, Nat.reduceAdd, Nat.reduceLT, Nat.reduceLeDiff, Nat.zero_add, Nat.add_zero, and_self, if_true, if_false, ite_true, ite_false, decide_true, decide_false, Bool.not_true, Bool.not_false, Bool.and_true, Bool.true_and, Bool.and_false, Bool.false_and, Bool.or_true, Bool.true_or, Bool.or_false, Bool.false_or, Bool.and_self, bnd_ok, bnd_ex, exS_ok, exS_ex, lift_some, noX_ok, thenS_rt, thenS_nx, thenS_bk, thenS_ct, thenS_ex, Option.map_some, Option.bind_some, Option.some.injEq, reduceCtorEq, ite_self, Bool.false_eq_true, not_true_eq_false, not_false_eq_true, eq_self], fun _ => ⟨.bl true, ?_, rfl⟩⟩)
    have := ones x hx
    simp -implicitDefEqProofs (disch := first | omega | assumption | rfl | decide | (simp -implicitDefEqProofs only [frz, MV.pure, pureL, MV.nol, nolL, Bool.and_self, pureL_ints, pureL_nI, nolL_ints]; done) | (simp -implicitDefEqProofs only [List.length_map, List.length_append, List.length_cons, List.length_nil, List.length_reverse]; omega)) only [stoL, sto, MV.nol, nolL, MV.pure, pureL, e_var, e_cst, e_bin, e_neg, e_not, e_and, e_or, e_ite, e_cmp, e_chn, e_tup, e_lst, e_ix, e_sl, e_rev, e_call, e_bi, e_isi, e_meth, s_asg0, s_par0, s_aug0, s_augS0, s_expr0, s_ret0, s_retN0, s_ife0, s_pass0, s_brk0, s_cnt0, es_nil, es_cons, eo_none, eo_some, ec_none, ec_some, et_var, et_tup, et_sub, ets_nil, ets_cons, eb_nil, eb_cons, truth, endFn, handBack, froz, frozL, frz, stoAll, unl, nl, nolL_ints, pureL_ints, frozL_ints, intsOf_ints, frz_ints, pureL_nI, nolL_nI, frozL_nI, hx_get0, hx_getS, hx_set0, hx_setS, hx_take, hx_take1, hx_take2, hx_take3, hx_take4, hx_get3, hx_len, hx_app, hx_ge, hx_ge0, itemsL, items, seq, m_app0, m_app1, m_app2, add_ll, add_rl0, add_rl1, evalI, cmpOf, bv_tup, bv_tupt, bv_tupf, bv_lenl, bv_lent, bv_lenf, bv_lens, bv_lenr0, bv_lenr1, bv_int, bv_intb, List.getElem?_nil, List.take_succ_cons, List.take_nil, List.take_length, List.take_zero, and_true, true_and, and_false, false_and, List.getElem?_cons_zero, List.getElem?_cons_succ, List.set_cons_zero, List.set_cons_succ, List.length_cons, List.length_nil, List.cons_append, List.nil_append, List.append_nil, List.map_cons, List.map_nil, List.length_map, List.replicate, List.all_cons, List.all_nil, Nat.reduceSub, Nat.reduceAdd, Nat.reduceLT, Nat.reduceLeDiff, Nat.zero_add, Nat.add_zero, and_self, if_true, if_false, ite_true, ite_false, decide_true, decide_false, Bool.not_true, Bool.not_false, Bool.and_true, Bool.true_and, Bool.and_false, Bool.false_and, Bool.or_true, Bool.true_or, Bool.or_false, Bool.false_or, Bool.and_self, bnd_ok, bnd_ex, exS_ok, exS_ex, lift_some, noX_ok, thenS_rt, thenS_nx, thenS_bk, thenS_ct, thenS_ex, Option.map_some, Option.bind_some, Option.some.injEq, reduceCtorEq, ite_self, Bool.false_eq_true, not_true_eq_false, not_false_eq_true, eq_self, cn_eq1, this]
  have b1 : (((l.filter fun _ => true).map fun _ => true)).all id = true := by
    rw [List.all_eq_true]
    intro x hx
    obtain ⟨y, _, rfl⟩ := List.mem_map.mp hx
    rfl
  generalize ((l.filter fun _ => true).map fun _ => true) = bs at *
  simp -implicitDefEqProofs (disch := first | omega | assumption | rfl | decide | (simp -implicitDefEqProofs only [frz, MV.pure, pureL, MV.nol, nolL, Bool.and_self, pureL_ints, pureL_nI, nolL_ints]; done) | (simp -implicitDefEqProofs only [List.length_map, List.length_append, List.length_cons, List.length_nil, List.length_reverse]; omega)) only [stoL, sto, MV.nol, nolL, MV.pure, pureL, e_var, e_cst, e_bin, e_neg, e_not, e_and, e_or, e_ite, e_cmp, e_chn, e_tup, e_lst, e_ix, e_sl, e_rev, e_call, e_bi, e_isi, e_meth, s_asg0, s_par0, s_aug0, s_augS0, s_expr0, s_ret0, s_retN0, s_ife0, s_pass0, s_brk0, s_cnt0, es_nil, es_cons, eo_none, eo_some, ec_none, ec_some, et_var, et_tup, et_sub, ets_nil, ets_cons, eb_nil, eb_cons, truth, endFn, handBack, froz, frozL, frz, stoAll, unl, nl, nolL_ints, pureL_ints, frozL_ints, intsOf_ints, frz_ints, pureL_nI, nolL_nI, frozL_nI, hx_get0, hx_getS, hx_set0, hx_setS, hx_take, hx_take1, hx_take2, hx_take3, hx_take4, hx_get3, hx_len, hx_app, hx_ge, hx_ge0, itemsL, items, seq, m_app0, m_app1, m_app2, add_ll, add_rl0, add_rl1, evalI, cmpOf, bv_tup, bv_tupt, bv_tupf, bv_lenl, bv_lent, bv_lenf, bv_lens, bv_lenr0, bv_lenr1, bv_int, bv_intb, List.getElem?_nil, List.take_succ_cons, List.take_nil, List.take_length, List.take_zero, and_true, true_and, and_false, false_and, List.getElem?_cons_zero, List.getElem?_cons_succ, List.set_cons_zero, List.set_cons_succ, List.length_cons, List.length_nil, List.cons_append, List.nil_append, List.append_nil, List.map_cons, List.map_nil, List.length_map, List.replicate, List.all_cons, List.all_nil, Nat.reduceSub, Nat.reduceAdd, Nat.reduceLT, Nat.reduceLeDiff, Nat.zero_add, Nat.add_zero, and_self, if_true, if_false, ite_true, ite_false, decide_true, decide_false, Bool.not_true, Bool.not_false, Bool.and_true, Bool.true_and, Bool.and_false, Bool.false_and, Bool.or_true, Bool.true_or, Bool.or_false, Bool.false_or, Bool.and_self, bnd_ok, bnd_ex, exS_ok, exS_ex, lift_some, noX_ok, thenS_rt, thenS_nx, thenS_bk, thenS_ct, thenS_ex, Option.map_some, Option.bind_some, Option.some.injEq, reduceCtorEq, ite_self, Bool.false_eq_true, not_true_eq_false, not_false_eq_true, eq_self, e, bv_all, b1]
/-- an integer without squares: its side and its size -/
structure Sq (x : Int) : Prop where
  ex : ∃ (s : Int) (b : Nat), (s = 1 ∨ s = -1) ∧ 1 ≤ b ∧ SqF b ∧ x = s * b
theorem is_sign_in_ok (k : Nat) (s : Int) (b : Nat) (h : Hm) (hs : s = 1 ∨ s = -1) (h1 : 1 ≤ b) (h2 : b ≤ 1000000) (hb : SqF b) : calls P (k + 3) 10 [.int (sgf (s * b))] h = some (.ok (.bl true) h) := by
  have e0 := fun (x : Int) h => f0 (k + 1) x h
  have e4 := fun h => is_square_free_ok k b h h1 h2 hb
  have m4b := sqf_mod4 hb h1
  have ab := abs_sg s b hs
  have x0 : s * (b : Int) ≠ 0 := by rcases hs with rfl | rfl <;> omega
  have xa : (s * (b : Int)).natAbs = b := by rcases hs with rfl | rfl <;> omega
  have x4 : s * (b : Int) % 4 ≠ 0 := by rcases hs with rfl | rfl <;> omega
  generalize s * (b : Int) = x at *
  rw [c10]
  simp -implicitDefEqProofs only [runFn, stoL, sto, MV.nol, nolL, if_true, List.length_cons, List.length_nil, List.map_cons, List.map_nil, List.cons_append, List.nil_append, Nat.reduceSub, Nat.reduceAdd, Nat.zero_add, List.replicate, D10]
  have ba : ∀ (y : Int) h, biV .abs [.int y] h = some (.int ((y.natAbs : Nat) : Int)) := bv_abs
  unfold sgf
  by_cases c : x % 4 = 1
  · rw [if_pos c]
    have g : ∀ h, cop .gt (.int (b : Int)) (.int 1000000000000) h = some false := fun h => by rw [ci_gt, decide_eq_false (by omega)]
    simp -implicitDefEqProofs (disch := first | omega | assumption | rfl | decide | (simp -implicitDefEqProofs only [frz, MV.pure, pureL, MV.nol, nolL, Bool.and_self, pureL_ints, pureL_nI, nolL_ints]; done) | (simp -implicitDefEqProofs only [List.length_map, List.length_append, List.length_cons, List.length_nil, List.length_reverse]; omega)) only [stoL, sto, MV.nol, nolL, MV.pure, pureL, e_var, e_cst, e_bin, e_neg, e_not, e_and, e_or, e_ite, e_cmp, e_chn, e_tup, e_lst, e_ix, e_sl, e_rev, e_call, e_bi, e_isi, e_meth, s_asg0, s_par0, s_aug0, s_augS0, s_expr0, s_ret0, s_retN0, s_ife0, s_pass0, s_brk0, s_cnt0, es_nil, es_cons, eo_none, eo_some, ec_none, ec_some, et_var, et_tup, et_sub, ets_nil, ets_cons, eb_nil, eb_cons, truth, endFn, handBack, froz, frozL, frz, stoAll, unl, nl, nolL_ints, pureL_ints, frozL_ints, intsOf_ints, frz_ints, pureL_nI, nolL_nI, frozL_nI, hx_get0, hx_getS, hx_set0, hx_setS, hx_take, hx_take1, hx_take2, hx_take3, hx_take4, hx_get3, hx_len, hx_app, hx_ge, hx_ge0, itemsL, items, seq, m_app0, m_app1, m_app2, add_ll, add_rl0, add_rl1, evalI, cmpOf, bv_tup, bv_tupt, bv_tupf, bv_lenl, bv_lent, bv_lenf, bv_lens, bv_lenr0, bv_lenr1, bv_int, bv_intb, List.getElem?_nil, List.take_succ_cons, List.take_nil, List.take_length, List.take_zero, and_true, true_and, and_false, false_and, List.getElem?_cons_zero, List.getElem?_cons_succ, List.set_cons_zero, List.set_cons_succ, List.length_cons, List.length_nil, List.cons_append, List.nil_append, List.append_nil, List.map_cons, List.map_nil, List.length_map, List.replicate, List.all_cons, List.all_nil, Nat.reduceSub, Nat.reduceAdd, Nat.reduceLT, Nat.reduceLeDiff, Nat.zero_add, Nat.add_zero, and_self, if_true, if_false, ite_true, ite_false, decide_true, decide_false, Bool.not_true, Bool.not_false, Bool.and_true, Bool.true_and, Bool.and_false, Bool.false_and, Bool.or_true, Bool.true_or, Bool.or_false, Bool.false_or, Bool.and_self, bnd_ok, bnd_ex, exS_ok, exS_ex, lift_some, noX_ok, thenS_rt, thenS_nx, thenS_bk, thenS_ct, thenS_ex, Option.map_some, Option.bind_some, Option.some.injEq, reduceCtorEq, ite_self, Bool.false_eq_true, not_true_eq_false, not_false_eq_true, eq_self, Int.reduceSub, Int.reduceAdd, Int.reduceMul, Int.reduceNeg, bi_add, bi_sub, ci_le, ci_lt, ci_ge, ci_gt, ci_eq, ci_ne, e0, x0, ab, g, fm4, c, e4]
  · rw [if_neg c]
    have y0 : 4 * x ≠ 0 := by omega
    have ya : ∀ h, biV .abs [.int (4 * x)] h = some (.int ((4 * b : Nat) : Int)) := fun h => by
      rw [bv_abs]
      congr 2
      omega
    have g : ∀ h, cop .gt (.int ((4 * b : Nat) : Int)) (.int 1000000000000) h = some false := fun h => by rw [ci_gt, decide_eq_false (by omega)]
    have y4 : 4 * x % 4 = 0 := by omega
    have yd : 4 * x / 4 = x := by omega
    have q10 : decide ((0 : Int) = 1) = false := rfl
    have x23 : x % 4 = 2 ∨ x % 4 = 3 := by omega
    rcases x23 with q | q
    · have d2 : decide ((2 : Int) = 2) = true := rfl
      simp -implicitDefEqProofs (disch := first | omega | assumption | rfl | decide | (simp -implicitDefEqProofs only [frz, MV.pure, pureL, MV.nol, nolL, Bool.and_self, pureL_ints, pureL_nI, nolL_ints]; done) | (simp -implicitDefEqProofs only [List.length_map, List.length_append, List.length_cons, List.length_nil, List.length_reverse]; omega)) only [stoL, sto, MV.nol, nolL, MV.pure, pureL, e_var, e_cst, e_bin, e_neg, e_not, e_and, e_or, e_ite, e_cmp, e_chn, e_tup, e_lst, e_ix, e_sl, e_rev, e_call, e_bi, e_isi, e_meth, s_asg0, s_par0, s_aug0, s_augS0, s_expr0, s_ret0, s_retN0, s_ife0, s_pass0, s_brk0, s_cnt0, es_nil, es_cons, eo_none, eo_some, ec_none, ec_some, et_var, et_tup, et_sub, ets_nil, ets_cons, eb_nil, eb_cons, truth, endFn, handBack, froz, frozL, frz, stoAll, unl, nl, nolL_ints, pureL_ints, frozL_ints, intsOf_ints, frz_ints, pureL_nI, nolL_nI, frozL_nI, hx_get0, hx_getS, hx_set0, hx_setS, hx_take, hx_take1, hx_take2, hx_take3, hx_take4, hx_get3, hx_len, hx_app, hx_ge, hx_ge0, itemsL, items, seq, m_app0, m_app1, m_app2, add_ll, add_rl0, add_rl1, evalI, cmpOf, bv_tup, bv_tupt, bv_tupf, bv_lenl, bv_lent, bv_lenf, bv_lens, bv_lenr0, bv_lenr1, bv_int, bv_intb, List.getElem?_nil, List.take_succ_cons, List.take_nil, List.take_length, List.take_zero, and_true, true_and, and_false, false_and, List.getElem?_cons_zero, List.getElem?_cons_succ, List.set_cons_zero, List.set_cons_succ, List.length_cons, List.length_nil, List.cons_append, List.nil_append, List.append_nil, List.map_cons, List.map_nil, List.length_map, List.replicate, List.all_cons, List.all_nil, Nat.reduceSub, Nat.reduceAdd, Nat.reduceLT, Nat.reduceLeDiff, Nat.zero_add, Nat.add_zero, and_self, if_true, if_false, ite_true, ite_false, decide_true, decide_false, Bool.not_true, Bool.not_false, Bool.and_true, Bool.true_and, Bool.and_false, Bool.false_and, Bool.or_true, Bool.true_or, Bool.or_false, Bool.false_or, Bool.and_self, bnd_ok, bnd_ex, exS_ok, exS_ex, lift_some, noX_ok, thenS_rt, thenS_nx, thenS_bk, thenS_ct, thenS_ex, Option.map_some, Option.bind_some, Option.some.injEq, reduceCtorEq, ite_self, Bool.false_eq_true, not_true_eq_false, not_false_eq_true, eq_self, Int.reduceSub, Int.reduceAdd, Int.reduceMul, Int.reduceNeg, bi_add, bi_sub, ci_le, ci_lt, ci_ge, ci_gt, ci_eq, ci_ne, e0, y0, ya, g, fm4, y4, q10, fd4, yd, isin23, q, ab, e4, d2]
    · have d2 : decide ((3 : Int) = 2) = false := rfl
      have d3 : decide ((3 : Int) = 3) = true := rfl
      simp -implicitDefEqProofs (disch := first | omega | assumption | rfl | decide | (simp -implicitDefEqProofs only [frz, MV.pure, pureL, MV.nol, nolL, Bool.and_self, pureL_ints, pureL_nI, nolL_ints]; done) | (simp -implicitDefEqProofs only [List.length_map, List.length_append, List.length_cons, List.length_nil, List.length_reverse]; omega)) only [stoL, sto, MV.nol, nolL, MV.pure, pureL, e_var, e_cst, e_bin, e_neg, e_not, e_and, e_or, e_ite, e_cmp, e_chn, e_tup, e_lst, e_ix, e_sl, e_rev, e_call, e_bi, e_isi, e_meth, s_asg0, s_par0, s_aug0, s_augS0, s_expr0, s_ret0, s_retN0, s_ife0, s_pass0, s_brk0, s_cnt0, es_nil, es_cons, eo_none, eo_some, ec_none, ec_some, et_var, et_tup, et_sub, ets_nil, ets_cons, eb_nil, eb_cons, truth, endFn, handBack, froz, frozL, frz, stoAll, unl, nl, nolL_ints, pureL_ints, frozL_ints, intsOf_ints, frz_ints, pureL_nI, nolL_nI, frozL_nI, hx_get0, hx_getS, hx_set0, hx_setS, hx_take, hx_take1, hx_take2, hx_take3, hx_take4, hx_get3, hx_len, hx_app, hx_ge, hx_ge0, itemsL, items, seq, m_app0, m_app1, m_app2, add_ll, add_rl0, add_rl1, evalI, cmpOf, bv_tup, bv_tupt, bv_tupf, bv_lenl, bv_lent, bv_lenf, bv_lens, bv_lenr0, bv_lenr1, bv_int, bv_intb, List.getElem?_nil, List.take_succ_cons, List.take_nil, List.take_length, List.take_zero, and_true, true_and, and_false, false_and, List.getElem?_cons_zero, List.getElem?_cons_succ, List.set_cons_zero, List.set_cons_succ, List.length_cons, List.length_nil, List.cons_append, List.nil_append, List.append_nil, List.map_cons, List.map_nil, List.length_map, List.replicate, List.all_cons, List.all_nil, Nat.reduceSub, Nat.reduceAdd, Nat.reduceLT, Nat.reduceLeDiff, Nat.zero_add, Nat.add_zero, and_self, if_true, if_false, ite_true, ite_false, decide_true, decide_false, Bool.not_true, Bool.not_false, Bool.and_true, Bool.true_and, Bool.and_false, Bool.false_and, Bool.or_true, Bool.true_or, Bool.or_false, Bool.false_or, Bool.and_self, bnd_ok, bnd_ex, exS_ok, exS_ex, lift_some, noX_ok, thenS_rt, thenS_nx, thenS_bk, thenS_ct, thenS_ex, Option.map_some, Option.bind_some, Option.some.injEq, reduceCtorEq, ite_self, Bool.false_eq_true, not_true_eq_false, not_false_eq_true, eq_self, Int.reduceSub, Int.reduceAdd, Int.reduceMul, Int.reduceNeg, bi_add, bi_sub, ci_le, ci_lt, ci_ge, ci_gt, ci_eq, ci_ne, e0, y0, ya, g, fm4, y4, q10, fd4, yd, isin23, q, ab, e4, d2, d3]
--CUT
abbrev bz (n : Nat) : Nat := bareL (primesL n)
theorem square_free_ok (k n : Nat) (s : Int) (h : Hm) (hs : s = 1 ∨ s = -1) (h1 : 1 ≤ n) (h2 : n ≤ 1000000) : calls P (k + 3) 7 [.int (s * n)] h = some (.ok (.int (s * (bz n : Nat))) h) := by
  have e5 := f5 k n s h hs h1 h2
  have w := f1 k (s * n) (-1000000) 1000000 h
  have t : (decide ((-1000000 : Int) ≤ s * n) && decide (s * (n : Int) ≤ 1000000)) = true := by
    rw [decide_eq_true (by rcases hs with rfl | rfl <;> omega), decide_eq_true (by rcases hs with rfl | rfl <;> omega)]; rfl
  rw [t] at w
  have x0 : s * (n : Int) ≠ 0 := by rcases hs with rfl | rfl <;> omega
  rw [c7]
  unfold bz
  generalize bareL (primesL n) = B at *
  generalize s * (n : Int) = x at *
  have w : calls P (k + 2) 1 [.int x, .int (-1000000), .int 1000000] h = some (.ok (.bl true) h) := w
  simp -implicitDefEqProofs only [runFn, stoL, sto, MV.nol, nolL, if_true, List.length_cons, List.length_nil, List.map_cons, List.map_nil, List.cons_append, List.nil_append, Nat.reduceSub, Nat.reduceAdd, Nat.zero_add, List.replicate, D7]
  simp -implicitDefEqProofs (disch := first | omega | assumption | rfl | decide | (simp -implicitDefEqProofs only [frz, MV.pure, pureL, MV.nol, nolL, Bool.and_self, pureL_ints, pureL_nI, nolL_ints]; done) | (simp -implicitDefEqProofs only [List.length_map, List.length_append, List.length_cons, List.length_nil, List.length_reverse]; omega)) only [stoL, sto, MV.nol, nolL, MV.pure, pureL, e_var, e_cst, e_bin, e_neg, e_not, e_and, e_or, e_ite, e_cmp, e_chn, e_tup, e_lst, e_ix, e_sl, e_rev, e_call, e_bi, e_isi, e_meth, s_asg0, s_par0, s_aug0, s_augS0, s_expr0, s_ret0, s_retN0, s_ife0, s_pass0, s_brk0, s_cnt0, es_nil, es_cons, eo_none, eo_some, ec_none, ec_some, et_var, et_tup, et_sub, ets_nil, ets_cons, eb_nil, eb_cons, truth, endFn, handBack, froz, frozL, frz, stoAll, unl, nl, nolL_ints, pureL_ints, frozL_ints, intsOf_ints, frz_ints, pureL_nI, nolL_nI, frozL_nI, hx_get0, hx_getS, hx_set0, hx_setS, hx_take, hx_take1, hx_take2, hx_take3, hx_take4, hx_get3, hx_len, hx_app, hx_ge, hx_ge0, itemsL, items, seq, m_app0, m_app1, m_app2, add_ll, add_rl0, add_rl1, evalI, cmpOf, bv_tup, bv_tupt, bv_tupf, bv_lenl, bv_lent, bv_lenf, bv_lens, bv_lenr0, bv_lenr1, bv_int, bv_intb, List.getElem?_nil, List.take_succ_cons, List.take_nil, List.take_length, List.take_zero, and_true, true_and, and_false, false_and, List.getElem?_cons_zero, List.getElem?_cons_succ, List.set_cons_zero, List.set_cons_succ, List.length_cons, List.length_nil, List.cons_append, List.nil_append, List.append_nil, List.map_cons, List.map_nil, List.length_map, List.replicate, List.all_cons, List.all_nil, Nat.reduceSub, Nat.reduceAdd, Nat.reduceLT, Nat.reduceLeDiff, Nat.zero_add, Nat.add_zero, and_self, if_true, if_false, ite_true, ite_false, decide_true, decide_false, Bool.not_true, Bool.not_false, Bool.and_true, Bool.true_and, Bool.and_false, Bool.false_and, Bool.or_true, Bool.true_or, Bool.or_false, Bool.false_or, Bool.and_self, bnd_ok, bnd_ex, exS_ok, exS_ex, lift_some, noX_ok, thenS_rt, thenS_nx, thenS_bk, thenS_ct, thenS_ex, Option.map_some, Option.bind_some, Option.some.injEq, reduceCtorEq, ite_self, Bool.false_eq_true, not_true_eq_false, not_false_eq_true, eq_self, Int.reduceSub, Int.reduceAdd, Int.reduceMul, Int.reduceNeg, bi_add, bi_sub, ci_le, ci_lt, ci_ge, ci_gt, ci_eq, ci_ne, w, x0, e5]
theorem sign_by_ok (k n : Nat) (s : Int) (h : Hm) (hs : s = 1 ∨ s = -1) (h1 : 1 ≤ n) (h2 : n ≤ 1000000) : calls P (k + 4) 17 [.int (s * n)] h = some (.ok (.int (sgf (s * (bz n : Nat)))) h) := by
  have e7 := square_free_ok k n s h hs h1 h2
  have e9 := sign_from_ok (k + 2) (s * (bz n : Nat)) h
  generalize s * ((bz n : Nat) : Int) = y at *
  rw [c17]
  simp -implicitDefEqProofs only [runFn, stoL, sto, MV.nol, nolL, if_true, List.length_cons, List.length_nil, List.map_cons, List.map_nil, List.cons_append, List.nil_append, Nat.reduceSub, Nat.reduceAdd, Nat.zero_add, List.replicate, D17]
  simp -implicitDefEqProofs (disch := first | omega | assumption | rfl | decide | (simp -implicitDefEqProofs only [frz, MV.pure, pureL, MV.nol, nolL, Bool.and_self, pureL_ints, pureL_nI, nolL_ints]; done) | (simp -implicitDefEqProofs only [List.length_map, List.length_append, List.length_cons, List.length_nil, List.length_reverse]; omega)) only [stoL, sto, MV.nol, nolL, MV.pure, pureL, e_var, e_cst, e_bin, e_neg, e_not, e_and, e_or, e_ite, e_cmp, e_chn, e_tup, e_lst, e_ix, e_sl, e_rev, e_call, e_bi, e_isi, e_meth, s_asg0, s_par0, s_aug0, s_augS0, s_expr0, s_ret0, s_retN0, s_ife0, s_pass0, s_brk0, s_cnt0, es_nil, es_cons, eo_none, eo_some, ec_none, ec_some, et_var, et_tup, et_sub, ets_nil, ets_cons, eb_nil, eb_cons, truth, endFn, handBack, froz, frozL, frz, stoAll, unl, nl, nolL_ints, pureL_ints, frozL_ints, intsOf_ints, frz_ints, pureL_nI, nolL_nI, frozL_nI, hx_get0, hx_getS, hx_set0, hx_setS, hx_take, hx_take1, hx_take2, hx_take3, hx_take4, hx_get3, hx_len, hx_app, hx_ge, hx_ge0, itemsL, items, seq, m_app0, m_app1, m_app2, add_ll, add_rl0, add_rl1, evalI, cmpOf, bv_tup, bv_tupt, bv_tupf, bv_lenl, bv_lent, bv_lenf, bv_lens, bv_lenr0, bv_lenr1, bv_int, bv_intb, List.getElem?_nil, List.take_succ_cons, List.take_nil, List.take_length, List.take_zero, and_true, true_and, and_false, false_and, List.getElem?_cons_zero, List.getElem?_cons_succ, List.set_cons_zero, List.set_cons_succ, List.length_cons, List.length_nil, List.cons_append, List.nil_append, List.append_nil, List.map_cons, List.map_nil, List.length_map, List.replicate, List.all_cons, List.all_nil, Nat.reduceSub, Nat.reduceAdd, Nat.reduceLT, Nat.reduceLeDiff, Nat.zero_add, Nat.add_zero, and_self, if_true, if_false, ite_true, ite_false, decide_true, decide_false, Bool.not_true, Bool.not_false, Bool.and_true, Bool.true_and, Bool.and_false, Bool.false_and, Bool.or_true, Bool.true_or, Bool.or_false, Bool.false_or, Bool.and_self, bnd_ok, bnd_ex, exS_ok, exS_ex, lift_some, noX_ok, thenS_rt, thenS_nx, thenS_bk, thenS_ct, thenS_ex, Option.map_some, Option.bind_some, Option.some.injEq, reduceCtorEq, ite_self, Bool.false_eq_true, not_true_eq_false, not_false_eq_true, eq_self, e7, e9]
theorem is_sign_ok (k : Nat) (s : Int) (b : Nat) (h : Hm) (hs : s = 1 ∨ s = -1) (h1 : 1 ≤ b) (h2 : b ≤ 1000000) (hb : SqF b) : calls P (k + 4) 15 [.int (sgf (s * b))] h = some (.ok (.bl true) h) := by
  have e := is_sign_in_ok k s b h hs h1 h2 hb
  rw [c15]
  generalize sgf (s * (b : Int)) = y at *
  simp -implicitDefEqProofs only [runFn, stoL, sto, MV.nol, nolL, if_true, List.length_cons, List.length_nil, List.map_cons, List.map_nil, List.cons_append, List.nil_append, Nat.reduceSub, Nat.reduceAdd, Nat.zero_add, List.replicate, D15]
  simp -implicitDefEqProofs (disch := first | omega | assumption | rfl | decide | (simp -implicitDefEqProofs only [frz, MV.pure, pureL, MV.nol, nolL, Bool.and_self, pureL_ints, pureL_nI, nolL_ints]; done) | (simp -implicitDefEqProofs only [List.length_map, List.length_append, List.length_cons, List.length_nil, List.length_reverse]; omega)) only [stoL, sto, MV.nol, nolL, MV.pure, pureL, e_var, e_cst, e_bin, e_neg, e_not, e_and, e_or, e_ite, e_cmp, e_chn, e_tup, e_lst, e_ix, e_sl, e_rev, e_call, e_bi, e_isi, e_meth, s_asg0, s_par0, s_aug0, s_augS0, s_expr0, s_ret0, s_retN0, s_ife0, s_pass0, s_brk0, s_cnt0, es_nil, es_cons, eo_none, eo_some, ec_none, ec_some, et_var, et_tup, et_sub, ets_nil, ets_cons, eb_nil, eb_cons, truth, endFn, handBack, froz, frozL, frz, stoAll, unl, nl, nolL_ints, pureL_ints, frozL_ints, intsOf_ints, frz_ints, pureL_nI, nolL_nI, frozL_nI, hx_get0, hx_getS, hx_set0, hx_setS, hx_take, hx_take1, hx_take2, hx_take3, hx_take4, hx_get3, hx_len, hx_app, hx_ge, hx_ge0, itemsL, items, seq, m_app0, m_app1, m_app2, add_ll, add_rl0, add_rl1, evalI, cmpOf, bv_tup, bv_tupt, bv_tupf, bv_lenl, bv_lent, bv_lenf, bv_lens, bv_lenr0, bv_lenr1, bv_int, bv_intb, List.getElem?_nil, List.take_succ_cons, List.take_nil, List.take_length, List.take_zero, and_true, true_and, and_false, false_and, List.getElem?_cons_zero, List.getElem?_cons_succ, List.set_cons_zero, List.set_cons_succ, List.length_cons, List.length_nil, List.cons_append, List.nil_append, List.append_nil, List.map_cons, List.map_nil, List.length_map, List.replicate, List.all_cons, List.all_nil, Nat.reduceSub, Nat.reduceAdd, Nat.reduceLT, Nat.reduceLeDiff, Nat.zero_add, Nat.add_zero, and_self, if_true, if_false, ite_true, ite_false, decide_true, decide_false, Bool.not_true, Bool.not_false, Bool.and_true, Bool.true_and, Bool.and_false, Bool.false_and, Bool.or_true, Bool.true_or, Bool.or_false, Bool.false_or, Bool.and_self, bnd_ok, bnd_ex, exS_ok, exS_ex, lift_some, noX_ok, thenS_rt, thenS_nx, thenS_bk, thenS_ct, thenS_ex, Option.map_some, Option.bind_some, Option.some.injEq, reduceCtorEq, ite_self, Bool.false_eq_true, not_true_eq_false, not_false_eq_true, eq_self, e]
/-- a sign and its greatest size -/
structure SgB (s : Int) (b most : Nat) : Prop where
  s1 : s = 1 ∨ s = -1
  b1 : 1 ≤ b
  sq : SqF b
  hi : (sgf (s * b)).natAbs ≤ most
theorem sgf_ge (x : Int) : x.natAbs ≤ (sgf x).natAbs := by
  unfold sgf
  split <;> omega
theorem sgf_le (x : Int) : (sgf x).natAbs ≤ 4 * x.natAbs := by
  unfold sgf
  split <;> omega
theorem SgB.b2 {s : Int} {b m : Nat} (g : SgB s b m) : b ≤ m := by
  have h1 := sgf_ge (s * b)
  have h2 := g.hi
  have : (s * (b : Int)).natAbs = b := by rcases g.s1 with q | q <;> rw [q] <;> omega
  omega
theorem require_sign_ok (k : Nat) (s : Int) (b most : Nat) (h : Hm) (g : SgB s b most) (hm : most ≤ 1000000) : calls P (k + 4) 14 [.int (sgf (s * b)), .int (most : Int)] h = some (.ok .non h) := by
  have e10 := is_sign_in_ok k s b h g.s1 g.b1 (Nat.le_trans g.b2 hm) g.sq
  have hi := g.hi
  generalize sgf (s * (b : Int)) = y at *
  have w := f1 (k + 1) y (0 - (most : Int)) most h
  have t : (decide ((0 - (most : Int)) ≤ y) && decide (y ≤ (most : Int))) = true := by
    rw [decide_eq_true (by omega), decide_eq_true (by omega)]; rfl
  rw [t] at w
  rw [c14]
  simp -implicitDefEqProofs only [runFn, stoL, sto, MV.nol, nolL, if_true, List.length_cons, List.length_nil, List.map_cons, List.map_nil, List.cons_append, List.nil_append, Nat.reduceSub, Nat.reduceAdd, Nat.zero_add, List.replicate, D14]
  simp -implicitDefEqProofs (disch := first | omega | assumption | rfl | decide | (simp -implicitDefEqProofs only [frz, MV.pure, pureL, MV.nol, nolL, Bool.and_self, pureL_ints, pureL_nI, nolL_ints]; done) | (simp -implicitDefEqProofs only [List.length_map, List.length_append, List.length_cons, List.length_nil, List.length_reverse]; omega)) only [stoL, sto, MV.nol, nolL, MV.pure, pureL, e_var, e_cst, e_bin, e_neg, e_not, e_and, e_or, e_ite, e_cmp, e_chn, e_tup, e_lst, e_ix, e_sl, e_rev, e_call, e_bi, e_isi, e_meth, s_asg0, s_par0, s_aug0, s_augS0, s_expr0, s_ret0, s_retN0, s_ife0, s_pass0, s_brk0, s_cnt0, es_nil, es_cons, eo_none, eo_some, ec_none, ec_some, et_var, et_tup, et_sub, ets_nil, ets_cons, eb_nil, eb_cons, truth, endFn, handBack, froz, frozL, frz, stoAll, unl, nl, nolL_ints, pureL_ints, frozL_ints, intsOf_ints, frz_ints, pureL_nI, nolL_nI, frozL_nI, hx_get0, hx_getS, hx_set0, hx_setS, hx_take, hx_take1, hx_take2, hx_take3, hx_take4, hx_get3, hx_len, hx_app, hx_ge, hx_ge0, itemsL, items, seq, m_app0, m_app1, m_app2, add_ll, add_rl0, add_rl1, evalI, cmpOf, bv_tup, bv_tupt, bv_tupf, bv_lenl, bv_lent, bv_lenf, bv_lens, bv_lenr0, bv_lenr1, bv_int, bv_intb, List.getElem?_nil, List.take_succ_cons, List.take_nil, List.take_length, List.take_zero, and_true, true_and, and_false, false_and, List.getElem?_cons_zero, List.getElem?_cons_succ, List.set_cons_zero, List.set_cons_succ, List.length_cons, List.length_nil, List.cons_append, List.nil_append, List.append_nil, List.map_cons, List.map_nil, List.length_map, List.replicate, List.all_cons, List.all_nil, Nat.reduceSub, Nat.reduceAdd, Nat.reduceLT, Nat.reduceLeDiff, Nat.zero_add, Nat.add_zero, and_self, if_true, if_false, ite_true, ite_false, decide_true, decide_false, Bool.not_true, Bool.not_false, Bool.and_true, Bool.true_and, Bool.and_false, Bool.false_and, Bool.or_true, Bool.true_or, Bool.or_false, Bool.false_or, Bool.and_self, bnd_ok, bnd_ex, exS_ok, exS_ex, lift_some, noX_ok, thenS_rt, thenS_nx, thenS_bk, thenS_ct, thenS_ex, Option.map_some, Option.bind_some, Option.some.injEq, reduceCtorEq, ite_self, Bool.false_eq_true, not_true_eq_false, not_false_eq_true, eq_self, Int.reduceSub, Int.reduceAdd, Int.reduceMul, Int.reduceNeg, bi_add, bi_sub, ci_le, ci_lt, ci_ge, ci_gt, ci_eq, ci_ne, w, e10]
theorem sign_of_ok (k : Nat) (s : Int) (b n : Nat) (h : Hm) (g : SgB s b 10000) (hn : n ≤ 1000000) : calls P (k + 5) 16 [.int (sgf (s * b)), .int (n : Int)] h = some (.ok (.int (kr (sgf (s * b)) n)) h) := by
  have e14 := require_sign_ok k s b 10000 h g (by decide)
  have e6 := f6 (k + 1) n 0 999999999999 h (by omega) (by omega)
  have e12 := sign_in_ok (k + 2) (sgf (s * b)) n h (by omega)
  generalize kr (sgf (s * (b : Int))) n = r at *
  generalize sgf (s * (b : Int)) = y at *
  rw [c16]
  have e14 : calls P (k + 4) 14 [.int y, .int 10000] h = some (.ok .non h) := e14
  simp -implicitDefEqProofs only [runFn, stoL, sto, MV.nol, nolL, if_true, List.length_cons, List.length_nil, List.map_cons, List.map_nil, List.cons_append, List.nil_append, Nat.reduceSub, Nat.reduceAdd, Nat.zero_add, List.replicate, D16]
  simp -implicitDefEqProofs (disch := first | omega | assumption | rfl | decide | (simp -implicitDefEqProofs only [frz, MV.pure, pureL, MV.nol, nolL, Bool.and_self, pureL_ints, pureL_nI, nolL_ints]; done) | (simp -implicitDefEqProofs only [List.length_map, List.length_append, List.length_cons, List.length_nil, List.length_reverse]; omega)) only [stoL, sto, MV.nol, nolL, MV.pure, pureL, e_var, e_cst, e_bin, e_neg, e_not, e_and, e_or, e_ite, e_cmp, e_chn, e_tup, e_lst, e_ix, e_sl, e_rev, e_call, e_bi, e_isi, e_meth, s_asg0, s_par0, s_aug0, s_augS0, s_expr0, s_ret0, s_retN0, s_ife0, s_pass0, s_brk0, s_cnt0, es_nil, es_cons, eo_none, eo_some, ec_none, ec_some, et_var, et_tup, et_sub, ets_nil, ets_cons, eb_nil, eb_cons, truth, endFn, handBack, froz, frozL, frz, stoAll, unl, nl, nolL_ints, pureL_ints, frozL_ints, intsOf_ints, frz_ints, pureL_nI, nolL_nI, frozL_nI, hx_get0, hx_getS, hx_set0, hx_setS, hx_take, hx_take1, hx_take2, hx_take3, hx_take4, hx_get3, hx_len, hx_app, hx_ge, hx_ge0, itemsL, items, seq, m_app0, m_app1, m_app2, add_ll, add_rl0, add_rl1, evalI, cmpOf, bv_tup, bv_tupt, bv_tupf, bv_lenl, bv_lent, bv_lenf, bv_lens, bv_lenr0, bv_lenr1, bv_int, bv_intb, List.getElem?_nil, List.take_succ_cons, List.take_nil, List.take_length, List.take_zero, and_true, true_and, and_false, false_and, List.getElem?_cons_zero, List.getElem?_cons_succ, List.set_cons_zero, List.set_cons_succ, List.length_cons, List.length_nil, List.cons_append, List.nil_append, List.append_nil, List.map_cons, List.map_nil, List.length_map, List.replicate, List.all_cons, List.all_nil, Nat.reduceSub, Nat.reduceAdd, Nat.reduceLT, Nat.reduceLeDiff, Nat.zero_add, Nat.add_zero, and_self, if_true, if_false, ite_true, ite_false, decide_true, decide_false, Bool.not_true, Bool.not_false, Bool.and_true, Bool.true_and, Bool.and_false, Bool.false_and, Bool.or_true, Bool.true_or, Bool.or_false, Bool.false_or, Bool.and_self, bnd_ok, bnd_ex, exS_ok, exS_ex, lift_some, noX_ok, thenS_rt, thenS_nx, thenS_bk, thenS_ct, thenS_ex, Option.map_some, Option.bind_some, Option.some.injEq, reduceCtorEq, ite_self, Bool.false_eq_true, not_true_eq_false, not_false_eq_true, eq_self, Int.reduceSub, Int.reduceAdd, Int.reduceMul, Int.reduceNeg, bi_add, bi_sub, ci_le, ci_lt, ci_ge, ci_gt, ci_eq, ci_ne, e14, e6, e12]
/-- the product without the common divisor -/
def pq (b c : Nat) : Nat := (b / Nat.gcd b c) * (c / Nat.gcd b c)
theorem pq_spec {b c : Nat} (hb : 1 ≤ b) (hc : 1 ≤ c) (sb : SqF b) (sc : SqF c) : 1 ≤ pq b c ∧ SqF (pq b c) ∧ b * c = pq b c * (Nat.gcd b c * Nat.gcd b c) := by
  have hg : 0 < Nat.gcd b c := Nat.gcd_pos_of_pos_left _ hb
  have d1 := Nat.div_mul_cancel (Nat.gcd_dvd_left b c)
  have d2 := Nat.div_mul_cancel (Nat.gcd_dvd_right b c)
  have cp : Nat.gcd (b / Nat.gcd b c) (c / Nat.gcd b c) = 1 := Nat.coprime_div_gcd_div_gcd hg
  have v1 : b / Nat.gcd b c ∣ b := ⟨Nat.gcd b c, d1.symm⟩
  have v2 : c / Nat.gcd b c ∣ c := ⟨Nat.gcd b c, d2.symm⟩
  refine ⟨Nat.mul_pos (Nat.pos_of_dvd_of_pos v1 hb) (Nat.pos_of_dvd_of_pos v2 hc), sqf_mul (sqf_dvd sb v1) (sqf_dvd sc v2) cp, ?_⟩
  unfold pq
  generalize Nat.gcd b c = G at *
  generalize hx : b / G = x at *
  generalize hy : c / G = y at *
  rw [← d1, ← d2]
  simp -implicitDefEqProofs only [Nat.mul_assoc, Nat.mul_comm, Nat.mul_left_comm]
theorem pq_comm (b c : Nat) : pq b c = pq c b := by
  unfold pq
  rw [Nat.gcd_comm b c, Nat.mul_comm]
theorem fdv_sg (s : Int) (b G : Nat) (hd : G ∣ b) (hG : 0 < G) (hG2 : G < 1073741824) (h : Hm) : bop .fdv (.int (s * b)) (.int (G : Int)) h = some (.int (s * ((b / G : Nat) : Int))) := by
  rw [bi_fdv _ _ _ (by omega) (by omega), Int.fdiv_eq_ediv_of_nonneg _ (by omega)]
  congr 2
  refine Int.ediv_eq_of_eq_mul_right (by omega) ?_
  conv => lhs; rw [← Nat.mul_div_cancel' hd]
  rw [Int.natCast_mul, Int.mul_left_comm]
theorem times_in_ok (k : Nat) (s t : Int) (b c : Nat) (h : Hm) (hs : s = 1 ∨ s = -1) (ht : t = 1 ∨ t = -1) (b1 : 1 ≤ b) (c1 : 1 ≤ c) (b2 : b ≤ 1000000) (c2 : c ≤ 1000000) : calls P (k + 2) 13 [.int (sgf (s * b)), .int (sgf (t * c))] h = some (.ok (.int (sgf (s * t * (pq b c : Nat)))) h) := by
  have e8 := free_part_ok k (sgf (s * b)) h
  have e8' := free_part_ok k (sgf (t * c)) h
  rw [free_sgf] at e8 e8'
  have nb : (s * (b : Int)).natAbs = b := by rcases hs with q | q <;> rw [q] <;> omega
  have nc : (t * (c : Int)).natAbs = c := by rcases ht with q | q <;> rw [q] <;> omega
  have e2 := f2 k 40 (s * b) (t * c) h (by rw [nb, nc]; exact Nat.lt_of_le_of_lt (Nat.mul_le_mul b2 c2) (by decide)) (by decide)
  rw [nb, nc] at e2
  have hg : 0 < Nat.gcd b c := Nat.gcd_pos_of_pos_left _ b1
  have gl : Nat.gcd b c ≤ b := Nat.gcd_le_left _ b1
  have d1 := fun h => fdv_sg s b (Nat.gcd b c) (Nat.gcd_dvd_left b c) hg (by omega) h
  have d2 := fun h => fdv_sg t c (Nat.gcd b c) (Nat.gcd_dvd_right b c) hg (by omega) h
  have db : b / Nat.gcd b c ≤ b := Nat.div_le_self _ _
  have m1 : ∀ h, bop .mul (.int (s * ((b / Nat.gcd b c : Nat) : Int))) (.int (t * ((c / Nat.gcd b c : Nat) : Int))) h = some (.int (s * t * (pq b c : Nat))) := fun h => by
    have sa : s.natAbs = 1 := by rcases hs with q | q <;> rw [q] <;> rfl
    rw [bi_mul _ _ _ (.inl (by rw [Int.natAbs_mul, sa, Int.natAbs_natCast, Nat.one_mul]; omega))]
    congr 2
    unfold pq
    rw [Int.natCast_mul]
    simp -implicitDefEqProofs only [Int.mul_assoc, Int.mul_comm, Int.mul_left_comm]
  have e9 := sign_from_ok k (s * t * (pq b c : Nat)) h
  generalize s * t * ((pq b c : Nat) : Int) = r at *
  generalize s * ((b / Nat.gcd b c : Nat) : Int) = u at *
  generalize t * ((c / Nat.gcd b c : Nat) : Int) = v at *
  generalize Nat.gcd b c = G at *
  generalize sgf (s * (b : Int)) = x at *
  generalize sgf (t * (c : Int)) = y at *
  generalize s * (b : Int) = x2 at *
  generalize t * (c : Int) = y2 at *
  rw [c13]
  simp -implicitDefEqProofs only [runFn, stoL, sto, MV.nol, nolL, if_true, List.length_cons, List.length_nil, List.map_cons, List.map_nil, List.cons_append, List.nil_append, Nat.reduceSub, Nat.reduceAdd, Nat.zero_add, List.replicate, D13]
  simp -implicitDefEqProofs (disch := first | omega | assumption | rfl | decide | (simp -implicitDefEqProofs only [frz, MV.pure, pureL, MV.nol, nolL, Bool.and_self, pureL_ints, pureL_nI, nolL_ints]; done) | (simp -implicitDefEqProofs only [List.length_map, List.length_append, List.length_cons, List.length_nil, List.length_reverse]; omega)) only [stoL, sto, MV.nol, nolL, MV.pure, pureL, e_var, e_cst, e_bin, e_neg, e_not, e_and, e_or, e_ite, e_cmp, e_chn, e_tup, e_lst, e_ix, e_sl, e_rev, e_call, e_bi, e_isi, e_meth, s_asg0, s_par0, s_aug0, s_augS0, s_expr0, s_ret0, s_retN0, s_ife0, s_pass0, s_brk0, s_cnt0, es_nil, es_cons, eo_none, eo_some, ec_none, ec_some, et_var, et_tup, et_sub, ets_nil, ets_cons, eb_nil, eb_cons, truth, endFn, handBack, froz, frozL, frz, stoAll, unl, nl, nolL_ints, pureL_ints, frozL_ints, intsOf_ints, frz_ints, pureL_nI, nolL_nI, frozL_nI, hx_get0, hx_getS, hx_set0, hx_setS, hx_take, hx_take1, hx_take2, hx_take3, hx_take4, hx_get3, hx_len, hx_app, hx_ge, hx_ge0, itemsL, items, seq, m_app0, m_app1, m_app2, add_ll, add_rl0, add_rl1, evalI, cmpOf, bv_tup, bv_tupt, bv_tupf, bv_lenl, bv_lent, bv_lenf, bv_lens, bv_lenr0, bv_lenr1, bv_int, bv_intb, List.getElem?_nil, List.take_succ_cons, List.take_nil, List.take_length, List.take_zero, and_true, true_and, and_false, false_and, List.getElem?_cons_zero, List.getElem?_cons_succ, List.set_cons_zero, List.set_cons_succ, List.length_cons, List.length_nil, List.cons_append, List.nil_append, List.append_nil, List.map_cons, List.map_nil, List.length_map, List.replicate, List.all_cons, List.all_nil, Nat.reduceSub, Nat.reduceAdd, Nat.reduceLT, Nat.reduceLeDiff, Nat.zero_add, Nat.add_zero, and_self, if_true, if_false, ite_true, ite_false, decide_true, decide_false, Bool.not_true, Bool.not_false, Bool.and_true, Bool.true_and, Bool.and_false, Bool.false_and, Bool.or_true, Bool.true_or, Bool.or_false, Bool.false_or, Bool.and_self, bnd_ok, bnd_ex, exS_ok, exS_ex, lift_some, noX_ok, thenS_rt, thenS_nx, thenS_bk, thenS_ct, thenS_ex, Option.map_some, Option.bind_some, Option.some.injEq, reduceCtorEq, ite_self, Bool.false_eq_true, not_true_eq_false, not_false_eq_true, eq_self, e8, e8', e2, d1, d2, m1, e9]
theorem sign_times_ok (k : Nat) (s t : Int) (b c : Nat) (h : Hm) (g : SgB s b 10000) (g' : SgB t c 10000) : calls P (k + 5) 18 [.int (sgf (s * b)), .int (sgf (t * c))] h = some (.ok (.int (sgf (s * t * (pq b c : Nat)))) h) := by
  have e14 := require_sign_ok k s b 10000 h g (by decide)
  have e14' := require_sign_ok k t c 10000 h g' (by decide)
  have e13 := times_in_ok (k + 2) s t b c h g.s1 g'.s1 g.b1 g'.b1 (Nat.le_trans g.b2 (by decide)) (Nat.le_trans g'.b2 (by decide))
  generalize sgf (s * t * ((pq b c : Nat) : Int)) = r at *
  generalize sgf (s * (b : Int)) = x at *
  generalize sgf (t * (c : Int)) = y at *
  have e14 : calls P (k + 4) 14 [.int x, .int 10000] h = some (.ok .non h) := e14
  have e14' : calls P (k + 4) 14 [.int y, .int 10000] h = some (.ok .non h) := e14'
  rw [c18]
  simp -implicitDefEqProofs only [runFn, stoL, sto, MV.nol, nolL, if_true, List.length_cons, List.length_nil, List.map_cons, List.map_nil, List.cons_append, List.nil_append, Nat.reduceSub, Nat.reduceAdd, Nat.zero_add, List.replicate, D18]
  simp -implicitDefEqProofs (disch := first | omega | assumption | rfl | decide | (simp -implicitDefEqProofs only [frz, MV.pure, pureL, MV.nol, nolL, Bool.and_self, pureL_ints, pureL_nI, nolL_ints]; done) | (simp -implicitDefEqProofs only [List.length_map, List.length_append, List.length_cons, List.length_nil, List.length_reverse]; omega)) only [stoL, sto, MV.nol, nolL, MV.pure, pureL, e_var, e_cst, e_bin, e_neg, e_not, e_and, e_or, e_ite, e_cmp, e_chn, e_tup, e_lst, e_ix, e_sl, e_rev, e_call, e_bi, e_isi, e_meth, s_asg0, s_par0, s_aug0, s_augS0, s_expr0, s_ret0, s_retN0, s_ife0, s_pass0, s_brk0, s_cnt0, es_nil, es_cons, eo_none, eo_some, ec_none, ec_some, et_var, et_tup, et_sub, ets_nil, ets_cons, eb_nil, eb_cons, truth, endFn, handBack, froz, frozL, frz, stoAll, unl, nl, nolL_ints, pureL_ints, frozL_ints, intsOf_ints, frz_ints, pureL_nI, nolL_nI, frozL_nI, hx_get0, hx_getS, hx_set0, hx_setS, hx_take, hx_take1, hx_take2, hx_take3, hx_take4, hx_get3, hx_len, hx_app, hx_ge, hx_ge0, itemsL, items, seq, m_app0, m_app1, m_app2, add_ll, add_rl0, add_rl1, evalI, cmpOf, bv_tup, bv_tupt, bv_tupf, bv_lenl, bv_lent, bv_lenf, bv_lens, bv_lenr0, bv_lenr1, bv_int, bv_intb, List.getElem?_nil, List.take_succ_cons, List.take_nil, List.take_length, List.take_zero, and_true, true_and, and_false, false_and, List.getElem?_cons_zero, List.getElem?_cons_succ, List.set_cons_zero, List.set_cons_succ, List.length_cons, List.length_nil, List.cons_append, List.nil_append, List.append_nil, List.map_cons, List.map_nil, List.length_map, List.replicate, List.all_cons, List.all_nil, Nat.reduceSub, Nat.reduceAdd, Nat.reduceLT, Nat.reduceLeDiff, Nat.zero_add, Nat.add_zero, and_self, if_true, if_false, ite_true, ite_false, decide_true, decide_false, Bool.not_true, Bool.not_false, Bool.and_true, Bool.true_and, Bool.and_false, Bool.false_and, Bool.or_true, Bool.true_or, Bool.or_false, Bool.false_or, Bool.and_self, bnd_ok, bnd_ex, exS_ok, exS_ex, lift_some, noX_ok, thenS_rt, thenS_nx, thenS_bk, thenS_ct, thenS_ex, Option.map_some, Option.bind_some, Option.some.injEq, reduceCtorEq, ite_self, Bool.false_eq_true, not_true_eq_false, not_false_eq_true, eq_self, e14, e14', e13]
--CUT
theorem sgf_form (s : Int) (b : Nat) : ∃ u : Nat, (u = 1 ∨ u = 2) ∧ sgf (s * b) = s * ((b * (u * u) : Nat) : Int) := by
  unfold sgf
  split
  · exact ⟨1, .inl rfl, by rw [show b * (1 * 1) = b by omega]⟩
  · refine ⟨2, .inr rfl, ?_⟩
    rw [show b * (2 * 2) = 4 * b by omega, Int.natCast_mul, Int.mul_left_comm]; rfl
theorem law_bare_ok (k : Nat) (s : Int) (b : Nat) (h : Hm) (g : SgB s b 10000) : calls P (k + 2) 24 [.int (sgf (s * b))] h = some (.ok (.int (s * b)) h) := by
  obtain ⟨u, hu, e⟩ := sgf_form s b
  have b2 := g.b2
  have hn : 1 ≤ b * (u * u) ∧ b * (u * u) ≤ 40000 := by
    have := g.b1
    rcases hu with rfl | rfl <;> omega
  have e24 := f24 k (b * (u * u)) s h g.s1 hn.1 (by omega)
  rw [bare_of g.sq g.b1 (show 1 ≤ u by rcases hu with rfl | rfl <;> decide) rfl, ← e] at e24
  exact e24
theorem sg_by_ok (k n : Nat) (s : Int) (h : Hm) (hs : s = 1 ∨ s = -1) (h1 : 1 ≤ n) (h2 : n ≤ 1000000000) : calls P (k + 3) 25 [.int (s * n)] h = some (.ok (.int (sgf (s * (bz n : Nat)))) h) := by
  have e24 := f24 k n s h hs h1 h2
  rw [c25]
  unfold bz
  generalize s * ((bareL (primesL n) : Nat) : Int) = y at *
  generalize s * (n : Int) = x at *
  simp -implicitDefEqProofs only [runFn, stoL, sto, MV.nol, nolL, if_true, List.length_cons, List.length_nil, List.map_cons, List.map_nil, List.cons_append, List.nil_append, Nat.reduceSub, Nat.reduceAdd, Nat.zero_add, List.replicate, D25]
  unfold sgf
  by_cases c : y % 4 = 1
  · rw [if_pos c]
    simp -implicitDefEqProofs (disch := first | omega | assumption | rfl | decide | (simp -implicitDefEqProofs only [frz, MV.pure, pureL, MV.nol, nolL, Bool.and_self, pureL_ints, pureL_nI, nolL_ints]; done) | (simp -implicitDefEqProofs only [List.length_map, List.length_append, List.length_cons, List.length_nil, List.length_reverse]; omega)) only [stoL, sto, MV.nol, nolL, MV.pure, pureL, e_var, e_cst, e_bin, e_neg, e_not, e_and, e_or, e_ite, e_cmp, e_chn, e_tup, e_lst, e_ix, e_sl, e_rev, e_call, e_bi, e_isi, e_meth, s_asg0, s_par0, s_aug0, s_augS0, s_expr0, s_ret0, s_retN0, s_ife0, s_pass0, s_brk0, s_cnt0, es_nil, es_cons, eo_none, eo_some, ec_none, ec_some, et_var, et_tup, et_sub, ets_nil, ets_cons, eb_nil, eb_cons, truth, endFn, handBack, froz, frozL, frz, stoAll, unl, nl, nolL_ints, pureL_ints, frozL_ints, intsOf_ints, frz_ints, pureL_nI, nolL_nI, frozL_nI, hx_get0, hx_getS, hx_set0, hx_setS, hx_take, hx_take1, hx_take2, hx_take3, hx_take4, hx_get3, hx_len, hx_app, hx_ge, hx_ge0, itemsL, items, seq, m_app0, m_app1, m_app2, add_ll, add_rl0, add_rl1, evalI, cmpOf, bv_tup, bv_tupt, bv_tupf, bv_lenl, bv_lent, bv_lenf, bv_lens, bv_lenr0, bv_lenr1, bv_int, bv_intb, List.getElem?_nil, List.take_succ_cons, List.take_nil, List.take_length, List.take_zero, and_true, true_and, and_false, false_and, List.getElem?_cons_zero, List.getElem?_cons_succ, List.set_cons_zero, List.set_cons_succ, List.length_cons, List.length_nil, List.cons_append, List.nil_append, List.append_nil, List.map_cons, List.map_nil, List.length_map, List.replicate, List.all_cons, List.all_nil, Nat.reduceSub, Nat.reduceAdd, Nat.reduceLT, Nat.reduceLeDiff, Nat.zero_add, Nat.add_zero, and_self, if_true, if_false, ite_true, ite_false, decide_true, decide_false, Bool.not_true, Bool.not_false, Bool.and_true, Bool.true_and, Bool.and_false, Bool.false_and, Bool.or_true, Bool.true_or, Bool.or_false, Bool.false_or, Bool.and_self, bnd_ok, bnd_ex, exS_ok, exS_ex, lift_some, noX_ok, thenS_rt, thenS_nx, thenS_bk, thenS_ct, thenS_ex, Option.map_some, Option.bind_some, Option.some.injEq, reduceCtorEq, ite_self, Bool.false_eq_true, not_true_eq_false, not_false_eq_true, eq_self, Int.reduceSub, Int.reduceAdd, Int.reduceMul, Int.reduceNeg, bi_add, bi_sub, ci_le, ci_lt, ci_ge, ci_gt, ci_eq, ci_ne, e24, fm4, c]
  · rw [if_neg c]
    simp -implicitDefEqProofs (disch := first | omega | assumption | rfl | decide | (simp -implicitDefEqProofs only [frz, MV.pure, pureL, MV.nol, nolL, Bool.and_self, pureL_ints, pureL_nI, nolL_ints]; done) | (simp -implicitDefEqProofs only [List.length_map, List.length_append, List.length_cons, List.length_nil, List.length_reverse]; omega)) only [stoL, sto, MV.nol, nolL, MV.pure, pureL, e_var, e_cst, e_bin, e_neg, e_not, e_and, e_or, e_ite, e_cmp, e_chn, e_tup, e_lst, e_ix, e_sl, e_rev, e_call, e_bi, e_isi, e_meth, s_asg0, s_par0, s_aug0, s_augS0, s_expr0, s_ret0, s_retN0, s_ife0, s_pass0, s_brk0, s_cnt0, es_nil, es_cons, eo_none, eo_some, ec_none, ec_some, et_var, et_tup, et_sub, ets_nil, ets_cons, eb_nil, eb_cons, truth, endFn, handBack, froz, frozL, frz, stoAll, unl, nl, nolL_ints, pureL_ints, frozL_ints, intsOf_ints, frz_ints, pureL_nI, nolL_nI, frozL_nI, hx_get0, hx_getS, hx_set0, hx_setS, hx_take, hx_take1, hx_take2, hx_take3, hx_take4, hx_get3, hx_len, hx_app, hx_ge, hx_ge0, itemsL, items, seq, m_app0, m_app1, m_app2, add_ll, add_rl0, add_rl1, evalI, cmpOf, bv_tup, bv_tupt, bv_tupf, bv_lenl, bv_lent, bv_lenf, bv_lens, bv_lenr0, bv_lenr1, bv_int, bv_intb, List.getElem?_nil, List.take_succ_cons, List.take_nil, List.take_length, List.take_zero, and_true, true_and, and_false, false_and, List.getElem?_cons_zero, List.getElem?_cons_succ, List.set_cons_zero, List.set_cons_succ, List.length_cons, List.length_nil, List.cons_append, List.nil_append, List.append_nil, List.map_cons, List.map_nil, List.length_map, List.replicate, List.all_cons, List.all_nil, Nat.reduceSub, Nat.reduceAdd, Nat.reduceLT, Nat.reduceLeDiff, Nat.zero_add, Nat.add_zero, and_self, if_true, if_false, ite_true, ite_false, decide_true, decide_false, Bool.not_true, Bool.not_false, Bool.and_true, Bool.true_and, Bool.and_false, Bool.false_and, Bool.or_true, Bool.true_or, Bool.or_false, Bool.false_or, Bool.and_self, bnd_ok, bnd_ex, exS_ok, exS_ex, lift_some, noX_ok, thenS_rt, thenS_nx, thenS_bk, thenS_ct, thenS_ex, Option.map_some, Option.bind_some, Option.some.injEq, reduceCtorEq, ite_self, Bool.false_eq_true, not_true_eq_false, not_false_eq_true, eq_self, Int.reduceSub, Int.reduceAdd, Int.reduceMul, Int.reduceNeg, bi_add, bi_sub, ci_le, ci_lt, ci_ge, ci_gt, ci_eq, ci_ne, e24, fm4, m4, c]
theorem pick_side (k : Nat) (a s n : Int) (p : Hm) : ∃ (v a' n' : Int), (v = 1 ∨ v = -1) ∧ calls P (k + 2) 21 [.ref p.length, .lst [.int 1, .int (-1)]] (p ++ [D a s n]) = some (.ok (.int v) (p ++ [D a' s n'])) := by
  obtain ⟨v, a', n', hv, e⟩ := pick_ok k a s n [.int 1, .int (-1)] p [] (by decide) (by decide) rfl
  simp -implicitDefEqProofs only [List.mem_cons, List.not_mem_nil, or_false] at hv
  rcases hv with q | q
  · exact ⟨1, a', n', .inl rfl, by rw [q] at e; exact e⟩
  · exact ⟨-1, a', n', .inr rfl, by rw [q] at e; exact e⟩
theorem law_sign_ok (k : Nat) (a z n : Int) (p : Hm) (most : Nat) (hm : 4 ≤ most) (hm2 : most ≤ 10000) : ∃ (s : Int) (b : Nat) (a' n' : Int), SgB s b most ∧ calls P (k + 4) 26 [.ref p.length, .int (most : Int)] (p ++ [D a z n]) = some (.ok (.int (sgf (s * b))) (p ++ [D a' z n'])) := by
  obtain ⟨s, a1, n1, hs, e21⟩ := pick_side (k + 1) a z n p
  obtain ⟨v, a2, n2, v0, v1, e20⟩ := roll_ok (k + 2) a1 z n1 ((most / 4 : Nat) : Int) p [] (by omega) (fdvOk_nat _ (by omega) (by omega))
  obtain ⟨j, rfl⟩ : ∃ j : Nat, v = j := ⟨v.toNat, by omega⟩
  have hj : 1 + j ≤ most / 4 := by omega
  have bl : bz (1 + j) ≤ 1 + j := bare_le (n := 1 + j) (by omega)
  have bp := bare_pos (n := 1 + j) (by omega)
  have e25 := fun h => sg_by_ok k (1 + j) s h hs (by omega) (by omega)
  have nb : (s * ((bz (1 + j) : Nat) : Int)).natAbs = bz (1 + j) := by rcases hs with q | q <;> rw [q] <;> omega
  have hi : (sgf (s * (bz (1 + j) : Nat))).natAbs ≤ most := by
    have := sgf_le (s * (bz (1 + j) : Nat))
    rw [nb] at this
    omega
  refine ⟨s, bz (1 + j), a2, n2, ⟨hs, bp, bare_sqf (by omega), hi⟩, ?_⟩
  have b4 : ∀ h, bop .add (.int 1) (.int (j : Int)) h = some (.int ((1 + j : Nat) : Int)) := fun h => bn_add 1 j h
  have b5 : ∀ h, bop .fdv (.int (most : Int)) (.int 4) h = some (.int ((most / 4 : Nat) : Int)) := fun h => bn_fdv most 4 h (by decide) (by decide)
  have b6 : ∀ h, bop .mul (.int s) (.int ((1 + j : Nat) : Int)) h = some (.int (s * ((1 + j : Nat) : Int))) := fun h => bi_mul _ _ _ (.inl (by rcases hs with q | q <;> rw [q] <;> decide))
  have le : ∀ h, cop .le (.int ((sgf (s * (bz (1 + j) : Nat))).natAbs : Nat)) (.int (most : Int)) h = some true := fun h => by rw [cn_le, decide_eq_true hi]
  generalize hX : sgf (s * (bz (1 + j) : Nat)) = X at *
  generalize s * ((1 + j : Nat) : Int) = Y at *
  rw [c26]
  simp -implicitDefEqProofs only [runFn, stoL, sto, MV.nol, nolL, if_true, List.length_cons, List.length_nil, List.map_cons, List.map_nil, List.cons_append, List.nil_append, Nat.reduceSub, Nat.reduceAdd, Nat.zero_add, List.replicate, D26]
  rw [eb_cons]
  refine xe_whlO (fun m σ hh => σ = [some (.ref p.length), some (.int (most : Int)), none] ∧ hh = p ++ [D a z n]) 0 (by decide) ⟨rfl, rfl⟩ ?_
  rintro m σ hh ⟨rfl, rfl⟩
  have e20 : calls P (k + 3) 20 [.ref p.length, .int ((most / 4 : Nat) : Int)] (p ++ [D a1 z n1]) = some (.ok (.int (j : Int)) (p ++ [D a2 z n2])) := e20
  refine .inr ⟨p ++ [D a z n], by simp -implicitDefEqProofs (disch := first | omega | assumption | rfl | decide | (simp -implicitDefEqProofs only [frz, MV.pure, pureL, MV.nol, nolL, Bool.and_self, pureL_ints, pureL_nI, nolL_ints]; done) | (simp -implicitDefEqProofs only [List.length_map, List.length_append, List.length_cons, List.length_nil, List.length_reverse]; omega)) only [stoL, sto, MV.nol, nolL, MV.pure, pureL, e_var, e_cst, e_bin, e_neg, e_not, e_and, e_or, e_ite, e_cmp, e_chn, e_tup, e_lst, e_ix, e_sl, e_rev, e_call, e_bi, e_isi, e_meth, s_asg0, s_par0, s_aug0, s_augS0, s_expr0, s_ret0, s_retN0, s_ife0, s_pass0, s_brk0, s_cnt0, es_nil, es_cons, eo_none, eo_some, ec_none, ec_some, et_var, et_tup, et_sub, ets_nil, ets_cons, eb_nil, eb_cons, truth, endFn, handBack, froz, frozL, frz, stoAll, unl, nl, nolL_ints, pureL_ints, frozL_ints, intsOf_ints, frz_ints, pureL_nI, nolL_nI, frozL_nI, hx_get0, hx_getS, hx_set0, hx_setS, hx_take, hx_take1, hx_take2, hx_take3, hx_take4, hx_get3, hx_len, hx_app, hx_ge, hx_ge0, itemsL, items, seq, m_app0, m_app1, m_app2, add_ll, add_rl0, add_rl1, evalI, cmpOf, bv_tup, bv_tupt, bv_tupf, bv_lenl, bv_lent, bv_lenf, bv_lens, bv_lenr0, bv_lenr1, bv_int, bv_intb, List.getElem?_nil, List.take_succ_cons, List.take_nil, List.take_length, List.take_zero, and_true, true_and, and_false, false_and, List.getElem?_cons_zero, List.getElem?_cons_succ, List.set_cons_zero, List.set_cons_succ, List.length_cons, List.length_nil, List.cons_append, List.nil_append, List.append_nil, List.map_cons, List.map_nil, List.length_map, List.replicate, List.all_cons, List.all_nil, Nat.reduceSub, Nat.reduceAdd, Nat.reduceLT, Nat.reduceLeDiff, Nat.zero_add, Nat.add_zero, and_self, if_true, if_false, ite_true, ite_false, decide_true, decide_false, Bool.not_true, Bool.not_false, Bool.and_true, Bool.true_and, Bool.and_false, Bool.false_and, Bool.or_true, Bool.true_or, Bool.or_false, Bool.false_or, Bool.and_self, bnd_ok, bnd_ex, exS_ok, exS_ex, lift_some, noX_ok, thenS_rt, thenS_nx, thenS_bk, thenS_ct, thenS_ex, Option.map_some, Option.bind_some, Option.some.injEq, reduceCtorEq, ite_self, Bool.false_eq_true, not_true_eq_false, not_false_eq_true, eq_self], .inr (.inl ⟨.int X, p ++ [D a2 z n2], ?_, ?_⟩)⟩
  · simp -implicitDefEqProofs (disch := first | omega | assumption | rfl | decide | (simp -implicitDefEqProofs only [frz, MV.pure, pureL, MV.nol, nolL, Bool.and_self, pureL_ints, pureL_nI, nolL_ints]; done) | (simp -implicitDefEqProofs only [List.length_map, List.length_append, List.length_cons, List.length_nil, List.length_reverse]; omega)) only [stoL, sto, MV.nol, nolL, MV.pure, pureL, e_var, e_cst, e_bin, e_neg, e_not, e_and, e_or, e_ite, e_cmp, e_chn, e_tup, e_lst, e_ix, e_sl, e_rev, e_call, e_bi, e_isi, e_meth, s_asg0, s_par0, s_aug0, s_augS0, s_expr0, s_ret0, s_retN0, s_ife0, s_pass0, s_brk0, s_cnt0, es_nil, es_cons, eo_none, eo_some, ec_none, ec_some, et_var, et_tup, et_sub, ets_nil, ets_cons, eb_nil, eb_cons, truth, endFn, handBack, froz, frozL, frz, stoAll, unl, nl, nolL_ints, pureL_ints, frozL_ints, intsOf_ints, frz_ints, pureL_nI, nolL_nI, frozL_nI, hx_get0, hx_getS, hx_set0, hx_setS, hx_take, hx_take1, hx_take2, hx_take3, hx_take4, hx_get3, hx_len, hx_app, hx_ge, hx_ge0, itemsL, items, seq, m_app0, m_app1, m_app2, add_ll, add_rl0, add_rl1, evalI, cmpOf, bv_tup, bv_tupt, bv_tupf, bv_lenl, bv_lent, bv_lenf, bv_lens, bv_lenr0, bv_lenr1, bv_int, bv_intb, List.getElem?_nil, List.take_succ_cons, List.take_nil, List.take_length, List.take_zero, and_true, true_and, and_false, false_and, List.getElem?_cons_zero, List.getElem?_cons_succ, List.set_cons_zero, List.set_cons_succ, List.length_cons, List.length_nil, List.cons_append, List.nil_append, List.append_nil, List.map_cons, List.map_nil, List.length_map, List.replicate, List.all_cons, List.all_nil, Nat.reduceSub, Nat.reduceAdd, Nat.reduceLT, Nat.reduceLeDiff, Nat.zero_add, Nat.add_zero, and_self, if_true, if_false, ite_true, ite_false, decide_true, decide_false, Bool.not_true, Bool.not_false, Bool.and_true, Bool.true_and, Bool.and_false, Bool.false_and, Bool.or_true, Bool.true_or, Bool.or_false, Bool.false_or, Bool.and_self, bnd_ok, bnd_ex, exS_ok, exS_ex, lift_some, noX_ok, thenS_rt, thenS_nx, thenS_bk, thenS_ct, thenS_ex, Option.map_some, Option.bind_some, Option.some.injEq, reduceCtorEq, ite_self, Bool.false_eq_true, not_true_eq_false, not_false_eq_true, eq_self, Int.reduceSub, Int.reduceAdd, Int.reduceMul, Int.reduceNeg, bi_add, bi_sub, ci_le, ci_lt, ci_ge, ci_gt, ci_eq, ci_ne, e21, b5, e20, b4, b6, e25, bv_abs, le]
  · simp -implicitDefEqProofs (disch := first | omega | assumption | rfl | decide | (simp -implicitDefEqProofs only [frz, MV.pure, pureL, MV.nol, nolL, Bool.and_self, pureL_ints, pureL_nI, nolL_ints]; done) | (simp -implicitDefEqProofs only [List.length_map, List.length_append, List.length_cons, List.length_nil, List.length_reverse]; omega)) only [stoL, sto, MV.nol, nolL, MV.pure, pureL, e_var, e_cst, e_bin, e_neg, e_not, e_and, e_or, e_ite, e_cmp, e_chn, e_tup, e_lst, e_ix, e_sl, e_rev, e_call, e_bi, e_isi, e_meth, s_asg0, s_par0, s_aug0, s_augS0, s_expr0, s_ret0, s_retN0, s_ife0, s_pass0, s_brk0, s_cnt0, es_nil, es_cons, eo_none, eo_some, ec_none, ec_some, et_var, et_tup, et_sub, ets_nil, ets_cons, eb_nil, eb_cons, truth, endFn, handBack, froz, frozL, frz, stoAll, unl, nl, nolL_ints, pureL_ints, frozL_ints, intsOf_ints, frz_ints, pureL_nI, nolL_nI, frozL_nI, hx_get0, hx_getS, hx_set0, hx_setS, hx_take, hx_take1, hx_take2, hx_take3, hx_take4, hx_get3, hx_len, hx_app, hx_ge, hx_ge0, itemsL, items, seq, m_app0, m_app1, m_app2, add_ll, add_rl0, add_rl1, evalI, cmpOf, bv_tup, bv_tupt, bv_tupf, bv_lenl, bv_lent, bv_lenf, bv_lens, bv_lenr0, bv_lenr1, bv_int, bv_intb, List.getElem?_nil, List.take_succ_cons, List.take_nil, List.take_length, List.take_zero, and_true, true_and, and_false, false_and, List.getElem?_cons_zero, List.getElem?_cons_succ, List.set_cons_zero, List.set_cons_succ, List.length_cons, List.length_nil, List.cons_append, List.nil_append, List.append_nil, List.map_cons, List.map_nil, List.length_map, List.replicate, List.all_cons, List.all_nil, Nat.reduceSub, Nat.reduceAdd, Nat.reduceLT, Nat.reduceLeDiff, Nat.zero_add, Nat.add_zero, and_self, if_true, if_false, ite_true, ite_false, decide_true, decide_false, Bool.not_true, Bool.not_false, Bool.and_true, Bool.true_and, Bool.and_false, Bool.false_and, Bool.or_true, Bool.true_or, Bool.or_false, Bool.false_or, Bool.and_self, bnd_ok, bnd_ex, exS_ok, exS_ex, lift_some, noX_ok, thenS_rt, thenS_nx, thenS_bk, thenS_ct, thenS_ex, Option.map_some, Option.bind_some, Option.some.injEq, reduceCtorEq, ite_self, Bool.false_eq_true, not_true_eq_false, not_false_eq_true, eq_self]
--CUT
theorem kr_cases (d : Int) (n : Nat) : kr d n = 0 ∨ kr d n = 1 ∨ kr d n = -1 := by
  unfold kr
  split
  · exact .inr (.inl rfl)
  · split
    · exact .inl rfl
    · have t : two d ^ (strip 2 n n 0).2 = 0 ∨ two d ^ (strip 2 n n 0).2 = 1 ∨ two d ^ (strip 2 n n 0).2 = -1 := by
        generalize (strip 2 n n 0).2 = e
        induction e with
        | zero => exact .inr (.inl (Int.pow_zero _))
        | succ e ih =>
          rw [Int.pow_succ]
          rcases ih with q | q | q <;> rw [q] <;> rcases two_cases d with r | r | r <;> rw [r] <;> decide
      have j : ∀ m, jacI d m = 0 ∨ jacI d m = 1 ∨ jacI d m = -1 := fun m => by
        unfold jacI jac
        split
        · split
          · exact .inr (.inr rfl)
          · exact .inr (.inl rfl)
        · exact .inl rfl
      have j := j (strip 2 n n 0).1
      generalize jacI d (strip 2 n n 0).1 = y at *
      generalize two d ^ (strip 2 n n 0).2 = x at *
      rcases t with q | q | q <;> rw [q] <;> rcases j with r | r | r <;> rw [r] <;> decide
theorem sg_abs {s : Int} (hs : s = 1 ∨ s = -1) (b : Nat) : (s * (b : Int)).natAbs = b := by rcases hs with q | q <;> rw [q] <;> omega
theorem sg_mul {s t : Int} (hs : s = 1 ∨ s = -1) (ht : t = 1 ∨ t = -1) : s * t = 1 ∨ s * t = -1 := by
  rcases hs with q | q <;> rcases ht with r | r <;> rw [q, r] <;> decide
theorem kr_prod {s t : Int} {b c m m' : Nat} (g : SgB s b m) (g' : SgB t c m') (n : Nat) (hc : Nat.gcd n (sgf (s * b) * sgf (t * c)).natAbs = 1) : kr (sgf (s * t * (pq b c : Nat))) n = kr (sgf (s * b)) n * kr (sgf (t * c)) n := by
  have nA := sgf_ge (s * b)
  have nB := sgf_ge (t * c)
  rw [sg_abs g.s1] at nA
  rw [sg_abs g'.s1] at nB
  have mA := sgf_mod (s * b)
  have mB := sgf_mod (t * c)
  rw [Int.natAbs_mul] at hc
  by_cases h0 : n = 0
  · subst h0
    rw [Nat.gcd_zero_left] at hc
    have a1 := Nat.eq_one_of_mul_eq_one_right hc
    have a2 := Nat.eq_one_of_mul_eq_one_left hc
    have gb := g.b1
    have gc := g'.b1
    have e1 : sgf (s * b) = 1 := by omega
    have e2 : sgf (t * c) = 1 := by omega
    have b1 : b = 1 := by omega
    have c1 : c = 1 := by omega
    have f1 := free_sgf (s * b)
    have f2 := free_sgf (t * c)
    rw [e1] at f1
    rw [e2] at f2
    have fr1 : freeI 1 = 1 := rfl
    rw [fr1] at f1 f2
    subst b1
    subst c1
    have s1 : s = 1 := by omega
    have t1 : t = 1 := by omega
    subst s1
    subst t1
    rfl
  · have hG : Nat.gcd (Nat.gcd b c) n = 1 := by
      have d1 : Nat.gcd b c ∣ (sgf (s * b)).natAbs * (sgf (t * c)).natAbs := by
        refine Nat.dvd_trans (Nat.gcd_dvd_left b c) (Nat.dvd_trans ?_ (Nat.dvd_mul_right _ _))
        obtain ⟨u, _, e⟩ := sgf_form s b
        rw [e, sg_abs g.s1]
        exact Nat.dvd_mul_right _ _
      exact Nat.Coprime.symm (Nat.Coprime.coprime_dvd_right d1 hc)
    refine kr_times (g := ((Nat.gcd b c : Nat) : Int)) (by omega) mA mB (by rw [Int.natAbs_natCast]; exact hG) ?_ ?_
    · rw [free_sgf, free_sgf]
      have := (pq_spec g.b1 g'.b1 g.sq g'.sq).2.2
      have e : (s * (b : Int)) * (t * (c : Int)) = s * t * ((b * c : Nat) : Int) := by
        rw [Int.natCast_mul]
        simp -implicitDefEqProofs only [Int.mul_assoc, Int.mul_comm, Int.mul_left_comm]
      rw [e, this, Int.natCast_mul, Int.natCast_mul, Int.mul_assoc (s * t)]
    · intro h2
      have od : ∀ {x y : Nat}, Nat.gcd n (x * y) = 1 → x % 2 = 1 := fun {x y} h => by
        apply Classical.byContradiction
        intro c
        have d1 : 2 ∣ n := Nat.dvd_of_mod_eq_zero h2
        have d2 : 2 ∣ x * y := Nat.dvd_trans (Nat.dvd_of_mod_eq_zero (by omega)) (Nat.dvd_mul_right _ _)
        have := Nat.dvd_gcd d1 d2
        rw [h] at this
        have := Nat.le_of_dvd (by decide) this
        omega
      have o1 := od hc
      rw [Nat.mul_comm] at hc
      have o2 := od hc
      exact ⟨by omega, by omega⟩
theorem kr_end {s : Int} {b m : Nat} (g : SgB s b m) (h1 : sgf (s * b) ≠ 1) : kr (sgf (s * b)) ((sgf (s * b)).natAbs - 1) = s ∧ (0 < sgf (s * b) ↔ s = 1) ∧ 1 ≤ (sgf (s * b)).natAbs := by
  obtain ⟨u, hu, e⟩ := sgf_form s b
  have mA := sgf_mod (s * b)
  have hb := g.b1
  have hd1 : 1 ≤ b * (u * u) := Nat.mul_pos hb (by rcases hu with rfl | rfl <;> decide)
  rw [e] at h1 mA ⊢
  rw [sg_abs g.s1]
  have hd : 2 ≤ b * (u * u) := by
    apply Nat.le_of_not_lt
    intro c
    have : b * (u * u) = 1 := by omega
    rw [this] at h1 mA
    rcases g.s1 with q | q <;> rw [q] at h1 mA
    · exact h1 rfl
    · rcases mA with r | r <;> exact absurd r (by decide)
  refine ⟨kr_below g.s1 hd mA, ?_, hd1⟩
  rcases g.s1 with q | q <;> rw [q] <;> constructor <;> intro h <;> omega
theorem pq_self {b : Nat} (h : 1 ≤ b) : pq b b = 1 := by
  unfold pq
  rw [Nat.gcd_self, Nat.div_self h]
theorem pq_one (b : Nat) : pq b 1 = b := by
  unfold pq
  rw [Nat.gcd_one_right, Nat.div_one, Nat.div_one, Nat.mul_one]
theorem sgb_one : SgB 1 1 10000 := ⟨.inl rfl, Nat.le_refl _, fun p hp hd => by
  have := Nat.le_of_dvd (by decide) hd
  have h2 := hp.1
  have : 2 * 2 ≤ p * p := Nat.mul_le_mul h2 h2
  omega, by decide⟩
--CUT
theorem gcdL_ok (k a : Nat) (y : Int) (h : Hm) (ha : a < 2 ^ 64) (hb : y.natAbs < 2 ^ 64) : calls P (k + 1) 22 [.int (a : Int), .int y] h = some (.ok (.int (Nat.gcd a y.natAbs : Nat)) h) := by
  have := f22 k 128 (a : Int) y h (by rw [Int.natAbs_natCast, show (2 : Nat) ^ 128 = 2 ^ 64 * 2 ^ 64 by decide]; exact Nat.mul_lt_mul'' ha hb) (by decide)
  rwa [Int.natAbs_natCast] at this
theorem tenp (h : Hm) : bop .pow (.int 10) (.int 6) h = some (.int 1000000) := rfl
/-- the loop over numbers -/
theorem turns (k : Nat) (s t : Int) (b c : Nat) (a z n : Int) (p : Hm) (s1 s2 s3 : Option MV) (g : SgB s b 10000) (g' : SgB t c 10000) : ∃ s7 s8 s9 a' n', execS (calls P (k + 6)) (D27.body.getD 9 .pass)
    [some (.ref p.length), s1, s2, s3, some (.int (sgf (s * b))), some (.int (sgf (t * c))), some (.int (sgf (s * t * (pq b c : Nat)))), none, none, none] (p ++ [D a z n]) = some (.nx [some (.ref p.length), s1, s2, s3, some (.int (sgf (s * b))), some (.int (sgf (t * c))), some (.int (sgf (s * t * (pq b c : Nat)))), s7, s8, s9] (p ++ [D a' z n'])) := by
  obtain ⟨q1, q2, q3⟩ := pq_spec g.b1 g'.b1 g.sq g'.sq
  have krp := fun n hc => kr_prod g g' n hc
  have gi := g.hi
  have gi' := g'.hi
  have o1 := fun (n : Nat) h hn => sign_of_ok (k + 1) s b n h g hn
  have o2 := fun (n : Nat) h hn => sign_of_ok (k + 1) t c n h g' hn
  have o3 := fun (hh : (sgf (s * t * (pq b c : Nat))).natAbs ≤ 10000) (n : Nat) h hn => sign_of_ok (k + 1) (s * t) (pq b c) n h ⟨sg_mul g.s1 g'.s1, q1, q2, hh⟩ hn
  generalize sgf (s * t * (pq b c : Nat)) = W at *
  generalize sgf (s * (b : Int)) = X at *
  generalize sgf (t * (c : Int)) = Y at *
  have hxy : (X * Y).natAbs < 2 ^ 64 := by
    rw [Int.natAbs_mul]
    have : X.natAbs * Y.natAbs ≤ 10000 * 10000 := Nat.mul_le_mul gi gi'
    omega
  have mxy : ∀ h, bop .mul (.int X) (.int Y) h = some (.int (X * Y)) := fun h => bi_mul _ _ _ (.inl (by omega))
  show ∃ s7 s8 s9 a' n', execS (calls P (k + 6)) (.forr (.var 7) (.r1 (.cst (.int 8))) _) _ _ = _
  obtain ⟨σ', h', e1, s7, s8, s9, a', n', rfl, rfl⟩ := iterF_inv (s := .rg (rng ((0 : Nat) : Int) 8)) (g := fun v σ h => evalT (calls P (k + 6)) (.var 7) v σ h) (b := fun σ h => execB (calls P (k + 6)) [(.asg (.var 8) (.call 20 [(.var 0), (.bin .pow (.cst (.int 10)) (.cst (.int 6)))])), (.ife (.cmp .eq (.call 22 [(.var 8), (.bin .mul (.var 4) (.var 5))]) (.cst (.int 1))) [(.asg (.var 9) (.bin .mul (.call 16 [(.var 4), (.var 8)]) (.call 16 [(.var 5), (.var 8)]))), (.ife (.and (.cmp .le (.bi .abs [(.var 6)]) (.cst (.int 10000))) (.cmp .ne (.call 16 [(.var 6), (.var 8)]) (.var 9))) [(.ret (.cst (.bl false)))] [])] [])] σ h) 8
    (fun i σ h => ∃ s7 s8 s9 a n, σ = [some (.ref p.length), s1, s2, s3, some (.int X), some (.int Y), some (.int W), s7, s8, s9] ∧ h = p ++ [D a z n])
    (fun σ h _ => by rw [nth_rngN, if_neg (Nat.lt_irrefl _)])
    (fun i σ h hi ⟨s7, s8, s9, a, n, r1, r2⟩ => by
      subst r1
      subst r2
      obtain ⟨v, a', n', v0, v1, er⟩ := roll_ok (k + 5) a z n 1000000 p [] (by decide) (by decide)
      obtain ⟨j, rfl⟩ : ∃ j : Nat, v = j := ⟨v.toNat, by omega⟩
      have eg := fun h => gcdL_ok (k + 5) j (X * Y) h (by omega) hxy
      have o1 := fun h => o1 j h (by omega)
      have o2 := fun h => o2 j h (by omega)
      have o3 := fun hh h => o3 hh j h (by omega)
      have krp := krp j
      have m1 : ∀ h, bop .mul (.int (kr X j)) (.int (kr Y j)) h = some (.int (kr X j * kr Y j)) := fun h => bi_mul _ _ _ (.inl (by rcases kr_cases X j with q | q | q <;> rw [q] <;> decide))
      have w7 : evalT (calls P (k + 6)) (.var 7) (.int ((0 + i : Nat) : Int)) [some (.ref p.length), s1, s2, s3, some (.int X), some (.int Y), some (.int W), s7, s8, s9] (p ++ [D a z n]) = some ([some (.ref p.length), s1, s2, s3, some (.int X), some (.int Y), some (.int W), some (.int ((0 + i : Nat) : Int)), s8, s9], p ++ [D a z n]) := by simp -implicitDefEqProofs (disch := first | omega | assumption | rfl | decide | (simp -implicitDefEqProofs only [frz, MV.pure, pureL, MV.nol, nolL, Bool.and_self, pureL_ints, pureL_nI, nolL_ints]; done) | (simp -implicitDefEqProofs only [List.length_map, List.length_append, List.length_cons, List.length_nil, List.length_reverse]; omega)) only [stoL, sto, MV.nol, nolL, MV.pure, pureL, e_var, e_cst, e_bin, e_neg, e_not, e_and, e_or, e_ite, e_cmp, e_chn, e_tup, e_lst, e_ix, e_sl, e_rev, e_call, e_bi, e_isi, e_meth, s_asg0, s_par0, s_aug0, s_augS0, s_expr0, s_ret0, s_retN0, s_ife0, s_pass0, s_brk0, s_cnt0, es_nil, es_cons, eo_none, eo_some, ec_none, ec_some, et_var, et_tup, et_sub, ets_nil, ets_cons, eb_nil, eb_cons, truth, endFn, handBack, froz, frozL, frz, stoAll, unl, nl, nolL_ints, pureL_ints, frozL_ints, intsOf_ints, frz_ints, pureL_nI, nolL_nI, frozL_nI, hx_get0, hx_getS, hx_set0, hx_setS, hx_take, hx_take1, hx_take2, hx_take3, hx_take4, hx_get3, hx_len, hx_app, hx_ge, hx_ge0, itemsL, items, seq, m_app0, m_app1, m_app2, add_ll, add_rl0, add_rl1, evalI, cmpOf, bv_tup, bv_tupt, bv_tupf, bv_lenl, bv_lent, bv_lenf, bv_lens, bv_lenr0, bv_lenr1, bv_int, bv_intb, List.getElem?_nil, List.take_succ_cons, List.take_nil, List.take_length, List.take_zero, and_true, true_and, and_false, false_and, List.getElem?_cons_zero, List.getElem?_cons_succ, List.set_cons_zero, List.set_cons_succ, List.length_cons, List.length_nil, List.cons_append, List.nil_append, List.append_nil, List.map_cons, List.map_nil, List.length_map, List.replicate, List.all_cons, List.all_nil, Nat.reduceSub, Nat.reduceAdd, Nat.reduceLT, Nat.reduceLeDiff, Nat.zero_add, Nat.add_zero, and_self, if_true, if_false, ite_true, ite_false, decide_true, decide_false, Bool.not_true, Bool.not_false, Bool.and_true, Bool.true_and, Bool.and_false, Bool.false_and, Bool.or_true, Bool.true_or, Bool.or_false, Bool.false_or, Bool.and_self, bnd_ok, bnd_ex, exS_ok, exS_ex, lift_some, noX_ok, thenS_rt, thenS_nx, thenS_bk, thenS_ct, thenS_ex, Option.map_some, Option.bind_some, Option.some.injEq, reduceCtorEq, ite_self, Bool.false_eq_true, not_true_eq_false, not_false_eq_true, eq_self]
      by_cases hg : Nat.gcd j (X * Y).natAbs = 1
      · have krp := krp hg
        refine ⟨_, _, _, [some (.ref p.length), s1, s2, s3, some (.int X), some (.int Y), some (.int W), some (.int ((0 + i : Nat) : Int)), some (.int (j : Int)), some (.int (kr X j * kr Y j))], p ++ [D a' z n'], by rw [nth_rngN, if_pos hi], w7, ?_, _, _, _, a', n', rfl, rfl⟩
        have le : ∀ h, cop .le (.int ((W.natAbs : Nat) : Int)) (.int 10000) h = some (decide (W.natAbs ≤ 10000)) := fun h => cn_le _ 10000 h
        by_cases hw : W.natAbs ≤ 10000
        · have o3 := o3 hw
          rw [krp] at o3
          simp -implicitDefEqProofs (disch := first | omega | assumption | rfl | decide | (simp -implicitDefEqProofs only [frz, MV.pure, pureL, MV.nol, nolL, Bool.and_self, pureL_ints, pureL_nI, nolL_ints]; done) | (simp -implicitDefEqProofs only [List.length_map, List.length_append, List.length_cons, List.length_nil, List.length_reverse]; omega)) only [stoL, sto, MV.nol, nolL, MV.pure, pureL, e_var, e_cst, e_bin, e_neg, e_not, e_and, e_or, e_ite, e_cmp, e_chn, e_tup, e_lst, e_ix, e_sl, e_rev, e_call, e_bi, e_isi, e_meth, s_asg0, s_par0, s_aug0, s_augS0, s_expr0, s_ret0, s_retN0, s_ife0, s_pass0, s_brk0, s_cnt0, es_nil, es_cons, eo_none, eo_some, ec_none, ec_some, et_var, et_tup, et_sub, ets_nil, ets_cons, eb_nil, eb_cons, truth, endFn, handBack, froz, frozL, frz, stoAll, unl, nl, nolL_ints, pureL_ints, frozL_ints, intsOf_ints, frz_ints, pureL_nI, nolL_nI, frozL_nI, hx_get0, hx_getS, hx_set0, hx_setS, hx_take, hx_take1, hx_take2, hx_take3, hx_take4, hx_get3, hx_len, hx_app, hx_ge, hx_ge0, itemsL, items, seq, m_app0, m_app1, m_app2, add_ll, add_rl0, add_rl1, evalI, cmpOf, bv_tup, bv_tupt, bv_tupf, bv_lenl, bv_lent, bv_lenf, bv_lens, bv_lenr0, bv_lenr1, bv_int, bv_intb, List.getElem?_nil, List.take_succ_cons, List.take_nil, List.take_length, List.take_zero, and_true, true_and, and_false, false_and, List.getElem?_cons_zero, List.getElem?_cons_succ, List.set_cons_zero, List.set_cons_succ, List.length_cons, List.length_nil, List.cons_append, List.nil_append, List.append_nil, List.map_cons, List.map_nil, List.length_map, List.replicate, List.all_cons, List.all_nil, Nat.reduceSub, Nat.reduceAdd, Nat.reduceLT, Nat.reduceLeDiff, Nat.zero_add, Nat.add_zero, and_self, if_true, if_false, ite_true, ite_false, decide_true, decide_false, Bool.not_true, Bool.not_false, Bool.and_true, Bool.true_and, Bool.and_false, Bool.false_and, Bool.or_true, Bool.true_or, Bool.or_false, Bool.false_or, Bool.and_self, bnd_ok, bnd_ex, exS_ok, exS_ex, lift_some, noX_ok, thenS_rt, thenS_nx, thenS_bk, thenS_ct, thenS_ex, Option.map_some, Option.bind_some, Option.some.injEq, reduceCtorEq, ite_self, Bool.false_eq_true, not_true_eq_false, not_false_eq_true, eq_self, tenp, er, mxy, eg, cn_eq1, hg, o1, o2, m1, bv_abs, le, hw, o3, ci_ne]
        · simp -implicitDefEqProofs (disch := first | omega | assumption | rfl | decide | (simp -implicitDefEqProofs only [frz, MV.pure, pureL, MV.nol, nolL, Bool.and_self, pureL_ints, pureL_nI, nolL_ints]; done) | (simp -implicitDefEqProofs only [List.length_map, List.length_append, List.length_cons, List.length_nil, List.length_reverse]; omega)) only [stoL, sto, MV.nol, nolL, MV.pure, pureL, e_var, e_cst, e_bin, e_neg, e_not, e_and, e_or, e_ite, e_cmp, e_chn, e_tup, e_lst, e_ix, e_sl, e_rev, e_call, e_bi, e_isi, e_meth, s_asg0, s_par0, s_aug0, s_augS0, s_expr0, s_ret0, s_retN0, s_ife0, s_pass0, s_brk0, s_cnt0, es_nil, es_cons, eo_none, eo_some, ec_none, ec_some, et_var, et_tup, et_sub, ets_nil, ets_cons, eb_nil, eb_cons, truth, endFn, handBack, froz, frozL, frz, stoAll, unl, nl, nolL_ints, pureL_ints, frozL_ints, intsOf_ints, frz_ints, pureL_nI, nolL_nI, frozL_nI, hx_get0, hx_getS, hx_set0, hx_setS, hx_take, hx_take1, hx_take2, hx_take3, hx_take4, hx_get3, hx_len, hx_app, hx_ge, hx_ge0, itemsL, items, seq, m_app0, m_app1, m_app2, add_ll, add_rl0, add_rl1, evalI, cmpOf, bv_tup, bv_tupt, bv_tupf, bv_lenl, bv_lent, bv_lenf, bv_lens, bv_lenr0, bv_lenr1, bv_int, bv_intb, List.getElem?_nil, List.take_succ_cons, List.take_nil, List.take_length, List.take_zero, and_true, true_and, and_false, false_and, List.getElem?_cons_zero, List.getElem?_cons_succ, List.set_cons_zero, List.set_cons_succ, List.length_cons, List.length_nil, List.cons_append, List.nil_append, List.append_nil, List.map_cons, List.map_nil, List.length_map, List.replicate, List.all_cons, List.all_nil, Nat.reduceSub, Nat.reduceAdd, Nat.reduceLT, Nat.reduceLeDiff, Nat.zero_add, Nat.add_zero, and_self, if_true, if_false, ite_true, ite_false, decide_true, decide_false, Bool.not_true, Bool.not_false, Bool.and_true, Bool.true_and, Bool.and_false, Bool.false_and, Bool.or_true, Bool.true_or, Bool.or_false, Bool.false_or, Bool.and_self, bnd_ok, bnd_ex, exS_ok, exS_ex, lift_some, noX_ok, thenS_rt, thenS_nx, thenS_bk, thenS_ct, thenS_ex, Option.map_some, Option.bind_some, Option.some.injEq, reduceCtorEq, ite_self, Bool.false_eq_true, not_true_eq_false, not_false_eq_true, eq_self, tenp, er, mxy, eg, cn_eq1, hg, o1, o2, m1, bv_abs, le, hw, ci_ne]
      · refine ⟨_, _, _, [some (.ref p.length), s1, s2, s3, some (.int X), some (.int Y), some (.int W), some (.int ((0 + i : Nat) : Int)), some (.int (j : Int)), s9], p ++ [D a' z n'], by rw [nth_rngN, if_pos hi], w7, ?_, _, _, _, a', n', rfl, rfl⟩
        simp -implicitDefEqProofs (disch := first | omega | assumption | rfl | decide | (simp -implicitDefEqProofs only [frz, MV.pure, pureL, MV.nol, nolL, Bool.and_self, pureL_ints, pureL_nI, nolL_ints]; done) | (simp -implicitDefEqProofs only [List.length_map, List.length_append, List.length_cons, List.length_nil, List.length_reverse]; omega)) only [stoL, sto, MV.nol, nolL, MV.pure, pureL, e_var, e_cst, e_bin, e_neg, e_not, e_and, e_or, e_ite, e_cmp, e_chn, e_tup, e_lst, e_ix, e_sl, e_rev, e_call, e_bi, e_isi, e_meth, s_asg0, s_par0, s_aug0, s_augS0, s_expr0, s_ret0, s_retN0, s_ife0, s_pass0, s_brk0, s_cnt0, es_nil, es_cons, eo_none, eo_some, ec_none, ec_some, et_var, et_tup, et_sub, ets_nil, ets_cons, eb_nil, eb_cons, truth, endFn, handBack, froz, frozL, frz, stoAll, unl, nl, nolL_ints, pureL_ints, frozL_ints, intsOf_ints, frz_ints, pureL_nI, nolL_nI, frozL_nI, hx_get0, hx_getS, hx_set0, hx_setS, hx_take, hx_take1, hx_take2, hx_take3, hx_take4, hx_get3, hx_len, hx_app, hx_ge, hx_ge0, itemsL, items, seq, m_app0, m_app1, m_app2, add_ll, add_rl0, add_rl1, evalI, cmpOf, bv_tup, bv_tupt, bv_tupf, bv_lenl, bv_lent, bv_lenf, bv_lens, bv_lenr0, bv_lenr1, bv_int, bv_intb, List.getElem?_nil, List.take_succ_cons, List.take_nil, List.take_length, List.take_zero, and_true, true_and, and_false, false_and, List.getElem?_cons_zero, List.getElem?_cons_succ, List.set_cons_zero, List.set_cons_succ, List.length_cons, List.length_nil, List.cons_append, List.nil_append, List.append_nil, List.map_cons, List.map_nil, List.length_map, List.replicate, List.all_cons, List.all_nil, Nat.reduceSub, Nat.reduceAdd, Nat.reduceLT, Nat.reduceLeDiff, Nat.zero_add, Nat.add_zero, and_self, if_true, if_false, ite_true, ite_false, decide_true, decide_false, Bool.not_true, Bool.not_false, Bool.and_true, Bool.true_and, Bool.and_false, Bool.false_and, Bool.or_true, Bool.true_or, Bool.or_false, Bool.false_or, Bool.and_self, bnd_ok, bnd_ex, exS_ok, exS_ex, lift_some, noX_ok, thenS_rt, thenS_nx, thenS_bk, thenS_ct, thenS_ex, Option.map_some, Option.bind_some, Option.some.injEq, reduceCtorEq, ite_self, Bool.false_eq_true, not_true_eq_false, not_false_eq_true, eq_self, tenp, er, mxy, eg, cn_eq1, hg])
    ((Src.rg (rng ((0 : Nat) : Int) 8)).len (p ++ [D a z n]) + 1) 0 [some (.ref p.length), s1, s2, s3, some (.int X), some (.int Y), some (.int W), none, none, none] (p ++ [D a z n]) ⟨none, none, none, a, n, rfl, rfl⟩ (Nat.zero_le _) (by rw [len_rng]; omega)
  exact ⟨s7, s8, s9, a', n', s_for0 (ei_r1 (n := 8) (by simp -implicitDefEqProofs (disch := first | omega | assumption | rfl | decide | (simp -implicitDefEqProofs only [frz, MV.pure, pureL, MV.nol, nolL, Bool.and_self, pureL_ints, pureL_nI, nolL_ints]; done) | (simp -implicitDefEqProofs only [List.length_map, List.length_append, List.length_cons, List.length_nil, List.length_reverse]; omega)) only [stoL, sto, MV.nol, nolL, MV.pure, pureL, e_var, e_cst, e_bin, e_neg, e_not, e_and, e_or, e_ite, e_cmp, e_chn, e_tup, e_lst, e_ix, e_sl, e_rev, e_call, e_bi, e_isi, e_meth, s_asg0, s_par0, s_aug0, s_augS0, s_expr0, s_ret0, s_retN0, s_ife0, s_pass0, s_brk0, s_cnt0, es_nil, es_cons, eo_none, eo_some, ec_none, ec_some, et_var, et_tup, et_sub, ets_nil, ets_cons, eb_nil, eb_cons, truth, endFn, handBack, froz, frozL, frz, stoAll, unl, nl, nolL_ints, pureL_ints, frozL_ints, intsOf_ints, frz_ints, pureL_nI, nolL_nI, frozL_nI, hx_get0, hx_getS, hx_set0, hx_setS, hx_take, hx_take1, hx_take2, hx_take3, hx_take4, hx_get3, hx_len, hx_app, hx_ge, hx_ge0, itemsL, items, seq, m_app0, m_app1, m_app2, add_ll, add_rl0, add_rl1, evalI, cmpOf, bv_tup, bv_tupt, bv_tupf, bv_lenl, bv_lent, bv_lenf, bv_lens, bv_lenr0, bv_lenr1, bv_int, bv_intb, List.getElem?_nil, List.take_succ_cons, List.take_nil, List.take_length, List.take_zero, and_true, true_and, and_false, false_and, List.getElem?_cons_zero, List.getElem?_cons_succ, List.set_cons_zero, List.set_cons_succ, List.length_cons, List.length_nil, List.cons_append, List.nil_append, List.append_nil, List.map_cons, List.map_nil, List.length_map, List.replicate, List.all_cons, List.all_nil, Nat.reduceSub, Nat.reduceAdd, Nat.reduceLT, Nat.reduceLeDiff, Nat.zero_add, Nat.add_zero, and_self, if_true, if_false, ite_true, ite_false, decide_true, decide_false, Bool.not_true, Bool.not_false, Bool.and_true, Bool.true_and, Bool.and_false, Bool.false_and, Bool.or_true, Bool.true_or, Bool.or_false, Bool.false_or, Bool.and_self, bnd_ok, bnd_ex, exS_ok, exS_ex, lift_some, noX_ok, thenS_rt, thenS_nx, thenS_bk, thenS_ct, thenS_ex, Option.map_some, Option.bind_some, Option.some.injEq, reduceCtorEq, ite_self, Bool.false_eq_true, not_true_eq_false, not_false_eq_true, eq_self]; rfl) (by decide)) e1⟩
--CUT
theorem pick_of (k : Nat) (a z n : Int) (x y w : Nat) (m M : Nat) (p : Hm) (hx : m ≤ x ∧ x ≤ M) (hy : m ≤ y ∧ y ≤ M) (hw : m ≤ w ∧ w ≤ M) : ∃ (v : Nat) (a' n' : Int), m ≤ v ∧ v ≤ M ∧ calls P (k + 2) 21 [.ref p.length, .lst [.int (x : Int), .int (y : Int), .int (w : Int)]] (p ++ [D a z n]) = some (.ok (.int (v : Int)) (p ++ [D a' z n'])) := by
  obtain ⟨v, a', n', hv, e⟩ := pick_ok k a z n [.int (x : Int), .int (y : Int), .int (w : Int)] p [] (by simp) (by simp) rfl
  simp -implicitDefEqProofs only [List.mem_cons, List.not_mem_nil, or_false] at hv
  rcases hv with q | q | q
  · exact ⟨x, a', n', hx.1, hx.2, by rw [q] at e; exact e⟩
  · exact ⟨y, a', n', hy.1, hy.2, by rw [q] at e; exact e⟩
  · exact ⟨w, a', n', hw.1, hw.2, by rw [q] at e; exact e⟩
theorem int_ne (i : Int) (h : Hm) : cop .ne (.int i) (.int i) h = some false := by rw [ci_ne, decide_eq_true rfl]; rfl
theorem right_A (k : Nat) (a z n : Int) (p : Hm) : ∃ (s t : Int) (b c : Nat) (a' n' : Int) (s1 s2 s3 : Option MV), SgB s b 10000 ∧ SgB t c 10000 ∧ execB (calls P (k + 6)) (D27.body.take 9) [some (.ref p.length), none, none, none, none, none, none, none, none, none] (p ++ [D a z n]) =
    some (.nx [some (.ref p.length), s1, s2, s3, some (.int (sgf (s * b))), some (.int (sgf (t * c))), some (.int (sgf (s * t * (pq b c : Nat)))), none, none, none] (p ++ [D a' z n'])) := by
  obtain ⟨s, a1, n1, hs, e1⟩ := pick_side (k + 4) a z n p
  obtain ⟨M, a2, n2, M1, M2, e2⟩ := pick_of (k + 4) a1 z n1 30 1000 200000 1 200000 p (by omega) (by omega) (by omega)
  obtain ⟨v, a3, n3, v0, v1, e3⟩ := roll_ok (k + 5) a2 z n2 (M : Int) p [] (by omega) (fdvOk_nat _ (by omega) (by omega))
  obtain ⟨j, rfl⟩ : ∃ j : Nat, v = j := ⟨v.toNat, by omega⟩
  have hn1 : 1 ≤ 1 + j := by omega
  have hn2 : 1 + j ≤ 200000 := by omega
  have b4 : ∀ h, bop .add (.int 1) (.int (j : Int)) h = some (.int ((1 + j : Nat) : Int)) := fun h => bn_add 1 j h
  have b6 : ∀ h, bop .mul (.int s) (.int ((1 + j : Nat) : Int)) h = some (.int (s * ((1 + j : Nat) : Int))) := fun h => bi_mul _ _ _ (.inl (by rcases hs with q | q <;> rw [q] <;> decide))
  generalize 1 + j = N at *
  have zl : bz N ≤ N := bare_le hn1
  have zp : 1 ≤ bz N := bare_pos hn1
  have zs : SqF (bz N) := bare_sqf hn1
  have zz : bz (bz N) = bz N := bare_bare hn1
  have c17 := fun h => sign_by_ok (k + 2) N s h hs hn1 (by omega)
  have c25 := fun h => sg_by_ok (k + 3) N s h hs hn1 (by omega)
  have c15 := fun h => is_sign_ok (k + 2) s (bz N) h hs zp (by omega) zs
  have c7 := fun h => square_free_ok (k + 3) N s h hs hn1 (by omega)
  have c17b := fun h => sign_by_ok (k + 2) (bz N) s h hs zp (by omega)
  have c7b : ∀ h, calls P (k + 3 + 3) 7 [.int (sgf (s * (bz N : Nat)))] h = some (.ok (.int (s * (bz N : Nat))) h) := fun h => by
    obtain ⟨u, hu, e⟩ := sgf_form s (bz N)
    have hq : 1 ≤ bz N * (u * u) ∧ bz N * (u * u) ≤ 1000000 := by rcases hu with rfl | rfl <;> omega
    have := square_free_ok (k + 3) (bz N * (u * u)) s h hs hq.1 hq.2
    rw [show bz (bz N * (u * u)) = bz N from bare_of zs zp (by rcases hu with rfl | rfl <;> decide) rfl, ← e] at this
    exact this
  rw [zz] at c17b
  obtain ⟨most, a4, n4, m1, m2, e4⟩ := pick_of (k + 4) a3 z n3 40 400 10000 4 10000 p (by omega) (by omega) (by omega)
  obtain ⟨s', b, a5, n5, g, e5⟩ := law_sign_ok (k + 2) a4 z n4 p most m1 m2
  obtain ⟨t', c, a6, n6, g', e6⟩ := law_sign_ok (k + 2) a5 z n5 p most m1 m2
  have g : SgB s' b 10000 := ⟨g.s1, g.b1, g.sq, Nat.le_trans g.hi m2⟩
  have g' : SgB t' c 10000 := ⟨g'.s1, g'.b1, g'.sq, Nat.le_trans g'.hi m2⟩
  refine ⟨s', t', b, c, a6, n6, some (.int (s * (N : Int))), some (.int (sgf (s * (bz N : Nat)))), some (.int (most : Int)), g, g', ?_⟩
  have gb2 := g.b2
  have gc2 := g'.b2
  have gb1 := g.b1
  have gc1 := g'.b1
  obtain ⟨q1, q2, q3⟩ := pq_spec g.b1 g'.b1 g.sq g'.sq
  have c18 := fun h => sign_times_ok (k + 1) s' t' b c h g g'
  have c18b : ∀ h, calls P (k + 1 + 5) 18 [.int (sgf (t' * c)), .int (sgf (s' * b))] h = some (.ok (.int (sgf (s' * t' * (pq b c : Nat)))) h) := fun h => by
    have := sign_times_ok (k + 1) t' s' c b h g' g
    rw [pq_comm, Int.mul_comm t' s'] at this
    exact this
  have c18c : ∀ h, calls P (k + 1 + 5) 18 [.int (sgf (s' * b)), .int (sgf (s' * b))] h = some (.ok (.int 1) h) := fun h => by
    have := sign_times_ok (k + 1) s' s' b b h g g
    have e : s' * s' = 1 := by rcases g.s1 with q | q <;> rw [q] <;> rfl
    rw [pq_self g.b1, e] at this
    exact this
  have c18d : ∀ h, calls P (k + 1 + 5) 18 [.int (sgf (s' * b)), .int 1] h = some (.ok (.int (sgf (s' * b))) h) := fun h => by
    have := sign_times_ok (k + 1) s' 1 b 1 h g sgb_one
    rw [pq_one, Int.mul_one] at this
    exact this
  have c24 := fun h => law_bare_ok (k + 4) s' b h g
  have c24b := fun h => law_bare_ok (k + 4) t' c h g'
  have hbc : 1 ≤ b * c ∧ b * c ≤ 10000 * 10000 := ⟨Nat.mul_le_mul g.b1 g'.b1, Nat.mul_le_mul g.b2 g'.b2⟩
  have c25b := fun h => sg_by_ok (k + 3) (b * c) (s' * t') h (sg_mul g.s1 g'.s1) hbc.1 (by omega)
  have zbc : bz (b * c) = pq b c := bare_of q2 q1 (Nat.gcd_pos_of_pos_left _ g.b1) q3
  rw [zbc] at c25b
  have mm : ∀ h, bop .mul (.int (s' * (b : Int))) (.int (t' * (c : Int))) h = some (.int (s' * t' * ((b * c : Nat) : Int))) := fun h => by
    have na := sg_abs g.s1 b
    rw [bi_mul _ _ _ (.inl (by rw [na]; omega)), Int.natCast_mul]
    congr 2
    simp -implicitDefEqProofs only [Int.mul_assoc, Int.mul_comm, Int.mul_left_comm]
  have nT : ∀ h, cop .notN (.bl true) (.bl true) h = some false := fun _ => rfl
  have e2 : calls P (k + 6) 21 [.ref p.length, .lst [.int 30, .int 1000, .int 200000]] (p ++ [D a1 z n1]) = some (.ok (.int (M : Int)) (p ++ [D a2 z n2])) := e2
  have e4 : calls P (k + 6) 21 [.ref p.length, .lst [.int 40, .int 400, .int 10000]] (p ++ [D a3 z n3]) = some (.ok (.int (most : Int)) (p ++ [D a4 z n4])) := e4
  have e3 : calls P (k + 6) 20 [.ref p.length, .int (M : Int)] (p ++ [D a2 z n2]) = some (.ok (.int (j : Int)) (p ++ [D a3 z n3])) := e3
  generalize sgf (s' * t' * ((pq b c : Nat) : Int)) = W at *
  generalize s' * t' * ((b * c : Nat) : Int) = BC at *
  generalize sgf (s' * (b : Int)) = X at *
  generalize sgf (t' * (c : Int)) = Y at *
  generalize s' * (b : Int) = X0 at *
  generalize t' * (c : Int) = Y0 at *
  generalize sgf (s * ((bz N : Nat) : Int)) = T at *
  generalize s * ((bz N : Nat) : Int) = B at *
  generalize s * (N : Int) = X1 at *
  simp -implicitDefEqProofs (disch := first | omega | assumption | rfl | decide | (simp -implicitDefEqProofs only [frz, MV.pure, pureL, MV.nol, nolL, Bool.and_self, pureL_ints, pureL_nI, nolL_ints]; done) | (simp -implicitDefEqProofs only [List.length_map, List.length_append, List.length_cons, List.length_nil, List.length_reverse]; omega)) only [stoL, sto, MV.nol, nolL, MV.pure, pureL, e_var, e_cst, e_bin, e_neg, e_not, e_and, e_or, e_ite, e_cmp, e_chn, e_tup, e_lst, e_ix, e_sl, e_rev, e_call, e_bi, e_isi, e_meth, s_asg0, s_par0, s_aug0, s_augS0, s_expr0, s_ret0, s_retN0, s_ife0, s_pass0, s_brk0, s_cnt0, es_nil, es_cons, eo_none, eo_some, ec_none, ec_some, et_var, et_tup, et_sub, ets_nil, ets_cons, eb_nil, eb_cons, truth, endFn, handBack, froz, frozL, frz, stoAll, unl, nl, nolL_ints, pureL_ints, frozL_ints, intsOf_ints, frz_ints, pureL_nI, nolL_nI, frozL_nI, hx_get0, hx_getS, hx_set0, hx_setS, hx_take, hx_take1, hx_take2, hx_take3, hx_take4, hx_get3, hx_len, hx_app, hx_ge, hx_ge0, itemsL, items, seq, m_app0, m_app1, m_app2, add_ll, add_rl0, add_rl1, evalI, cmpOf, bv_tup, bv_tupt, bv_tupf, bv_lenl, bv_lent, bv_lenf, bv_lens, bv_lenr0, bv_lenr1, bv_int, bv_intb, List.getElem?_nil, List.take_succ_cons, List.take_nil, List.take_length, List.take_zero, and_true, true_and, and_false, false_and, List.getElem?_cons_zero, List.getElem?_cons_succ, List.set_cons_zero, List.set_cons_succ, List.length_cons, List.length_nil, List.cons_append, List.nil_append, List.append_nil, List.map_cons, List.map_nil, List.length_map, List.replicate, List.all_cons, List.all_nil, Nat.reduceSub, Nat.reduceAdd, Nat.reduceLT, Nat.reduceLeDiff, Nat.zero_add, Nat.add_zero, and_self, if_true, if_false, ite_true, ite_false, decide_true, decide_false, Bool.not_true, Bool.not_false, Bool.and_true, Bool.true_and, Bool.and_false, Bool.false_and, Bool.or_true, Bool.true_or, Bool.or_false, Bool.false_or, Bool.and_self, bnd_ok, bnd_ex, exS_ok, exS_ex, lift_some, noX_ok, thenS_rt, thenS_nx, thenS_bk, thenS_ct, thenS_ex, Option.map_some, Option.bind_some, Option.some.injEq, reduceCtorEq, ite_self, Bool.false_eq_true, not_true_eq_false, not_false_eq_true, eq_self, Int.reduceSub, Int.reduceAdd, Int.reduceMul, Int.reduceNeg, bi_add, bi_sub, ci_le, ci_lt, ci_ge, ci_gt, ci_eq, ci_ne, D27, List.take, e1, e2, e3, b4, b6, c17, c25, int_ne, c15, nT, c7, c7b, c17b, e4, e5, e6, c18, c24, c24b, mm, c25b, c18b, c18c, c18d]
--CUT
theorem right_ok (k : Nat) (a z n : Int) (p : Hm) : ∃ a' n', calls P (k + 7) 27 [.ref p.length] (p ++ [D a z n]) = some (.ok (.bl true) (p ++ [D a' z n'])) := by
  obtain ⟨s, t, b, c, a1, n1, s1, s2, s3, g, g', eA⟩ := right_A k a z n p
  obtain ⟨s7, s8, s9, a2, n2, eT⟩ := turns k s t b c a1 z n1 p s1 s2 s3 g g'
  refine ⟨a2, n2, ?_⟩
  have hD : ∀ (a b : List MS) σ h, execB (calls P (k + 6)) (a ++ b) σ h = thenS (execB (calls P (k + 6)) a σ h) fun σ h => execB (calls P (k + 6)) b σ h := fun a => by
    induction a with
    | nil => intro b σ h; simp -implicitDefEqProofs only [List.nil_append, eb_nil, thenS_nx]
    | cons x a ih =>
      intro b σ h
      simp -implicitDefEqProofs only [List.cons_append, eb_cons, ih]
      cases execS (calls P (k + 6)) x σ h with
      | none => rfl
      | some r => cases r <;> rfl
  have hi := g.hi
  have eE : execB (calls P (k + 6)) [(.ret (.or (.cmp .eq (.var 4) (.cst (.int 1))) (.cmp .eq (.call 16 [(.var 4), (.bin .sub (.bi .abs [(.var 4)]) (.cst (.int 1)))]) (.ite (.cmp .gt (.var 4) (.cst (.int 0))) (.cst (.int 1)) (.neg (.cst (.int 1)))))))] [some (.ref p.length), s1, s2, s3, some (.int (sgf (s * b))), some (.int (sgf (t * c))), some (.int (sgf (s * t * (pq b c : Nat)))), s7, s8, s9] (p ++ [D a2 z n2]) = some (.rt (.bl true) (p ++ [D a2 z n2])) := by
    by_cases h1 : sgf (s * (b : Int)) = 1
    · rw [h1]
      have q : ∀ h, cop .eq (.int 1) (.int 1) h = some true := fun _ => rfl
      simp -implicitDefEqProofs (disch := first | omega | assumption | rfl | decide | (simp -implicitDefEqProofs only [frz, MV.pure, pureL, MV.nol, nolL, Bool.and_self, pureL_ints, pureL_nI, nolL_ints]; done) | (simp -implicitDefEqProofs only [List.length_map, List.length_append, List.length_cons, List.length_nil, List.length_reverse]; omega)) only [stoL, sto, MV.nol, nolL, MV.pure, pureL, e_var, e_cst, e_bin, e_neg, e_not, e_and, e_or, e_ite, e_cmp, e_chn, e_tup, e_lst, e_ix, e_sl, e_rev, e_call, e_bi, e_isi, e_meth, s_asg0, s_par0, s_aug0, s_augS0, s_expr0, s_ret0, s_retN0, s_ife0, s_pass0, s_brk0, s_cnt0, es_nil, es_cons, eo_none, eo_some, ec_none, ec_some, et_var, et_tup, et_sub, ets_nil, ets_cons, eb_nil, eb_cons, truth, endFn, handBack, froz, frozL, frz, stoAll, unl, nl, nolL_ints, pureL_ints, frozL_ints, intsOf_ints, frz_ints, pureL_nI, nolL_nI, frozL_nI, hx_get0, hx_getS, hx_set0, hx_setS, hx_take, hx_take1, hx_take2, hx_take3, hx_take4, hx_get3, hx_len, hx_app, hx_ge, hx_ge0, itemsL, items, seq, m_app0, m_app1, m_app2, add_ll, add_rl0, add_rl1, evalI, cmpOf, bv_tup, bv_tupt, bv_tupf, bv_lenl, bv_lent, bv_lenf, bv_lens, bv_lenr0, bv_lenr1, bv_int, bv_intb, List.getElem?_nil, List.take_succ_cons, List.take_nil, List.take_length, List.take_zero, and_true, true_and, and_false, false_and, List.getElem?_cons_zero, List.getElem?_cons_succ, List.set_cons_zero, List.set_cons_succ, List.length_cons, List.length_nil, List.cons_append, List.nil_append, List.append_nil, List.map_cons, List.map_nil, List.length_map, List.replicate, List.all_cons, List.all_nil, Nat.reduceSub, Nat.reduceAdd, Nat.reduceLT, Nat.reduceLeDiff, Nat.zero_add, Nat.add_zero, and_self, if_true, if_false, ite_true, ite_false, decide_true, decide_false, Bool.not_true, Bool.not_false, Bool.and_true, Bool.true_and, Bool.and_false, Bool.false_and, Bool.or_true, Bool.true_or, Bool.or_false, Bool.false_or, Bool.and_self, bnd_ok, bnd_ex, exS_ok, exS_ex, lift_some, noX_ok, thenS_rt, thenS_nx, thenS_bk, thenS_ct, thenS_ex, Option.map_some, Option.bind_some, Option.some.injEq, reduceCtorEq, ite_self, Bool.false_eq_true, not_true_eq_false, not_false_eq_true, eq_self, Int.reduceSub, Int.reduceAdd, Int.reduceMul, Int.reduceNeg, bi_add, bi_sub, ci_le, ci_lt, ci_ge, ci_gt, ci_eq, ci_ne, q]
    · obtain ⟨k1, k2, k3⟩ := kr_end g h1
      have o := fun h => sign_of_ok (k + 1) s b ((sgf (s * b)).natAbs - 1) h g (by omega)
      rw [k1] at o
      have b5 : ∀ h, bop .sub (.int (((sgf (s * (b : Int))).natAbs : Nat) : Int)) (.int 1) h = some (.int (((sgf (s * (b : Int))).natAbs - 1 : Nat) : Int)) := fun h => bn_sub1 _ h k3
      generalize sgf (s * t * ((pq b c : Nat) : Int)) = W at *
      generalize sgf (s * (b : Int)) = X at *
      generalize sgf (t * (c : Int)) = Y at *
      have e1 : decide (X = 1) = false := decide_eq_false h1
      rcases g.s1 with q | q
      · subst q
        have hp : 0 < X := k2.mpr rfl
        have q1 : ∀ h, cop .eq (.int 1) (.int 1) h = some true := fun _ => rfl
        simp -implicitDefEqProofs (disch := first | omega | assumption | rfl | decide | (simp -implicitDefEqProofs only [frz, MV.pure, pureL, MV.nol, nolL, Bool.and_self, pureL_ints, pureL_nI, nolL_ints]; done) | (simp -implicitDefEqProofs only [List.length_map, List.length_append, List.length_cons, List.length_nil, List.length_reverse]; omega)) only [stoL, sto, MV.nol, nolL, MV.pure, pureL, e_var, e_cst, e_bin, e_neg, e_not, e_and, e_or, e_ite, e_cmp, e_chn, e_tup, e_lst, e_ix, e_sl, e_rev, e_call, e_bi, e_isi, e_meth, s_asg0, s_par0, s_aug0, s_augS0, s_expr0, s_ret0, s_retN0, s_ife0, s_pass0, s_brk0, s_cnt0, es_nil, es_cons, eo_none, eo_some, ec_none, ec_some, et_var, et_tup, et_sub, ets_nil, ets_cons, eb_nil, eb_cons, truth, endFn, handBack, froz, frozL, frz, stoAll, unl, nl, nolL_ints, pureL_ints, frozL_ints, intsOf_ints, frz_ints, pureL_nI, nolL_nI, frozL_nI, hx_get0, hx_getS, hx_set0, hx_setS, hx_take, hx_take1, hx_take2, hx_take3, hx_take4, hx_get3, hx_len, hx_app, hx_ge, hx_ge0, itemsL, items, seq, m_app0, m_app1, m_app2, add_ll, add_rl0, add_rl1, evalI, cmpOf, bv_tup, bv_tupt, bv_tupf, bv_lenl, bv_lent, bv_lenf, bv_lens, bv_lenr0, bv_lenr1, bv_int, bv_intb, List.getElem?_nil, List.take_succ_cons, List.take_nil, List.take_length, List.take_zero, and_true, true_and, and_false, false_and, List.getElem?_cons_zero, List.getElem?_cons_succ, List.set_cons_zero, List.set_cons_succ, List.length_cons, List.length_nil, List.cons_append, List.nil_append, List.append_nil, List.map_cons, List.map_nil, List.length_map, List.replicate, List.all_cons, List.all_nil, Nat.reduceSub, Nat.reduceAdd, Nat.reduceLT, Nat.reduceLeDiff, Nat.zero_add, Nat.add_zero, and_self, if_true, if_false, ite_true, ite_false, decide_true, decide_false, Bool.not_true, Bool.not_false, Bool.and_true, Bool.true_and, Bool.and_false, Bool.false_and, Bool.or_true, Bool.true_or, Bool.or_false, Bool.false_or, Bool.and_self, bnd_ok, bnd_ex, exS_ok, exS_ex, lift_some, noX_ok, thenS_rt, thenS_nx, thenS_bk, thenS_ct, thenS_ex, Option.map_some, Option.bind_some, Option.some.injEq, reduceCtorEq, ite_self, Bool.false_eq_true, not_true_eq_false, not_false_eq_true, eq_self, ci_eq, e1, bv_abs, b5, o, ci_gt, hp, decide_true]
      · subst q
        have hp : ¬ 0 < X := fun c => absurd (k2.mp c) (by decide)
        have q1 : ∀ h, cop .eq (.int (-1)) (.int (-1)) h = some true := fun _ => rfl
        simp -implicitDefEqProofs (disch := first | omega | assumption | rfl | decide | (simp -implicitDefEqProofs only [frz, MV.pure, pureL, MV.nol, nolL, Bool.and_self, pureL_ints, pureL_nI, nolL_ints]; done) | (simp -implicitDefEqProofs only [List.length_map, List.length_append, List.length_cons, List.length_nil, List.length_reverse]; omega)) only [stoL, sto, MV.nol, nolL, MV.pure, pureL, e_var, e_cst, e_bin, e_neg, e_not, e_and, e_or, e_ite, e_cmp, e_chn, e_tup, e_lst, e_ix, e_sl, e_rev, e_call, e_bi, e_isi, e_meth, s_asg0, s_par0, s_aug0, s_augS0, s_expr0, s_ret0, s_retN0, s_ife0, s_pass0, s_brk0, s_cnt0, es_nil, es_cons, eo_none, eo_some, ec_none, ec_some, et_var, et_tup, et_sub, ets_nil, ets_cons, eb_nil, eb_cons, truth, endFn, handBack, froz, frozL, frz, stoAll, unl, nl, nolL_ints, pureL_ints, frozL_ints, intsOf_ints, frz_ints, pureL_nI, nolL_nI, frozL_nI, hx_get0, hx_getS, hx_set0, hx_setS, hx_take, hx_take1, hx_take2, hx_take3, hx_take4, hx_get3, hx_len, hx_app, hx_ge, hx_ge0, itemsL, items, seq, m_app0, m_app1, m_app2, add_ll, add_rl0, add_rl1, evalI, cmpOf, bv_tup, bv_tupt, bv_tupf, bv_lenl, bv_lent, bv_lenf, bv_lens, bv_lenr0, bv_lenr1, bv_int, bv_intb, List.getElem?_nil, List.take_succ_cons, List.take_nil, List.take_length, List.take_zero, and_true, true_and, and_false, false_and, List.getElem?_cons_zero, List.getElem?_cons_succ, List.set_cons_zero, List.set_cons_succ, List.length_cons, List.length_nil, List.cons_append, List.nil_append, List.append_nil, List.map_cons, List.map_nil, List.length_map, List.replicate, List.all_cons, List.all_nil, Nat.reduceSub, Nat.reduceAdd, Nat.reduceLT, Nat.reduceLeDiff, Nat.zero_add, Nat.add_zero, and_self, if_true, if_false, ite_true, ite_false, decide_true, decide_false, Bool.not_true, Bool.not_false, Bool.and_true, Bool.true_and, Bool.and_false, Bool.false_and, Bool.or_true, Bool.true_or, Bool.or_false, Bool.false_or, Bool.and_self, bnd_ok, bnd_ex, exS_ok, exS_ex, lift_some, noX_ok, thenS_rt, thenS_nx, thenS_bk, thenS_ct, thenS_ex, Option.map_some, Option.bind_some, Option.some.injEq, reduceCtorEq, ite_self, Bool.false_eq_true, not_true_eq_false, not_false_eq_true, eq_self, e1, bv_abs, b5, o, ci_gt, hp, q1, ci_eq, decide_true]
  have e3 : execB (calls P (k + 6)) D27.body [some (.ref p.length), none, none, none, none, none, none, none, none, none] (p ++ [D a z n]) = some (.rt (.bl true) (p ++ [D a2 z n2])) := by
    rw [show D27.body = D27.body.take 9 ++ (D27.body.getD 9 .pass :: [(.ret (.or (.cmp .eq (.var 4) (.cst (.int 1))) (.cmp .eq (.call 16 [(.var 4), (.bin .sub (.bi .abs [(.var 4)]) (.cst (.int 1)))]) (.ite (.cmp .gt (.var 4) (.cst (.int 0))) (.cst (.int 1)) (.neg (.cst (.int 1)))))))]) from rfl, hD, eA, thenS_nx, eb_cons, eT, thenS_nx, eE]
  rw [c27]
  simp -implicitDefEqProofs only [runFn, stoL, sto, MV.nol, nolL, if_true, List.length_cons, List.length_nil, List.map_cons, List.map_nil, List.cons_append, List.nil_append, Nat.reduceSub, Nat.reduceAdd, Nat.zero_add, List.replicate]
  show endFn _ (execB _ D27.body [some (.ref p.length), none, none, none, none, none, none, none, none, none] _) = _
  rw [e3]
  have tk : (p ++ [D a2 z n2]).take (p ++ [D a z n]).length = p ++ [D a2 z n2] := List.take_of_length_le (by simp)
  simp -implicitDefEqProofs only [endFn, handBack, froz, tk]
theorem ends_ok (k : Nat) (h : Hm) : (∀ x y : Int, (x, y) ∈ [((1 : Int), (1 : Int)), (4, 1), (-1, -4), (2, 8), (3, 12), (-3, -3)] → calls P (k + 4) 17 [.int x] h = some (.ok (.int y) h)) ∧ calls P (k + 5) 18 [.int (-4), .int 8] h = some (.ok (.int (-8)) h) := by
  have v : sgf (1 * (bz 1 : Nat)) = 1 ∧ sgf (1 * (bz 4 : Nat)) = 1 ∧ sgf (-1 * (bz 1 : Nat)) = -4 ∧ sgf (1 * (bz 2 : Nat)) = 8 ∧ sgf (1 * (bz 3 : Nat)) = 12 ∧ sgf (-1 * (bz 3 : Nat)) = -3 := by decide +kernel
  obtain ⟨v1, v2, v3, v4, v5, v6⟩ := v
  have e1 := sign_by_ok k 1 1 h (.inl rfl) (by decide) (by decide)
  have e2 := sign_by_ok k 4 1 h (.inl rfl) (by decide) (by decide)
  have e3 := sign_by_ok k 1 (-1) h (.inr rfl) (by decide) (by decide)
  have e4 := sign_by_ok k 2 1 h (.inl rfl) (by decide) (by decide)
  have e5 := sign_by_ok k 3 1 h (.inl rfl) (by decide) (by decide)
  have e6 := sign_by_ok k 3 (-1) h (.inr rfl) (by decide) (by decide)
  rw [v1] at e1
  rw [v2] at e2
  rw [v3] at e3
  rw [v4] at e4
  rw [v5] at e5
  rw [v6] at e6
  have sq2 : SqF 2 := by
    have := bare_sqf (n := 2) (by decide)
    rwa [show bareL (primesL 2) = 2 by decide +kernel] at this
  have et := sign_times_ok k (-1) 1 1 2 h ⟨.inr rfl, by decide, sgb_one.sq, by decide⟩ ⟨.inl rfl, by decide, sq2, by decide⟩
  refine ⟨fun x y hm => ?_, et⟩
  simp -implicitDefEqProofs only [List.mem_cons, List.not_mem_nil, or_false, Prod.mk.injEq] at hm
  rcases hm with ⟨rfl, rfl⟩ | ⟨rfl, rfl⟩ | ⟨rfl, rfl⟩ | ⟨rfl, rfl⟩ | ⟨rfl, rfl⟩ | ⟨rfl, rfl⟩
  · exact e1
  · exact e2
  · exact e3
  · exact e4
  · exact e5
  · exact e6
theorem law_ok (k : Nat) (ns : List Int) : ∃ h, calls P (k + 8) 28 [.scr ns] [] = some (.ok (.bl true) h) := by
  refine ⟨[], ?_⟩
  rw [c28]
  simp -implicitDefEqProofs only [runFn, stoL, sto, MV.nol, nolL, if_true, List.length_cons, List.length_nil, List.map_cons, List.map_nil, List.cons_append, List.nil_append, Nat.reduceSub, Nat.reduceAdd, Nat.zero_add, List.replicate, D28]
  rw [eb_cons]
  refine xe_forR (n := max 1 (min 6 ns.length)) (lo := 0) (ei_r1 (by simp -implicitDefEqProofs (disch := first | omega | assumption | rfl | decide | (simp -implicitDefEqProofs only [frz, MV.pure, pureL, MV.nol, nolL, Bool.and_self, pureL_ints, pureL_nI, nolL_ints]; done) | (simp -implicitDefEqProofs only [List.length_map, List.length_append, List.length_cons, List.length_nil, List.length_reverse]; omega)) only [stoL, sto, MV.nol, nolL, MV.pure, pureL, e_var, e_cst, e_bin, e_neg, e_not, e_and, e_or, e_ite, e_cmp, e_chn, e_tup, e_lst, e_ix, e_sl, e_rev, e_call, e_bi, e_isi, e_meth, s_asg0, s_par0, s_aug0, s_augS0, s_expr0, s_ret0, s_retN0, s_ife0, s_pass0, s_brk0, s_cnt0, es_nil, es_cons, eo_none, eo_some, ec_none, ec_some, et_var, et_tup, et_sub, ets_nil, ets_cons, eb_nil, eb_cons, truth, endFn, handBack, froz, frozL, frz, stoAll, unl, nl, nolL_ints, pureL_ints, frozL_ints, intsOf_ints, frz_ints, pureL_nI, nolL_nI, frozL_nI, hx_get0, hx_getS, hx_set0, hx_setS, hx_take, hx_take1, hx_take2, hx_take3, hx_take4, hx_get3, hx_len, hx_app, hx_ge, hx_ge0, itemsL, items, seq, m_app0, m_app1, m_app2, add_ll, add_rl0, add_rl1, evalI, cmpOf, bv_tup, bv_tupt, bv_tupf, bv_lenl, bv_lent, bv_lenf, bv_lens, bv_lenr0, bv_lenr1, bv_int, bv_intb, List.getElem?_nil, List.take_succ_cons, List.take_nil, List.take_length, List.take_zero, and_true, true_and, and_false, false_and, List.getElem?_cons_zero, List.getElem?_cons_succ, List.set_cons_zero, List.set_cons_succ, List.length_cons, List.length_nil, List.cons_append, List.nil_append, List.append_nil, List.map_cons, List.map_nil, List.length_map, List.replicate, List.all_cons, List.all_nil, Nat.reduceSub, Nat.reduceAdd, Nat.reduceLT, Nat.reduceLeDiff, Nat.zero_add, Nat.add_zero, and_self, if_true, if_false, ite_true, ite_false, decide_true, decide_false, Bool.not_true, Bool.not_false, Bool.and_true, Bool.true_and, Bool.and_false, Bool.false_and, Bool.or_true, Bool.true_or, Bool.or_false, Bool.false_or, Bool.and_self, bnd_ok, bnd_ex, exS_ok, exS_ex, lift_some, noX_ok, thenS_rt, thenS_nx, thenS_bk, thenS_ct, thenS_ex, Option.map_some, Option.bind_some, Option.some.injEq, reduceCtorEq, ite_self, Bool.false_eq_true, not_true_eq_false, not_false_eq_true, eq_self, bv_minN, bv_maxN, show ∀ h, biV .min2 [.int 6, .int (ns.length : Int)] h = some (.int ((min 6 ns.length : Nat) : Int)) from fun h => bv_minN 6 _ h, show ∀ (x : Nat) h, biV .max2 [.int 1, .int (x : Int)] h = some (.int ((max 1 x : Nat) : Int)) from fun x h => bv_maxN 1 x h]; rfl) (by omega)) (fun i σ hh => ∃ s1 s2, σ = [some (.scr ns), s1, s2, none]) ⟨none, none, rfl⟩ ?_ ?_
  · rintro σ hh ⟨s1, s2, rfl⟩
    obtain ⟨e1, e2⟩ := ends_ok (k + 2) hh
    have e1 : ∀ x y : Int, (x, y) ∈ [((1 : Int), (1 : Int)), (4, 1), (-1, -4), (2, 8), (3, 12), (-3, -3)] → calls P (k + 7) 17 [.int x] hh = some (.ok (.int y) hh) := (ends_ok (k + 3) hh).1
    have el : evalE (calls P (k + 7)) (.lc [3] (.var 3) (.ex (.tup [(.cst (.int 1)), (.cst (.int 4)), (.neg (.cst (.int 1))), (.cst (.int 2)), (.cst (.int 3)), (.neg (.cst (.int 3)))])) none (.call 17 [(.var 3)])) [some (.scr ns), s1, s2, none] hh = some (.ok (.lst ((([((1 : Int), (1 : Int)), (4, 1), (-1, -4), (2, 8), (3, 12), (-3, -3)].filter fun _ => true).map fun x => x.2).map MV.int)) hh) := by
      refine e_lcM (s := .one (.tv ([((1 : Int), (1 : Int)), (4, 1), (-1, -4), (2, 8), (3, 12), (-3, -3)].map fun (x : Int × Int) => MV.int x.1))) [((1 : Int), (1 : Int)), (4, 1), (-1, -4), (2, 8), (3, 12), (-3, -3)] (fun _ => true) (fun x => x.2) MV.int (by simp -implicitDefEqProofs (disch := first | omega | assumption | rfl | decide | (simp -implicitDefEqProofs only [frz, MV.pure, pureL, MV.nol, nolL, Bool.and_self, pureL_ints, pureL_nI, nolL_ints]; done) | (simp -implicitDefEqProofs only [List.length_map, List.length_append, List.length_cons, List.length_nil, List.length_reverse]; omega)) only [stoL, sto, MV.nol, nolL, MV.pure, pureL, e_var, e_cst, e_bin, e_neg, e_not, e_and, e_or, e_ite, e_cmp, e_chn, e_tup, e_lst, e_ix, e_sl, e_rev, e_call, e_bi, e_isi, e_meth, s_asg0, s_par0, s_aug0, s_augS0, s_expr0, s_ret0, s_retN0, s_ife0, s_pass0, s_brk0, s_cnt0, es_nil, es_cons, eo_none, eo_some, ec_none, ec_some, et_var, et_tup, et_sub, ets_nil, ets_cons, eb_nil, eb_cons, truth, endFn, handBack, froz, frozL, frz, stoAll, unl, nl, nolL_ints, pureL_ints, frozL_ints, intsOf_ints, frz_ints, pureL_nI, nolL_nI, frozL_nI, hx_get0, hx_getS, hx_set0, hx_setS, hx_take, hx_take1, hx_take2, hx_take3, hx_take4, hx_get3, hx_len, hx_app, hx_ge, hx_ge0, itemsL, items, seq, m_app0, m_app1, m_app2, add_ll, add_rl0, add_rl1, evalI, cmpOf, bv_tup, bv_tupt, bv_tupf, bv_lenl, bv_lent, bv_lenf, bv_lens, bv_lenr0, bv_lenr1, bv_int, bv_intb, List.getElem?_nil, List.take_succ_cons, List.take_nil, List.take_length, List.take_zero, and_true, true_and, and_false, false_and, List.getElem?_cons_zero, List.getElem?_cons_succ, List.set_cons_zero, List.set_cons_succ, List.length_cons, List.length_nil, List.cons_append, List.nil_append, List.append_nil, List.map_cons, List.map_nil, List.length_map, List.replicate, List.all_cons, List.all_nil, Nat.reduceSub, Nat.reduceAdd, Nat.reduceLT, Nat.reduceLeDiff, Nat.zero_add, Nat.add_zero, and_self, if_true, if_false, ite_true, ite_false, decide_true, decide_false, Bool.not_true, Bool.not_false, Bool.and_true, Bool.true_and, Bool.and_false, Bool.false_and, Bool.or_true, Bool.true_or, Bool.or_false, Bool.false_or, Bool.and_self, bnd_ok, bnd_ex, exS_ok, exS_ex, lift_some, noX_ok, thenS_rt, thenS_nx, thenS_bk, thenS_ct, thenS_ex, Option.map_some, Option.bind_some, Option.some.injEq, reduceCtorEq, ite_self, Bool.false_eq_true, not_true_eq_false, not_false_eq_true, eq_self, Int.reduceSub, Int.reduceAdd, Int.reduceMul, Int.reduceNeg, bi_add, bi_sub, ci_le, ci_lt, ci_ge, ci_gt, ci_eq, ci_ne]) (by simp -implicitDefEqProofs [Src.len, Cmp.len]) (by decide) (fun (x : Int × Int) => .int x.1) (fun i => nth_mapL _ (fun (x : Int × Int) => MV.int x.1) (fun _ _ => rfl) _ (.inr rfl) i hh) (fun _ => ⟨rfl, rfl⟩) (fun x hx => ⟨[some (.scr ns), s1, s2, some (.int x.1)], by simp -implicitDefEqProofs (disch := first | omega | assumption | rfl | decide | (simp -implicitDefEqProofs only [frz, MV.pure, pureL, MV.nol, nolL, Bool.and_self, pureL_ints, pureL_nI, nolL_ints]; done) | (simp -implicitDefEqProofs only [List.length_map, List.length_append, List.length_cons, List.length_nil, List.length_reverse]; omega)) only [stoL, sto, MV.nol, nolL, MV.pure, pureL, e_var, e_cst, e_bin, e_neg, e_not, e_and, e_or, e_ite, e_cmp, e_chn, e_tup, e_lst, e_ix, e_sl, e_rev, e_call, e_bi, e_isi, e_meth, s_asg0, s_par0, s_aug0, s_augS0, s_expr0, s_ret0, s_retN0, s_ife0, s_pass0, s_brk0, s_cnt0, es_nil, es_cons, eo_none, eo_some, ec_none, ec_some, et_var, et_tup, et_sub, ets_nil, ets_cons, eb_nil, eb_cons, truth, endFn, handBack, froz, frozL, frz, stoAll, unl, nl, nolL_ints, pureL_ints, frozL_ints, intsOf_ints, frz_ints, pureL_nI, nolL_nI, frozL_nI, hx_get0, hx_getS, hx_set0, hx_setS, hx_take, hx_take1, hx_take2, hx_take3, hx_take4, hx_get3, hx_len, hx_app, hx_ge, hx_ge0, itemsL, items, seq, m_app0, m_app1, m_app2, add_ll, add_rl0, add_rl1, evalI, cmpOf, bv_tup, bv_tupt, bv_tupf, bv_lenl, bv_lent, bv_lenf, bv_lens, bv_lenr0, bv_lenr1, bv_int, bv_intb, List.getElem?_nil, List.take_succ_cons, List.take_nil, List.take_length, List.take_zero, and_true, true_and, and_false, false_and, List.getElem?_cons_zero, List.getElem?_cons_succ, List.set_cons_zero, List.set_cons_succ, List.length_cons, List.length_nil, List.cons_append, List.nil_append, List.append_nil, List.map_cons, List.map_nil, List.length_map, List.replicate, List.all_cons, List.all_nil, Nat.reduceSub, Nat.reduceAdd, Nat.reduceLT, Nat.reduceLeDiff, Nat.zero_add, Nat.add_zero, and_self, if_true, if_false, ite_true, ite_false, decide_true, decide_false, Bool.not_true, Bool.not_false, Bool.and_true, Bool.true_and, Bool.and_false, Bool.false_and, Bool.or_true, Bool.true_or, Bool.or_false, Bool.false_or, Bool.and_self, bnd_ok, bnd_ex, exS_ok, exS_ex, lift_some, noX_ok, thenS_rt, thenS_nx, thenS_bk, thenS_ct, thenS_ex, Option.map_some, Option.bind_some, Option.some.injEq, reduceCtorEq, ite_self, Bool.false_eq_true, not_true_eq_false, not_false_eq_true, eq_self, wipeL], by simp -implicitDefEqProofs (disch := first | omega | assumption | rfl | decide | (simp -implicitDefEqProofs only [frz, MV.pure, pureL, MV.nol, nolL, Bool.and_self, pureL_ints, pureL_nI, nolL_ints]; done) | (simp -implicitDefEqProofs only [List.length_map, List.length_append, List.length_cons, List.length_nil, List.length_reverse]; omega)) only [stoL, sto, MV.nol, nolL, MV.pure, pureL, e_var, e_cst, e_bin, e_neg, e_not, e_and, e_or, e_ite, e_cmp, e_chn, e_tup, e_lst, e_ix, e_sl, e_rev, e_call, e_bi, e_isi, e_meth, s_asg0, s_par0, s_aug0, s_augS0, s_expr0, s_ret0, s_retN0, s_ife0, s_pass0, s_brk0, s_cnt0, es_nil, es_cons, eo_none, eo_some, ec_none, ec_some, et_var, et_tup, et_sub, ets_nil, ets_cons, eb_nil, eb_cons, truth, endFn, handBack, froz, frozL, frz, stoAll, unl, nl, nolL_ints, pureL_ints, frozL_ints, intsOf_ints, frz_ints, pureL_nI, nolL_nI, frozL_nI, hx_get0, hx_getS, hx_set0, hx_setS, hx_take, hx_take1, hx_take2, hx_take3, hx_take4, hx_get3, hx_len, hx_app, hx_ge, hx_ge0, itemsL, items, seq, m_app0, m_app1, m_app2, add_ll, add_rl0, add_rl1, evalI, cmpOf, bv_tup, bv_tupt, bv_tupf, bv_lenl, bv_lent, bv_lenf, bv_lens, bv_lenr0, bv_lenr1, bv_int, bv_intb, List.getElem?_nil, List.take_succ_cons, List.take_nil, List.take_length, List.take_zero, and_true, true_and, and_false, false_and, List.getElem?_cons_zero, List.getElem?_cons_succ, List.set_cons_zero, List.set_cons_succ, List.length_cons, List.length_nil, List.cons_append, List.nil_append, List.append_nil, List.map_cons, List.map_nil, List.length_map, List.replicate, List.all_cons, List.all_nil, Nat.reduceSub, Nat.reduceAdd, Nat.reduceLT, Nat.reduceLeDiff, Nat.zero_add, Nat.add_zero, and_self, if_true, if_false, ite_true, ite_false, decide_true, decide_false, Bool.not_true, Bool.not_false, Bool.and_true, Bool.true_and, Bool.and_false, Bool.false_and, Bool.or_true, Bool.true_or, Bool.or_false, Bool.false_or, Bool.and_self, bnd_ok, bnd_ex, exS_ok, exS_ex, lift_some, noX_ok, thenS_rt, thenS_nx, thenS_bk, thenS_ct, thenS_ex, Option.map_some, Option.bind_some, Option.some.injEq, reduceCtorEq, ite_self, Bool.false_eq_true, not_true_eq_false, not_false_eq_true, eq_self], fun _ => ⟨.int x.2, ?_, rfl⟩⟩)
      have := e1 x.1 x.2 hx
      simp -implicitDefEqProofs (disch := first | omega | assumption | rfl | decide | (simp -implicitDefEqProofs only [frz, MV.pure, pureL, MV.nol, nolL, Bool.and_self, pureL_ints, pureL_nI, nolL_ints]; done) | (simp -implicitDefEqProofs only [List.length_map, List.length_append, List.length_cons, List.length_nil, List.length_reverse]; omega)) only [stoL, sto, MV.nol, nolL, MV.pure, pureL, e_var, e_cst, e_bin, e_neg, e_not, e_and, e_or, e_ite, e_cmp, e_chn, e_tup, e_lst, e_ix, e_sl, e_rev, e_call, e_bi, e_isi, e_meth, s_asg0, s_par0, s_aug0, s_augS0, s_expr0, s_ret0, s_retN0, s_ife0, s_pass0, s_brk0, s_cnt0, es_nil, es_cons, eo_none, eo_some, ec_none, ec_some, et_var, et_tup, et_sub, ets_nil, ets_cons, eb_nil, eb_cons, truth, endFn, handBack, froz, frozL, frz, stoAll, unl, nl, nolL_ints, pureL_ints, frozL_ints, intsOf_ints, frz_ints, pureL_nI, nolL_nI, frozL_nI, hx_get0, hx_getS, hx_set0, hx_setS, hx_take, hx_take1, hx_take2, hx_take3, hx_take4, hx_get3, hx_len, hx_app, hx_ge, hx_ge0, itemsL, items, seq, m_app0, m_app1, m_app2, add_ll, add_rl0, add_rl1, evalI, cmpOf, bv_tup, bv_tupt, bv_tupf, bv_lenl, bv_lent, bv_lenf, bv_lens, bv_lenr0, bv_lenr1, bv_int, bv_intb, List.getElem?_nil, List.take_succ_cons, List.take_nil, List.take_length, List.take_zero, and_true, true_and, and_false, false_and, List.getElem?_cons_zero, List.getElem?_cons_succ, List.set_cons_zero, List.set_cons_succ, List.length_cons, List.length_nil, List.cons_append, List.nil_append, List.append_nil, List.map_cons, List.map_nil, List.length_map, List.replicate, List.all_cons, List.all_nil, Nat.reduceSub, Nat.reduceAdd, Nat.reduceLT, Nat.reduceLeDiff, Nat.zero_add, Nat.add_zero, and_self, if_true, if_false, ite_true, ite_false, decide_true, decide_false, Bool.not_true, Bool.not_false, Bool.and_true, Bool.true_and, Bool.and_false, Bool.false_and, Bool.or_true, Bool.true_or, Bool.or_false, Bool.false_or, Bool.and_self, bnd_ok, bnd_ex, exS_ok, exS_ex, lift_some, noX_ok, thenS_rt, thenS_nx, thenS_bk, thenS_ct, thenS_ex, Option.map_some, Option.bind_some, Option.some.injEq, reduceCtorEq, ite_self, Bool.false_eq_true, not_true_eq_false, not_false_eq_true, eq_self, this]
    have el : evalE (calls P (k + 7)) (.lc [3] (.var 3) (.ex (.tup [(.cst (.int 1)), (.cst (.int 4)), (.neg (.cst (.int 1))), (.cst (.int 2)), (.cst (.int 3)), (.neg (.cst (.int 3)))])) none (.call 17 [(.var 3)])) [some (.scr ns), s1, s2, none] hh = some (.ok (.lst [.int 1, .int 1, .int (-4), .int 8, .int 12, .int (-3)]) hh) := el
    have q1 : ∀ h, cop .eq (.lst [.int 1, .int 1, .int (-4), .int 8, .int 12, .int (-3)]) (.lst [.int 1, .int 1, .int (-4), .int 8, .int 12, .int (-3)]) h = some true := fun h => by rw [c_eq h rfl rfl, mvEq_refl (n := 64) rfl]
    have q2 : ∀ h, cop .eq (.int (-8)) (.int (-8)) h = some true := fun _ => rfl
    simp -implicitDefEqProofs (disch := first | omega | assumption | rfl | decide | (simp -implicitDefEqProofs only [frz, MV.pure, pureL, MV.nol, nolL, Bool.and_self, pureL_ints, pureL_nI, nolL_ints]; done) | (simp -implicitDefEqProofs only [List.length_map, List.length_append, List.length_cons, List.length_nil, List.length_reverse]; omega)) only [stoL, sto, MV.nol, nolL, MV.pure, pureL, e_var, e_cst, e_bin, e_neg, e_not, e_and, e_or, e_ite, e_cmp, e_chn, e_tup, e_lst, e_ix, e_sl, e_rev, e_call, e_bi, e_isi, e_meth, s_asg0, s_par0, s_aug0, s_augS0, s_expr0, s_ret0, s_retN0, s_ife0, s_pass0, s_brk0, s_cnt0, es_nil, es_cons, eo_none, eo_some, ec_none, ec_some, et_var, et_tup, et_sub, ets_nil, ets_cons, eb_nil, eb_cons, truth, endFn, handBack, froz, frozL, frz, stoAll, unl, nl, nolL_ints, pureL_ints, frozL_ints, intsOf_ints, frz_ints, pureL_nI, nolL_nI, frozL_nI, hx_get0, hx_getS, hx_set0, hx_setS, hx_take, hx_take1, hx_take2, hx_take3, hx_take4, hx_get3, hx_len, hx_app, hx_ge, hx_ge0, itemsL, items, seq, m_app0, m_app1, m_app2, add_ll, add_rl0, add_rl1, evalI, cmpOf, bv_tup, bv_tupt, bv_tupf, bv_lenl, bv_lent, bv_lenf, bv_lens, bv_lenr0, bv_lenr1, bv_int, bv_intb, List.getElem?_nil, List.take_succ_cons, List.take_nil, List.take_length, List.take_zero, and_true, true_and, and_false, false_and, List.getElem?_cons_zero, List.getElem?_cons_succ, List.set_cons_zero, List.set_cons_succ, List.length_cons, List.length_nil, List.cons_append, List.nil_append, List.append_nil, List.map_cons, List.map_nil, List.length_map, List.replicate, List.all_cons, List.all_nil, Nat.reduceSub, Nat.reduceAdd, Nat.reduceLT, Nat.reduceLeDiff, Nat.zero_add, Nat.add_zero, and_self, if_true, if_false, ite_true, ite_false, decide_true, decide_false, Bool.not_true, Bool.not_false, Bool.and_true, Bool.true_and, Bool.and_false, Bool.false_and, Bool.or_true, Bool.true_or, Bool.or_false, Bool.false_or, Bool.and_self, bnd_ok, bnd_ex, exS_ok, exS_ex, lift_some, noX_ok, thenS_rt, thenS_nx, thenS_bk, thenS_ct, thenS_ex, Option.map_some, Option.bind_some, Option.some.injEq, reduceCtorEq, ite_self, Bool.false_eq_true, not_true_eq_false, not_false_eq_true, eq_self, Int.reduceSub, Int.reduceAdd, Int.reduceMul, Int.reduceNeg, bi_add, bi_sub, ci_le, ci_lt, ci_ge, ci_gt, ci_eq, ci_ne, el, q1, e2, q2]
  · rintro i hi σ hh ⟨s1, s2, rfl⟩
    obtain ⟨a, s, ed⟩ := dice_ok (k + 6) ns i hh
    have ed : calls P (k + 7) 19 [.scr ns, .int (i : Int)] hh = some (.ok (.lst [.int a, .int s, .int 0]) hh) := ed
    obtain ⟨a1, n1, e1⟩ := right_ok k a s 0 hh
    obtain ⟨a2, n2, e2⟩ := right_ok k a1 s n1 hh
    have e1 : calls P (k + 7) 27 [.ref hh.length] (hh ++ [.lst [.int a, .int s, .int 0]]) = some (.ok (.bl true) (hh ++ [D a1 s n1])) := e1
    refine ⟨[some (.scr ns), some (.int ((0 + i : Nat) : Int)), s2, none], hh, by simp -implicitDefEqProofs (disch := first | omega | assumption | rfl | decide | (simp -implicitDefEqProofs only [frz, MV.pure, pureL, MV.nol, nolL, Bool.and_self, pureL_ints, pureL_nI, nolL_ints]; done) | (simp -implicitDefEqProofs only [List.length_map, List.length_append, List.length_cons, List.length_nil, List.length_reverse]; omega)) only [stoL, sto, MV.nol, nolL, MV.pure, pureL, e_var, e_cst, e_bin, e_neg, e_not, e_and, e_or, e_ite, e_cmp, e_chn, e_tup, e_lst, e_ix, e_sl, e_rev, e_call, e_bi, e_isi, e_meth, s_asg0, s_par0, s_aug0, s_augS0, s_expr0, s_ret0, s_retN0, s_ife0, s_pass0, s_brk0, s_cnt0, es_nil, es_cons, eo_none, eo_some, ec_none, ec_some, et_var, et_tup, et_sub, ets_nil, ets_cons, eb_nil, eb_cons, truth, endFn, handBack, froz, frozL, frz, stoAll, unl, nl, nolL_ints, pureL_ints, frozL_ints, intsOf_ints, frz_ints, pureL_nI, nolL_nI, frozL_nI, hx_get0, hx_getS, hx_set0, hx_setS, hx_take, hx_take1, hx_take2, hx_take3, hx_take4, hx_get3, hx_len, hx_app, hx_ge, hx_ge0, itemsL, items, seq, m_app0, m_app1, m_app2, add_ll, add_rl0, add_rl1, evalI, cmpOf, bv_tup, bv_tupt, bv_tupf, bv_lenl, bv_lent, bv_lenf, bv_lens, bv_lenr0, bv_lenr1, bv_int, bv_intb, List.getElem?_nil, List.take_succ_cons, List.take_nil, List.take_length, List.take_zero, and_true, true_and, and_false, false_and, List.getElem?_cons_zero, List.getElem?_cons_succ, List.set_cons_zero, List.set_cons_succ, List.length_cons, List.length_nil, List.cons_append, List.nil_append, List.append_nil, List.map_cons, List.map_nil, List.length_map, List.replicate, List.all_cons, List.all_nil, Nat.reduceSub, Nat.reduceAdd, Nat.reduceLT, Nat.reduceLeDiff, Nat.zero_add, Nat.add_zero, and_self, if_true, if_false, ite_true, ite_false, decide_true, decide_false, Bool.not_true, Bool.not_false, Bool.and_true, Bool.true_and, Bool.and_false, Bool.false_and, Bool.or_true, Bool.true_or, Bool.or_false, Bool.false_or, Bool.and_self, bnd_ok, bnd_ex, exS_ok, exS_ex, lift_some, noX_ok, thenS_rt, thenS_nx, thenS_bk, thenS_ct, thenS_ex, Option.map_some, Option.bind_some, Option.some.injEq, reduceCtorEq, ite_self, Bool.false_eq_true, not_true_eq_false, not_false_eq_true, eq_self], [some (.scr ns), some (.int ((0 + i : Nat) : Int)), some (.ref hh.length), none], hh ++ [D a2 s n2], ?_, _, _, rfl⟩
    rw [Nat.zero_add]
    simp -implicitDefEqProofs (disch := first | omega | assumption | rfl | decide | (simp -implicitDefEqProofs only [frz, MV.pure, pureL, MV.nol, nolL, Bool.and_self, pureL_ints, pureL_nI, nolL_ints]; done) | (simp -implicitDefEqProofs only [List.length_map, List.length_append, List.length_cons, List.length_nil, List.length_reverse]; omega)) only [stoL, sto, MV.nol, nolL, MV.pure, pureL, e_var, e_cst, e_bin, e_neg, e_not, e_and, e_or, e_ite, e_cmp, e_chn, e_tup, e_lst, e_ix, e_sl, e_rev, e_call, e_bi, e_isi, e_meth, s_asg0, s_par0, s_aug0, s_augS0, s_expr0, s_ret0, s_retN0, s_ife0, s_pass0, s_brk0, s_cnt0, es_nil, es_cons, eo_none, eo_some, ec_none, ec_some, et_var, et_tup, et_sub, ets_nil, ets_cons, eb_nil, eb_cons, truth, endFn, handBack, froz, frozL, frz, stoAll, unl, nl, nolL_ints, pureL_ints, frozL_ints, intsOf_ints, frz_ints, pureL_nI, nolL_nI, frozL_nI, hx_get0, hx_getS, hx_set0, hx_setS, hx_take, hx_take1, hx_take2, hx_take3, hx_take4, hx_get3, hx_len, hx_app, hx_ge, hx_ge0, itemsL, items, seq, m_app0, m_app1, m_app2, add_ll, add_rl0, add_rl1, evalI, cmpOf, bv_tup, bv_tupt, bv_tupf, bv_lenl, bv_lent, bv_lenf, bv_lens, bv_lenr0, bv_lenr1, bv_int, bv_intb, List.getElem?_nil, List.take_succ_cons, List.take_nil, List.take_length, List.take_zero, and_true, true_and, and_false, false_and, List.getElem?_cons_zero, List.getElem?_cons_succ, List.set_cons_zero, List.set_cons_succ, List.length_cons, List.length_nil, List.cons_append, List.nil_append, List.append_nil, List.map_cons, List.map_nil, List.length_map, List.replicate, List.all_cons, List.all_nil, Nat.reduceSub, Nat.reduceAdd, Nat.reduceLT, Nat.reduceLeDiff, Nat.zero_add, Nat.add_zero, and_self, if_true, if_false, ite_true, ite_false, decide_true, decide_false, Bool.not_true, Bool.not_false, Bool.and_true, Bool.true_and, Bool.and_false, Bool.false_and, Bool.or_true, Bool.true_or, Bool.or_false, Bool.false_or, Bool.and_self, bnd_ok, bnd_ex, exS_ok, exS_ex, lift_some, noX_ok, thenS_rt, thenS_nx, thenS_bk, thenS_ct, thenS_ex, Option.map_some, Option.bind_some, Option.some.injEq, reduceCtorEq, ite_self, Bool.false_eq_true, not_true_eq_false, not_false_eq_true, eq_self, ed, e1, e2]
theorem run (ns : List Int) (hl : ns.length ≤ 63) : ∃ h, calls P 40 28 [.scr ns] [] = some (.ok (.bl true) h) := law_ok 32 ns

theorem comp_ok : fs.map (compF (cgOf fs cs)) = P.map some := by kernel_rfl
theorem sc_ok : fs.all scopeOk = true := by kernel_rfl
theorem T : Tbl (cgOf fs cs) P fs := tbl_of sc_ok comp_ok
theorem hB : ∀ f ∈ fs, BindOk f := allB_of (show AllB fs from ⟨(fun _ _ _ _ _ _ us hl => match us, hl with | [_], _ => rfl),
  (fun _ _ _ _ _ _ us hl => match us, hl with | [_, _, _], _ => rfl),
  (fun _ _ _ _ _ _ us hl => match us, hl with | [_, _], _ => rfl),
  (fun _ _ _ _ _ _ us hl => match us, hl with | [_], _ => rfl),
  (fun _ _ _ _ _ _ us hl => match us, hl with | [_], _ => rfl),
  (fun _ _ _ _ _ _ us hl => match us, hl with | [_], _ => rfl),
  (fun _ _ _ _ _ _ us hl => match us, hl with | [_, _, _], _ => rfl),
  (fun _ _ _ _ _ _ us hl => match us, hl with | [_], _ => rfl),
  (fun _ _ _ _ _ _ us hl => match us, hl with | [_], _ => rfl),
  (fun _ _ _ _ _ _ us hl => match us, hl with | [_], _ => rfl),
  (fun _ _ _ _ _ _ us hl => match us, hl with | [_], _ => rfl),
  (fun _ _ _ _ _ _ us hl => match us, hl with | [_, _], _ => rfl),
  (fun _ _ _ _ _ _ us hl => match us, hl with | [_, _], _ => rfl),
  (fun _ _ _ _ _ _ us hl => match us, hl with | [_, _], _ => rfl),
  (fun _ _ _ _ _ _ us hl => match us, hl with | [_, _], _ => rfl),
  (fun _ _ _ _ _ _ us hl => match us, hl with | [_], _ => rfl),
  (fun _ _ _ _ _ _ us hl => match us, hl with | [_, _], _ => rfl),
  (fun _ _ _ _ _ _ us hl => match us, hl with | [_], _ => rfl),
  (fun _ _ _ _ _ _ us hl => match us, hl with | [_, _], _ => rfl),
  (fun _ _ _ _ _ _ us hl => match us, hl with | [_, _], _ => rfl),
  (fun _ _ _ _ _ _ us hl => match us, hl with | [_, _], _ => rfl),
  (fun _ _ _ _ _ _ us hl => match us, hl with | [_, _], _ => rfl),
  (fun _ _ _ _ _ _ us hl => match us, hl with | [_, _], _ => rfl),
  (fun _ _ _ _ _ _ us hl => match us, hl with | [_], _ => rfl),
  (fun _ _ _ _ _ _ us hl => match us, hl with | [_], _ => rfl),
  (fun _ _ _ _ _ _ us hl => match us, hl with | [_], _ => rfl),
  (fun _ _ _ _ _ _ us hl => match us, hl with | [_, _], _ => rfl),
  (fun _ _ _ _ _ _ us hl => match us, hl with | [_], _ => rfl),
  (fun _ _ _ _ _ _ us hl => match us, hl with | [_], _ => rfl), trivial⟩)
abbrev R : PySem.W.OpenRow := PySem.W.OpenLaw.row PySem.Challenge.rw_turnseries_k15_whole_signs_brought_and_m
abbrev hk : PySem.W.Hook := He.hookD 39 (faL fs cs) (fnL fs)
def ob (s : PySem.W.SharedT) : He.AlD := He.obsDG 39 (faL fs cs) (fnL fs) (HandSHeadRun.getT s)
theorem ob_eq (s : PySem.W.SharedT) : ob s = hk.obs s.abs := He.obsDG_eq (HandSHeadRun.getT_eq s)
def loose : List PySem.Str := (["SeriesError", "InvalidSign", "InvalidCount", "MAX_NUMBER", "is_integer", "is_within", "common_of", "primes_in", "is_square_free", "square_free_in", "require_within", "square_free", "MAX_SIGN", "GREATEST", "free_part", "sign_from", "is_sign_in", "odd_sign", "sign_in", "times_in", "require_sign", "is_sign", "sign_of", "sign_by", "sign_times", "_law_dice", "_law_roll", "_law_pick", "_law_gcd", "_law_primes"] : List PySem.Str) ++ (["_law_bare", "_law_sg_by", "_law_sign", "_law_right"] : List PySem.Str)
theorem runH (w : PySem.World) : HandSHeadRun.RunEq R (PySem.W.view R.prog [38]) hk ob 4000 loose w := by
  intro os
  kernel_rfl
end Mi.k15
open PySem PySem.W PySem.Calls PyProof.Rows
theorem PySem.Challenge.cw_turnseries_k15_whole_signs_brought_and_m_holds : PySem.Challenge.rw_turnseries_k15_whole_signs_brought_and_m.Holds := by
  w_on; o_law
  refine HandSHeadRun.head_any (r := OpenLaw.row PySem.Challenge.rw_turnseries_k15_whole_signs_brought_and_m) (q := view (OpenLaw.row PySem.Challenge.rw_turnseries_k15_whole_signs_brought_and_m).prog [38]) (H := Mi.k15.hk) (ob := Mi.k15.ob) (M := 4000) (loose := Mi.k15.loose) (d := HandSHeadRun.topDef (OpenLaw.row PySem.Challenge.rw_turnseries_k15_whole_signs_brought_and_m).prog 38) (kwd := []) Mi.k15.ob_eq
    (by kernel_rfl) (fun s => by kernel_rfl) Mi.k15.runH (by kernel_rfl) (by kernel_rfl) (by kernel_rfl) (by rfl) (by first | assumption | decide +kernel) (by decide +kernel) ⟨rfl, rfl, rfl, rfl, rfl, by decide +kernel⟩ ?hw ?hc
  case hw => w_witness2
  case hc =>
    refine Mi.walk_w (l := PySem.Challenge.rw_turnseries_k15_whole_signs_brought_and_m) (n := 63) (k := 40) (x := "script") rfl (by decide) (by kernel_rfl) ⟨rfl, by decide, by decide⟩ ?F
    intro w mg fa h Y G hmg0
    obtain ⟨K, KX, c⟩ := Y
    have hmg : mg ("law" : PySem.Str) = some (.ref fa) := by
      have e : (HandSHeadRun.topDef (OpenLaw.row PySem.Challenge.rw_turnseries_k15_whole_signs_brought_and_m).prog 38).name = ("law" : PySem.Str) := by kernel_rfl
      rw [← e]
      exact hmg0
    exact ⟨K, KX, Mi.law_facts (f := ⟨"law", Mi.k15.top 38, ["script", "spot", "dice", "one"], ["script"]⟩) (i := 28) (d := 40) Mi.k15.T Mi.k15.hB rfl rfl Mi.k15.run KX G c hmg⟩
