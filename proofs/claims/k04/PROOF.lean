import PyProof.Rows.All
import Wide.All
import OpenK.AllK
import Wide.FinOn
import HandS.ForMost
import HandS.Codes
import HandS.IsInst
import HandS.Zip
import HandS.TupAny
import HandS.TupMul
import HandS.Style
import HandS.DictComp
import HandS.Conv
import HandS.Wide
import HandS.EndBits
import HandS.Walk
import HandS.Deep
import HandS.More
import KE.GoesMore
import KE.GoesEnum
import KE.SortData
import KE.DataEq
import KE.KTupSum
import PySem.Challenge.RW_tollhall_k04_whole_ways_sides_blocks
set_option Elab.async false
set_option linter.all false
set_option maxRecDepth 100000
set_option maxHeartbeats 8000000
namespace TH
open PySem PySem.Spec PyProof.Rows L2
/-! ### tuple * int, any int -/
theorem tuple_mul1 (l : Addr) (items : Array Value) (n : Nat) (dd : Option Addr) (sl : Array (Option Value)) (x : Int) (u : Tok) (c0 : (decide (x < -(2 ^ 63)) || decide (x ≥ 2 ^ 63)) = false) (c1 : (items.isEmpty || x == 1) = true) :
    Meets (Builtin.«tuple.__mul__» ⟨[.ref l, .int x u], []⟩) (fun _ R s => s.heap.get? l = some { cls := .type "tuple", dict := dd, data := .seq items n, slots := sl } ∧
      R (.ok (.ret (Value.ref l))) s) :=
  .of_wp fun prog w A R s h => by
    obtain ⟨hp, g, d, tk, os⟩ := s
    obtain ⟨hl, h⟩ := h
    have f1 := AutoSeq1.idx_int
    wp_walk using PyProof.Rows.wpAny_loadPart' hl
    repeat (first
      | (refine wpAny_ite_false (decide_eq_false (by rw [c0]; exact Bool.false_ne_true)) ?_; wp_walk using PyProof.Rows.wpAny_loadPart' hl)
      | (refine wpAny_ite_true (decide_eq_true c1) ?_; wp_walk using PyProof.Rows.wpAny_loadPart' hl))
    exact ⟨_, rfl, h⟩
theorem tuple_mul0 (l : Addr) (items : Array Value) (n : Nat) (dd : Option Addr) (sl : Array (Option Value)) (x : Int) (u : Tok) (c0 : (decide (x < -(2 ^ 63)) || decide (x ≥ 2 ^ 63)) = false) (c1 : (items.isEmpty || x == 1) = false) (c2 : (decide (x ≤ 0) || items.isEmpty) = true) :
    Meets (Builtin.«tuple.__mul__» ⟨[.ref l, .int x u], []⟩) (fun _ R s => s.heap.get? l = some { cls := .type "tuple", dict := dd, data := .seq items n, slots := sl } ∧
      R (.ok (.ret (Value.ref s.heap.objs.size))) { s with heap := s.heap.push { cls := Value.type "tuple", data := Data.seq #[] }, toks := s.toks }) :=
  .of_wp fun prog w A R s h => by
    obtain ⟨hp, g, d, tk, os⟩ := s
    obtain ⟨hl, h⟩ := h
    have f1 := AutoSeq1.idx_int
    wp_walk using PyProof.Rows.wpAny_loadPart' hl
    repeat (first
      | (refine wpAny_ite_false (decide_eq_false (by rw [c0]; exact Bool.false_ne_true)) ?_; wp_walk using PyProof.Rows.wpAny_loadPart' hl)
      | (refine wpAny_ite_false (decide_eq_false (by rw [c1]; exact Bool.false_ne_true)) ?_; wp_walk using PyProof.Rows.wpAny_loadPart' hl)
      | (refine wpAny_ite_true (decide_eq_true c2) ?_; wp_walk using PyProof.Rows.wpAny_loadPart' hl))
    exact ⟨_, rfl, h⟩
def rRepA (K : PySem.W.Frag) : R2 := fun x y H Q => ∃ l k xs, x = .ref l ∧ y = .int k ∧ SqT K H l xs ∧ xs ≠ [] ∧ -1000 ≤ k ∧ k ≤ 1000 ∧ xs.length ≤ 1000 ∧
  (k = 1 → Q (.ref l) H) ∧ (k ≠ 1 → ∀ p, H p = none → Q (.ref p) (upd H p (.tup (List.replicate k.toNat xs).flatten)))
section
variable {X : Cx}
theorem op_repA : OpR X (binaryOp .Mult) (rRepA X.K) := by
  intro pins s σ H x y v u Q I rx ry h
  obtain ⟨l, k, xs, rfl, rfl, hT, hne, h0, h1, hz, q1, q2⟩ := h
  by_cases hk2 : 2 ≤ k
  · exact op_repT pins s σ H _ _ v u Q I rx ry ⟨l, k, xs, rfl, rfl, hT, hne, hk2, h1, hz, q2 (by omega)⟩
  cases rx
  obtain ⟨t, rfl⟩ := ry
  obtain ⟨its, r, ⟨⟨cls, dd, data, sl⟩, ho, hc, n, hd⟩, hs⟩ := I.tuple hT
  simp only at hc hd
  subst hc hd
  have hle : its.length = xs.length := r.length.symm
  have hn : its ≠ [] := fun e => hne (by
    rw [e] at hle
    exact List.eq_nil_of_length_eq_zero hle.symm)
  have hi : its.toArray.isEmpty = false := by
    cases its with
    | nil => exact absurd rfl hn
    | cons a b => rfl
  have c0 : (decide (k < -(2 ^ 63)) || decide (k ≥ 2 ^ 63)) = false := by
    rw [decide_eq_false (by omega), decide_eq_false (by omega)] <;> rfl
  by_cases hk1 : k = 1
  · subst hk1
    have c1 : (its.toArray.isEmpty || (1 : Int) == 1) = true := by simp
    refine wpAny_binaryOp_repeat_ref (T := "tuple") (U := "int") (by decide) ⟨_, ho, rfl⟩ (fun s' => typeIs_int s' 1 t) noFill_tuple_mul F.fills_int_mul F.slot_int_rmul repeat_tuple F.slot_int_index.lookup
      (call_meets F.slot_int_rmul (typeIs_int s 1 t) F.entry_int_rmul (F.args_int_rmul_2 _ _) (int_rmul_tuple 1 t l its.toArray n dd sl)
        ⟨ho, rfl, ⟨_, ho, rfl⟩, call_meets F.slot_tuple_mul ⟨_, ho, rfl⟩ F.entry_tuple_mul (F.args_tuple_mul_2 _ _) (tuple_mul1 l its.toArray n dd sl 1 t c0 c1) ⟨ho, ?_⟩⟩)
    exact ⟨.ref l, H, I, rfl, q1 rfl⟩
  · have c1 : (its.toArray.isEmpty || k == 1) = false := by
      rw [hi, Bool.false_or]
      exact beq_eq_false_iff_ne.mpr hk1
    have c2 : (decide (k ≤ 0) || its.toArray.isEmpty) = true := by
      rw [decide_eq_true (by omega)]
      rfl
    refine wpAny_binaryOp_repeat_ref (T := "tuple") (U := "int") (by decide) ⟨_, ho, rfl⟩ (fun s' => typeIs_int s' k t) noFill_tuple_mul F.fills_int_mul F.slot_int_rmul repeat_tuple F.slot_int_index.lookup
      (call_meets F.slot_int_rmul (typeIs_int s k t) F.entry_int_rmul (F.args_int_rmul_2 _ _) (int_rmul_tuple k t l its.toArray n dd sl)
        ⟨ho, rfl, ⟨_, ho, rfl⟩, call_meets F.slot_tuple_mul ⟨_, ho, rfl⟩ F.entry_tuple_mul (F.args_tuple_mul_2 _ _) (tuple_mul0 l its.toArray n dd sl k t c0 c1 c2) ⟨ho, ?_⟩⟩)
    have e0 : (List.replicate k.toNat xs).flatten = [] := by
      have : k.toNat = 0 := by omega
      rw [this]
      rfl
    have q3 := q2 hk1
    rw [e0] at q3
    exact ⟨.ref s.heap.objs.size, _, I.laid (t' := s.toks) (o := .tup []) (fun b ob q => Heap.get?_push_of_some _ q) (Nat.le_refl _) ⟨Nat.zero_le _, [], .nil, IsTup.new _ _⟩, rfl, q3 _ (I.hok.fresh (Nat.le_refl _))⟩
end

/-! ### enumerate(tuple) -/
theorem meets_enumerate_newT (l : Addr) (items : Array Value) (n : Nat) (dct : Option Addr) (sl : Array (Option Value)) :
    Meets (Builtin.«enumerate.__new__» ⟨[.type "enumerate", .ref l], []⟩) (fun _ R s => s.heap.get? l = some { cls := .type "tuple", dict := dct, data := .seq items n, slots := sl } ∧
      R (.ok (.ret (.ref (s.heap.push { cls := .type "tuple_iterator", data := .fields #[.ref l, .int 0 0] }).objs.size)))
        { s with heap := (s.heap.push { cls := .type "tuple_iterator", data := .fields #[.ref l, .int 0 0] }).push { cls := .type "enumerate", data := .fields #[.none, .bool false, .ref s.heap.objs.size, rawInt 0, .none, .none] } }) :=
  .of_wp fun prog w A R s h => by
    obtain ⟨hp, g, d, tk, os⟩ := s; obtain ⟨hl, h⟩ := h
    have hsub := sub_enumerate
    have hL : Heap.IsTuple (Shared.heap ⟨hp, g, d, tk, os⟩) l items := ⟨_, hl, rfl, n, rfl⟩
    wp_walk using PyProof.Rows.wpAny_loadPart' hl
    refine wpAny_stack_any fun st => wpAny_pure ?_
    split
    · rename_i c _ _ _ _ _
      cases (c == Value.type "enumerate")
      · wp_walk using PyProof.Rows.wpAny_loadPart' hl, wpAny_pyIter_tuple hL
        exact ⟨_, rfl, h⟩
      · wp_walk using PyProof.Rows.wpAny_loadPart' hl, wpAny_pyIter_tuple hL
        exact ⟨_, rfl, h⟩
    · wp_walk using PyProof.Rows.wpAny_loadPart' hl, wpAny_pyIter_tuple hL
      exact ⟨_, rfl, h⟩
theorem call_enumerate_tuple {prog : Program} {w : World} {A : Around} {E : Value → Shared → Prop} {s : Shared} {l : Addr} {items : Array Value} {Q : Value → Shared → Prop} (hL : s.heap.IsTuple l items)
    (h : ∀ h', IsEnum h' (s.heap.objs.size + 1) s.heap.objs.size 0 .none → h'.IsTupleIter s.heap.objs.size l 0 → h'.objs.size = s.heap.objs.size + 2 →
      (∀ b o, s.heap.get? b = some o → h'.get? b = some o) → Q (.ref (s.heap.objs.size + 1)) { s with heap := h' }) :
    wpAny (model prog w) A (call (.type "enumerate") [.ref l]) Q E s := by
  obtain ⟨⟨c, dct, dt, sl⟩, hl, hc, n, hd⟩ := hL
  replace hc : c = .type "tuple" := hc
  replace hd : dt = .seq items n := hd
  subst hc hd
  refine callType_new F.called_enumerate (by decide) (F.typeCall_enumerate_1 _) (F.newCall_enumerate_1 _) (fun obj => F.args_object_init_2 obj _) F.entry_enumerate_new
    (meets_enumerate_newT l items n dct sl) ⟨hl, ?_⟩
  have hz : (s.heap.push { cls := .type "tuple_iterator", data := .fields #[.ref l, .int 0 0] }).objs.size = s.heap.objs.size + 1 := Heap.size_push ..
  show _ ∧ _
  rw [hz]
  have he : IsEnum ((s.heap.push { cls := .type "tuple_iterator", data := .fields #[.ref l, .int 0 0] }).push
      { cls := .type "enumerate", data := .fields #[.none, .bool false, .ref s.heap.objs.size, rawInt 0, .none, .none] }) (s.heap.objs.size + 1) s.heap.objs.size 0 .none := by
    have := Heap.get?_push_size (s.heap.push { cls := .type "tuple_iterator", data := .fields #[.ref l, .int 0 0] })
      (o := { cls := .type "enumerate", data := .fields #[.none, .bool false, .ref s.heap.objs.size, rawInt 0, .none, .none] }) rfl
    rw [hz] at this; exact this
  refine ⟨⟨_, he, rfl⟩, h _ he ⟨_, Heap.get?_push_of_some _ (Heap.get?_push_size _ rfl), rfl, rfl⟩ (by rw [Heap.size_push, hz]) fun b o x => Heap.get?_push_of_some _ (Heap.get?_push_of_some _ x)⟩
/-- the tuple at a, each item in a new pair -/
def IteT (K : PySem.W.Frag) (a : Addr) : It :=
  ⟨fun i H => ∃ (xs : List V) (x : V), SqT K H a xs ∧ xs[i]? = some x, fun i H v H' => ∃ T x, v = .ref T ∧ H T = none ∧ H' = upd H T (.tup [.int (i : Nat), x]) ∧ ∀ xs, SqT K H a xs → xs[i]? = some x, fun i H => ∃ xs : List V, SqT K H a xs ∧ xs.length ≤ i⟩
theorem turn_enumT {P : Program} {w : World} {K : PySem.W.Frag} {elts : List Expr} {kk : Nat} {tpos : Pos} (a e it : Addr) :
    Turn P w K (.Tuple elts kk tpos) (IteT K a) [e, it] e (fun i h => (∃ old, IsEnum h e it ((i : Nat) : Int) old) ∧ h.IsTupleIter it a i ∧ e ≠ it ∧ a ≠ it ∧ a ≠ e) where
  mem := by simp
  obj := fun i h st b hb => by
    obtain ⟨⟨old, he⟩, ⟨o, ho, hc, hd⟩, _⟩ := st
    have e' : b = e ∨ b = it := by simpa using hb
    rcases e' with z | z
    · rw [z]; exact ⟨_, he, fun v q => nomatch q⟩
    · rw [z]; exact ⟨o, ho, fun v q => by rw [hd] at q; cases q⟩
  keep := fun i h h' st k => let ⟨⟨old, he⟩, hi, hne⟩ := st; ⟨⟨old, k e (by simp) _ he⟩, hi.at fun o q => k it (by simp) o q, hne⟩
  item := by
    intro X hP hw hK hc i pins s σ H E I hf st hg
    subst hP hw hK
    obtain ⟨⟨old, he⟩, hit, hne, hai, hae⟩ := st
    obtain ⟨xs, x, hq, hx⟩ := hg
    obtain ⟨its, rv, p, hz⟩ := I.tuple hq
    obtain ⟨u, hu, ru⟩ := rv.get hx
    have hel : e < s.heap.objs.size := Heap.lt_size he
    have hil : it < s.heap.objs.size := by obtain ⟨_, q, _⟩ := hit; exact Heap.lt_size q
    have hlt : i < its.toArray.size := by
      have := (List.getElem?_eq_some_iff.mp hu).1
      simpa using this
    refine wpAny_pyNext_enum_itemD (Draws.tuple (prog := X.prog) (w := X.w) (A := X.A.in1) (show X.A.in1.handled = none from I.ok.hd hc) it a hai its.toArray) he ⟨hit, p⟩ hlt hne (by simp; exact ⟨hne, hae.symm⟩) fun u' h' tk hu' ho hst' hT hsz hk => ?_
    have eu : u' = u := by
      have : its.toArray[i]? = some u := by simpa using hu
      rw [this] at hu'
      exact (Option.some.inj hu').symm
    subst eu
    refine ⟨_, rfl, wpAny_letOwnedTupleGo_enum (s := { s with heap := h', toks := tk + 1 }) ho fun h'' he' sb => ?_⟩
    have hT2 : h''.get? s.heap.objs.size = some { cls := .type "tuple", data := .seq #[.int i tk, u'] } := (sb.2 _ (Nat.ne_of_gt hel)).trans hT
    have new : ObjOk X.prog X.w (upd H s.heap.objs.size (.tup [.int (i : Nat), x])) h'' s.heap.objs.size (.tup [.int (i : Nat), x]) :=
      ⟨by show 2 ≤ sizeLine; decide, [.int i tk, u'], .cons ⟨_, rfl⟩ (.cons ru .nil), ⟨_, hT2, rfl, _, rfl⟩⟩
    have I1 : Inv X pins σ (upd H s.heap.objs.size (.tup [.int (i : Nat), x])) { s with heap := h'', toks := tk + 1 } :=
      I.turnedNew (ch := [e, it]) (fun b ob hb q => (sb.2 b (fun z => hb (by simp [z]))).trans (hk b ob (fun z => hb (by simp [z])) (fun z => hb (by simp [z])) q)) hf (Nat.le_refl _) new
    refine ⟨.ref s.heap.objs.size, _, I1, rfl, ⟨_, x, rfl, I.hok.fresh (Nat.le_refl _), rfl, fun ys hy => by rw [I.tuple_inj hy hq]; exact hx⟩, ⟨⟨u', ?_⟩, hst'.1.at fun o q => (sb.2 it (Ne.symm hne)).trans q, hne, hai, hae⟩, fun b hb => ?_⟩
    · have e1 : ((i + 1 : Nat) : Int) = (i : Int) + 1 := by omega
      rw [e1]; exact he'
    · have hb' : b < s.heap.objs.size := by
        have e' : b = e ∨ b = it := by simpa using hb
        rcases e' with z | z
        · rw [z]; exact hel
        · rw [z]; exact hil
      rw [upd_ne (Nat.ne_of_lt hb')]
      exact (hf b hb).1
  done := by
    intro X hP hw hK hc i pins s σ H E I hf st hg
    subst hP hw hK
    obtain ⟨⟨old, he⟩, hit, hne, hai, hae⟩ := st
    obtain ⟨xs, hq, hx⟩ := hg
    obtain ⟨its, rv, p, hz⟩ := I.tuple hq
    obtain ⟨f0, f1, f2, f3, f4, f5⟩ := hf it (by simp)
    have hl := rv.length
    have go : its.toArray[i]? = none := by
      simp
      omega
    have hT : s.TypeIs (.ref e) "enumerate" := ⟨_, he, rfl⟩
    unfold pyNext
    refine wpAny_bind (wpAny_attempt (wpAny_callSpecial?_slot (name := Str.ofString "__next__") hT F.slot_enumerate_next
      (wpAny_call_entry F.slot_enumerate_next hT F.entry_enumerate_next ?_ (F.args_enumerate_next_1 _))))
    show wpAny _ _ (field (.ref e) 2 >>= _) _ _ _
    refine wpAny_bind (wpAny_field he rfl (x := .ref it) rfl ?_)
    refine wpAny_bind (wpAny_nextOf_tuple_end (I.ok.hd hc) hit p go fun h' x he' hx' => ?_)
    obtain ⟨o, ho, hc'⟩ := hx'
    refine wpAny_bind (wpAny_isInstance (T := "StopIteration") (b := true) ⟨o, ho, hc'⟩ isSubtype_stop ?_)
    exact wpAny_pure ⟨rfl, I.turned (t' := s.toks) (fun b o hb q => he' b o hb q) f0 f1 f3 f4 f5⟩
  self := fun A i s Q E st h => let ⟨⟨_, he⟩, _⟩ := st; wpAny_pyIter_enum he h
/-- enumerate of a list or a tuple -/
def iEnumA (K : PySem.W.Frag) (ta : TA) : TI := fun σ H R => ta σ H fun vs H1 => ∃ a xs, vs = [.ref a] ∧ ((SqL K H1 a xs ∧ R (Ite K a) H1) ∨ (SqT K H1 a xs ∧ R (IteT K a) H1))
theorem pi_enumA {X : Cx} {e : Expr} {ta : TA} {p pos tpos : Pos} {elts : List Expr} {kk : Nat} (hg : Gl X "enumerate") (hm : X.mg "enumerate" = none) (ha : PA X [e] ta) (hs : starEach [e] X.env = [(false, eval e X.env)] := by rfl) :
    PI X (.Tuple elts kk tpos) (.Call (.Name "enumerate" p) [e] [] pos) (iEnumA X.K ta) := by
  refine ⟨fun pins s σ H R I h => ?_⟩
  refine Call_ (ld_blt I hg hm boot_enumerate (PyProof.Rows.callWith_type1 (thn (ha.run pos pins s σ H _ I h) fun us s1 ⟨vs, H1, I1, r1, q1⟩ => ?_) hs rfl))
  obtain ⟨a, xs, ex, q1⟩ := q1
  subst ex
  cases r1 with
  | cons r rr =>
    cases rr
    cases r
    have fr : ∀ b, b ∈ [s1.heap.objs.size + 1, s1.heap.objs.size] → FpOk X pins H1 b := fun b hb => by
      have e' : b = s1.heap.objs.size + 1 ∨ b = s1.heap.objs.size := by simpa using hb
      have hle : s1.heap.objs.size ≤ b := by
        rcases e' with z | z
        · rw [z]; exact Nat.le_add_right _ _
        · rw [z]; exact Nat.le_refl _
      exact I1.fpOk hle (I1.hok.fresh hle)
    rcases q1 with ⟨hq, q⟩ | ⟨hq, q⟩
    · obtain ⟨its, rv, p', hz⟩ := I1.list hq
      refine call_enumerate_list p'.isList fun h' he hit hsz hk => wpAny_pyIter_enum he ?_
      have I2 : Inv X pins σ H1 { s1 with heap := h' } := I1.kept (t' := s1.toks) hk
      exact ⟨s1.heap.objs.size + 1, [s1.heap.objs.size + 1, s1.heap.objs.size], _, _, H1, rfl, I2, turn_enum a (s1.heap.objs.size + 1) s1.heap.objs.size, ⟨⟨.none, he⟩, hit, Nat.succ_ne_self _⟩, fr, q⟩
    · obtain ⟨its, rv, p', hz⟩ := I1.tuple hq
      have hal : a < s1.heap.objs.size := p'.lt
      refine call_enumerate_tuple (show s1.heap.IsTuple a its.toArray from p') fun h' he hit hsz hk => wpAny_pyIter_enum he ?_
      have I2 : Inv X pins σ H1 { s1 with heap := h' } := I1.kept (t' := s1.toks) hk
      exact ⟨s1.heap.objs.size + 1, [s1.heap.objs.size + 1, s1.heap.objs.size], _, _, H1, rfl, I2, turn_enumT a (s1.heap.objs.size + 1) s1.heap.objs.size, ⟨⟨.none, he⟩, hit, Nat.succ_ne_self _, Nat.ne_of_lt hal, Nat.ne_of_lt (Nat.lt_succ_of_lt hal)⟩, fr, q⟩
theorem walk_enumT {K : PySem.W.Frag} {a : Addr} {xs : List V} : Walk (IteT K a) xs.length (fun H => SqT K H a xs) (YPair (fun i => some (.int (i : Nat))) (fun i => xs[i]?)) := by
  refine ⟨fun i _ hi q => ⟨xs, xs[i], q, by simp [hi]⟩, fun _ q => ⟨xs, q, Nat.le_refl _⟩, fun i H v H' _ q y => ?_⟩
  obtain ⟨T, x, h1, h2, h3, h4⟩ := y
  exact ⟨T, .int (i : Nat), x, h1, h2, h3, rfl, h4 xs q⟩
end TH

namespace TH
open PySem PySem.Spec PyProof.Rows L2
/-! ### the rules with the written part told (within comprehensions the context is bound) -/
section
variable {X : Cx} {K : PySem.W.Frag} {tg e o l a b : Expr} {es : List Expr} {te tl to ta tb : TE} {t : TA} {pos p cpos apos : Pos} {k : Nat}
theorem kpi_list (hl : PE X l tl) (hK : X.K = K := by rfl) : PI X tg l (iList K tl) := hK ▸ pi_list hl
theorem kpi_tup (hl : PE X l tl) (hK : X.K = K := by rfl) : PI X tg l (iTup K tl) := hK ▸ pi_tup hl
theorem kpi_enum {elts : List Expr} {tpos : Pos} (hg : Gl X "enumerate") (hm : X.mg "enumerate" = none) (ha : PA X [e] t) (hs : starEach [e] X.env = [(false, eval e X.env)] := by rfl) (hK : X.K = K := by rfl) :
    PI X (.Tuple elts k tpos) (.Call (.Name "enumerate" p) [e] [] pos) (iEnumA K t) := hK ▸ pi_enumA hg hm ha hs
theorem kpi_zip {e2 : Expr} {elts : List Expr} {tpos : Pos} (hg : Gl X "zip") (hm : X.mg "zip" = none) (ha : PA X [e, e2] t)
    (hs : starEach [e, e2] X.env = (false, eval e X.env) :: starEach [e2] X.env := by rfl) (hpl : (backTo pos (starEach [e2] X.env)).any (·.1) = false := by rfl) (hK : X.K = K := by rfl) :
    PI X (.Tuple elts k tpos) (.Call (.Name "zip" p) [e, e2] [] pos) (RZ.iZipA K t) := hK ▸ RZ.pi_zipA hg hm ha hs hpl
theorem kpg_tup {es : List Expr} {t : TGs} {n : Nat} (hc : X.calm = true) (h : PGs X es t)
    (hn : (assignEach es X.env).length = n := by rfl) (hst : (assignEach es X.env).findIdx? (·.1) = none := by rfl) (hK : X.K = K := by rfl) : PG X (.Tuple es k pos) (gTup K n t) := hK ▸ pg_tup hc h hn hst
theorem kix_list (hK : X.K = K := by rfl) : IxR X (rIxL K) := hK ▸ ix_list
theorem kix_tup (hK : X.K = K := by rfl) : IxR X (rIxT K) := hK ▸ ix_tup
theorem ksl_list (hK : X.K = K := by rfl) : SlR X (rSlL K) := hK ▸ sl_list
theorem ksl_tup (hK : X.K = K := by rfl) : SlR X (rSlA K) := hK ▸ sl_tupA
theorem kcall_len (hK : X.K = K := by rfl) : CallR X (.builtin "len") (fun xs H Q => ∃ p ys, xs = [.ref p] ∧ (SqL K H p ys ∨ SqT K H p ys) ∧ Q (.int ys.length) H) := hK ▸ call_len_seq
theorem kcall_list (hK : X.K = K := by rfl) : CallR X (.type "list") (fun xs H Q => ∃ p ys, xs = [.ref p] ∧ (SqL K H p ys ∨ SqT K H p ys) ∧ ∀ l, H l = none → Q (.ref l) (upd H l (.lst ys))) := hK ▸ call_list_of
theorem kcall_tuple (hK : X.K = K := by rfl) : CallR X (.type "tuple") (fun xs H Q => ∃ p ys, xs = [.ref p] ∧ ((SqL K H p ys ∧ ∀ l, H l = none → Q (.ref l) (upd H l (.tup ys))) ∨ (SqT K H p ys ∧ Q (.ref p) H))) := hK ▸ call_tuple_of
theorem kcr_all (hc : X.calm = true) (hK : X.K = K := by rfl) : CallR X (.builtin "all") (rAll K) := hK ▸ cr_all hc
theorem kcr_any (hc : X.calm = true) (hK : X.K = K := by rfl) : CallR X (.builtin "any") (rAny K) := hK ▸ cr_any hc
theorem kcr_sum (hc : X.calm = true) (hK : X.K = K := by rfl) : CallR X (.builtin "sum") (rSum K) := hK ▸ cr_sum hc
theorem kcall_isi (hK : X.K = K := by rfl) : CallR X (.builtin "isinstance") (rIsi K) := hK ▸ call_isi
theorem kcall_isiT (hK : X.K = K := by rfl) : CallR X (.builtin "isinstance") (rIsiT K) := hK ▸ call_isiT
theorem kop_catA (hK : X.K = K := by rfl) : OpR X (binaryOp .Add) (rCatA K) := hK ▸ op_catA
theorem kop_repA (hK : X.K = K := by rfl) : OpR X (binaryOp .Mult) (rRepA K) := hK ▸ op_repA
theorem kop_eqD (hu : X.A.units + 64 < cLine) (hK : X.K = K := by rfl) : OpR X (compareOp .Eq) (rEqD K) := hK ▸ op_eqD hu
theorem kop_neD (hu : X.A.units + 64 < cLine) (hK : X.K = K := by rfl) : OpR X (compareOp .NotEq) (rNeD K) := hK ▸ op_neD hu
theorem kop_in (hK : X.K = K := by rfl) : OpR X (compareOp .In) (rIn K false) := hK ▸ op_in_seq
theorem kop_notIn (hK : X.K = K := by rfl) : OpR X (compareOp .NotIn) (rIn K true) := hK ▸ op_notIn_seq
theorem kpe_fld {f : Str} (ha : PE X e ta) (hb : attributeBase e f X.env (eval e X.env) = eval e X.env) (hK : X.K = K := by rfl) : PE X (.Attribute e f pos) (tFld K ta f) := hK ▸ pe_fld ha hb
theorem kpe_bm0 {T id : String} {name : Str} {r : V → List V → Hp → VK → Prop} (pa : PlainAttrs T) (slot : Slot T name id) (hty : typeOf (.builtin id) = pure (.type "method_descriptor")) (hm : MtR X id r) (ho : PE X o to)
    (hbase : attributeBase o name X.env (eval o X.env) = eval o X.env := by rfl) (hline : (apos.endLine == cpos.line) = true := by rfl) (hK : X.K = K := by rfl) : PE X (.Call (.Attribute o name apos) [] [] cpos) (tBM0 K T r to) := hK ▸ pe_bm0 pa slot hty hm ho hbase hline
theorem kpe_bm {T id : String} {name : Str} {r : V → List V → Hp → VK → Prop} (pa : PlainAttrs T) (slot : Slot T name id) (hty : typeOf (.builtin id) = pure (.type "method_descriptor")) (hm : MtR X id r) (ho : PE X o to) (ha : PA X (e :: es) t)
    (hbase : attributeBase o name X.env (eval o X.env) = eval o X.env := by rfl)
    (hfew : ((backTo cpos (starEach (e :: es) X.env)).all (fun x => !x.1) && (backToKw cpos (keywordEach [] X.env)).all (fun x => x.1.isSome)
      && decide ((e :: es).length + ([] : List Keyword).length + (if ([] : List Keyword).isEmpty then 0 else 1) < 30)) = true := by rfl)
    (hline : (apos.endLine == cpos.line) = true := by rfl) (hs : starEach (e :: es) X.env = (false, eval e X.env) :: starEach es X.env := by rfl) (hplain : (backTo cpos (starEach es X.env)).any (·.1) = false := by rfl) (hK : X.K = K := by rfl) :
    PE X (.Call (.Attribute o name apos) (e :: es) [] cpos) (tBM K T r to t) := hK ▸ pe_bm pa slot hty hm ho ha hbase hfew hline hs hplain
theorem kpe_revL {k' : Nat} {p1 p2 p3 pos : Pos} (he : PE X e te) (hK : X.K = K := by rfl) : PE X (.Subscript e (.Slice none none (some (.UnaryOp .USub (.Constant (.int 1) k' p1) p2)) p3) pos) (tRevL K te) := hK ▸ pe_revL he
end
end TH

namespace TH
open PySem PySem.Spec PyProof.Rows L2
abbrev D := PyData
/-- all that was tracked stands -/
def Ex (H H' : Hp) : Prop := ∀ a o, H a = some o → H' a = some o
theorem Ex.refl (H : Hp) : Ex H H := fun _ _ h => h
theorem Ex.trans {H H1 H2 : Hp} (a : Ex H H1) (b : Ex H1 H2) : Ex H H2 := fun x o h => b x o (a x o h)
theorem Ex.new {H : Hp} {p : Addr} {o : HO} (h : H p = none) : Ex H (upd H p o) := fun a u e => by
  rw [upd_ne (ne_of_none e h)]
  exact e
/-- an object that H does not know may change -/
theorem Ex.mut {H H' : Hp} {p : Addr} {o : HO} (e : Ex H H') (h : H p = none) : Ex H (upd H' p o) := fun a u ha => by
  rw [upd_ne (ne_of_none ha h)]
  exact e a u ha
theorem Ex.rd {H H' : Hp} {a : Addr} {u : HO} (e : Ex H H') (h : Rd H a u) : Rd H' a u := by
  rcases h with h | ⟨o, h⟩
  · exact Or.inl (e a _ h)
  · exact Or.inr ⟨o, e a _ h⟩
theorem Ex.l {K : PySem.W.Frag} {H H' : Hp} {a : Addr} {xs : List V} (e : Ex H H') (h : SqL K H a xs) : SqL K H' a xs := by
  rcases h with h | h
  · exact Or.inl (e.rd h)
  · exact Or.inr h
theorem Ex.t {K : PySem.W.Frag} {H H' : Hp} {a : Addr} {xs : List V} (e : Ex H H') (h : SqT K H a xs) : SqT K H' a xs := by
  rcases h with h | h
  · exact Or.inl (e.rd h)
  · exact Or.inr h
theorem sqL {K : PySem.W.Frag} {H : Hp} {a : Addr} {xs : List V} (h : H a = some (.lst xs)) : SqL K H a xs := Or.inl (Or.inl h)
theorem sqT {K : PySem.W.Frag} {H : Hp} {a : Addr} {xs : List V} (h : H a = some (.tup xs)) : SqT K H a xs := Or.inl (Or.inl h)
theorem Ex.fresh {H H' : Hp} {p : Addr} (e : Ex H H') (h : H' p = none) : H p = none := by
  cases h1 : H p with
  | none => rfl
  | some o =>
    rw [e p o h1] at h
    cases h
/-- the tuples stand (lists and dicts may change) -/
def Tx (H H' : Hp) : Prop := ∀ a xs, (H a = some (.tup xs) → H' a = some (.tup xs)) ∧ (∀ o, H a = some (.frz o (.tup xs)) → H' a = some (.frz o (.tup xs)))
theorem Ex.tx {H H' : Hp} (e : Ex H H') : Tx H H' := fun a xs => ⟨fun h => e a _ h, fun o h => e a _ h⟩
theorem Tx.refl (H : Hp) : Tx H H := (Ex.refl H).tx
theorem Tx.trans {H H1 H2 : Hp} (a : Tx H H1) (b : Tx H1 H2) : Tx H H2 := fun x xs => ⟨fun h => (b x xs).1 ((a x xs).1 h), fun o h => (b x xs).2 o ((a x xs).2 o h)⟩
/-- an object that is no tuple is written -/
theorem Tx.wr {H : Hp} {p : Addr} {o u : HO} (h : H p = some u) (hu : ∀ xs, u ≠ .tup xs) (hf : ∀ ob xs, u ≠ .frz ob (.tup xs)) : Tx H (upd H p o) := fun a xs =>
  ⟨fun e => by rw [upd_ne (fun z => by rw [z, h] at e; exact hu xs (Option.some.inj e))]; exact e,
   fun ob e => by rw [upd_ne (fun z => by rw [z, h] at e; exact hf ob xs (Option.some.inj e))]; exact e⟩
theorem Tx.updL {H : Hp} {p : Addr} {o : HO} {xs : List V} (h : H p = some (.lst xs)) : Tx H (upd H p o) := Tx.wr h (fun _ z => by cases z) fun _ _ z => by cases z
theorem Tx.updK {H : Hp} {p : Addr} {o : HO} {xs : List (Key × V)} (h : H p = some (.dK xs)) : Tx H (upd H p o) := Tx.wr h (fun _ z => by cases z) fun _ _ z => by cases z
theorem Tx.updT {H : Hp} {p : Addr} {o : HO} {xs : List (List Key × V)} (h : H p = some (.dT xs)) : Tx H (upd H p o) := Tx.wr h (fun _ z => by cases z) fun _ _ z => by cases z
theorem Tx.new {H : Hp} {p : Addr} {o : HO} (h : H p = none) : Tx H (upd H p o) := (Ex.new h).tx
theorem Tx.t {K : PySem.W.Frag} {H H' : Hp} {a : Addr} {xs : List V} (e : Tx H H') (h : SqT K H a xs) : SqT K H' a xs := by
  rcases h with (h | ⟨o, h⟩) | h
  · exact Or.inl (Or.inl ((e a xs).1 h))
  · exact Or.inl (Or.inr ⟨o, (e a xs).2 o h⟩)
  · exact Or.inr h
section
variable {K : PySem.W.Frag} {H H' : Hp}
mutual
theorem dp_ex (e : Ex H H') : ∀ (d : D) (v : V), Dp K H v d → Dp K H' v d
  | .none, _, h => by cases h; exact .non
  | .bool b, _, h => by cases h; exact .bl b
  | .int i, _, h => by cases h; exact .int i
  | .str x, _, h => by cases h; exact .str x
  | .list ds, _, h => by
    cases h with
    | lst hs ha => exact .lst (e.l hs) (dpa_ex e ds _ ha)
  | .tuple ds, _, h => by
    cases h with
    | tup hs ha => exact .tup (e.t hs) (dpa_ex e ds _ ha)
  | .dict _, _, h => by cases h
theorem dpa_ex (e : Ex H H') : ∀ (ds : List D) (vs : List V), DpAll K H vs ds → DpAll K H' vs ds
  | [], _, h => by cases h; exact .nil
  | d :: ds, _, h => by
    cases h with
    | cons h1 h2 => exact .cons (dp_ex e d _ h1) (dpa_ex e ds _ h2)
end
theorem Ex.dp {d : D} {v : V} (e : Ex H H') (h : Dp K H v d) : Dp K H' v d := dp_ex e d v h
theorem Ex.dpa {ds : List D} {vs : List V} (e : Ex H H') (h : DpAll K H vs ds) : DpAll K H' vs ds := dpa_ex e ds vs h
/-! no list within -/
mutual
def imm : D → Bool
  | .list _ => false
  | .tuple ds => immAll ds
  | .dict _ => false
  | _ => true
def immAll : List D → Bool
  | [] => true
  | d :: ds => imm d && immAll ds
end
mutual
theorem dp_tx (e : Tx H H') : ∀ (d : D) (v : V), imm d = true → Dp K H v d → Dp K H' v d
  | .none, _, _, h => by cases h; exact .non
  | .bool b, _, _, h => by cases h; exact .bl b
  | .int i, _, _, h => by cases h; exact .int i
  | .str x, _, _, h => by cases h; exact .str x
  | .list ds, _, i, h => by simp [imm] at i
  | .tuple ds, _, i, h => by
    cases h with
    | tup hs ha => exact .tup (e.t hs) (dpa_tx e ds _ (by simpa [imm] using i) ha)
  | .dict _, _, _, h => by cases h
theorem dpa_tx (e : Tx H H') : ∀ (ds : List D) (vs : List V), immAll ds = true → DpAll K H vs ds → DpAll K H' vs ds
  | [], _, _, h => by cases h; exact .nil
  | d :: ds, _, i, h => by
    have i' : imm d = true ∧ immAll ds = true := by simpa [immAll] using i
    cases h with
    | cons h1 h2 => exact .cons (dp_tx e d _ i'.1 h1) (dpa_tx e ds _ i'.2 h2)
end
theorem Tx.dp {d : D} {v : V} (e : Tx H H') (i : imm d = true) (h : Dp K H v d) : Dp K H' v d := dp_tx e d v i h
theorem Tx.dpa {ds : List D} {vs : List V} (e : Tx H H') (i : immAll ds = true) (h : DpAll K H vs ds) : DpAll K H' vs ds := dpa_tx e ds vs i h
theorem immAll_iff : ∀ {ds : List D}, immAll ds = true ↔ ∀ d ∈ ds, imm d = true
  | [] => by simp [immAll]
  | d :: ds => by simp [immAll, immAll_iff]
theorem immAll_append {ds es : List D} : immAll (ds ++ es) = true ↔ immAll ds = true ∧ immAll es = true := by
  simp only [immAll_iff, List.mem_append]
  exact ⟨fun h => ⟨fun d hd => h d (.inl hd), fun d hd => h d (.inr hd)⟩, fun h d hd => hd.elim (h.1 d) (h.2 d)⟩
theorem dpa_len : ∀ {vs : List V} {ds : List D}, DpAll K H vs ds → vs.length = ds.length
  | _, _, .nil => rfl
  | _, _, .cons _ t => by simp [dpa_len t]
theorem dpa_get : ∀ {vs : List V} {ds : List D} {i : Nat} {v : V}, DpAll K H vs ds → vs[i]? = some v → ∃ d, ds[i]? = some d ∧ Dp K H v d
  | _, _, _, _, .nil, e => by simp at e
  | _, _, 0, v, .cons h _, e => by
    simp at e
    subst e
    exact ⟨_, rfl, h⟩
  | _, _, i + 1, v, .cons _ t, e => by
    simp at e
    obtain ⟨d, h1, h2⟩ := dpa_get (i := i) t e
    exact ⟨d, by simpa using h1, h2⟩
theorem dpa_getD : ∀ {vs : List V} {ds : List D} {i : Nat} {d : D}, DpAll K H vs ds → ds[i]? = some d → ∃ v, vs[i]? = some v ∧ Dp K H v d
  | _, _, _, _, .nil, e => by simp at e
  | _, _, 0, v, .cons h _, e => by
    simp at e
    subst e
    exact ⟨_, rfl, h⟩
  | _, _, i + 1, v, .cons _ t, e => by
    simp at e
    obtain ⟨d, h1, h2⟩ := dpa_getD (i := i) t e
    exact ⟨d, by simpa using h1, h2⟩
theorem dpa_append : ∀ {vs ws : List V} {ds es : List D}, DpAll K H vs ds → DpAll K H ws es → DpAll K H (vs ++ ws) (ds ++ es)
  | _, _, _, _, .nil, s => s
  | _, _, _, _, .cons h t, s => .cons h (dpa_append t s)
theorem dpa_one {v : V} {d : D} (h : Dp K H v d) : DpAll K H [v] [d] := .cons h .nil
theorem dpa_snoc {vs : List V} {ds : List D} {v : V} {d : D} (t : DpAll K H vs ds) (h : Dp K H v d) : DpAll K H (vs ++ [v]) (ds ++ [d]) := dpa_append t (dpa_one h)
theorem dpa_ints : ∀ ns : List Int, DpAll K H (ns.map V.int) (ns.map PyData.int)
  | [] => .nil
  | n :: ns => .cons (.int n) (dpa_ints ns)
theorem dpa_ints_inv : ∀ {ns : List Int} {vs : List V}, DpAll K H vs (ns.map PyData.int) → vs = ns.map V.int
  | [], _, .nil => rfl
  | n :: ns, _, .cons h t => by
    cases h
    rw [dpa_ints_inv t]
    rfl
theorem dpa_take : ∀ {vs : List V} {ds : List D} (n : Nat), DpAll K H vs ds → DpAll K H (vs.take n) (ds.take n)
  | _, _, 0, _ => .nil
  | _, _, _ + 1, .nil => .nil
  | _, _, n + 1, .cons h t => .cons h (dpa_take n t)
theorem dpa_drop : ∀ {vs : List V} {ds : List D} (n : Nat), DpAll K H vs ds → DpAll K H (vs.drop n) (ds.drop n)
  | _, _, 0, r => r
  | _, _, _ + 1, .nil => .nil
  | _, _, n + 1, .cons _ t => dpa_drop n t
theorem dpa_rev : ∀ {vs : List V} {ds : List D}, DpAll K H vs ds → DpAll K H vs.reverse ds.reverse
  | _, _, .nil => .nil
  | _, _, .cons h t => by
    rw [List.reverse_cons, List.reverse_cons]
    exact dpa_snoc (dpa_rev t) h
theorem dpa_set {v : V} {d : D} (h : Dp K H v d) : ∀ {vs : List V} {ds : List D} (i : Nat), DpAll K H vs ds → DpAll K H (vs.set i v) (ds.set i d)
  | _, _, _, .nil => .nil
  | _, _, 0, .cons _ t => .cons h t
  | _, _, i + 1, .cons q t => .cons q (dpa_set h i t)
theorem dpa_erase : ∀ {vs : List V} {ds : List D} (i : Nat), DpAll K H vs ds → DpAll K H (vs.eraseIdx i) (ds.eraseIdx i)
  | _, _, _, .nil => .nil
  | _, _, 0, .cons _ t => t
  | _, _, i + 1, .cons q t => .cons q (dpa_erase i t)
end
/-- a row of ints | rows -/
def row (ns : List Int) : D := .tuple (ns.map .int)
def rowsT (rs : List (List Int)) : D := .tuple (rs.map row)
def rowsL (rs : List (List Int)) : D := .list (rs.map row)
theorem imm_row (ns : List Int) : imm (row ns) = true := by
  unfold row imm
  rw [immAll_iff]
  intro d hd
  obtain ⟨n, _, rfl⟩ := List.mem_map.mp hd
  rfl
theorem imm_rows (rs : List (List Int)) : immAll (rs.map row) = true := by
  rw [immAll_iff]
  intro d hd
  obtain ⟨n, _, rfl⟩ := List.mem_map.mp hd
  exact imm_row n
section
variable {K : PySem.W.Frag} {H H' : Hp}
theorem dp_row {v : V} {ns : List Int} (h : Dp K H v (row ns)) : ∃ a, v = .ref a ∧ SqT K H a (ns.map V.int) := by
  unfold row at h
  cases h with
  | tup hs ha =>
    rw [dpa_ints_inv ha] at hs
    exact ⟨_, rfl, hs⟩
theorem dp_row_of {a : Addr} {ns : List Int} (h : SqT K H a (ns.map V.int)) : Dp K H (.ref a) (row ns) := .tup h (dpa_ints ns)
end
/-! ### sorted(xs), xs a list of data -/
open PySem.W in
def rSortedD (K : PySem.W.Frag) : List V → Hp → VK → Prop := fun xs H Q => ∃ (a : Addr) (vs : List V) (ds : List D), xs = [.ref a] ∧ SqL K H a vs ∧ DpAll K H vs ds ∧ AllAlike ds ∧ Sortable ds ∧ (∀ d ∈ ds, d.depth ≤ 50) ∧
  ∀ (ws : List V) (p : Addr), H p = none → DpAll K H ws (ds.mergeSort (dataLe false id)) → Q (.ref p) (upd H p (.lst ws))
section
open PySem.W
variable {X : Cx} {K : PySem.W.Frag}
theorem each_of {H : Hp} {R : V → Value → Prop} : ∀ {vs : List V} {us : List Value} {ds : List D}, Paired R vs us → DpAll K H vs ds → EachIs (fun (u : Value) (b : V × D) => R b.1 u ∧ Dp K H b.1 b.2) us (vs.zip ds)
  | _, _, _, .nil, .nil => .nil
  | _, _, _, .cons r t, .cons h q => .cons ⟨r, h⟩ (each_of t q)
theorem each_back {H : Hp} : ∀ {us : List Value} {bs : List (V × D)}, EachIs (fun (u : Value) (b : V × D) => RelV b.1 u ∧ Dp K H b.1 b.2) us bs → Vals (bs.map (·.1)) us ∧ DpAll K H (bs.map (·.1)) (bs.map (·.2))
  | _, _, .nil => ⟨.nil, .nil⟩
  | _, _, .cons h t => ⟨.cons h.1 (each_back t).1, .cons h.2 (each_back t).2⟩
theorem dataLe_map {β : Type} (f : β → D) (a b : β) : dataLe false f a b = dataLe false id (f a) (f b) := rfl
theorem call_sortedD (hu : X.A.units + 64 < cLine) (hK : X.K = K := by rfl) : CallR X (.builtin "sorted") (rSortedD K) := by
  subst hK
  intro pins s σ H xs us Q I r h
  obtain ⟨a, vs, ds, rfl, hs, hd, al, so, dep, q⟩ := h
  obtain ⟨its, rv, hl, hz⟩ := I.list hs
  rw [Vals.ref1 r]
  have e := each_of rv hd
  have hle : vs.length = ds.length := dpa_len hd
  have em : (vs.zip ds).map (·.2) = ds := by
    rw [List.map_snd_zip]
    omega
  have er : EachIs (fun (u : Value) (b : V × D) => ∃ as, Reads s.heap u b.2 as) its (vs.zip ds) := e.mono fun u b hb => Dp.reads I b.2 b.1 u hb.2 hb.1
  have hzl : (vs.zip ds).length = its.length := e.length.symm
  refine sorted_data (enc := fun b : V × D => b.2) hl.isList e er (by rw [em]; exact al) (by rw [em]; exact so) (by rw [hzl, ← rv.length]; exact hz) (fun b hb => ?_) fun out hol heo => ?_
  · have : b.2 ∈ ds := by
      rw [← em]
      exact List.mem_map.mpr ⟨b, hb, rfl⟩
    have := dep b.2 this
    show X.A.units + 2 + b.2.depth < cLine
    omega
  · obtain ⟨ep, he'⟩ := PyProof.Rows.sortedAll_at s.heap its out.toArray
    obtain ⟨hv, hda⟩ := each_back heo
    have e2 : ((vs.zip ds).mergeSort (dataLe false fun b : V × D => b.2)).map (·.2) = ds.mergeSort (dataLe false id) := by
      rw [sort_maps (s := dataLe false id) (fun b : V × D => b.2) (fun a _ b _ => dataLe_map _ a b), em]
    rw [e2] at hda
    refine ⟨.ref _, upd H (s.heap.objs.size + 1) (.lst _), I.laid (t' := s.toks) (fun _ _ => PyProof.Rows.sortedAll_old) (Nat.le_succ _) ⟨?_, out, ep, hv, he'⟩, rfl, q _ _ (I.hok.fresh (Nat.le_succ _)) hda⟩
    rw [hv.length, hol, hzl, ← rv.length]
    exact hz
end
end TH

namespace TH
open PySem PySem.Spec PyProof.Rows L2
/-! ### the readings, one step each -/
section
variable {K : PySem.W.Frag} {σ σ' : L2.St} {H : Hp} {Q : VK} {QB : Bool → Hp → Prop} {QA : List V → Hp → Prop} {D : Ends} {ta tb tc te : TE} {t u : TT} {s1 s2 : TS} {r r' : R2} {v w : V} {i : Nat} {tr : TA} {g : TG}
theorem w_start {s : TS} (h : σ = σ') (k : s D σ' H) : s D σ H := h ▸ k
theorem w_var (h : σ[i]? = some (some v)) (k : Q v H) : tVar i σ H Q := ⟨v, h, k⟩
theorem w_c (k : Q v H) : tC v σ H Q := k
theorem w_op (k : ta σ H fun x H1 => tb σ H1 fun y H2 => r x y H2 Q) : tOp r ta tb σ H Q := k
theorem w_un {r : V → Hp → VK → Prop} (k : ta σ H fun x H1 => r x H1 Q) : tUn r ta σ H Q := k
theorem w_chain (k : ta σ H fun x H1 => tb σ H1 fun y H2 => r x y H2 fun z H3 => ∃ k, z = .bl k ∧ (if k = true then tc σ H3 fun w' H4 => r' y w' H4 Q else Q (.bl false) H3)) : tChain r r' ta tb tc σ H Q := k
theorem w_I0 {f : Int → Int → V} {a b : Int} (k : Q (f a b) H) : rI0 f (.int a) (.int b) H Q := ⟨a, b, rfl, rfl, k⟩
theorem w_I {C : Int → Int → Prop} {f : Int → Int → V} {a b : Int} (hc : C a b) (k : Q (f a b) H) : rI C f (.int a) (.int b) H Q := ⟨a, b, rfl, rfl, hc, k⟩
theorem w_U {f : Int → V} {a : Int} (k : Q (f a) H) : rU f (.int a) H Q := ⟨a, rfl, k⟩
theorem w_eq (h : scal v w = true) (k : Q (.bl (decide (v = w))) H) : rEq v w H Q := ⟨h, k⟩
theorem w_eqI {a b : Int} (k : Q (.bl (decide (a = b))) H) : rEq (.int a) (.int b) H Q := ⟨rfl, by
  have e : decide (V.int a = V.int b) = decide (a = b) := by
    by_cases h : a = b
    · subst h; simp
    · rw [decide_eq_false h, decide_eq_false (fun z => h (V.int.inj z))]
  rw [e]; exact k⟩
theorem w_neI {a b : Int} (k : Q (.bl (!decide (a = b))) H) : rNe (.int a) (.int b) H Q := ⟨rfl, by
  have e : decide (V.int a = V.int b) = decide (a = b) := by
    by_cases h : a = b
    · subst h; simp
    · rw [decide_eq_false h, decide_eq_false (fun z => h (V.int.inj z))]
  rw [e]; exact k⟩
theorem w_eqB {a b : Bool} (k : Q (.bl (decide (a = b))) H) : rEq (.bl a) (.bl b) H Q := ⟨rfl, by
  have e : decide (V.bl a = V.bl b) = decide (a = b) := by cases a <;> cases b <;> rfl
  rw [e]; exact k⟩
theorem w_ne (h : scal v w = true) (k : Q (.bl (!decide (v = w))) H) : rNe v w H Q := ⟨h, k⟩
theorem w_isN {R : Prop} (k : R) : V.non = V.non ∧ R := ⟨rfl, k⟩
theorem w_tup (h : ∀ xs, QA xs H → True) (k : tr σ H fun xs H1 => xs.length ≤ sizeLine ∧ ∀ p, H1 p = none → Q (.ref p) (upd H1 p (.tup xs))) : tTup tr σ H Q := k
theorem w_nil (k : QA [] H) : tNil σ H QA := k
theorem w_cons (k : ta σ H fun x H1 => tr σ H1 fun xs H2 => QA (x :: xs) H2) : tCons ta tr σ H QA := k
theorem w_test (k : te σ H fun x H' => ∃ k, x = .bl k ∧ QB k H') : tTest te σ H QB := k
theorem w_B (k : te σ H fun x H' => ∃ k, x = .bl k ∧ QB k H') : tB te σ H QB := k
theorem w_bl {b : Bool} {R : Bool → Prop} (k : R b) : ∃ k, V.bl b = .bl k ∧ R k := ⟨b, rfl, k⟩
theorem w_and (k : t σ H fun c H1 => if c = true then u σ H1 QB else QB false H1) : tAnd t u σ H QB := k
theorem w_or (k : t σ H fun c H1 => if c = true then QB true H1 else u σ H1 QB) : tOr t u σ H QB := k
theorem w_not (k : t σ H fun c H1 => QB (!c) H1) : tNot t σ H QB := k
theorem w_andV (k : ta σ H fun x H1 => ∃ c, x = .bl c ∧ if c = true then tb σ H1 Q else Q (.bl false) H1) : tAndV ta tb σ H Q := k
theorem w_orV (k : ta σ H fun x H1 => ∃ c, x = .bl c ∧ if c = true then Q (.bl true) H1 else tb σ H1 Q) : tOrV ta tb σ H Q := k
theorem w_notV (k : ta σ H fun x H1 => ∃ c, x = .bl c ∧ Q (.bl (!c)) H1) : tNotV ta σ H Q := k
theorem w_if (k : t σ H fun c H1 => if c = true then ta σ H1 Q else tb σ H1 Q) : tIf t ta tb σ H Q := k
theorem w_seq (k : s1 { D with nx := s2 D } σ H) : tSeq s1 s2 D σ H := k
theorem w_asg (k : te σ H fun x H1 => g x σ H1 D.nx) : tAsg te g D σ H := k
theorem w_gname {QS : L2.St → Hp → Prop} (h : σ.set i (some v) = σ') (k : QS σ' H) : gName i v σ H QS := by
  show QS (σ.set i (some v)) H
  rw [h]
  exact k
theorem w_par {v w : V} {R : V → V → Prop} (k : R v w) : ∃ v' w', [v, w] = [v', w'] ∧ R v' w' := ⟨v, w, rfl, k⟩
theorem w_nx {QS : L2.St → Hp → Prop} (h : σ = σ') (k : QS σ' H) : QS σ H := h ▸ k
theorem w_parT {i j : Nat} (k : tr σ H fun vs H1 => ∃ v w, vs = [v, w] ∧ D.nx ((σ.set i (some v)).set j (some w)) H1) : tPar i j tr D σ H := k
theorem w_ret (k : te σ H D.rt) : tRet te D σ H := k
theorem w_drop (k : te σ H fun _ H1 => D.nx σ H1) : tDrop te D σ H := k
theorem w_ifS (k : t σ H fun b H1 => if b = true then s1 D σ H1 else s2 D σ H1) : tIfS t s1 s2 D σ H := k
theorem w_next (k : D.nx σ H) : tNext D σ H := k
theorem w_cb {r : List V → Hp → VK → Prop} (k : tr σ H fun vs H1 => r vs H1 Q) : tCB r tr σ H Q := k
theorem w_call {sp : Sp} {dvs : List V} {E : XK} (k : tr σ H fun vs H1 => sp (vs ++ dvs) H1 Q E) : tCall sp dvs E tr σ H Q := k
theorem w_aug {ti : TIp} (h : σ[i]? = some (some v)) (k : te σ H fun y H1 => ti v y H1 fun z H2 => D.nx (σ.set i (some z)) H2) : tAug i te ti D σ H := ⟨v, h, k⟩
theorem w_ip {f : Int → Int → Int} {a b : Int} (k : Q (.int (f a b)) H) : ipI f (.int a) (.int b) H Q := ⟨a, b, rfl, rfl, k⟩
theorem w_bm {T : String} {rm : V → List V → Hp → VK → Prop} (k : ta σ H fun x H1 => tyV K T x H1 ∧ tr σ H1 fun xs H2 => rm x xs H2 Q) : tBM K T rm ta tr σ H Q := k
theorem w_sl {rs : V → Option Int → Option Int → Hp → VK → Prop} {tl th : TO} (k : te σ H fun x H1 => tl σ H1 fun l H2 => th σ H2 fun u H3 => rs x l u H3 Q) : tSl rs te tl th σ H Q := k
theorem w_np {QO : Option Int → Hp → Prop} (k : QO none H) : tNoPart σ H QO := k
theorem w_pt {QO : Option Int → Hp → Prop} (k : te σ H fun x H1 => ∃ i, x = .int i ∧ QO (some i) H1) : tPart te σ H QO := k
theorem w_pti {R : Int → Prop} {a : Int} (k : R a) : ∃ i, V.int a = .int i ∧ R i := ⟨a, rfl, k⟩
theorem w_gsub {to ti : TE} {ts : TSet} {QS : L2.St → Hp → Prop} (k : to σ H fun o H1 => ti σ H1 fun i H2 => ts o i v H2 fun H3 => QS σ H3) : gSub to ti ts v σ H QS := k
theorem w_ixL {p : Addr} {xs : List V} {j : Int} (hs : SqL K H p xs) (ha : atI xs j = some v) (k : Q v H) : rIxL K (.ref p) (.int j) H Q := ⟨p, xs, j, v, rfl, rfl, hs, ha, k⟩
theorem w_ixT {p : Addr} {xs : List V} {j : Int} (hs : SqT K H p xs) (ha : atI xs j = some v) (k : Q v H) : rIxT K (.ref p) (.int j) H Q := ⟨p, xs, j, v, rfl, rfl, hs, ha, k⟩
theorem w_int {a : Int} {R : Int → Prop} {S : Bool → Prop} (k : R a) : (∃ i, [V.int a] = [V.int i] ∧ R i) ∨ ∃ k : Bool, [V.int a] = [V.bl k] ∧ S k := .inl ⟨a, rfl, k⟩
theorem w_dec {p : Prop} [Decidable p] {A B : Prop} (h1 : p → A) (h2 : ¬ p → B) : if decide p = true then A else B := by
  by_cases h : p
  · rw [decide_eq_true h, if_pos rfl]; exact h1 h
  · rw [decide_eq_false h, if_neg Bool.false_ne_true]; exact h2 h
theorem w_decN {p : Prop} [Decidable p] {A B : Prop} (h1 : ¬ p → A) (h2 : p → B) : if (!decide p) = true then A else B := by
  by_cases h : p
  · rw [decide_eq_true h]; simp; exact h2 h
  · rw [decide_eq_false h]; simp; exact h1 h
theorem w_bool {b : Bool} {A B : Prop} (h1 : b = true → A) (h2 : b = false → B) : if b = true then A else B := by
  cases b with
  | true => rw [if_pos rfl]; exact h1 rfl
  | false => rw [if_neg Bool.false_ne_true]; exact h2 rfl
theorem w_T {A B : Prop} (h : A) : if true = true then A else B := by rw [if_pos rfl]; exact h
theorem w_F {A B : Prop} (h : B) : if false = true then A else B := by rw [if_neg Bool.false_ne_true]; exact h
end
section
variable {K : PySem.W.Frag} {H : Hp} {Q : VK} {v : V} {d : D}
/-- the type's name of data -/
def tyName : D → String
  | .none => "NoneType"
  | .bool _ => "bool"
  | .int _ => "int"
  | .str _ => "str"
  | .list _ => "list"
  | .tuple _ => "tuple"
  | .dict _ => "dict"
theorem dp_ty (h : Dp K H v d) : TyX K H v (.type (tyName d)) := by
  cases h with
  | non => exact .base .non
  | bl b => exact .base (.bl b)
  | int i => exact .base (.int i)
  | str x => exact .base (.str x)
  | lst hs _ =>
    rcases hs with (hs | ⟨o, hs⟩) | ⟨o, its, n, hk, hc, _⟩
    · exact .base (.lst hs)
    · exact .base (.frz hs)
    · exact .kList hk hc
  | tup hs _ =>
    rcases hs with (hs | ⟨o, hs⟩) | ⟨o, its, n, hk, hc, _⟩
    · exact .base (.tup hs)
    · exact .fTuple hs
    · exact .kTuple hk hc
def isInt : D → Bool
  | .int _ => true
  | _ => false
def isBool : D → Bool
  | .bool _ => true
  | _ => false
def isTup : D → Bool
  | .tuple _ => true
  | _ => false
def isLst : D → Bool
  | .list _ => true
  | _ => false
theorem w_isInt (h : Dp K H v d) (k : Q (.bl (isInt d || isBool d)) H) : rIsi K [v, .ty "int"] H Q := by
  refine ⟨v, .ty "int", .type (tyName d), .type "int", isInt d || isBool d, rfl, .ty "int", dp_ty h, ?_, k⟩
  refine kit_ty ?_
  cases h <;> simp only [tyName, isInt, isBool, isTup, isLst, Bool.or_self, Bool.or_false, Bool.false_or, Bool.or_true, Bool.true_or] <;> decide +kernel
theorem w_isBool (h : Dp K H v d) (k : Q (.bl (isBool d)) H) : rIsi K [v, .ty "bool"] H Q := by
  refine ⟨v, .ty "bool", .type (tyName d), .type "bool", isBool d, rfl, .ty "bool", dp_ty h, ?_, k⟩
  refine kit_ty ?_
  cases h <;> simp only [tyName, isInt, isBool, isTup, isLst, Bool.or_self, Bool.or_false, Bool.false_or, Bool.or_true, Bool.true_or] <;> decide +kernel
theorem w_isTup (h : Dp K H v d) (k : Q (.bl (isTup d)) H) : rIsi K [v, .ty "tuple"] H Q := by
  refine ⟨v, .ty "tuple", .type (tyName d), .type "tuple", isTup d, rfl, .ty "tuple", dp_ty h, ?_, k⟩
  refine kit_ty ?_
  cases h <;> simp only [tyName, isInt, isBool, isTup, isLst, Bool.or_self, Bool.or_false, Bool.false_or, Bool.or_true, Bool.true_or] <;> decide +kernel
theorem kit2 {t a b : String} {x y : Bool} (h1 : kitB t a = some x) (h2 : kitB t b = some y) : PySem.W.kitAny K (.type t) [.type a, .type b] = some (x || y) := by
  refine kitAny_cons (kit_ty h1) (fun e => ?_) (fun e => by rw [e]; rfl)
  rw [e, Bool.false_or]
  exact kitAny_cons (kit_ty h2) (fun e2 => by rw [e2]; rfl) (fun e2 => e2)
theorem w_isTL (h : Dp K H v d) {p : Addr} (hp : H p = some (.tup [.ty "tuple", .ty "list"])) (k : Q (.bl (isTup d || isLst d)) H) : rIsiT K [v, .ref p] H Q := by
  refine ⟨v, p, _, .type (tyName d), [.type "tuple", .type "list"], isTup d || isLst d, rfl, hp, .cons (.ty _) (.cons (.ty _) .nil), dp_ty h, ?_, k⟩
  refine kit2 ?_ ?_ <;> cases h <;> simp only [tyName, isInt, isBool, isTup, isLst, Bool.or_self, Bool.or_false, Bool.false_or, Bool.or_true, Bool.true_or] <;> decide +kernel
theorem w_isLT (h : Dp K H v d) {p : Addr} (hp : H p = some (.tup [.ty "list", .ty "tuple"])) (k : Q (.bl (isLst d || isTup d)) H) : rIsiT K [v, .ref p] H Q := by
  refine ⟨v, p, _, .type (tyName d), [.type "list", .type "tuple"], isLst d || isTup d, rfl, hp, .cons (.ty _) (.cons (.ty _) .nil), dp_ty h, ?_, k⟩
  refine kit2 ?_ ?_ <;> cases h <;> simp only [tyName, isInt, isBool, isTup, isLst, Bool.or_self, Bool.or_false, Bool.false_or, Bool.or_true, Bool.true_or] <;> decide +kernel
end
theorem bo_f (b : Bool) : (false || b) = b := rfl
theorem bo_t (b : Bool) : (true || b) = true := rfl
theorem ba_f (b : Bool) : (false && b) = false := rfl
theorem ba_t (b : Bool) : (true && b) = b := rfl
theorem bn_t : (!true) = false := rfl
theorem bn_f : (!false) = true := rfl
theorem small2 {n : Nat} (h : n ≤ 1000000 := by decide) : n ≤ sizeLine := Nat.le_trans h (by rw [sizeLine_eq]; decide)
section
variable {K : PySem.W.Frag} {σ : L2.St} {H : Hp} {Q : VK} {tr : TA}
/-- a tuple, a list displayed -/
theorem w_disp {vs : List V} {H1 : Hp} {o : List V → HO} (hl : vs.length ≤ 1000000) (k : ∀ p, H1 p = none → Q (.ref p) (upd H1 p (o vs))) : vs.length ≤ sizeLine ∧ ∀ p, H1 p = none → Q (.ref p) (upd H1 p (o vs)) := ⟨small2 hl, k⟩
theorem w_dispT {vs : List V} {H1 : Hp} {R : Addr → Prop} (hl : vs.length ≤ 1000000) (k : ∀ p, H1 p = none → R p) : vs.length ≤ sizeLine ∧ ∀ p, H1 p = none → R p := ⟨small2 hl, k⟩
theorem w_tupT (k : tr σ H fun xs H1 => xs.length ≤ sizeLine ∧ ∀ p, H1 p = none → Q (.ref p) (upd H1 p (.tup xs))) : tTup tr σ H Q := k
theorem w_lstT (k : tr σ H fun xs H1 => xs.length ≤ sizeLine ∧ ∀ p, H1 p = none → Q (.ref p) (upd H1 p (.lst xs))) : tLst tr σ H Q := k
end
end TH

namespace TH
open PySem PySem.Spec PyProof.Rows L2
section
variable {K : PySem.W.Frag} {a b : Addr} {xs ys : List V}
theorem walk_zipT {n : Nat} (hn : n = min xs.length ys.length) : Walk (RZ.ItzT K a b) n (fun H => SqT K H a xs ∧ SqT K H b ys) (YPair (fun i => xs[i]?) (fun i => ys[i]?)) := by
  subst hn
  refine ⟨fun i _ hi q => ?_, fun _ q => ⟨xs, ys, q.1, q.2, by omega⟩, fun i H v H' _ q y => ?_⟩
  · have h1 : i < xs.length := by omega
    have h2 : i < ys.length := by omega
    exact ⟨xs, ys, xs[i], ys[i], q.1, q.2, by simp [h1], by simp [h2]⟩
  · obtain ⟨T, x, z, h1, h2, h3, h4, h5⟩ := y
    exact ⟨T, x, z, h1, h2, h3, h4 xs q.1, h5 ys q.2⟩
end
section
variable {J : It} {n : Nat} {G : Hp → Prop} {Y : Nat → Hp → V → Hp → Prop} {K : PySem.W.Frag} {g : TG} {tt : TT} {te : TE} {vs : List Nat} {σ : L2.St} {H H1 : Hp} {Dl : Addr} {Q : VK} {wi : TI}
theorem w_lc (k : wi σ H fun J H1 => ∀ D, H1 D = none → ∃ W : Nat → Nat → Hp → Prop, (∃ m, W 0 m (upd H1 D (.lst []))) ∧ ∀ i m H, W i m H →
      (J.stop i H ∧ Q (.ref D) H) ∨ (J.go i H ∧ ∃ Nx : Hp → Prop, (∀ H', Nx H' → ∃ m', m' < m ∧ W (i + 1) m' H') ∧ ∀ x H', J.yld i H x H' → g x (wipe σ vs) H' fun σ2 H2 => wipe σ2 vs = wipe σ vs ∧ tt σ2 H2 fun b H3 =>
        if b = true then te σ2 H3 fun y H4 => ∃ acc, H4 D = some (.lst acc) ∧ acc.length < sizeLine ∧ Nx (upd H4 D (.lst (acc ++ [y]))) else Nx H3)) : tLc wi g tt te vs σ H Q := k
/-- the data of the turns that are kept -/
def made (n : Nat) (keep : Nat → Bool) (gd : Nat → D) : List D := ((List.range n).filter keep).map gd
theorem made_yes {n : Nat} {f : Nat → Bool} {v : Nat → D} (h : f n = true) : made (n + 1) f v = made n f v ++ [v n] := by
  unfold made
  rw [List.range_succ, List.filter_append, List.map_append, List.filter_cons, if_pos h] <;> rfl
theorem made_no {n : Nat} {f : Nat → Bool} {v : Nat → D} (h : f n = false) : made (n + 1) f v = made n f v := by
  unfold made
  rw [List.range_succ, List.filter_append, List.map_append, List.filter_cons, if_neg (by rw [h]; decide)]
  show _ ++ [] = _
  rw [List.append_nil]
theorem made_len (n : Nat) (f : Nat → Bool) (v : Nat → D) : (made n f v).length ≤ n := by
  unfold made
  rw [List.length_map]
  have h := List.length_filter_le f (List.range n)
  rw [List.length_range] at h
  exact h
theorem made_all (n : Nat) (v : Nat → D) : made n (fun _ => true) v = (List.range n).map v := by
  unfold made
  rw [List.filter_eq_self.mpr (fun _ _ => rfl)]
theorem made_imm {n : Nat} {f : Nat → Bool} {v : Nat → D} (h : ∀ i, imm (v i) = true) : immAll (made n f v) = true := by
  rw [immAll_iff]
  intro d hd
  obtain ⟨i, _, rfl⟩ := List.mem_map.mp hd
  exact h i
theorem lc_it' {σ0 : L2.St} {C : L2.St → Prop} {Qd : Hp → Prop} (w : Walk J n G Y) (Pv : Nat → Hp → Prop) (h0 : Pv 0 (upd H1 Dl (.lst []))) (hG : ∀ i H, i ≤ n → Pv i H → G H)
    (hs : ∀ i x H H', i < n → Pv i H → Y i H x H' → g x σ0 H' fun σ2 H2 => C σ2 ∧ tt σ2 H2 fun b H3 =>
      if b = true then te σ2 H3 fun y H4 => ∃ acc, H4 Dl = some (.lst acc) ∧ acc.length < sizeLine ∧ Pv (i + 1) (upd H4 Dl (.lst (acc ++ [y]))) else Pv (i + 1) H3) (hd : ∀ H, Pv n H → Qd H) :
    ∃ W : Nat → Nat → Hp → Prop, (∃ m, W 0 m (upd H1 Dl (.lst []))) ∧ ∀ i m H, W i m H →
      (J.stop i H ∧ Qd H) ∨ (J.go i H ∧ ∃ Nx : Hp → Prop, (∀ H', Nx H' → ∃ m', m' < m ∧ W (i + 1) m' H') ∧ ∀ x H', J.yld i H x H' → g x σ0 H' fun σ2 H2 => C σ2 ∧ tt σ2 H2 fun b H3 =>
        if b = true then te σ2 H3 fun y H4 => ∃ acc, H4 Dl = some (.lst acc) ∧ acc.length < sizeLine ∧ Nx (upd H4 Dl (.lst (acc ++ [y]))) else Nx H3) := by
  refine ⟨fun i m H => m = n - i ∧ i ≤ n ∧ Pv i H, ⟨n, by simp, Nat.zero_le _, h0⟩, ?_⟩
  rintro i m H ⟨rfl, hi, p⟩
  have q := hG i H hi p
  by_cases hlt : i < n
  · refine .inr ⟨w.goes i H hlt q, Pv (i + 1), fun H' p' => ⟨n - (i + 1), by omega, rfl, hlt, p'⟩, fun x H' y => hs i x H H' hlt p (w.yields i H x H' hlt q y)⟩
  · have e : i = n := by omega
    subst e
    exact .inl ⟨w.stops H q, hd H p⟩
/-- what a comprehension makes, whose turns keep all that was tracked -/
theorem lc_data {σ0 : L2.St} {C : L2.St → Prop} {Qd : Hp → Prop} (w : Walk J n G Y) (keep : Nat → Bool) (gd : Nat → D) (himm : ∀ i, imm (gd i) = true) (hG : ∀ H', Ex H1 H' → G H') (hD : H1 Dl = none) (hn : n ≤ 1000000)
    (hs : ∀ i x H' H'', i < n → Ex H1 H' → Y i H' x H'' → ∀ (R : VK) (R0 : Hp → Prop), (keep i = true → ∀ v H3, Ex H' H3 → Dp K H3 v (gd i) → R v H3) → (keep i = false → ∀ H3, Ex H' H3 → R0 H3) →
      g x σ0 H'' fun σ2 H2 => C σ2 ∧ tt σ2 H2 fun b H3 => if b = true then te σ2 H3 R else R0 H3)
    (k : ∀ H' ws, Ex H1 H' → H' Dl = some (.lst ws) → DpAll K H' ws (made n keep gd) → Qd H') :
    ∃ W : Nat → Nat → Hp → Prop, (∃ m, W 0 m (upd H1 Dl (.lst []))) ∧ ∀ i m H, W i m H →
      (J.stop i H ∧ Qd H) ∨ (J.go i H ∧ ∃ Nx : Hp → Prop, (∀ H', Nx H' → ∃ m', m' < m ∧ W (i + 1) m' H') ∧ ∀ x H', J.yld i H x H' → g x σ0 H' fun σ2 H2 => C σ2 ∧ tt σ2 H2 fun b H3 =>
        if b = true then te σ2 H3 fun y H4 => ∃ acc, H4 Dl = some (.lst acc) ∧ acc.length < sizeLine ∧ Nx (upd H4 Dl (.lst (acc ++ [y]))) else Nx H3) := by
  refine lc_it' w (fun i H' => Ex H1 H' ∧ ∃ ws, H' Dl = some (.lst ws) ∧ DpAll K H' ws (made i keep gd)) ⟨Ex.new hD, [], upd_same, .nil⟩ (fun i H' _ p => hG H' p.1) (fun i x H' H'' hi p y => ?_) (fun H' p => ?_)
  · obtain ⟨p1, ws, p2, p3⟩ := p
    refine hs i x H' H'' hi p1 y _ _ (fun hk v H3 e3 hv => ?_) (fun hk H3 e3 => ?_)
    · have q2 : H3 Dl = some (.lst ws) := e3 _ _ p2
      refine ⟨ws, q2, Nat.lt_of_le_of_lt (by rw [dpa_len p3]; exact made_len i keep gd) (Nat.lt_of_lt_of_le hi (small2 hn)), (p1.trans e3).mut hD, ws ++ [v], upd_same, ?_⟩
      rw [made_yes hk]
      exact dpa_snoc ((Tx.updL q2).dpa (made_imm himm) (e3.dpa p3)) ((Tx.updL q2).dp (himm i) hv)
    · refine ⟨p1.trans e3, ws, e3 _ _ p2, ?_⟩
      rw [made_no hk]
      exact e3.dpa p3
  · obtain ⟨p1, ws, p2, p3⟩ := p
    exact k H' ws p1 p2 p3
theorem for_go {nxD : L2.St → Hp → Prop} {rtD : VK} {tb : TS} (w : Walk J n G Y) (Pv : Nat → L2.St → Hp → Prop) (h0 : Pv 0 σ H) (hG : ∀ i σ H, i ≤ n → Pv i σ H → G H)
    (hs : ∀ i x σ H H', i < n → Pv i σ H → Y i H x H' → g x σ H' fun σ2 H2 => tb { nx := Pv (i + 1), rt := rtD, bk := nxD, ct := Pv (i + 1) } σ2 H2) (hd : ∀ σ H, Pv n σ H → nxD σ H) :
    ∃ W : Nat → Nat → L2.St → Hp → Prop, (∃ m, W 0 m σ H) ∧ ∀ i m σ H, W i m σ H →
      (J.stop i H ∧ nxD σ H) ∨ (J.go i H ∧ ∃ N : L2.St → Hp → Prop, (∀ σ' H', N σ' H' → ∃ m', m' < m ∧ W (i + 1) m' σ' H') ∧ ∀ x H', J.yld i H x H' → g x σ H' fun σ2 H2 => tb { nx := N, rt := rtD, bk := nxD, ct := N } σ2 H2) :=
  for_it (D := { nx := nxD, rt := rtD }) w Pv h0 hG hs hd
theorem w_gtup {a : Addr} {xs : List V} {m : Nat} {t : TGs} {QS : L2.St → Hp → Prop} (h : SqT K H a xs) (hl : xs.length = m) (k : t xs σ H QS) : gTup K m t (.ref a) σ H QS := ⟨a, xs, rfl, h, hl, k⟩
theorem w_gtup1 {a : Addr} {x : V} {t : TGs} {QS : L2.St → Hp → Prop} (h : H a = some (.tup [x])) (k : t [x] σ H QS) : gTup K 1 t (.ref a) σ H QS := ⟨a, _, rfl, sqT h, rfl, k⟩
theorem w_gtup2 {a : Addr} {x y : V} {t : TGs} {QS : L2.St → Hp → Prop} (h : H a = some (.tup [x, y])) (k : t [x, y] σ H QS) : gTup K 2 t (.ref a) σ H QS := ⟨a, _, rfl, sqT h, rfl, k⟩
theorem w_gtup3 {a : Addr} {x y z : V} {t : TGs} {QS : L2.St → Hp → Prop} (h : H a = some (.tup [x, y, z])) (k : t [x, y, z] σ H QS) : gTup K 3 t (.ref a) σ H QS := ⟨a, _, rfl, sqT h, rfl, k⟩
theorem w_gcons {v : V} {r : List V} {t : TG} {u : TGs} {QS : L2.St → Hp → Prop} (k : t v σ H fun σ' H' => u r σ' H' QS) : gCons t u (v :: r) σ H QS := ⟨v, r, rfl, k⟩
theorem w_gnil {QS : L2.St → Hp → Prop} (k : QS σ H) : gNil [] σ H QS := ⟨rfl, k⟩
theorem w_yes {QB : Bool → Hp → Prop} (k : QB true H) : tYes σ H QB := k
theorem ix5 {n : Nat} (a b c d e : V) : ixN [a, b, c, d, e].length (n : Int) = if n < 5 then some n else none := by
  unfold ixN
  rw [if_pos (by omega)]
  show (if (n : Int) < ((5 : Nat) : Int) then some n else none) = _
  by_cases h : n < 5
  · rw [if_pos h, if_pos (by omega)]
  · rw [if_neg h, if_neg (by omega)]
theorem w_set1 {p : Addr} {a b c d e v : V} {QH : Hp → Prop} (h : H p = some (.lst [a, b, c, d, e])) (k : QH (upd H p (.lst [a, v, c, d, e]))) : rSetL (.ref p) (.int 1) v H QH := ⟨p, _, 1, 1, rfl, rfl, h, ix5 (n := 1) a b c d e, k⟩
theorem w_set2 {p : Addr} {a b c d e v : V} {QH : Hp → Prop} (h : H p = some (.lst [a, b, c, d, e])) (k : QH (upd H p (.lst [a, b, v, d, e]))) : rSetL (.ref p) (.int 2) v H QH := ⟨p, _, 2, 2, rfl, rfl, h, ix5 (n := 2) a b c d e, k⟩
theorem w_set3 {p : Addr} {a b c d e v : V} {QH : Hp → Prop} (h : H p = some (.lst [a, b, c, d, e])) (k : QH (upd H p (.lst [a, b, c, v, e]))) : rSetL (.ref p) (.int 3) v H QH := ⟨p, _, 3, 3, rfl, rfl, h, ix5 (n := 3) a b c d e, k⟩
theorem w_set4 {p : Addr} {a b c d e v : V} {QH : Hp → Prop} (h : H p = some (.lst [a, b, c, d, e])) (k : QH (upd H p (.lst [a, b, c, d, v]))) : rSetL (.ref p) (.int 4) v H QH := ⟨p, _, 4, 4, rfl, rfl, h, ix5 (n := 4) a b c d e, k⟩
/-- tuple(a list) -/
theorem w_tupleL {p : Addr} {ys : List V} (h : SqL K H p ys) (k : ∀ l, H l = none → Q (.ref l) (upd H l (.tup ys))) :
    (fun xs H Q => ∃ p ys, xs = [V.ref p] ∧ ((SqL K H p ys ∧ ∀ l, H l = none → Q (.ref l) (upd H l (.tup ys))) ∨ (SqT K H p ys ∧ Q (.ref p) H))) [V.ref p] H Q := ⟨p, ys, rfl, .inl ⟨h, k⟩⟩
end
section
variable {K : PySem.W.Frag} {σ : L2.St} {H : Hp} {tl : TE} {ta : TA} {R : It → Hp → Prop}
theorem w_itup (k : tl σ H fun x H1 => ∃ a, x = .ref a ∧ (∃ xs, SqT K H1 a xs) ∧ R (Itt K a) H1) : iTup K tl σ H R := k
theorem w_ilist (k : tl σ H fun x H1 => ∃ a, x = .ref a ∧ (∃ xs, SqL K H1 a xs) ∧ R (Itl K a) H1) : iList K tl σ H R := k
theorem w_ienum (k : ta σ H fun vs H1 => ∃ a xs, vs = [.ref a] ∧ ((SqL K H1 a xs ∧ R (Ite K a) H1) ∨ (SqT K H1 a xs ∧ R (IteT K a) H1))) : iEnumA K ta σ H R := k
theorem w_izip (k : ta σ H fun vs H1 => ∃ a b xs ys, vs = [.ref a, .ref b] ∧ ((SqL K H1 a xs ∧ SqL K H1 b ys ∧ R (Itz K a b) H1) ∨ (SqT K H1 a xs ∧ SqT K H1 b ys ∧ R (RZ.ItzT K a b) H1))) : RZ.iZipA K ta σ H R := k
theorem w_irng1 (k : ta σ H fun vs H1 => ∃ j : Int, vs = [.int j] ∧ -(2 ^ 62) ≤ j ∧ j < 2 ^ 62 ∧ R (Itr 0 j.toNat) H1) : iRng1 ta σ H R := k
theorem w_irng2 (k : ta σ H fun vs H1 => ∃ i j : Int, vs = [.int i, .int j] ∧ (-(2 ^ 62) ≤ i ∧ i < 2 ^ 62 ∧ -(2 ^ 62) ≤ j ∧ j < 2 ^ 62) ∧ R (Itr i (j - i).toNat) H1) : iRng2 ta σ H R := k
theorem w_for {g : TG} {tb : TS} {wi : TI} {D : Ends} (k : wi σ H fun J H1 => ∃ W : Nat → Nat → L2.St → Hp → Prop, (∃ m, W 0 m σ H1) ∧ ∀ i m σ H, W i m σ H →
      (J.stop i H ∧ D.nx σ H) ∨ (J.go i H ∧ ∃ N : L2.St → Hp → Prop, (∀ σ' H', N σ' H' → ∃ m', m' < m ∧ W (i + 1) m' σ' H') ∧ ∀ x H', J.yld i H x H' → g x σ H' fun σ2 H2 => tb { D with nx := N, ct := N, bk := D.nx } σ2 H2)) : tFor wi g tb D σ H := k
end
/-- items at places -/
theorem atI_at {xs : List V} {j : Nat} {v : V} (h : xs[j]? = some v) : atI xs (j : Int) = some v := by
  have hj : j < xs.length := (List.getElem?_eq_some_iff.mp h).1
  unfold atI ixN
  rw [if_pos (by omega), if_pos (by omega)]
  simpa using h
theorem atI_int {ns : List Int} {j : Nat} {x : Int} (h : ns[j]? = some x) : atI (ns.map V.int) (j : Int) = some (.int x) := atI_at (by rw [List.getElem?_map, h]; rfl)
theorem ints_at {ns : List Int} {i : Nat} {v : V} (h : (ns.map V.int)[i]? = some v) : ∃ x, ns[i]? = some x ∧ v = .int x := by
  rw [List.getElem?_map] at h
  cases e : ns[i]? with
  | none => rw [e] at h; cases h
  | some x => rw [e] at h; exact ⟨x, rfl, (Option.some.inj h).symm⟩
theorem CDiv.mk {i j : Int} (h1 : 0 < j) (h2 : j < 1073741824) : CDiv i j := ⟨h1, h2⟩
theorem CPow.mk {i j : Int} (h1 : 0 ≤ j) (h2 : j ≤ 1000000) (h3 : i.natAbs < 2 ^ 64) : CPow i j := ⟨h1, h2, h3⟩
theorem CMul.l {a b : Int} (h1 : -18446744073709551616 < a) (h2 : a < 18446744073709551616) : CMul a b := .inl ⟨h1, h2⟩
theorem CMul.r {a b : Int} (h1 : -18446744073709551616 < b) (h2 : b < 18446744073709551616) : CMul a b := .inr ⟨h1, h2⟩
section
variable {K : PySem.W.Frag} {H : Hp}
theorem dpa_bools_inv : ∀ {bs : List Bool} {vs : List V}, DpAll K H vs (bs.map PyData.bool) → vs = bs.map V.bl
  | [], _, .nil => rfl
  | n :: ns, _, .cons h t => by
    cases h
    rw [dpa_bools_inv t]
    rfl
theorem dp_rowT {a : Addr} {ns : List Int} (h : Dp K H (.ref a) (row ns)) : SqT K H a (ns.map V.int) := by
  obtain ⟨b, e, h2⟩ := dp_row h
  cases e
  exact h2
theorem dp_tup {v : V} {ds : List D} (h : Dp K H v (.tuple ds)) : ∃ a vs, v = .ref a ∧ SqT K H a vs ∧ DpAll K H vs ds := by
  cases h with
  | tup hs ha => exact ⟨_, _, rfl, hs, ha⟩
theorem dp_lst {v : V} {ds : List D} (h : Dp K H v (.list ds)) : ∃ a vs, v = .ref a ∧ SqL K H a vs ∧ DpAll K H vs ds := by
  cases h with
  | lst hs ha => exact ⟨_, _, rfl, hs, ha⟩
theorem dp_int {v : V} {i : Int} (h : Dp K H v (.int i)) : v = .int i := by cases h; rfl
end
theorem range_map {α β : Type} (d : α) (f : α → β) : ∀ xs : List α, (List.range xs.length).map (fun i => f (xs.getD i d)) = xs.map f := fun xs => by
  apply List.ext_getElem
  · simp
  · intro i h1 h2
    have hi : i < xs.length := by simpa using h1
    simp [List.getD_eq_getElem?_getD, hi]
theorem range_zip {α β γ : Type} (d : α) (e : β) (f : α → β → γ) (xs : List α) (ys : List β) : (List.range (min xs.length ys.length)).map (fun i => f (xs.getD i d) (ys.getD i e)) = List.zipWith f xs ys := by
  apply List.ext_getElem
  · simp
  · intro i h1 h2
    have hi : i < xs.length ∧ i < ys.length := by
      have h1' : i < min xs.length ys.length := by simpa using h1
      omega
    simp [List.getD_eq_getElem?_getD, hi.1, hi.2]
theorem getD_of {α : Type} {xs : List α} {i : Nat} {x d : α} (h : xs[i]? = some x) : xs.getD i d = x := by rw [List.getD_eq_getElem?_getD, h]; rfl
end TH

namespace TH
open PySem PySem.Spec PyProof.Rows L2
/-! ### a list whose items are told by a word alone -/
def LstP (h : Addr) (ψ : List V → Prop) : HO := .ext fun hp => ∃ xs : List V, ψ xs ∧ xs.length ≤ sizeLine ∧ ∃ (its : List Value) (n : Nat), Vals xs its ∧ hp.get? h = some { cls := .type "list", data := .seq its.toArray n }
section
variable {P : Program} {w : World} {H H' : Hp} {hp hp' : Heap} {h : Addr} {ψ : List V → Prop} {xs : List V} {fs ex : List Addr}
theorem lstP_ok (q : ψ xs) (o : ObjOk P w H hp h (.lst xs)) : ObjOk P w H' hp h (LstP h ψ) := by
  obtain ⟨z, its, n, r, e⟩ := o
  exact ⟨⟨xs, q, z, its, n, r, e⟩, ⟨_, e⟩, fun h1 h2 ⟨ys, q1, z1, its1, n1, r1, e1⟩ k => ⟨ys, q1, z1, its1, n1, r1, k _ e1⟩⟩
theorem lstP_of (o : ObjOk P w H hp h (LstP h ψ)) : ∃ xs, ψ xs ∧ ∀ H', ObjOk P w H' hp h (.lst xs) := by
  obtain ⟨⟨xs, q, z, its, n, r, e⟩, _⟩ := o
  exact ⟨xs, q, fun _ => ⟨z, its, n, r, e⟩⟩
/-- the heap told otherwise at h -/
theorem hok_re {o u : HO} (x : HOk P w H hp) (e : H h = some o) (ho : ∀ y, o ≠ .own y) (ht : ∀ ys, o ≠ .tup ys) (new : ObjOk P w (upd H h u) hp h u) : HOk P w (upd H h u) hp := fun b v q => by
  by_cases hb : b = h
  · subst hb
    rw [upd_same] at q
    cases q
    exact new
  · rw [upd_ne hb] at q
    refine (x b v q).stay (fun _ _ _ r => r) (fun c r => ?_) (fun c ys r => ?_)
    · rw [upd_ne (fun z => by rw [z, e] at r; exact ho _ (Option.some.inj r))]
      exact r
    · rw [upd_ne (fun z => by rw [z, e] at r; exact ht _ (Option.some.inj r))]
      exact r
theorem un_in {xs : List V} {u : HO} (e : H h = some (LstP h ψ)) (x : Un fs ex (upd H h (.lst xs)) H' hp hp') : Un fs ex H (upd H' h u) hp hp' where
  keep := fun b o q n hb hx => x.keep b o q (by rw [upd_ne (fun z => by rw [z, e] at n; cases n)]; exact n) hb hx
  slot := fun b o q n hb hx => x.slot b o q (by rw [upd_ne (fun z => by rw [z, e] at n; cases n)]; exact n) hb hx
  free := fun b o q n hx => by
    have hb : b ≠ h := fun z => by rw [z, e] at n; cases n
    rw [upd_ne hb]
    exact x.free b o q (by rw [upd_ne hb]; exact n) hx
  there := x.there
  tups := fun b ys q => by
    have hb : b ≠ h := fun z => by rw [z, e] at q; cases q
    rw [upd_ne hb]
    exact x.tups b ys (by rw [upd_ne hb]; exact q)
  frzs := fun b o v q => by
    have hb : b ≠ h := fun z => by rw [z, e] at q; cases q
    rw [upd_ne hb]
    exact x.frzs b o v (by rw [upd_ne hb]; exact q)
  tbls := fun b ps q => by
    have hb : b ≠ h := fun z => by rw [z, e] at q; cases q
    rw [upd_ne hb]
    exact x.tbls b ps (by rw [upd_ne hb]; exact q)
theorem un_out {xs : List V} {u : HO} (e : H' h = some (.lst xs)) (hn : H h = none) (x : Un fs [] H H' hp hp') : Un fs [] H (upd H' h u) hp hp' where
  keep := x.keep
  slot := x.slot
  free := fun b o q n hx => by
    have z := x.free b o q n hx
    rw [upd_ne (fun y => by rw [y, e] at z; cases z)]
    exact z
  there := x.there
  tups := fun b ys q => by
    rw [upd_ne (fun z => by rw [z, hn] at q; cases q)]
    exact x.tups b ys q
  frzs := fun b o v q => by
    rw [upd_ne (fun z => by rw [z, hn] at q; cases q)]
    exact x.frzs b o v q
  tbls := fun b ps q => by
    rw [upd_ne (fun z => by rw [z, hn] at q; cases q)]
    exact x.tbls b ps q
end
section
variable {P : Program} {w : World} {K : PySem.W.Frag} {mg : Str → Option Value} {base : Heap} {k : Nat} {f : Addr} {fd : FuncData} {ps : List Str} {sp sp' : Sp}
/-- a def that changes such a list, told from within -/
theorem fn_hide (F : FnOk P w K mg base C8.CX0 k f fd ps sp)
    (hs : ∀ vs H Q E, sp' vs H Q E → ∃ (h : Addr) (ψ : List V → Prop), H h = some (LstP h ψ) ∧ (∃ xs, ψ xs) ∧ ∀ xs, ψ xs → sp vs (upd H h (.lst xs)) (fun v H' => ∃ xs', ψ xs' ∧ H' h = some (.lst xs') ∧ Q v (upd H' h (LstP h ψ))) E) :
    FnOk P w K mg base C8.CX0 k f fd ps sp' := by
  refine ⟨fun vs H Q E q => ?_, fun A outer s H args us vs Q E hr e0 hb hv q => ?_⟩
  · obtain ⟨h, ψ, _, ⟨xs, hx⟩, g⟩ := hs vs H Q E q
    exact F.len _ _ _ _ (g xs hx)
  · obtain ⟨h, ψ, e, _, g⟩ := hs vs H Q E q
    obtain ⟨xs, hx, ob⟩ := lstP_of (e0.hok h _ e)
    have nh : ∀ b, H b = none → b ≠ h := fun b n z => by rw [z, e] at n; cases n
    have e1 : Env0 P w K mg base A outer s (upd H h (.lst xs)) := ⟨e0.frames, e0.mod, fun b o q => ⟨(e0.bs b o q).1, by rw [upd_ne (nh b (e0.bs b o q).2)]; exact (e0.bs b o q).2⟩, e0.bsz, e0.funs, fun b hb => by rw [upd_ne (nh b (e0.frf b hb))]; exact e0.frf b hb,
      hok_re e0.hok e (fun _ z => by cases z) (fun _ z => by cases z) (ob _), e0.bare⟩
    refine codeAny_mono (F.run A outer s _ args us vs _ E hr e1 hb hv (g xs hx)) fun r s' c => ?_
    cases r with
    | error e => exact c
    | ok fl =>
      cases fl with
      | next => exact c
      | brk => exact c
      | cont => exact c
      | ret u =>
        obtain ⟨v, H', os, bare, un, hok, rv, xs', hx', eh, qq⟩ := c
        exact ⟨v, _, os, bare, un_in e un, hok_re hok eh (fun _ z => by cases z) (fun _ z => by cases z) (lstP_ok hx' (hok h _ eh)), rv, qq⟩
/-- a def that hands back such a list -/
theorem fn_seal (F : FnOk P w K mg base C8.CX0 k f fd ps sp)
    (hs : ∀ vs H Q E, sp' vs H Q E → sp vs H (fun v H' => ∃ (h : Addr) (ψ : List V → Prop) (xs : List V), H h = none ∧ ψ xs ∧ H' h = some (.lst xs) ∧ Q v (upd H' h (LstP h ψ))) E) :
    FnOk P w K mg base C8.CX0 k f fd ps sp' := by
  refine ⟨fun vs H Q E q => F.len _ _ _ _ (hs vs H Q E q), fun A outer s H args us vs Q E hr e0 hb hv q => ?_⟩
  refine codeAny_mono (F.run A outer s _ args us vs _ E hr e0 hb hv (hs vs H Q E q)) fun r s' c => ?_
  cases r with
  | error e => exact c
  | ok fl =>
    cases fl with
    | next => exact c
    | brk => exact c
    | cont => exact c
    | ret u =>
      obtain ⟨v, H', os, bare, un, hok, rv, h, ψ, xs, hn, hx, eh, qq⟩ := c
      exact ⟨v, _, os, bare, un_out eh hn un, hok_re hok eh (fun _ z => by cases z) (fun _ z => by cases z) (lstP_ok hx (hok h _ eh)), rv, qq⟩
theorem cal_hide {x : Str} (F : C8.Cal P w K mg base k x sp [])
    (hs : ∀ vs H Q E, sp' vs H Q E → ∃ (h : Addr) (ψ : List V → Prop), H h = some (LstP h ψ) ∧ (∃ xs, ψ xs) ∧ ∀ xs, ψ xs → sp vs (upd H h (.lst xs)) (fun v H' => ∃ xs', ψ xs' ∧ H' h = some (.lst xs') ∧ Q v (upd H' h (LstP h ψ))) E) :
    C8.Cal P w K mg base k x sp' [] := by
  obtain ⟨f, fd, ps, ds, G, a, b, c, d⟩ := F.ex
  exact ⟨f, fd, ps, ds, fn_hide G hs, a, b, c, d⟩
theorem cal_seal {x : Str} (F : C8.Cal P w K mg base k x sp [])
    (hs : ∀ vs H Q E, sp' vs H Q E → sp vs H (fun v H' => ∃ (h : Addr) (ψ : List V → Prop) (xs : List V), H h = none ∧ ψ xs ∧ H' h = some (.lst xs) ∧ Q v (upd H' h (LstP h ψ))) E) :
    C8.Cal P w K mg base k x sp' [] := by
  obtain ⟨f, fd, ps, ds, G, a, b, c, d⟩ := F.ex
  exact ⟨f, fd, ps, ds, fn_seal G hs, a, b, c, d⟩
end
end TH

namespace TH
open PySem PySem.Spec PyProof.Rows L2
section
variable {K : PySem.W.Frag} {σ : L2.St} {H : Hp} {Q : VK} {l : Addr} {xs : List V} {tr : TA}
theorem tyL (h : H l = some (.lst xs)) : tyV K "list" (.ref l) H := .inl ⟨rfl, _, sqL h⟩
theorem w_app {y : V} (h : H l = some (.lst xs)) (hz : xs.length < 1000000) (k : Q .non (upd H l (.lst (xs ++ [y])))) : rAppend (.ref l) [y] H Q := ⟨l, xs, y, rfl, rfl, h, Nat.lt_of_lt_of_le hz (small2 (Nat.le_refl _)), k⟩
theorem w_popAt {j : Nat} {y : V} (h : H l = some (.lst xs)) (hy : xs[j]? = some y) (hz : xs.length ≤ 1000000) (k : Q y (upd H l (.lst (xs.eraseIdx j)))) : rPopAt (.ref l) [.int (j : Nat)] H Q := by
  have hj : j < xs.length := (List.getElem?_eq_some_iff.mp hy).1
  refine ⟨l, xs, j, j, y, rfl, rfl, h, by omega, by omega, ?_, hy, k⟩
  unfold seqIndex?
  have h1 : ¬ ((j : Int) < 0) := by omega
  have h2 : ((0 : Int) ≤ (j : Int) && decide ((j : Int) < (xs.length : Int))) = true := by simp; omega
  simp only [if_neg h1]
  rw [if_pos h2]
  rfl
theorem w_isrng {j : Int} {R : Int → Prop} (h0 : -1000000000 ≤ j) (h1 : j ≤ 1000000000) (k : R j) : ∃ j' : Int, [V.int j] = [.int j'] ∧ -(2 ^ 62) ≤ j' ∧ j' < 2 ^ 62 ∧ R j' := ⟨j, rfl, by omega, by omega, k⟩
theorem w_parT3 {i j m : Nat} {D : Ends} (k : tr σ H fun vs H1 => ∃ u v w, vs = [u, v, w] ∧ D.nx (((σ.set i (some u)).set j (some v)).set m (some w)) H1) : tPar3 i j m tr D σ H := k
theorem w_par3 {u v w : V} {R : V → V → V → Prop} (k : R u v w) : ∃ u' v' w', [u, v, w] = [u', v', w'] ∧ R u' v' w' := ⟨u, v, w, rfl, k⟩
/-- items in another order -/
theorem dpa_perm {xs ys : List V} (p : ys.Perm xs) : ∀ {ds : List D}, DpAll K H xs ds → ∃ es, es.Perm ds ∧ DpAll K H ys es := by
  induction p with
  | nil => intro ds h; cases h; exact ⟨[], .nil, .nil⟩
  | cons x _ ih =>
    intro ds h
    cases h with
    | cons h1 h2 =>
      obtain ⟨es, p1, p2⟩ := ih h2
      exact ⟨_ :: es, .cons _ p1, .cons h1 p2⟩
  | swap x y _ =>
    intro ds h
    cases h with
    | cons h1 h2 => cases h2 with
      | cons h3 h4 => exact ⟨_, .swap _ _ _, .cons h3 (.cons h1 h4)⟩
  | trans _ _ ih1 ih2 =>
    intro ds h
    obtain ⟨es, p1, p2⟩ := ih2 h
    obtain ⟨fs, p3, p4⟩ := ih1 p2
    exact ⟨fs, p3.trans p1, p4⟩
theorem erase_perm {α : Type} : ∀ {xs : List α} {j : Nat} {y : α}, xs[j]? = some y → (y :: xs.eraseIdx j).Perm xs
  | [], _, _, h => by simp at h
  | x :: xs, 0, y, h => by cases h; exact .refl _
  | x :: xs, j + 1, y, h => .trans (.swap _ _ _) (.cons x (erase_perm (xs := xs) (j := j) (y := y) (by simpa using h)))
/-- what is left and what was taken, after one more -/
theorem perm_take {α : Type} {xs fd lf : List α} {j : Nat} {y : α} (p : (fd ++ lf).Perm xs) (h : lf[j]? = some y) : ((fd ++ [y]) ++ lf.eraseIdx j).Perm xs := by
  refine .trans ?_ p
  rw [List.append_assoc]
  refine List.Perm.append_left fd ?_
  exact erase_perm h
end
section
variable {J : It} {n : Nat} {G : Hp → Prop} {Y : Nat → Hp → V → Hp → Prop} {K : PySem.W.Frag} {g : TG} {te : TE} {H1 : Hp} {Dl : Addr}
/-- what a comprehension without if makes, whose items are told by a word alone -/
theorem lc_some {σ0 : L2.St} {C : L2.St → Prop} {Qd : Hp → Prop} (w : Walk J n G Y) (φ : Nat → D → Prop) (himm : ∀ i d, φ i d → imm d = true) (hG : ∀ H', Ex H1 H' → G H') (hD : H1 Dl = none) (hn : n ≤ 1000000)
    (hs : ∀ i x H' H'', i < n → Ex H1 H' → Y i H' x H'' → ∀ (R : VK), (∀ v d H3, Ex H' H3 → φ i d → Dp K H3 v d → R v H3) → g x σ0 H'' fun σ2 H2 => C σ2 ∧ te σ2 H2 R)
    (k : ∀ H' ws ds, Ex H1 H' → H' Dl = some (.lst ws) → ds.length = n → (∀ i d, ds[i]? = some d → φ i d) → DpAll K H' ws ds → Qd H') :
    ∃ W : Nat → Nat → Hp → Prop, (∃ m, W 0 m (upd H1 Dl (.lst []))) ∧ ∀ i m H, W i m H →
      (J.stop i H ∧ Qd H) ∨ (J.go i H ∧ ∃ Nx : Hp → Prop, (∀ H', Nx H' → ∃ m', m' < m ∧ W (i + 1) m' H') ∧ ∀ x H', J.yld i H x H' → g x σ0 H' fun σ2 H2 => C σ2 ∧ tYes σ2 H2 fun b H3 =>
        if b = true then te σ2 H3 fun y H4 => ∃ acc, H4 Dl = some (.lst acc) ∧ acc.length < sizeLine ∧ Nx (upd H4 Dl (.lst (acc ++ [y]))) else Nx H3) := by
  refine lc_it' w (fun i H' => Ex H1 H' ∧ ∃ ws ds, H' Dl = some (.lst ws) ∧ ds.length = i ∧ (∀ j d, ds[j]? = some d → φ j d) ∧ DpAll K H' ws ds) ⟨Ex.new hD, [], [], upd_same, rfl, fun j d h => by simp at h, .nil⟩ (fun i H' _ p => hG H' p.1) (fun i x H' H'' hi p y => ?_) (fun H' p => ?_)
  · obtain ⟨p1, ws, ds, p2, p3, p4, p5⟩ := p
    have := hs i x H' H'' hi p1 y (fun y H4 => ∃ acc, H4 Dl = some (.lst acc) ∧ acc.length < sizeLine ∧ (fun i H' => Ex H1 H' ∧ ∃ ws ds, H' Dl = some (.lst ws) ∧ ds.length = i ∧ (∀ j d, ds[j]? = some d → φ j d) ∧ DpAll K H' ws ds) (i + 1) (upd H4 Dl (.lst (acc ++ [y])))) (fun v d H3 e3 hφ hv => ?_)
    · exact this
    · have q2 : H3 Dl = some (.lst ws) := e3 _ _ p2
      have him : immAll ds = true := immAll_iff.mpr fun d hd => by
        obtain ⟨j, hj⟩ := List.mem_iff_getElem?.mp hd
        exact himm _ _ (p4 j d hj)
      refine ⟨ws, q2, Nat.lt_of_le_of_lt (by rw [dpa_len p5, p3]; exact Nat.le_refl _) (Nat.lt_of_lt_of_le hi (small2 hn)), (p1.trans e3).mut hD, ws ++ [v], ds ++ [d], upd_same, by rw [List.length_append, p3]; rfl, fun j d' hj => ?_, dpa_snoc ((Tx.updL q2).dpa him (e3.dpa p5)) ((Tx.updL q2).dp (himm _ _ hφ) hv)⟩
      rcases Nat.lt_or_ge j ds.length with z | z
      · rw [List.getElem?_append_left z] at hj
        exact p4 j d' hj
      · rw [List.getElem?_append_right z] at hj
        have z2 : j - ds.length = 0 := by
          refine Decidable.byContradiction fun z3 => ?_
          rw [List.getElem?_eq_none (by simp; omega)] at hj
          cases hj
        have z3 : j = i := by omega
        rw [z2] at hj
        subst z3
        cases hj
        exact hφ
  · obtain ⟨p1, ws, ds, p2, p3, p4, p5⟩ := p
    exact k H' ws ds p1 p2 p3 p4 p5
end
theorem walk_rng {n : Nat} : Walk (Itr 0 n) n (fun _ => True) (YFn fun i => .int (i : Nat)) := (walk_range (lo := 0) (n := n)).mono (fun _ h => h) fun i H x H' _ _ y => ⟨y.1, by
  have e := y.2
  simp only [Int.zero_add] at e
  exact e⟩
theorem getD_at {α : Type} {r : List α} {i : Nat} {d : α} (h : i < r.length) : r[i]? = some (r.getD i d) := by rw [List.getD_eq_getElem?_getD, List.getElem?_eq_getElem h]; rfl
theorem atI_zero {x : V} {xs : List V} : atI (x :: xs) 0 = some x := atI_at (xs := x :: xs) (j := 0) rfl
theorem erase_map {α β : Type} (f : α → β) : ∀ (xs : List α) (i : Nat), (xs.eraseIdx i).map f = (xs.map f).eraseIdx i
  | [], _ => rfl
  | _ :: _, 0 => rfl
  | x :: xs, i + 1 => by
    show f x :: (xs.eraseIdx i).map f = f x :: (xs.map f).eraseIdx i
    rw [erase_map f xs i]
theorem w_setN {H : Hp} {p : Addr} {j : Nat} {xs : List V} {v : V} {QH : Hp → Prop} (h : H p = some (.lst xs)) (hj : j < xs.length) (k : QH (upd H p (.lst (xs.set j v)))) : rSetL (.ref p) (.int (j : Nat)) v H QH := ⟨p, xs, j, j, rfl, rfl, h, by
  unfold ixN
  rw [if_pos (by omega), if_pos (by omega)]
  simp, k⟩
theorem rep_one {α : Type} (x : α) : ∀ k : Nat, (List.replicate k [x]).flatten = List.replicate k x
  | 0 => rfl
  | k + 1 => by rw [List.replicate_succ, List.flatten_cons, rep_one x k]; rfl
theorem dpa_rep {K : PySem.W.Frag} {H : Hp} {v : V} {d : D} (h : Dp K H v d) : ∀ k : Nat, DpAll K H (List.replicate k v) (List.replicate k d)
  | 0 => .nil
  | k + 1 => .cons h (dpa_rep h k)
/-- numbers told one by one -/
theorem ints_of {P : Nat → Int → Prop} : ∀ (ds : List D), (∀ i d, ds[i]? = some d → ∃ x, d = .int x ∧ P i x) → ∃ ns : List Int, ds = ns.map PyData.int ∧ ∀ i x, ns[i]? = some x → P i x
  | [], _ => ⟨[], rfl, fun i x h => by simp at h⟩
  | d :: ds, h => by
    obtain ⟨x, rfl, hx⟩ := h 0 d rfl
    obtain ⟨ns, rfl, hns⟩ := ints_of (P := fun i => P (i + 1)) ds fun i d hd => h (i + 1) d hd
    refine ⟨x :: ns, rfl, fun i y hy => ?_⟩
    cases i with
    | zero => cases hy; exact hx
    | succ i => exact hns i y hy
end TH

namespace TH
open PySem PySem.Spec PyProof.Rows L2
section
open PySem.W
variable {prog : Program} {w : World} {A : Around} {s : Shared}
/-- rows of one width can be sorted (the empty row, where it stands alone) -/
theorem sorts_rows {vs : List Value} {rs : List (List Int)} {wd : Nat} (e : EachIs (fun v d => ∃ as, Reads s.heap v d as) vs (rs.map row)) (hl : ∀ r ∈ rs, r.length = wd) (h1 : wd = 0 → rs.length ≤ 1) (hu : A.units + 3 < cLine) :
    SortsAt prog w A s (dataKind s.heap (rs.map row)) vs := by
  have hal : AllAlike (rs.map row) := AllAlike.of fun a b => by
    show alike (.tuple (a.map .int)) (.tuple (b.map .int)) = true
    simpa [alike] using alike_ints a b
  have hdep : ∀ d, d ∈ rs.map row → A.units + d.depth < cLine := fun d hd => by
    obtain ⟨r, _, rfl⟩ := List.mem_map.mp hd
    show A.units + (PyData.depthAll (r.map .int) + 1) < cLine
    rw [depth_ints]
    omega
  by_cases h0 : wd = 0
  · have hlen := h1 h0
    refine ⟨fun v hv => ?_, tuples' true, ?_, fun h2 => ?_⟩
    · obtain ⟨d, hd, as, r⟩ := e.left v hv
      exact ⟨_, dataKind_some hal hd r⟩
    · intro E x y a b Q ha hb hq
      obtain ⟨d, as, hd, ra, rfl⟩ := dataKind_inv ha
      obtain ⟨d', as', hd', rb, rfl⟩ := dataKind_inv hb
      obtain ⟨r1, m1, rfl⟩ := List.mem_map.mp hd
      obtain ⟨r2, m2, rfl⟩ := List.mem_map.mp hd'
      have z1 : r1 = [] := List.length_eq_zero_iff.mp (by rw [hl r1 m1, h0])
      have z2 : r2 = [] := List.length_eq_zero_iff.mp (by rw [hl r2 m2, h0])
      subst z1 z2
      have hq' : Q (dataLt (.tuple []) (.tuple [])) s := hq
      rw [dataLt_tuple] at hq'
      cases ra with
      | @tuple l o xs n _ _ g1 g2 g3 g4 =>
        cases rb with
        | @tuple l' o' xs' n' _ _ k1 k2 k3 k4 =>
          have n1 : xs.size = 0 := by simpa using SeqAt.ReadsAll.length _ _ _ g4
          have n2 : xs'.size = 0 := by simpa using SeqAt.ReadsAll.length _ _ _ k4
          refine kat_lt g1 g3 k1 k3 ?_
          refine katLex_alike [] [] 0 _ _ _ _ g4 k4 (by simp [alikeAll]) ?_ (fun _ _ x r t ex => nomatch ex) (by rw [n1, n2]; rfl) hq'
          show A.units + min (PyData.depthAll []) (PyData.depthAll []) < cLine
          simp [PyData.depthAll]
          omega
    · have := e.length
      rw [List.length_map] at this
      omega
  · refine SortsAt.data e hal (.inl fun d hd => ?_) hdep
    obtain ⟨r, m, rfl⟩ := List.mem_map.mp hd
    cases r with
    | nil => exact absurd (hl [] m).symm h0
    | cons x r => exact ⟨_, _, rfl⟩
end
/-! ### sorted(a dict whose keys are rows) -/
open PySem.W in
theorem sort_rows {prog : Program} {w : World} {A : Around} {E : Value → Shared → Prop} {s : Shared} {h0 : Heap} {a : Addr} {vs : List Value} {bs : List (V × D)} {R : Value → V × D → Prop} {rs : List (List Int)} {wd n : Nat} {Q : Value → Shared → Prop}
    (ho : s.heap.get? a = some (seqObj "list" vs.toArray n)) (old : ∀ b o, h0.get? b = some o → b ≠ a ∧ s.heap.get? b = some o) (hbs : bs.map (·.2) = rs.map row) (e : EachIs R vs bs) (er : EachIs (fun v b => ∃ as, Reads h0 v b.2 as) vs bs)
    (hl : ∀ r ∈ rs, r.length = wd) (h1 : wd = 0 → rs.length ≤ 1) (hL : bs.length ≤ sizeLine) (hu : A.units + 4 < cLine)
    (h : ∀ out, out.length = bs.length → EachIs R out (bs.mergeSort (dataLe false fun b => b.2)) → Q .none { s with heap := PyProof.Rows.sortedHeap s.heap a vs (List.toArray out) }) :
    wpAny (model prog w) A (call (.builtin "list.sort") [.ref a]) Q E s := by
  have er' : EachIs (fun v b => ∃ as, Reads (sortingHeap s.heap a vs) v b.2 as) vs bs := er.mono fun _ _ ⟨as, r⟩ => ⟨as, PyProof.Rows.Reads.keeps (fun b o q => sortingHeap_old (old b o q).1 (old b o q).2) r⟩
  have hal : AllAlike (bs.map fun b => b.2) := by
    rw [hbs]
    exact AllAlike.of fun a b => by
      show alike (.tuple (a.map .int)) (.tuple (b.map .int)) = true
      simpa [alike] using alike_ints a b
  have S : SortsAt prog w A.in1 { s with heap := sortingHeap s.heap a vs } (dataKind (sortingHeap s.heap a vs) (bs.map fun b => b.2)) vs := by
    have em := each_map (R := fun v d => ∃ as, Reads (sortingHeap s.heap a vs) v d as) (fun b : V × D => b.2) er'
    rw [hbs] at em ⊢
    exact sorts_rows (s := { s with heap := sortingHeap s.heap a vs }) em hl h1 (by show A.units + 1 + 3 < cLine; omega)
  refine wpAny_call_entry PyProof.Rows.slot_list_sort ⟨_, ho, rfl⟩ PyProof.Rows.entry_list_sort (list_sort_vals ho S (by rw [e.length]; exact hL) ⟨.none, rfl, ?_⟩) (PyProof.Rows.args_list_sort _)
  refine h _ ?_ (sortVals_data false e er' hal)
  rw [sortVals_length false rfl]
  exact e.length
/-- the dict's keys, told as rows -/
def KeyRows (kvs : List (List Key × V)) (rs : List (List Int)) : Prop := kvs.map (·.1) = rs.map fun r => r.map Sum.inl
theorem kv_row (r : List Int) : (r.map (Sum.inl : Int → Key)).map kV = r.map V.int := by
  rw [List.map_map]
  rfl
theorem keys_dpa {K : PySem.W.Frag} {H : Hp} : ∀ {kvs : List (List Key × V)} {bs : List Addr} {rs : List (List Int)}, IsKeys H kvs bs → KeyRows kvs rs → DpAll K H (bs.map V.ref) (rs.map row)
  | [], _, rs, .nil, e => by
    cases rs with
    | nil => exact .nil
    | cons r rs => cases e
  | p :: kvs, b :: bs, rs, .cons h t, e => by
    cases rs with
    | nil => cases e
    | cons r rs =>
      have e' : p.1 :: kvs.map (·.1) = (r.map Sum.inl) :: rs.map fun r => r.map Sum.inl := e
      injection e' with e1 e2
      rw [e1, kv_row] at h
      exact .cons (dp_row_of (sqT h)) (keys_dpa t e2)
def rSortedDT (K : PySem.W.Frag) : List V → Hp → VK → Prop := fun xs H Q => ∃ (d : Addr) (kvs : List (List Key × V)) (rs : List (List Int)) (wd : Nat), xs = [.ref d] ∧ Rd H d (.dT kvs) ∧ KeyRows kvs rs ∧ (∀ r ∈ rs, r.length = wd) ∧ (wd = 0 → rs.length ≤ 1) ∧
  ∀ (ws : List V) (p : Addr), H p = none → DpAll K H ws ((rs.map row).mergeSort (PySem.W.dataLe false id)) → Q (.ref p) (upd H p (.lst ws))
section
variable {X : Cx} {K : PySem.W.Frag}
theorem call_sortedDT (hc : X.calm = true) (hu : X.A.units + 64 < cLine) (hK : X.K = K := by rfl) : CallR X (.builtin "sorted") (rSortedDT K) := by
  subst hK
  intro pins s σ H xs us Q I r h
  obtain ⟨d, kvs, rs, wd, rfl, hd, hkr, hl, h1, q⟩ := h
  obtain ⟨u, rfl, rx⟩ := r.one
  obtain rfl : u = Value.ref d := rx
  obtain ⟨z, lo, ks, pr, o, es, ep, ho, hx, hdt, he, hn⟩ := (show ObjOk X.prog X.w H s.heap d (.dT kvs) from hd.ok I.hok)
  have l1 : es.size = ks.length := size_of_entries he
  have l2 : kvs.length = ks.length := Paired.length pr
  have l3 : kvs.length = rs.length := by
    have := congrArg List.length hkr
    simpa using this
  refine Calls.call_function_entry PyProof.Rows.kind_sorted PyProof.Rows.plain_sorted PyProof.Rows.entry_sorted (PyProof.Rows.args_sorted1 _) ?_
  unfold Builtin.«sorted»
  refine wpAny_bind (m := checkCount "sorted" 1 1 _) (wpAny_pure ?_)
  refine wpAny_bind (PySem.W.kdu_collect (A := X.A.in1) (kdl_raw lo hx hdt) (I.ok.hd hc) ho (by omega) fun h' tk acc kp it => ?_)
  have hal : acc.toList.length = ks.length := by
    rw [Array.length_toList, it.1]
    exact l1
  have ea : acc.toList = (ks.map fun x => x.2.1).map Value.ref := by
    refine List.ext_getElem (by rw [hal]; simp) fun j j1 j2 => ?_
    have hj : acc[j]? = some (acc.toList[j]) := by
      rw [← Array.getElem?_toList]
      exact List.getElem?_eq_getElem j1
    obtain ⟨en, g1, g2⟩ := it.2 j _ hj
    have qe := entry_at he j
    have jk : j < ks.length := by omega
    rw [g1, List.getElem?_eq_getElem jk] at qe
    have e2 : en = entryOfKey (tupleKind (mixKind X.prog X.w)) ks[j] := Option.some.inj qe
    rw [g2, e2, List.getElem_map, List.getElem_map]
    rfl
  have I1 : Inv X pins σ H { s with heap := h', toks := tk } := I.kept kp
  have rv : Vals ((ks.map fun x => x.2.1).map V.ref) acc.toList := by
    rw [ea]
    exact vals_refs _
  have hda : DpAll X.K H ((ks.map fun x => x.2.1).map V.ref) (rs.map row) := keys_dpa (isKeys_of pr) hkr
  have hL : acc.toList.length ≤ sizeLine := by omega
  refine wpAny_bind (wpAny_newList ?_ hL)
  have hoL : (h'.push (seqObj "list" acc.toList.toArray 0)).get? h'.objs.size = some (seqObj "list" acc.toList.toArray 0) := Heap.get?_push_size _ rfl
  show wpAny _ _ _ _ _ { s with heap := h'.push (seqObj "list" acc.toList.toArray 0), toks := tk }
  have em : (((ks.map fun x => x.2.1).map V.ref).zip (rs.map row)).map (·.2) = rs.map row := by
    rw [List.map_snd_zip]
    simp
    omega
  have e0 := each_of rv hda
  have er0 : PySem.W.EachIs (fun u (b : V × D) => ∃ as, Reads h' u b.2 as) acc.toList (((ks.map fun x => x.2.1).map V.ref).zip (rs.map row)) := e0.mono fun u b hb => Dp.reads I1 b.2 b.1 u hb.2 hb.1
  have hzl : (((ks.map fun x => x.2.1).map V.ref).zip (rs.map row)).length = acc.toList.length := e0.length.symm
  refine wpAny_bind (wpAny_holding (sort_rows (s := { s with heap := h'.push (seqObj "list" acc.toList.toArray 0), toks := tk }) (h0 := h') hoL (fun b ob e => ⟨Nat.ne_of_lt (Heap.lt_size e), Heap.get?_push_of_some _ e⟩) em e0 er0 hl h1 (by omega) (by
    show X.A.units + 1 + 4 < cLine
    omega) fun out hol heo => ?_))
  obtain ⟨e', he'⟩ := PyProof.Rows.sortedHeap_at (vs := acc.toList) (out := List.toArray out) hoL
  obtain ⟨hv, hdo⟩ := each_back heo
  have e2 : ((((ks.map fun x => x.2.1).map V.ref).zip (rs.map row)).mergeSort (PySem.W.dataLe false fun b => b.2)).map (·.2) = (rs.map row).mergeSort (PySem.W.dataLe false id) := by
    rw [PySem.W.sort_maps (s := PySem.W.dataLe false id) (fun b : V × D => b.2) (fun a _ b _ => dataLe_map _ a b), em]
  rw [e2] at hdo
  refine wpAny_pure ⟨_, rfl, .ref h'.objs.size, upd H h'.objs.size (.lst _), I1.laid (t' := tk) (fun b ob e => ?_) (Nat.le_refl _) ⟨?_, out, e', hv, he'⟩, rfl, q _ _ (I1.hok.fresh (Nat.le_refl _)) hdo⟩
  · have hb : b < h'.objs.size := Heap.lt_size e
    rw [PyProof.Rows.sortedHeap_old (Nat.ne_of_lt hb) (by rw [Heap.size_push]; exact Nat.lt_succ_of_lt hb)]
    exact Heap.get?_push_of_some _ e
  · rw [hv.length, hol, hzl]
    exact hL
end
end TH

namespace TH
open PySem PySem.Spec PyProof.Rows L2
/-! ### {k: v}, k a tuple -/
/-- the new dict stands empty while the pair is made -/
def tDispT1 (tk tv : TE) : TE := fun σ H Q => ∀ p, H p = none → tk σ (upd H p (.dT [])) fun x H1 => tv σ H1 fun y H2 => ∃ (b : Addr) (k : List Key), x = .ref b ∧ H2 p = some (.dT []) ∧ H2 b = some (.tup (k.map kV)) ∧ Q (.ref p) (upd H2 p (.dT [(k, y)]))
section
variable {X : Cx} {pos : Pos} {ke ve : Expr} {tk tv : TE}
theorem pe_dispT1 (hu : X.A.units + 1 < cLine) (hk : PE X ke tk) (hv : PE X ve tv) : PE X (.Dict [some ke] [ve] pos) (tDispT1 tk tv) := by
  refine ⟨fun pins s σ H Q I q => ?_⟩
  have hn := I.hok.fresh (Nat.le_refl s.heap.objs.size)
  have I1 : Inv X pins σ (upd H s.heap.objs.size (.dT [])) { s with heap := s.heap.push { cls := .type "dict", data := .dict #[] }, toks := s.toks } :=
    I.laid (fun b ob e => Heap.get?_push_of_some _ e) (Nat.le_refl _) (dt_empty s.heap I.big)
  refine wpAny_Dict_any rfl rfl (by simp) (by simp) ?_
  refine pairTrees_cons_walk (thn (hk.run pins _ σ _ _ I1 (q _ hn)) fun u s1 ⟨x, H1, I2, rx, q1⟩ => thn (hv.run pins s1 σ H1 _ I2 q1) fun y s2 ⟨yv, H2, I3, ry, b, k, ex, ed, eb, q2⟩ => pairTrees_nil_walk ?_)
  subst ex
  obtain rfl : u = Value.ref b := rx
  show wpAny _ _ (forIn _ _ _) _ _ _
  rw [List.forIn_cons]
  obtain ⟨z, lo, xs, rel, dd⟩ := dt_of I3.hok ed
  cases rel
  refine wpAny_bind (wpAny_bind (wpAny_dictSet_heap (hsz := Nat.zero_le _) (show X.A.units < cLine by omega) (key_of I3.hok eb) dd fun h' dd' same => wpAny_pure ?_))
  dsimp only
  rw [List.forIn_nil]
  refine wpAny_pure ?_
  obtain ⟨ob, es, ep, g1, g2, g3, g4, _, g5⟩ := dd'
  refine ⟨.ref s.heap.objs.size, _, d_write I3 (by rw [ed]; exact True.intro) same ⟨ob, g1⟩ (ob := .dT [(k, yv)]) ⟨by rw [sizeLine_eq]; simp, lo, storedH [] k b y, KT.keeps (KT.put (kvs := []) .nil k eb ry) fun c ys ec => ?_, ob, es, ep, g1, g2, g3, g4, g5⟩, rfl, q2⟩
  rw [upd_ne fun z => by rw [z, ed] at ec; cases ec]
  exact ec
end
/-! ### a promise told otherwise -/
section
variable {P : Program} {w : World} {K : PySem.W.Frag} {mg : Str → Option Value} {base : Heap} {k : Nat} {sp sp' : Sp} {x : Str} {C : Addr} {m : Str}
theorem fn_mono {f : Addr} {fd : FuncData} {ps : List Str} (F : FnOk P w K mg base C8.CX0 k f fd ps sp) (hs : ∀ vs H Q E, sp' vs H Q E → sp vs H Q E) : FnOk P w K mg base C8.CX0 k f fd ps sp' :=
  ⟨fun vs H Q E q => F.len _ _ _ _ (hs vs H Q E q), fun A outer s H args us vs Q E hr e0 hb hv q => F.run A outer s _ args us vs _ E hr e0 hb hv (hs vs H Q E q)⟩
theorem cal_mono {dvs : List V} (F : C8.Cal P w K mg base k x sp dvs) (hs : ∀ vs H Q E, sp' vs H Q E → sp vs H Q E) : C8.Cal P w K mg base k x sp' dvs := by
  obtain ⟨f, fd, ps, ds, G, a, b, c, d⟩ := F.ex
  exact ⟨f, fd, ps, ds, fn_mono G hs, a, b, c, d⟩
theorem met_mono {dvs : List V} (F : C8.Met P w K mg base k C m sp dvs) (hs : ∀ vs H Q E, sp' vs H Q E → sp vs H Q E) : C8.Met P w K mg base k C m sp' dvs := by
  obtain ⟨f, fd, ps, ds, c, me, G, b, d⟩ := F.ex
  exact ⟨f, fd, ps, ds, c, me, fn_mono G hs, b, d⟩
end
/-! ### name = {k: v for ..} on one line, the name a local -/
section
variable {X : Cx}
theorem ps_setDc {i : Nat} {y : Str} {py : Pos} {kx vx tg iter : Expr} {ifs : List Expr} {scope : Scope} {own : List (Str × Nat)} {pos spos : Pos} {wi : TI} {g : TG} {tt : TT} {tk tv : TE} (hc : X.calm = true) (hN : X.N.Nodup) (hy : X.N[i]? = some y) (hyl : X.env.scope.names.lookup y = some .local)
    (hsw : swapsWith (.DictComp kx vx [⟨tg, iter, ifs, 0⟩] scope pos) (some (.Name y py)) spos.line X.env = pure true) (hi : PI X tg iter wi) (ok : BlkOk X.N X.env.scope scope own)
    (hg : ∀ (s : Shared) (H : Hp) (C : Addr) (cl : List (Str × Addr)) (fp : List Addr), PG (X.blk s H scope (compEnvC scope cl C X.env) fp) tg g) (ht : ∀ (s : Shared) (H : Hp) (C : Addr) (cl : List (Str × Addr)) (fp : List Addr), PTs (X.blk s H scope (compEnvC scope cl C X.env) fp) ifs tt)
    (hk : ∀ (s : Shared) (H : Hp) (C : Addr) (cl : List (Str × Addr)) (fp : List Addr), PE (X.blk s H scope (compEnvC scope cl C X.env) fp) kx tk)
    (he : ∀ (s : Shared) (H : Hp) (C : Addr) (cl : List (Str × Addr)) (fp : List Addr), PE (X.blk s H scope (compEnvC scope cl C X.env) fp) vx tv) (hs : ∀ x, foldedSetIterable iter X.env x = pure x := by intro _; rfl) :
    PS X (.Assign [.Name y py] (.DictComp kx vx [⟨tg, iter, ifs, 0⟩] scope pos) spos) (tAsg (tDc wi g tt tk tv (own.map (·.2))) (gName i)) := by
  refine ⟨fun pins s σ H D I h => ?_⟩
  rw [exec_Assign_Name_used _ _ _ _ hsw]
  refine wpAny_bind (wpAny_standAt (wpAny_bind ?_))
  show wpAny _ X.A (do let _ ← comprehension (.DictComp kx vx [⟨tg, iter, ifs, 0⟩] scope pos) scope X.env (firstIterPos [⟨tg, iter, ifs, 0⟩] pos) newDict false (eval iter X.env) (some (assign (.Name y py) X.env))) _ _ s
  have h' : tDc wi g tt tk tv (own.map (·.2)) σ H (fun x H1 => gName i x σ H1 D.nx) := h
  refine wpAny_bind (thn (dc_core (Qf := fun _ s' => SP X pins D .next s') hc hN I hi ok hg ht hk he hs h' fun L C s' m H' I' q hn f => ?_) fun _ s' hq => wpAny_pure (wpAny_pure hq))
  show wpAny _ _ (assign (.Name y py) X.env (.ref L)) _ _ _
  refine wpAny_assign_Name (store_ok2 (v := V.ref L) I' hN hy (.inl hyl) rfl (fun s2 I2 ⟨a, sb, ha⟩ => ?_) (.inr hyl))
  obtain ⟨f0, f1, f2, f3, f4, f5⟩ := f
  have haC : C ≠ a := by
    intro e
    rcases ha with z | z
    · exact f1 (e.trans z)
    · exact f4 y a z e.symm
  refine ⟨m, hn.sameBut sb haC, fun h3 sb3 => ⟨_, H', I2.turned (t' := s2.toks) (fun b o hb e => (sb3.2 b hb).trans e) f0 f1 f3 f4 f5, q⟩⟩
theorem sw_trueD {kx vx : Expr} {gs : List Comprehension} {scope : Scope} {pos py : Pos} {y : Str} {l : Nat} {env : Env} (hk : env.scope.kind = .function) (hy : env.scope.names.lookup y = some .local) (hl : (py.line == pos.line) = true)
    (ha : (scope.names.any fun (n, k) => n == y && (k == .local || k == .cell)) = false) : swapsWith (.DictComp kx vx gs scope pos) (some (.Name y py)) l env = pure true := by
  have ky : env.kindOf y = some .local := hy
  have hb : env.blockKind = .function := by
    unfold Env.blockKind
    rw [hk]
    rfl
  unfold swapsWith
  simp only [hb, ky, ha, Expr.pos, hl]
  rfl
end
end TH

namespace TH
open PySem PySem.Spec PyProof.Rows L2
section
variable {K : PySem.W.Frag} {σ : L2.St} {H : Hp} {Q : VK} {D : Ends} {ta tb td ty tv tx tk te : TE} {tr : TA} {t : TS} {R : It → Hp → Prop}
theorem w_dput (k : tv σ H fun v H1 => td σ H1 fun x H2 => ty σ H2 fun y H3 => ∃ a H4, x = .ref a ∧ DPut H3 a y v H4 ∧ D.nx σ H4) : sDPut td ty tv D σ H := k
theorem w_lock (k : ∃ d u, H d = some u ∧ Mut (some u) ∧ ∀ od, t ⟨fun σ' H' => H' d = some (.frz od u) ∧ D.nx σ' (upd H' d u), fun v H' => H' d = some (.frz od u) ∧ D.rt v (upd H' d u), fun σ' H' => H' d = some (.frz od u) ∧ D.bk σ' (upd H' d u), fun σ' H' => H' d = some (.frz od u) ∧ D.ct σ' (upd H' d u)⟩ σ (upd H d (.frz od u))) : tLock t D σ H := k
theorem w_ikeys (k : td σ H fun x H1 => ∃ d o, x = .ref d ∧ ((∃ kvs, H1 d = some (.frz o (.dK kvs)) ∧ R (Itk d o kvs) H1) ∨ ∃ kvs, H1 d = some (.frz o (.dT kvs)) ∧ R (Itkt d o kvs) H1)) : iKeys td σ H R := k
theorem w_iitems (k : td σ H fun x H1 => ∃ d o kvs, x = .ref d ∧ H1 d = some (.frz o (.dK kvs)) ∧ R (Iti d o kvs) H1) : iItems td σ H R := k
theorem w_dispT1 (k : ∀ p, H p = none → tk σ (upd H p (.dT [])) fun x H1 => tv σ H1 fun y H2 => ∃ (b : Addr) (k : List Key), x = .ref b ∧ H2 p = some (.dT []) ∧ H2 b = some (.tup (k.map kV)) ∧ Q (.ref p) (upd H2 p (.dT [(k, y)]))) : tDispT1 tk tv σ H Q := k
theorem w_dnewT (k : ∀ p, H p = none → Q (.ref p) (upd H p (.dT []))) : tDNewT σ H Q := k
theorem w_dnewK (k : ∀ p, H p = none → Q (.ref p) (upd H p (.dK []))) : tDNewK σ H Q := k
theorem w_fld {f : Str} (k : ta σ H fun x H1 => ∃ a C dx fs v, x = .ref a ∧ H1 a = some (.ins C dx fs) ∧ Cls K C ∧ NoAttr K C f ∧ fs.lookup f = some v ∧ Q v H1) : tFld K ta f σ H Q := k
theorem w_sfld {f : Str} (k : tv σ H fun y H1 => ta σ H1 fun x H2 => ∃ a C dx fs, x = .ref a ∧ H2 a = some (.ins C dx fs) ∧ Cls K C ∧ NoAttr K C f ∧ fs.length < 1000 ∧ D.nx σ (upd H2 a (.ins C dx (putF f y fs)))) : sFld K ta tv f D σ H := k
theorem w_meth {C : Addr} {m : Str} {sp : Sp} {dvs : List V} {E : XK} (k : ta σ H fun x H1 => ∃ a dx fs, x = .ref a ∧ H1 a = some (.ins C dx fs) ∧ fs.lookup m = none ∧ tr σ H1 fun vs H2 => sp (x :: (vs ++ dvs)) H2 Q E) : tMeth C m sp dvs E ta tr σ H Q := k
theorem w_make {C : Addr} {sp : Sp} {dvs : List V} {E : XK} (k : tr σ H fun vs H1 => ∀ x dx, H1 x = none → H1 dx = none → dx ≠ x → sp (.ref x :: (vs ++ dvs)) (upd (upd H1 dx (.own x)) x (.ins C dx [])) (fun v H2 => v = .non ∧ Q (.ref x) H2) E) : tMake C sp dvs E tr σ H Q := k
theorem w_dget2 (k : td σ H fun x H1 => ∃ a, x = .ref a ∧ IsD H1 a ∧ ty σ H1 fun y H2 => tx σ H2 fun z H3 => ∃ o, DGet H3 a y o ∧ Q (o.getD z) H3) : tDGet2 td ty tx σ H Q := k
theorem w_revL (k : te σ H fun x H1 => ∃ a xs, x = .ref a ∧ SqL K H1 a xs ∧ ∀ p, H1 p = none → Q (.ref p) (upd H1 p (.lst xs.reverse))) : tRevL K te σ H Q := k
end
theorem hu64_of {A : Around} {k : Nat} (hr : Room k A) : A.units + 64 < cLine := hr.units
theorem Ex.both {H H' : Hp} {d : Addr} {u : HO} (e : Ex H H') : Ex (upd H d u) (upd H' d u) := fun a o h => by
  by_cases ha : a = d
  · subst ha
    rw [upd_same] at h ⊢
    exact h
  · rw [upd_ne ha] at h ⊢
    exact e a o h
theorem upd_comm' {H : Hp} {a b : Addr} {u v : HO} (h : b ≠ a) : upd (upd H a u) b v = upd (upd H b v) a u := by
  funext c
  by_cases h1 : c = a
  · subst h1
    rw [upd_ne (Ne.symm h), upd_same, upd_same]
  · by_cases h2 : c = b
    · subst h2
      rw [upd_same, upd_ne h1, upd_same]
    · rw [upd_ne h2, upd_ne h1, upd_ne h1, upd_ne h2]
/-! rows as keys -/
def insR (ks : List (List Int)) (r : List Int) : List (List Int) := if r ∈ ks then ks else ks ++ [r]
theorem mem_insR {ks : List (List Int)} {r x : List Int} : x ∈ insR ks r ↔ x ∈ ks ∨ x = r := by
  unfold insR
  split
  · next h => exact ⟨.inl, fun z => z.elim id fun e => e ▸ h⟩
  · rw [List.mem_append, List.mem_singleton]
theorem nodup_insR {ks : List (List Int)} {r : List Int} (h : ks.Nodup) : (insR ks r).Nodup := by
  unfold insR
  split
  · exact h
  · next hn => exact List.nodup_append.mpr ⟨h, by simp, fun a ha b hb e => hn (by rw [List.mem_singleton] at hb; rw [← hb, ← e]; exact ha)⟩
theorem inl_inj : ∀ {a b : List Int}, a.map (Sum.inl : Int → Key) = b.map Sum.inl → a = b
  | [], [], _ => rfl
  | [], _ :: _, h => by cases h
  | _ :: _, [], h => by cases h
  | x :: a, y :: b, h => by
    rw [List.map_cons, List.map_cons] at h
    injection h with h1 h2
    rw [Sum.inl.inj h1, inl_inj h2]
theorem keyRows_put {kvs : List (List Key × V)} {ks : List (List Int)} {r : List Int} {v : V} (h : KeyRows kvs ks) : KeyRows (putK kvs (r.map Sum.inl) v) (insR ks r) := by
  have hany : (kvs.any fun kv => decide (kv.1 = r.map Sum.inl)) = true ↔ r ∈ ks := by
    rw [List.any_eq_true]
    constructor
    · intro ⟨p, hp, e⟩
      have e1 := of_decide_eq_true e
      have hm : p.1 ∈ kvs.map (·.1) := List.mem_map.mpr ⟨p, hp, rfl⟩
      rw [h] at hm
      obtain ⟨r', hr', e2⟩ := List.mem_map.mp hm
      rw [e1] at e2
      rw [← inl_inj e2]
      exact hr'
    · intro hr
      have hm : r.map Sum.inl ∈ kvs.map (·.1) := by
        rw [h]
        exact List.mem_map.mpr ⟨r, hr, rfl⟩
      obtain ⟨p, hp, e⟩ := List.mem_map.mp hm
      exact ⟨p, hp, decide_eq_true e⟩
  unfold putK insR KeyRows
  by_cases hr : r ∈ ks
  · rw [if_pos (hany.mpr hr), if_pos hr, List.map_map, ← h]
    refine List.map_congr_left fun p _ => ?_
    show (if p.1 = r.map Sum.inl then (p.1, v) else p).1 = p.1
    split <;> rfl
  · rw [if_neg (fun z => hr (hany.mp z)), if_neg hr, List.map_append, List.map_append, h]
    rfl
theorem keyRows_len {kvs : List (List Key × V)} {ks : List (List Int)} (h : KeyRows kvs ks) : kvs.length = ks.length := by
  have := congrArg List.length h
  simpa using this
theorem keyRows_at {kvs : List (List Key × V)} {ks : List (List Int)} {i : Nat} {k : List Key} {v : V} (h : KeyRows kvs ks) (e : kvs[i]? = some (k, v)) : ∃ r, ks[i]? = some r ∧ k = r.map Sum.inl := by
  have h1 : (kvs.map (·.1))[i]? = some k := by rw [List.getElem?_map, e]; rfl
  rw [h, List.getElem?_map] at h1
  cases g : ks[i]? with
  | none => rw [g] at h1; cases h1
  | some r => rw [g] at h1; exact ⟨r, rfl, (Option.some.inj h1).symm⟩
end TH

namespace TH
open PySem PySem.Spec PyProof.Rows L2
section
variable {J : It} {n : Nat} {G : Hp → Prop} {Y : Nat → Hp → V → Hp → Prop} {g : TG} {tt : TT} {tk tv : TE} {vs : List Nat} {σ : L2.St} {H H1 : Hp} {Dl : Addr} {Q : VK} {wi : TI}
theorem w_dc (k : wi σ H fun J H1 => ∀ D, H1 D = none → ∃ W : Nat → Nat → Hp → Prop, (∃ m, W 0 m (upd H1 D (.dK []))) ∧ ∀ i m H, W i m H →
      (J.stop i H ∧ Q (.ref D) H) ∨ (J.go i H ∧ ∃ Nx : Hp → Prop, (∀ H', Nx H' → ∃ m', m' < m ∧ W (i + 1) m' H') ∧ ∀ x H', J.yld i H x H' → g x (wipe σ vs) H' fun σ2 H2 => wipe σ2 vs = wipe σ vs ∧ tt σ2 H2 fun b H3 =>
        if b = true then tk σ2 H3 fun y H4 => tv σ2 H4 fun z H5 => ∃ kvs k, y = kV k ∧ H5 D = some (.dK kvs) ∧ kvs.length < sizeLine ∧ Nx (upd H5 D (.dK (putK kvs k z))) else Nx H3)) : tDc wi g tt tk tv vs σ H Q := k
theorem dc_go {σ0 : L2.St} {C : L2.St → Prop} {Qd : Hp → Prop} (w : Walk J n G Y) (Pv : Nat → Hp → Prop) (h0 : Pv 0 (upd H1 Dl (.dK []))) (hG : ∀ i H, i ≤ n → Pv i H → G H)
    (hs : ∀ i x H H', i < n → Pv i H → Y i H x H' → g x σ0 H' fun σ2 H2 => C σ2 ∧ tt σ2 H2 fun b H3 =>
      if b = true then tk σ2 H3 fun y H4 => tv σ2 H4 fun z H5 => ∃ kvs k, y = kV k ∧ H5 Dl = some (.dK kvs) ∧ kvs.length < sizeLine ∧ Pv (i + 1) (upd H5 Dl (.dK (putK kvs k z))) else Pv (i + 1) H3) (hd : ∀ H, Pv n H → Qd H) :
    ∃ W : Nat → Nat → Hp → Prop, (∃ m, W 0 m (upd H1 Dl (.dK []))) ∧ ∀ i m H, W i m H →
      (J.stop i H ∧ Qd H) ∨ (J.go i H ∧ ∃ Nx : Hp → Prop, (∀ H', Nx H' → ∃ m', m' < m ∧ W (i + 1) m' H') ∧ ∀ x H', J.yld i H x H' → g x σ0 H' fun σ2 H2 => C σ2 ∧ tt σ2 H2 fun b H3 =>
        if b = true then tk σ2 H3 fun y H4 => tv σ2 H4 fun z H5 => ∃ kvs k, y = kV k ∧ H5 Dl = some (.dK kvs) ∧ kvs.length < sizeLine ∧ Nx (upd H5 Dl (.dK (putK kvs k z))) else Nx H3) := by
  refine ⟨fun i m H => m = n - i ∧ i ≤ n ∧ Pv i H, ⟨n, by simp, Nat.zero_le _, h0⟩, ?_⟩
  rintro i m H ⟨rfl, hi, p⟩
  have hg := hG i H hi p
  by_cases lt : i < n
  · exact .inr ⟨w.goes i H lt hg, Pv (i + 1), fun H' p' => ⟨n - (i + 1), by omega, rfl, lt, p'⟩, fun x H' y => hs i x H H' lt p (w.yields i H x H' lt hg y)⟩
  · obtain rfl : i = n := by omega
    exact .inl ⟨w.stops H hg, hd H p⟩
end
/-- what stood beside a locked object -/
theorem lock_back {H H' : Hp} {d a : Addr} {u o : HO} (g : Ex H (upd H' d u)) (ha : a ≠ d) (h : H a = some o) : H' a = some o := by
  have := g a o h
  rw [upd_ne ha] at this
  exact this
theorem lock_start {H : Hp} {d : Addr} {u o : HO} (h : H d = some u) : Ex H (upd (upd H d o) d u) := fun a x hx => by
  rw [upd_upd]
  by_cases e : a = d
  · rw [e] at hx ⊢
    rw [upd_same, ← h, hx]
  · rw [upd_ne e]
    exact hx
end TH

namespace TH
open PySem PySem.Spec PyProof.Rows L2
section
variable {K : PySem.W.Frag} {σ : L2.St} {H : Hp} {Q : VK} {td ty to : TE} {trs : List (TE × TE)} {rm : V → List V → Hp → VK → Prop} {T : String}
theorem w_din (k : ty σ H fun y H1 => td σ H1 fun x H2 => ∃ a o, x = .ref a ∧ DGet H2 a y o ∧ Q (.bl o.isSome) H2) : tDIn ty td σ H Q := k
theorem w_dnotin (k : ty σ H fun y H1 => td σ H1 fun x H2 => ∃ a o, x = .ref a ∧ DGet H2 a y o ∧ Q (.bl (!o.isSome)) H2) : tDNotIn ty td σ H Q := k
theorem w_dispK (k : ∀ p, H p = none → tPairs trs σ (upd H p (.dK [])) fun ps H2 => H2 p = some (.dK []) ∧ ∃ kvs : List (Key × V), ps = kvs.map (fun kv => (kV kv.1, kv.2)) ∧ kvs.length ≤ 15 ∧ Q (.ref p) (upd H2 p (.dK (mergeK [] kvs)))) : tDisp trs σ H Q := k
end
section
variable {K : PySem.W.Frag} {σ : L2.St} {H : Hp} {Q : VK} {to : TE} {rm : V → List V → Hp → VK → Prop} {T : String}
theorem w_bm0 (k : to σ H fun x H1 => tyV K T x H1 ∧ rm x [] H1 Q) : tBM0 K T rm to σ H Q := k
theorem w_pop {l : Addr} {xs : List V} {y : V} (h : H l = some (.lst (xs ++ [y]))) (k : Q y (upd H l (.lst xs))) : rPop (.ref l) [] H Q := ⟨l, xs ++ [y], y, rfl, rfl, h, by simp, by rw [List.dropLast_concat]; exact k⟩
end
theorem kop_ltT {X : Cx} {K : PySem.W.Frag} (hu : X.A.units + 64 < cLine) (hK : X.K = K := by rfl) : OpR X (compareOp .Lt) (rLtT K) := hK ▸ op_ltT (by omega)
/-! numbers as keys -/
def KeyI (kvs : List (Key × V)) (ks : List Int) : Prop := kvs.map (·.1) = ks.map Sum.inl
theorem keyI_any {kvs : List (Key × V)} {ks : List Int} {k : Int} (h : KeyI kvs ks) : (kvs.any fun kv => decide (kv.1 = Sum.inl k)) = true ↔ k ∈ ks := by
  rw [List.any_eq_true]
  constructor
  · intro ⟨p, hp, e⟩
    have hm : p.1 ∈ kvs.map (·.1) := List.mem_map.mpr ⟨p, hp, rfl⟩
    rw [h, of_decide_eq_true e] at hm
    obtain ⟨k', hk', e2⟩ := List.mem_map.mp hm
    rw [← Sum.inl.inj e2]
    exact hk'
  · intro hk
    have hm : Sum.inl k ∈ kvs.map (·.1) := by
      rw [h]
      exact List.mem_map.mpr ⟨k, hk, rfl⟩
    obtain ⟨p, hp, e1⟩ := List.mem_map.mp hm
    exact ⟨p, hp, decide_eq_true e1⟩
theorem keyI_has {kvs : List (Key × V)} {ks : List Int} {k : Int} (h : KeyI kvs ks) : (valV kvs (Sum.inl k)).isSome = decide (k ∈ ks) := by
  rw [← valV_any]
  by_cases hk : k ∈ ks
  · rw [decide_eq_true hk, (keyI_any h).mpr hk]
  · rw [decide_eq_false hk]
    exact Bool.eq_false_iff.mpr fun z => hk ((keyI_any h).mp z)
theorem keyI_new {kvs : List (Key × V)} {ks : List Int} {k : Int} {v : V} (h : KeyI kvs ks) (hk : k ∉ ks) : KeyI (putK kvs (Sum.inl k) v) (ks ++ [k]) := by
  unfold putK
  rw [if_neg fun z => hk ((keyI_any h).mp z)]
  unfold KeyI
  rw [List.map_append, List.map_append, h]
  rfl
theorem keyI_len {kvs : List (Key × V)} {ks : List Int} (h : KeyI kvs ks) : kvs.length = ks.length := by
  simpa using congrArg List.length h
end TH

namespace TH
open PySem PySem.Spec PyProof.Rows L2
/-! ### sorted(a tuple of data) -/
open PySem.W in
theorem sort_anew {prog : Program} {w : World} {A : Around} {E : Value → Shared → Prop} {s : Shared} {h0 : Heap} {a : Addr} {vs : List Value} {bs : List (V × D)} {R : Value → V × D → Prop} {n : Nat} {Q : Value → Shared → Prop}
    (ho : s.heap.get? a = some (seqObj "list" vs.toArray n)) (old : ∀ b o, h0.get? b = some o → b ≠ a ∧ s.heap.get? b = some o) (e : EachIs R vs bs) (er : EachIs (fun v b => ∃ as, Reads h0 v b.2 as) vs bs)
    (hal : AllAlike (bs.map fun b => b.2)) (so : Sortable (bs.map fun b => b.2)) (hL : bs.length ≤ sizeLine) (hu : ∀ b ∈ bs, A.units + 1 + b.2.depth < cLine)
    (h : ∀ out, out.length = bs.length → EachIs R out (bs.mergeSort (dataLe false fun b => b.2)) → Q .none { s with heap := PyProof.Rows.sortedHeap s.heap a vs (List.toArray out) }) :
    wpAny (model prog w) A (call (.builtin "list.sort") [.ref a]) Q E s := by
  have er' : EachIs (fun v b => ∃ as, Reads (sortingHeap s.heap a vs) v b.2 as) vs bs := er.mono fun _ _ ⟨as, r⟩ => ⟨as, PyProof.Rows.Reads.keeps (fun b o q => sortingHeap_old (old b o q).1 (old b o q).2) r⟩
  have S : SortsAt prog w A.in1 { s with heap := sortingHeap s.heap a vs } (dataKind (sortingHeap s.heap a vs) (bs.map fun b => b.2)) vs :=
    SortsAt.data (s := { s with heap := sortingHeap s.heap a vs }) (each_map (R := fun v d => ∃ as, Reads (sortingHeap s.heap a vs) v d as) (fun b : V × D => b.2) er') hal so (bound_map (A := A.in1) (by show ∀ b, b ∈ bs → A.units + 1 + b.2.depth < cLine; exact hu))
  refine wpAny_call_entry PyProof.Rows.slot_list_sort ⟨_, ho, rfl⟩ PyProof.Rows.entry_list_sort (list_sort_vals ho S (by rw [e.length]; exact hL) ⟨.none, rfl, ?_⟩) (PyProof.Rows.args_list_sort _)
  refine h _ ?_ (sortVals_data false e er' hal)
  rw [sortVals_length false rfl]
  exact e.length
open PySem.W in
def rSortedTD (K : PySem.W.Frag) : List V → Hp → VK → Prop := fun xs H Q => ∃ (a : Addr) (vs : List V) (ds : List D), xs = [.ref a] ∧ SqT K H a vs ∧ DpAll K H vs ds ∧ AllAlike ds ∧ Sortable ds ∧ (∀ d ∈ ds, d.depth ≤ 50) ∧
  ∀ (ws : List V) (p : Addr), H p = none → DpAll K H ws (ds.mergeSort (dataLe false id)) → Q (.ref p) (upd H p (.lst ws))
section
open PySem.W
variable {X : Cx} {K : PySem.W.Frag}
theorem call_sortedTD (hu : X.A.units + 64 < cLine) (hK : X.K = K := by rfl) : CallR X (.builtin "sorted") (rSortedTD K) := by
  subst hK
  intro pins s σ H xs us Q I r h
  obtain ⟨a, vs, ds, rfl, hs, hd, al, so, dep, q⟩ := h
  obtain ⟨its, rv, hl, hz⟩ := I.tuple hs
  rw [Vals.ref1 r]
  have e := each_of rv hd
  have hle : vs.length = ds.length := dpa_len hd
  have em : (vs.zip ds).map (·.2) = ds := by
    rw [List.map_snd_zip]
    omega
  have hzl : (vs.zip ds).length = its.length := e.length.symm
  have hil : its.length ≤ sizeLine := by
    rw [← rv.length]
    exact hz
  refine Calls.call_function_entry PyProof.Rows.kind_sorted PyProof.Rows.plain_sorted PyProof.Rows.entry_sorted (PyProof.Rows.args_sorted1 _) ?_
  unfold Builtin.«sorted»
  refine wpAny_bind (m := checkCount "sorted" 1 1 _) (wpAny_pure ?_)
  obtain ⟨o, g1, g2, n, g3⟩ := hl
  refine wpAny_bind (wpAny_collect_seq a (.inr rfl) g1 g2 g3 (fun h' kp => ?_) (by simpa using hil))
  have I1 : Inv X pins σ H { s with heap := h' } := I.kept (t' := s.toks) kp
  rw [List.toList_toArray]
  refine wpAny_bind (wpAny_newList ?_ hil)
  have hoL : (h'.push (seqObj "list" its.toArray 0)).get? h'.objs.size = some (seqObj "list" its.toArray 0) := Heap.get?_push_size _ rfl
  show wpAny _ _ _ _ _ { s with heap := h'.push (seqObj "list" its.toArray 0) }
  have er0 : EachIs (fun u (b : V × D) => ∃ as, Reads h' u b.2 as) its (vs.zip ds) := e.mono fun u b hb => Dp.reads I1 b.2 b.1 u hb.2 hb.1
  refine wpAny_bind (wpAny_holding (sort_anew (s := { s with heap := h'.push (seqObj "list" its.toArray 0) }) (h0 := h') hoL (fun b ob e => ⟨Nat.ne_of_lt (Heap.lt_size e), Heap.get?_push_of_some _ e⟩) e er0 (by rw [em]; exact al) (by rw [em]; exact so) (by rw [hzl]; exact hil) (fun b hb => by
    have : b.2 ∈ ds := by
      rw [← em]
      exact List.mem_map.mpr ⟨b, hb, rfl⟩
    have := dep b.2 this
    show X.A.units + 1 + 1 + b.2.depth < cLine
    omega) fun out hol heo => ?_))
  obtain ⟨e', he'⟩ := PyProof.Rows.sortedHeap_at (vs := its) (out := List.toArray out) hoL
  obtain ⟨hv, hdo⟩ := each_back heo
  have e2 : ((vs.zip ds).mergeSort (dataLe false fun b => b.2)).map (·.2) = ds.mergeSort (dataLe false id) := by
    rw [sort_maps (s := dataLe false id) (fun b : V × D => b.2) (fun a _ b _ => dataLe_map _ a b), em]
  rw [e2] at hdo
  refine wpAny_pure ⟨_, rfl, .ref h'.objs.size, upd H h'.objs.size (.lst _), I1.laid (t' := s.toks) (fun b ob e => ?_) (Nat.le_refl _) ⟨?_, out, e', hv, he'⟩, rfl, q _ _ (I1.hok.fresh (Nat.le_refl _)) hdo⟩
  · have hb : b < h'.objs.size := Heap.lt_size e
    rw [PyProof.Rows.sortedHeap_old (Nat.ne_of_lt hb) (by rw [Heap.size_push]; exact Nat.lt_succ_of_lt hb)]
    exact Heap.get?_push_of_some _ e
  · rw [hv.length, hol, hzl]
    exact hil
end
/-! ### x in a list or a tuple of data -/
def rInD (K : PySem.W.Frag) (neg : Bool) : R2 := fun x y H Q => ∃ (d : D) (xs : List D), Dp K H x d ∧ (Dp K H y (.list xs) ∨ Dp K H y (.tuple xs)) ∧ PyData.plainAll xs = true ∧ d.plain = true ∧ d.depth ≤ 50 ∧
  Q (.bl (if neg then !(xs.any fun y => PyData.eqv y d) else xs.any fun y => PyData.eqv y d)) H
section
variable {X : Cx} {K : PySem.W.Frag}
theorem kop_inD (hu : X.A.units + 64 < cLine) (hK : X.K = K := by rfl) : OpR X (compareOp .In) (rInD K false) := by
  subst hK
  intro pins s σ H x y v u Q I rx ry h
  obtain ⟨d, xs, hd, hy, hp, hq, hle, q⟩ := h
  obtain ⟨as, r1⟩ := Dp.reads I d x v hd rx
  rcases hy with hy | hy
  · obtain ⟨bs, r2⟩ := Dp.reads I _ y u hy ry
    exact SeqAt.in_list_data r2 r1 hp hq (by omega) ⟨.bl _, H, I, rfl, q⟩
  · obtain ⟨bs, r2⟩ := Dp.reads I _ y u hy ry
    exact SeqAt.in_tuple_data r2 r1 hp hq (by omega) ⟨.bl _, H, I, rfl, q⟩
theorem kop_notInD (hu : X.A.units + 64 < cLine) (hK : X.K = K := by rfl) : OpR X (compareOp .NotIn) (rInD K true) := by
  subst hK
  intro pins s σ H x y v u Q I rx ry h
  obtain ⟨d, xs, hd, hy, hp, hq, hle, q⟩ := h
  obtain ⟨as, r1⟩ := Dp.reads I d x v hd rx
  rcases hy with hy | hy
  · obtain ⟨bs, r2⟩ := Dp.reads I _ y u hy ry
    exact SeqAt.notIn_list_data r2 r1 hp hq (by omega) ⟨.bl _, H, I, rfl, q⟩
  · obtain ⟨bs, r2⟩ := Dp.reads I _ y u hy ry
    exact SeqAt.notIn_tuple_data r2 r1 hp hq (by omega) ⟨.bl _, H, I, rfl, q⟩
end
/-! ### a tuple turned about -/
section
variable {prog : Program} {w : World} {A : Around} {E : Value → Shared → Prop} {s : Shared}
theorem range_items {α : Type} : ∀ xs : List α, (List.range xs.length).filterMap (fun k => xs[k]?) = xs
  | [] => rfl
  | x :: xs => by
    rw [List.length_cons, List.range_succ_eq_map, List.filterMap_cons]
    show x :: (List.map Nat.succ (List.range xs.length)).filterMap _ = _
    rw [List.filterMap_map]
    exact congrArg (x :: ·) (range_items xs)
theorem fm_congr {α β : Type} {f g : α → Option β} : ∀ {xs : List α}, (∀ x ∈ xs, f x = g x) → xs.filterMap f = xs.filterMap g
  | [], _ => rfl
  | x :: xs, h => by
    rw [List.filterMap_cons, List.filterMap_cons, h x List.mem_cons_self, fm_congr fun y hy => h y (List.mem_cons_of_mem _ hy)]
theorem turned_pick (xs : Array Value) : ((List.range xs.size).filterMap fun (k : Nat) => xs[(((xs.size : Nat) : Int) - 1 + (k : Int) * (-1)).toNat]?).toArray = xs.toList.reverse.toArray := by
  have e : (List.range xs.size).filterMap (fun (k : Nat) => xs[(((xs.size : Nat) : Int) - 1 + (k : Int) * (-1)).toNat]?) = (List.range xs.size).filterMap fun k => xs.toList.reverse[k]? := by
    refine fm_congr fun k hk => ?_
    have hk' := List.mem_range.mp hk
    have e1 : (((xs.size : Nat) : Int) - 1 + (k : Int) * (-1)).toNat = xs.size - 1 - k := by omega
    rw [e1, List.getElem?_reverse (by simpa using hk')]
    simp
  rw [e]
  have := range_items xs.toList.reverse
  rw [List.length_reverse, Array.length_toList] at this
  rw [this]
theorem turned_bounds (n : Nat) : Builtin.Slice.sliceAdjust none none (-1) (n : Int) = ((n : Int) - 1, -1) ∧ Builtin.Slice.slicePlaces ((n : Int) - 1) (-1) (-1) = n := by
  constructor
  · unfold Builtin.Slice.sliceAdjust
    simp
  · unfold Builtin.Slice.slicePlaces
    have h1 : ¬ ((-1 : Int) > 0) := by omega
    rw [if_neg h1]
    split
    · have e : ((n : Int) - 1 - -1 - 1) / (- -1) = (n : Int) - 1 := by
        have : (- -1 : Int) = 1 := rfl
        rw [this, Int.ediv_one]
        omega
      rw [e]
      omega
    · omega
theorem sliceApplied_turned {sl : Addr} {vl vu vs : Value} {n : Nat} {Q : Int × Int × Nat → Shared → Prop} (hs : s.heap.IsSliceOf sl vl vu vs) (pl : IsPart vl none) (pu : IsPart vu none) (ps : IsPart vs (some (-1)))
    (h : Q ((n : Int) - 1, -1, n) s) : wpAny (model prog w) A (Builtin.Slice.sliceApplied (.ref sl) (pure (n : Int))) Q E s := by
  obtain ⟨os, hos, hcs, hds⟩ := id hs
  unfold Builtin.Slice.sliceApplied Builtin.Slice.sliceFields
  refine wpAny_bind (wpAny_bind (wpAny_field hos hds (x := vl) rfl (wpAny_bind (wpAny_field hos hds (x := vu) rfl (wpAny_bind (wpAny_field hos hds (x := vs) rfl (wpAny_pure ?_)))))))
  refine wpAny_bind (HT.slicePart_ ps ?_)
  show wpAny _ _ (if ((-1 : Int) == 0) = true then _ else _) _ _ s
  rw [if_neg (by decide)]
  refine wpAny_bind (HT.slicePart_ pl (wpAny_bind (HT.slicePart_ pu (wpAny_bind (wpAny_pure ?_)))))
  show wpAny _ _ (match Builtin.Slice.sliceAdjust none none (-1) (n : Int) with | (lo, hi) => pure (lo, (-1 : Int), Builtin.Slice.slicePlaces lo hi (-1))) _ _ s
  rw [(turned_bounds n).1]
  show wpAny _ _ (pure ((n : Int) - 1, (-1 : Int), Builtin.Slice.slicePlaces ((n : Int) - 1) (-1) (-1))) _ _ s
  rw [(turned_bounds n).2]
  exact wpAny_pure h
theorem getItem_turned {t sl : Addr} {items : Array Value} {vl vu vs : Value} {Q : Value → Shared → Prop} (ht : IsTup s.heap t items) (hs : s.heap.IsSliceOf sl vl vu vs) (pl : IsPart vl none) (pu : IsPart vu none) (ps : IsPart vs (some (-1)))
    (h : Q (.ref s.heap.objs.size) { s with heap := s.heap.push { cls := .type "tuple", data := .seq items.toList.reverse.toArray } }) (hsz : items.size ≤ sizeLine) : wpAny (model prog w) A (getItem (.ref t) (.ref sl)) Q E s := by
  obtain ⟨os, hos, hcs, hds⟩ := id hs
  have hTs : s.TypeIs (.ref sl) "slice" := ⟨os, hos, hcs⟩
  unfold getItem
  try with_reducible refine wpAny_holding ?_
  first | refine wpAny_bind (wpAny_pure ?_) | skip
  refine wpAny_bind (wpAny_sequenceKey ht.typeIs (by decide) ?_)
  refine wpAny_bind (wpAny_callSpecial?_slot (name := Str.ofString "__getitem__") ht.typeIs PyProof.Rows.slot_tuple_getitem
    (wpAny_call_entry PyProof.Rows.slot_tuple_getitem ht.typeIs entry_tuple_getitem ?_ (args_tuple_getitem _ _)))
  show wpAny _ _ (Builtin.Tuple.tupleItemsOf (.ref t) >>= _) _ _ s
  refine wpAny_bind (PyProof.Rows.tupleItemsOf_ ht ?_)
  refine wpAny_bind (wpAny_typeOf hTs ?_)
  rw [if_pos (by decide)]
  refine wpAny_bind (sliceApplied_turned hs pl pu ps ?_)
  have hno : ¬ ((((items.size : Int) - 1) == 0 && (-1 : Int) == 1 && items.size == items.size) = true) := by
    rw [Bool.and_eq_true, Bool.and_eq_true]
    exact fun z => absurd z.1.2 (by decide)
  show wpAny _ _ (if (((items.size : Int) - 1) == 0 && (-1 : Int) == 1 && items.size == items.size) = true then _ else _) _ _ s
  rw [if_neg hno, turned_pick]
  have hsz2 : sizeOk (.seq items.toList.reverse.toArray) := by
    show items.toList.reverse.toArray.size ≤ sizeLine
    simpa using hsz
  first
    | exact wpAny_bind (m := Builtin.Tuple.tupleExact _) (wpAny_newObj_type (wpAny_pure ⟨_, rfl, wpAny_pure h⟩) hsz2)
    | exact wpAny_bind (m := Builtin.Tuple.tupleExact _) (wpAny_newObj_type (wpAny_bind (wpAny_pure (wpAny_pure ⟨_, rfl, wpAny_pure h⟩))) hsz2)
    | exact wpAny_bind (wpAny_bind (m := Builtin.Tuple.tupleExact _) (wpAny_newObj_type (wpAny_pure (wpAny_pure ⟨_, rfl, wpAny_pure h⟩)) hsz2))
    | exact wpAny_bind (wpAny_bind (m := Builtin.Tuple.tupleExact _) (wpAny_newObj_type (wpAny_pure ⟨_, rfl, wpAny_pure h⟩) hsz2))
end
def tRevT (K : PySem.W.Frag) (te : TE) : TE := fun σ H Q => te σ H fun x H1 => ∃ a xs, x = .ref a ∧ SqT K H1 a xs ∧ ∀ p, H1 p = none → Q (.ref p) (upd H1 p (.tup xs.reverse))
theorem w_revT {K : PySem.W.Frag} {σ : L2.St} {H : Hp} {Q : VK} {te : TE} (k : te σ H fun x H1 => ∃ a xs, x = .ref a ∧ SqT K H1 a xs ∧ ∀ p, H1 p = none → Q (.ref p) (upd H1 p (.tup xs.reverse))) : tRevT K te σ H Q := k
theorem kpe_revT {X : Cx} {K : PySem.W.Frag} {e : Expr} {te : TE} {k : Nat} {p1 p2 p3 pos : Pos} (he : PE X e te) (hK : X.K = K := by rfl) : PE X (.Subscript e (.Slice none none (some (.UnaryOp .USub (.Constant (.int 1) k p1) p2)) p3) pos) (tRevT K te) := by
  subst hK
  refine ⟨fun pins s σ H Q I h => ?_⟩
  refine Subscript_ (thn (he.run pins s σ H _ I h) fun v s1 ⟨x, H1, I1, r1, q1⟩ => ?_)
  obtain ⟨a, xs, ex, hx, q⟩ := q1
  subst ex
  cases r1
  have minus : PO X (some (.UnaryOp .USub (.Constant (.int 1) k p1) p2)) (tPart (tUn (rU fun i => .int (-i)) (tC (.int 1)))) := po_some (pe_un un_neg pe_int)
  refine wpAny_Slice (thn (po_none.run pins s1 σ H1 (fun o H2 => H2 = H1 ∧ o = none) I1 ⟨rfl, rfl⟩) fun vl s2 ⟨l, H2, I2, pl, e2, el⟩ => ?_)
  subst e2 el
  refine thn (po_none.run pins s2 σ H2 (fun o H3 => H3 = H2 ∧ o = none) I2 ⟨rfl, rfl⟩) fun vu s3 ⟨u, H3, I3, pu, e3, eu⟩ => ?_
  subst e3 eu
  refine thn (minus.run pins s3 σ H3 (fun o H4 => H4 = H3 ∧ o = some (-1)) I3 ⟨1, rfl, -1, rfl, rfl, rfl⟩) fun vs s4 ⟨o, H4, I4, ps, e4, eo⟩ => ?_
  subst e4 eo
  have I5 : Inv X pins σ H4 { s4 with heap := s4.heap.push { cls := .type "slice", data := .fields #[vl, vu, vs] } } := I4.kept (t' := s4.toks) fun b ob q => Heap.get?_push_of_some _ q
  obtain ⟨its, r, ht, hz⟩ := I5.tuple hx
  show wpAny (model X.prog X.w) X.A (subscriptTail e (.Slice none none (some (.UnaryOp .USub (.Constant (.int 1) k p1) p2)) p3) (.ref a) (.ref s4.heap.objs.size)) (EP X pins σ Q) X.xe { s4 with heap := s4.heap.push { cls := .type "slice", data := .fields #[vl, vu, vs] } }
  refine tail_any (ops := [.ref a, .ref s4.heap.objs.size]) ht.typeIs (PyProof.Rows.slot_tuple_getitem.lookup) ?_ (by with_unfolding_all rfl)
  refine getItem_turned ht (Heap.IsSliceOf.new _ vl vu vs) pl pu ps ?_ (by rw [List.size_toArray, ← r.length]; exact hz)
  rw [List.toList_toArray]
  refine ⟨.ref _, _, I5.laid (t' := s4.toks) (o := .tup xs.reverse) (fun b ob q => Heap.get?_push_of_some _ q) (Nat.le_refl _) ?_, rfl, q _ (I5.hok.fresh (Nat.le_refl _))⟩
  exact ⟨by rw [List.length_reverse]; exact hz, _, r.reverse, IsTup.new _ _⟩
/-! tuple(range(..)), list(range(..)) -/
section
variable {σ : L2.St} {H : Hp} {Q : VK} {ta tb : TE} {te : L2.St → Hp → (Int → Int → Hp → Prop) → Prop} {QR : Int → Int → Hp → Prop}
theorem w_lstRg (k : te σ H fun a b H1 => RgOk a b ∧ ∀ q, H1 q = none → Q (.ref q) (upd H1 q (.lst (rgV a b)))) : tLstRg te σ H Q := k
theorem w_tupRg (k : te σ H fun a b H1 => RgOk a b ∧ ∀ q, H1 q = none → Q (.ref q) (upd H1 q (.tup (rgV a b)))) : tTupRg te σ H Q := k
theorem w_rg1 (k : ta σ H fun x H1 => ∃ n, x = .int n ∧ QR 0 n H1) : tRg1 ta σ H QR := k
theorem w_rg2 (k : ta σ H fun x H1 => tb σ H1 fun y H2 => ∃ i j, x = .int i ∧ y = .int j ∧ QR i j H2) : tRg2 ta tb σ H QR := k
end
def rgZ (a b : Int) : List Int := (List.range (b - a).toNat).map fun i => a + (i : Nat)
theorem rgV_eq (a b : Int) : rgV a b = (rgZ a b).map V.int := by
  unfold rgV rgZ
  rw [List.map_map]
  rfl
theorem mem_rgZ {a b x : Int} : x ∈ rgZ a b ↔ a ≤ x ∧ x < b := by
  unfold rgZ
  rw [List.mem_map]
  constructor
  · rintro ⟨i, hi, rfl⟩
    have := List.mem_range.mp hi
    omega
  · intro h
    exact ⟨(x - a).toNat, List.mem_range.mpr (by omega), by omega⟩
theorem rgZ_pw (a b : Int) : (rgZ a b).Pairwise (· < ·) := by
  unfold rgZ
  refine List.pairwise_map.mpr (List.pairwise_lt_range.imp fun h => ?_)
  omega
theorem rgZ_len (a b : Int) : (rgZ a b).length = (b - a).toNat := by simp [rgZ]
/-! sum(a tuple of numbers) -/
def rSumT (K : PySem.W.Frag) : List V → Hp → VK → Prop := fun vs H Q => ∃ (a : Addr) (ns : List Int), vs = [V.ref a] ∧ SqT K H a (ns.map V.int) ∧ Q (.int ns.sum) H
theorem kcr_sumT {X : Cx} {K : PySem.W.Frag} (hc : X.calm = true) (hK : X.K = K := by rfl) : CallR X (.builtin "sum") (rSumT K) := by
  subst hK
  intro pins s σ H vs us Q I r h
  obtain ⟨a, ns, rfl, hs, q⟩ := h
  obtain ⟨its, rv, hl, _⟩ := I.tuple hs
  rw [Vals.ref1 r]
  obtain ⟨xs, e⟩ := rv.ints.allInts.items
  have hn : numsOf (intItems xs).toList = ns := by rw [← e]; exact rv.ints.numsOf
  rw [nums_intItems] at hn
  have hl' : s.heap.IsTuple a its.toArray := hl
  rw [e] at hl'
  refine PySem.W.ktm_sumG (I.ok.hd hc) hl' fun h' tk t' hk => ?_
  rw [preSum_eq, List.take_of_length_le (by simp), hn]
  exact ⟨.int _, H, I.kept hk, ⟨_, rfl⟩, q⟩
theorem w_sumT {K : PySem.W.Frag} {H : Hp} {Q : VK} {a : Addr} {ns : List Int} (h : SqT K H a (ns.map V.int)) (q : Q (.int ns.sum) H) : rSumT K [.ref a] H Q := ⟨a, ns, rfl, h, q⟩
end TH

namespace TH
open PySem PySem.Spec PyProof.Rows L2
theorem relabel_held {env : Env} : ∀ {names : List (Str × NameKind)} {x : Str}, (names.lookup x = some .cell ∨ names.lookup x = some .free) →
    let ns := names.map fun (n, k) => if (k == NameKind.free && env.scope.kind == .function && env.kindOf n == some .cell) then (n, NameKind.cell) else (n, k)
    ns.lookup x = some .cell ∨ ns.lookup x = some .free
  | [], _, h => by simp at h
  | (n, k) :: r, x, h => by
    have ih := @relabel_held env r x
    show List.lookup x ((if (k == NameKind.free && env.scope.kind == .function && env.kindOf n == some .cell) = true then (n, NameKind.cell) else (n, k)) :: _) = _ ∨ List.lookup x ((if (k == NameKind.free && env.scope.kind == .function && env.kindOf n == some .cell) = true then (n, NameKind.cell) else (n, k)) :: _) = _
    by_cases hc : (k == NameKind.free && env.scope.kind == .function && env.kindOf n == some .cell) = true
    · rw [if_pos hc]
      cases hx : x == n with
      | true => exact .inl (by simp only [List.lookup_cons, hx])
      | false =>
        simp only [List.lookup_cons, hx] at h ⊢
        exact ih h
    · rw [if_neg hc]
      cases hx : x == n with
      | true =>
        simp only [List.lookup_cons, hx] at h ⊢
        exact h
      | false =>
        simp only [List.lookup_cons, hx] at h ⊢
        exact ih h
/-- a comprehension within a comprehension -/
theorem blkOk_blk {X : Cx} {s : Shared} {H : Hp} {sc scope : Scope} {cl : List (Str × Addr)} {C : Addr} {fp : List Addr} {N : List Str} {own : List (Str × Nat)} (hN : X.N = N) (h : blkC N sc scope own = true) :
    BlkOk (X.blk s H sc (compEnvC sc cl C X.env) fp).N (X.blk s H sc (compEnvC sc cl C X.env) fp).env.scope scope own := by
  subst hN
  refine blkOk_by (N := X.N) (sc := relabel sc X.env) ?_
  unfold blkC at h ⊢
  rw [Bool.and_eq_true] at h ⊢
  refine ⟨h.1, ?_⟩
  have h4 := h.2
  rw [List.all_eq_true] at h4 ⊢
  intro y hy
  have q := h4 y hy
  obtain ⟨n, k⟩ := y
  cases k with
  | free =>
    have e : sc.names.lookup n = some .cell ∨ sc.names.lookup n = some .free := by
      revert q
      show (match sc.names.lookup n with | some .cell => true | some .free => true | _ => false) = true → _
      cases g : sc.names.lookup n with
      | none => intro z; cases z
      | some k => cases k <;> intro z <;> first | exact .inl rfl | exact .inr rfl | cases z
    have e2 := relabel_held (env := X.env) e
    show (match (relabel sc X.env).names.lookup n with | some .cell => true | some .free => true | _ => false) = true
    rcases e2 with e2 | e2
    · have e3 : (relabel sc X.env).names.lookup n = some .cell := e2
      rw [e3]
    · have e3 : (relabel sc X.env).names.lookup n = some .free := e2
      rw [e3]
  | _ => exact q
end TH

namespace LA
open Lean.Grind
variable {F : Type} [CommRing F]

/-- the j-th value of a row, 0 beyond -/
abbrev at' (r : List F) (j : Nat) : F := r.getD j 0
def sub (r o : List F) (c : F) : List F := List.zipWith (fun a b => a - c * b) r o
def smul (c : F) (r : List F) : List F := r.map (fun a => c * a)
def zero (w : Nat) : List F := List.replicate w 0

theorem sub_len {r o : List F} {c : F} {w : Nat} (h1 : r.length = w) (h2 : o.length = w) : (sub r o c).length = w := by
  simp [sub, h1, h2]
theorem smul_len {r : List F} {c : F} {w : Nat} (h1 : r.length = w) : (smul c r).length = w := by
  simp [smul, h1]
theorem zero_len {w : Nat} : (zero w : List F).length = w := by simp [zero]
theorem sub_at {r o : List F} {c : F} (h : r.length = o.length) (j : Nat) : at' (sub r o c) j = at' r j - c * at' o j := by
  unfold at' sub
  by_cases hj : j < r.length
  · have hj2 : j < o.length := by omega
    simp [List.getD_eq_getElem?_getD, List.getElem?_zipWith, List.getElem?_eq_getElem hj, List.getElem?_eq_getElem hj2]
  · have a1 : r[j]? = none := List.getElem?_eq_none (by omega)
    have a2 : o[j]? = none := List.getElem?_eq_none (by omega)
    simp [List.getD_eq_getElem?_getD, List.getElem?_zipWith, a1, a2]
    grind
theorem smul_at {r : List F} {c : F} (j : Nat) : at' (smul c r) j = c * at' r j := by
  unfold at' smul
  simp only [List.getD_eq_getElem?_getD, List.getElem?_map]
  cases r[j]? with
  | none => simp; grind
  | some v => simp
theorem zero_at {w : Nat} (j : Nat) : at' (zero w : List F) j = 0 := by
  unfold at' zero
  simp only [List.getD_eq_getElem?_getD, List.getElem?_replicate]
  split <;> simp
theorem ext' {r o : List F} (h : r.length = o.length) (e : ∀ j, at' r j = at' o j) : r = o := by
  apply List.ext_getElem h
  intro j h1 h2
  have := e j
  simpa [at', List.getD_eq_getElem?_getD, List.getElem?_eq_getElem h1, List.getElem?_eq_getElem h2] using this

/-- rows whose mixtures are spanned -/
def InS (w : Nat) : List (List F) → List F → Prop
  | [], v => v = zero w
  | r :: rs, v => ∃ c, InS w rs (sub v r c)

def Wd (w : Nat) (S : List (List F)) : Prop := ∀ r ∈ S, r.length = w
variable {w : Nat}
theorem Wd.tail {r : List F} {S : List (List F)} (h : Wd w (r :: S)) : Wd w S := fun x hx => h x (List.mem_cons_of_mem _ hx)
theorem Wd.head {r : List F} {S : List (List F)} (h : Wd w (r :: S)) : r.length = w := h r List.mem_cons_self

theorem inS_zero : ∀ {S : List (List F)}, Wd w S → InS w S (zero w)
  | [], _ => rfl
  | r :: S, h => ⟨0, by
      have e : sub (zero w) r 0 = zero w := by
        apply ext'
        · rw [sub_len zero_len h.head, zero_len]
        · intro j
          rw [sub_at (by rw [zero_len, h.head]), zero_at]
          grind
      rw [e]
      exact inS_zero h.tail⟩
theorem inS_sub : ∀ {S : List (List F)} {u v : List F} {c : F}, Wd w S → u.length = w → v.length = w → InS w S u → InS w S v → InS w S (sub u v c)
  | [], u, v, c, _, hu, hv, a, b => by
    have a' : u = zero w := a
    have b' : v = zero w := b
    show sub u v c = zero w
    rw [a', b']
    apply ext'
    · rw [sub_len zero_len zero_len, zero_len]
    · intro j
      rw [sub_at rfl, zero_at]
      grind
  | r :: S, u, v, c, h, hu, hv, ⟨cu, a⟩, ⟨cv, b⟩ => by
    refine ⟨cu - c * cv, ?_⟩
    have l1 := h.head
    have e : sub (sub u v c) r (cu - c * cv) = sub (sub u r cu) (sub v r cv) c := by
      apply ext'
      · rw [sub_len (sub_len hu hv) l1, sub_len (sub_len hu l1) (sub_len hv l1)]
      · intro j
        rw [sub_at (by rw [sub_len hu hv, l1]), sub_at (by rw [hu, hv]), sub_at (by rw [sub_len hu l1, sub_len hv l1]), sub_at (by rw [hu, l1]), sub_at (by rw [hv, l1])]
        grind
    rw [e]
    exact inS_sub h.tail (sub_len hu l1) (sub_len hv l1) a b
theorem inS_len : ∀ {S : List (List F)} {v : List F}, Wd w S → v.length = w → True := fun _ _ => trivial
theorem sub_zero' {v o : List F} (h : v.length = w) (ho : o.length = w) : sub v o 0 = v := by
  apply ext'
  · rw [sub_len h ho, h]
  · intro j
    rw [sub_at (by rw [h, ho])]
    grind
theorem sub_self' {v : List F} (h : v.length = w) : sub v v 1 = zero w := by
  apply ext'
  · rw [sub_len h h, zero_len]
  · intro j
    rw [sub_at rfl, zero_at]
    grind
theorem inS_cons {S : List (List F)} {r v : List F} (h : Wd w (r :: S)) (hv : v.length = w) (a : InS w S v) : InS w (r :: S) v := ⟨0, by rw [sub_zero' hv h.head]; exact a⟩
theorem inS_mem : ∀ {S : List (List F)} {r : List F}, Wd w S → r ∈ S → InS w S r
  | s :: S, r, h, m => by
    rcases List.mem_cons.mp m with e | m
    · subst e
      exact ⟨1, by rw [sub_self' h.head]; exact inS_zero h.tail⟩
    · exact inS_cons h (h r (List.mem_cons_of_mem _ m)) (inS_mem h.tail m)
/-- back: from v - c r and r -/
theorem inS_back {S : List (List F)} {v r : List F} {c : F} (h : Wd w S) (hv : v.length = w) (hr : r.length = w) (a : InS w S (sub v r c)) (b : InS w S r) : InS w S v := by
  have e : sub (sub v r c) r (-c) = v := by
    apply ext'
    · rw [sub_len (sub_len hv hr) hr, hv]
    · intro j
      rw [sub_at (by rw [sub_len hv hr, hr]), sub_at (by rw [hv, hr])]
      grind
  rw [← e]
  exact inS_sub h (sub_len hv hr) hr a b
theorem span_le : ∀ {S T : List (List F)} {v : List F}, Wd w S → Wd w T → v.length = w → (∀ r ∈ S, InS w T r) → InS w S v → InS w T v
  | [], T, v, _, hT, hv, _, a => by
    have a' : v = zero w := a
    rw [a']
    exact inS_zero hT
  | s :: S, T, v, h, hT, hv, m, ⟨c, a⟩ =>
    inS_back hT hv h.head (span_le h.tail hT (sub_len hv h.head) (fun r hr => m r (List.mem_cons_of_mem _ hr)) a) (m s List.mem_cons_self)
theorem inS_smul {S : List (List F)} {v : List F} {c : F} (h : Wd w S) (hv : v.length = w) (a : InS w S v) : InS w S (smul c v) := by
  have e : smul c v = sub (zero w) v (-c) := by
    apply ext'
    · rw [smul_len hv, sub_len zero_len hv]
    · intro j
      rw [smul_at, sub_at (by rw [zero_len, hv]), zero_at]
      grind
  rw [e]
  exact inS_sub h zero_len hv (inS_zero h) a
/-- the same room -/
def Eqv (w : Nat) (S T : List (List F)) : Prop := ∀ v : List F, v.length = w → (InS w S v ↔ InS w T v)
theorem Eqv.refl (S : List (List F)) : Eqv w S S := fun _ _ => Iff.rfl
theorem Eqv.symm {S T : List (List F)} (h : Eqv w S T) : Eqv w T S := fun v l => (h v l).symm
theorem Eqv.trans {S T U : List (List F)} (h : Eqv w S T) (k : Eqv w T U) : Eqv w S U := fun v l => (h v l).trans (k v l)
theorem Eqv.of {S T : List (List F)} (hS : Wd w S) (hT : Wd w T) (a : ∀ r ∈ S, InS w T r) (b : ∀ r ∈ T, InS w S r) : Eqv w S T :=
  fun v l => ⟨span_le hS hT l a, span_le hT hS l b⟩

/-- a row with its first place -/
structure Good (w : Nat) (a : Nat × List F) : Prop where
  len : a.2.length = w
  lt : a.1 < w
  one : at' a.2 a.1 = 1
  nil : ∀ j, j < a.1 → at' a.2 j = 0
structure Lad (w : Nat) (L : List (Nat × List F)) : Prop where
  good : ∀ a ∈ L, Good w a
  pw : L.Pairwise fun a b => a.1 < b.1 ∧ at' a.2 b.1 = 0
abbrev rowsOf (L : List (Nat × List F)) : List (List F) := L.map (·.2)
theorem Lad.wd {L : List (Nat × List F)} (h : Lad w L) : Wd w (rowsOf L) := fun r hr => by
  obtain ⟨a, ha, rfl⟩ := List.mem_map.mp hr
  exact (h.good a ha).len
theorem Lad.tail {a : Nat × List F} {L : List (Nat × List F)} (h : Lad w (a :: L)) : Lad w L :=
  ⟨fun b hb => h.good b (List.mem_cons_of_mem _ hb), (List.pairwise_cons.mp h.pw).2⟩
theorem Lad.later {a : Nat × List F} {L : List (Nat × List F)} (h : Lad w (a :: L)) : ∀ b ∈ L, a.1 < b.1 ∧ at' a.2 b.1 = 0 := (List.pairwise_cons.mp h.pw).1
/-- all rows of a room of rows with noughts at j have a nought at j -/
theorem inS_nil : ∀ {S : List (List F)} {v : List F} {j : Nat}, Wd w S → v.length = w → (∀ r ∈ S, at' r j = 0) → InS w S v → at' v j = 0
  | [], v, j, _, _, _, a => by
    have a' : v = zero w := a
    rw [a', zero_at]
  | r :: S, v, j, h, hv, m, ⟨c, a⟩ => by
    have q := inS_nil h.tail (sub_len hv h.head) (fun x hx => m x (List.mem_cons_of_mem _ hx)) a
    rw [sub_at (by rw [hv, h.head]), m r List.mem_cons_self] at q
    grind
theorem lad_zero : ∀ {L : List (Nat × List F)} {v : List F}, Lad w L → v.length = w → InS w (rowsOf L) v → (∀ a ∈ L, at' v a.1 = 0) → v = zero w
  | [], v, _, _, a, _ => a
  | a :: L, v, h, hv, ⟨c, s⟩, m => by
    have la := (h.good a List.mem_cons_self).len
    have q0 : at' (sub v a.2 c) a.1 = 0 := inS_nil h.tail.wd (sub_len hv la) (fun r hr => by
      obtain ⟨b, hb, rfl⟩ := List.mem_map.mp hr
      exact (h.good b (List.mem_cons_of_mem _ hb)).nil _ (h.later b hb).1) s
    have c0 : c = 0 := by
      rw [sub_at (by rw [hv, la]), m a List.mem_cons_self, (h.good a List.mem_cons_self).one] at q0
      grind
    rw [c0, sub_zero' hv la] at s
    exact lad_zero h.tail hv s fun b hb => m b (List.mem_cons_of_mem _ hb)
/-- the first place of a row of the room is one of the ladder's -/
theorem lad_lead : ∀ {L : List (Nat × List F)} {v : List F} {q : Nat}, Lad w L → v.length = w → InS w (rowsOf L) v → at' v q ≠ 0 → (∀ j, j < q → at' v j = 0) → ∃ a ∈ L, a.1 = q
  | [], v, q, _, _, a, hq, _ => by
    have a' : v = zero w := a
    rw [a', zero_at] at hq
    exact absurd rfl hq
  | a :: L, v, q, h, hv, ⟨c, s⟩, hq, m => by
    have ga := h.good a List.mem_cons_self
    have la := ga.len
    have nz : ∀ j, j ≤ a.1 → at' (sub v a.2 c) j = 0 := fun j hj => inS_nil h.tail.wd (sub_len hv la) (fun r hr => by
      obtain ⟨b, hb, rfl⟩ := List.mem_map.mp hr
      exact (h.good b (List.mem_cons_of_mem _ hb)).nil _ (Nat.lt_of_le_of_lt hj (h.later b hb).1)) s
    have c1 : at' v a.1 = c := by
      have := nz a.1 (Nat.le_refl _)
      rw [sub_at (by rw [hv, la]), ga.one] at this
      grind
    by_cases hc : c = 0
    · rw [hc, sub_zero' hv la] at s
      obtain ⟨b, hb, e⟩ := lad_lead h.tail hv s hq m
      exact ⟨b, List.mem_cons_of_mem _ hb, e⟩
    · refine ⟨a, List.mem_cons_self, ?_⟩
      have h1 : ¬ a.1 < q := fun z => hc (by rw [← c1]; exact m _ z)
      have h2 : ¬ q < a.1 := fun z => hq (by
        have := nz q (Nat.le_of_lt z)
        rw [sub_at (by rw [hv, la]), ga.nil q z] at this
        grind)
      omega
theorem Lad.zeroAt {L : List (Nat × List F)} (h : Lad w L) : ∀ a ∈ L, ∀ b ∈ L, a.1 ≠ b.1 → at' a.2 b.1 = 0 := by
  intro a ha b hb ne
  rcases Nat.lt_or_gt_of_ne ne with l | l
  · -- a is ahead of b
    have key : ∀ (M : List (Nat × List F)), M.Pairwise (fun a b => a.1 < b.1 ∧ at' a.2 b.1 = 0) → a ∈ M → b ∈ M → at' a.2 b.1 = 0 := by
      intro M
      induction M with
      | nil => intro _ m _; cases m
      | cons x M ih =>
        intro pw ma mb
        obtain ⟨p1, p2⟩ := List.pairwise_cons.mp pw
        rcases List.mem_cons.mp ma with e1 | ma'
        · rcases List.mem_cons.mp mb with e2 | mb'
          · rw [e1, e2] at l; omega
          · rw [e1]; exact (p1 b mb').2
        · rcases List.mem_cons.mp mb with e2 | mb'
          · have := (p1 a ma').1; rw [e2] at l; omega
          · exact ih p2 ma' mb'
    exact key L h.pw ha hb
  · exact (h.good a ha).nil _ l
theorem lad_sub {L M : List (Nat × List F)} (ne : (1 : F) ≠ 0) (hL : Lad w L) (hM : Lad w M) (e : Eqv w (rowsOf L) (rowsOf M)) : ∀ a ∈ L, a ∈ M := by
  intro a ha
  have places : ∀ {A B : List (Nat × List F)}, Lad w A → Lad w B → Eqv w (rowsOf A) (rowsOf B) → ∀ x ∈ A, ∃ y ∈ B, y.1 = x.1 := by
    intro A B hA hB e x hx
    have gx := hA.good x hx
    exact lad_lead hB gx.len ((e _ gx.len).mp (inS_mem hA.wd (List.mem_map.mpr ⟨x, hx, rfl⟩))) (by rw [gx.one]; exact ne) gx.nil
  obtain ⟨b, hb, eb⟩ := places hL hM e a ha
  have ga := hL.good a ha
  have gb := hM.good b hb
  have d0 : sub a.2 b.2 1 = zero w := lad_zero hM (sub_len ga.len gb.len)
    (inS_sub hM.wd ga.len gb.len ((e _ ga.len).mp (inS_mem hL.wd (List.mem_map.mpr ⟨a, ha, rfl⟩))) (inS_mem hM.wd (List.mem_map.mpr ⟨b, hb, rfl⟩))) (fun x hx => by
      rw [sub_at (by rw [ga.len, gb.len])]
      by_cases hq : x.1 = a.1
      · rw [hq, ga.one, ← eb, gb.one]
        grind
      · obtain ⟨y, hy, ey⟩ := places hM hL e.symm x hx
        have z1 : at' a.2 x.1 = 0 := by
          rw [← ey]
          exact hL.zeroAt a ha y hy (by rw [ey]; exact fun z => hq z.symm)
        have z2 : at' b.2 x.1 = 0 := hM.zeroAt b hb x hx (by rw [eb]; exact fun z => hq z.symm)
        rw [z1, z2]
        grind)
  have er : a.2 = b.2 := by
    apply ext'
    · rw [ga.len, gb.len]
    · intro j
      have := congrArg (fun r => at' r j) d0
      simp only [sub_at (show a.2.length = b.2.length by rw [ga.len, gb.len]), zero_at] at this
      grind
  have : a = b := Prod.ext eb.symm er
  rw [this]
  exact hb
/-- two lists in strict order with the same members are one -/
theorem sorted_one {α : Type} (k : α → Nat) : ∀ {L M : List α}, L.Pairwise (fun a b => k a < k b) → M.Pairwise (fun a b => k a < k b) → (∀ a ∈ L, a ∈ M) → (∀ a ∈ M, a ∈ L) → L = M
  | [], [], _, _, _, _ => rfl
  | [], b :: M, _, _, _, h => by have := h b List.mem_cons_self; cases this
  | a :: L, [], _, _, h, _ => by have := h a List.mem_cons_self; cases this
  | a :: L, b :: M, pL, pM, h1, h2 => by
    obtain ⟨a1, a2⟩ := List.pairwise_cons.mp pL
    obtain ⟨b1, b2⟩ := List.pairwise_cons.mp pM
    have e : a = b := by
      rcases List.mem_cons.mp (h1 a List.mem_cons_self) with e | m
      · exact e
      · rcases List.mem_cons.mp (h2 b List.mem_cons_self) with e | m'
        · exact e.symm
        · have x1 := b1 a m
          have x2 := a1 b m'
          omega
    subst e
    congr 1
    refine sorted_one k a2 b2 (fun x hx => ?_) (fun x hx => ?_)
    · rcases List.mem_cons.mp (h1 x (List.mem_cons_of_mem _ hx)) with e | m
      · subst e
        have := a1 x hx
        omega
      · exact m
    · rcases List.mem_cons.mp (h2 x (List.mem_cons_of_mem _ hx)) with e | m
      · subst e
        have := b1 x hx
        omega
      · exact m
/-- each room has just one ladder -/
theorem lad_one {L M : List (Nat × List F)} (ne : (1 : F) ≠ 0) (hL : Lad w L) (hM : Lad w M) (e : Eqv w (rowsOf L) (rowsOf M)) : L = M :=
  sorted_one (·.1) (hL.pw.imp fun h => h.1) (hM.pw.imp fun h => h.1) (lad_sub ne hL hM e) (lad_sub ne hM hL e.symm)
end LA

namespace LA
open Lean.Grind
variable {F : Type} [CommRing F] {w : Nat}
theorem inS_mono {S T : List (List F)} {v : List F} (hS : Wd w S) (hT : Wd w T) (hv : v.length = w) (m : ∀ r ∈ S, r ∈ T) (a : InS w S v) : InS w T v := span_le hS hT hv (fun r hr => inS_mem hT (m r hr)) a
theorem Eqv.mem {S T : List (List F)} (hS : Wd w S) (hT : Wd w T) (h : ∀ r, r ∈ S ↔ r ∈ T) : Eqv w S T := fun v hv => ⟨inS_mono hS hT hv fun r hr => (h r).mp hr, inS_mono hT hS hv fun r hr => (h r).mpr hr⟩
/-- all steps taken off, one by one -/
def lessF (S : List (Nat × List F)) (l : List F) : List F := S.foldl (fun l a => sub l a.2 (at' l a.1)) l
structure Sta (w : Nat) (S : List (Nat × List F)) : Prop where
  good : ∀ a ∈ S, Good w a
  pw : S.Pairwise fun a b => a.1 ≠ b.1 ∧ at' b.2 a.1 = 0
abbrev Wds (w : Nat) (S : List (Nat × List F)) : Prop := ∀ a ∈ S, a.2.length = w
theorem Sta.wds {S : List (Nat × List F)} (h : Sta w S) : Wds w S := fun a ha => (h.good a ha).len
theorem Wds.wd {S : List (Nat × List F)} (h : Wds w S) : Wd w (rowsOf S) := fun r hr => by
  obtain ⟨a, ha, rfl⟩ := List.mem_map.mp hr
  exact h a ha
theorem lessF_len : ∀ {S : List (Nat × List F)} {l : List F}, Wds w S → l.length = w → (lessF S l).length = w
  | [], _, _, h => h
  | a :: S, l, hS, h => lessF_len (S := S) (fun b hb => hS b (List.mem_cons_of_mem _ hb)) (sub_len h (hS a List.mem_cons_self))
theorem lessF_keep : ∀ {S : List (Nat × List F)} {l : List F} {q : Nat}, Wds w S → l.length = w → (∀ b ∈ S, at' b.2 q = 0) → at' (lessF S l) q = at' l q
  | [], _, _, _, _, _ => rfl
  | a :: S, l, q, hS, h, hq => by
    have la := hS a List.mem_cons_self
    have := lessF_keep (S := S) (l := sub l a.2 (at' l a.1)) (q := q) (fun b hb => hS b (List.mem_cons_of_mem _ hb)) (sub_len h la) fun b hb => hq b (List.mem_cons_of_mem _ hb)
    show at' (lessF S (sub l a.2 (at' l a.1))) q = _
    rw [this, sub_at (by rw [h, la]), hq a List.mem_cons_self]
    grind
theorem lessF_zero : ∀ {S : List (Nat × List F)} {l : List F}, Sta w S → l.length = w → ∀ a ∈ S, at' (lessF S l) a.1 = 0
  | [], _, _, _, a, ha => nomatch ha
  | x :: S, l, hS, h, a, ha => by
    have gx := hS.good x List.mem_cons_self
    obtain ⟨p1, p2⟩ := List.pairwise_cons.mp hS.pw
    have hT : Sta w S := ⟨fun b hb => hS.good b (List.mem_cons_of_mem _ hb), p2⟩
    have l2 := sub_len (c := at' l x.1) h gx.len
    rcases List.mem_cons.mp ha with e | m
    · subst e
      have := lessF_keep (S := S) (l := sub l a.2 (at' l a.1)) (q := a.1) hT.wds l2 fun b hb => (p1 b hb).2
      show at' (lessF S (sub l a.2 (at' l a.1))) a.1 = _
      rw [this, sub_at (by rw [h, gx.len]), gx.one]
      grind
    · exact lessF_zero hT l2 a m
theorem lessF_span : ∀ {S : List (Nat × List F)} {l : List F} {T : List (List F)}, Wds w S → Wd w T → l.length = w → (∀ a ∈ S, InS w T a.2) → (InS w T (lessF S l) ↔ InS w T l)
  | [], _, _, _, _, _, _ => Iff.rfl
  | a :: S, l, T, hS, hT, h, m => by
    have la := hS a List.mem_cons_self
    have ia := m a List.mem_cons_self
    refine (lessF_span (S := S) (fun b hb => hS b (List.mem_cons_of_mem _ hb)) hT (sub_len h la) fun b hb => m b (List.mem_cons_of_mem _ hb)).trans ⟨fun z => inS_back hT h la z ia, fun z => inS_sub hT h la z ia⟩
theorem smul_one' {l : List F} {t v : F} (hl : l.length = w) (e : t * v = 1) : smul v (smul t l) = l := by
  apply ext'
  · rw [smul_len (smul_len hl), hl]
  · intro j
    rw [smul_at, smul_at]
    grind
theorem wd_snoc {R : List (List F)} {l : List F} (hR : Wd w R) (hl : l.length = w) : Wd w (R ++ [l]) := fun r hr => by
  rcases List.mem_append.mp hr with m | m
  · exact hR r m
  · rw [List.mem_singleton.mp m]; exact hl
/-- a row that leaves nothing -/
theorem sta_none {S : List (Nat × List F)} {R : List (List F)} {l : List F} (hS : Sta w S) (hR : Wd w R) (hl : l.length = w) (e : Eqv w (rowsOf S) R) (hz : lessF S l = zero w) : Eqv w (rowsOf S) (R ++ [l]) := by
  have hT := hS.wds.wd
  refine Eqv.of hT (wd_snoc hR hl) (fun r hr => ?_) (fun r hr => ?_)
  · exact inS_mono hR (wd_snoc hR hl) (hT r hr) (fun x hx => List.mem_append_left _ hx) ((e r (hT r hr)).mp (inS_mem hT hr))
  · rcases List.mem_append.mp hr with m | m
    · exact (e r (hR r m)).mpr (inS_mem hR m)
    · rw [List.mem_singleton.mp m]
      refine (lessF_span hS.wds hT hl fun a ha => inS_mem hT (List.mem_map.mpr ⟨a, ha, rfl⟩)).mp ?_
      rw [hz]
      exact inS_zero hT
/-- a row that leaves a step -/
theorem sta_some {S : List (Nat × List F)} {R : List (List F)} {l : List F} {q : Nat} {t : F} (ne : (1 : F) ≠ 0) (hS : Sta w S) (hR : Wd w R) (hl : l.length = w) (e : Eqv w (rowsOf S) R) (hq : q < w)
    (hn : ∀ j, j < q → at' (lessF S l) j = 0) (ht : t * at' (lessF S l) q = 1) : Sta w (S ++ [(q, smul t (lessF S l))]) ∧ Eqv w (rowsOf (S ++ [(q, smul t (lessF S l))])) (R ++ [l]) := by
  have hw := hS.wds
  have hT := hw.wd
  have ll := lessF_len hw hl
  have g : Good w (q, smul t (lessF S l)) := ⟨smul_len ll, hq, by show at' (smul t (lessF S l)) q = 1; rw [smul_at]; exact ht, fun j hj => by show at' (smul t (lessF S l)) j = 0; rw [smul_at, hn j hj]; grind⟩
  have hnew : Wd w (rowsOf (S ++ [(q, smul t (lessF S l))])) := by
    rw [rowsOf, List.map_append]
    exact wd_snoc hT g.len
  refine ⟨⟨fun a ha => ?_, List.pairwise_append.mpr ⟨hS.pw, List.pairwise_singleton .., fun a ha b hb => ?_⟩⟩, Eqv.of hnew (wd_snoc hR hl) (fun r hr => ?_) (fun r hr => ?_)⟩
  · rcases List.mem_append.mp ha with m | m
    · exact hS.good a m
    · rw [List.mem_singleton.mp m]; exact g
  · rw [List.mem_singleton.mp hb]
    have z := lessF_zero hS hl a ha
    refine ⟨fun ea => ?_, ?_⟩
    · have ea' : a.1 = q := ea
      rw [ea'] at z
      rw [z] at ht
      exact ne (by rw [← ht]; grind)
    · show at' (smul t (lessF S l)) a.1 = 0
      rw [smul_at, z]; grind
  · have hU := wd_snoc hR hl
    rw [rowsOf, List.map_append] at hr
    have inU : ∀ a ∈ S, InS w (R ++ [l]) a.2 := fun a ha => inS_mono hR hU (hw a ha) (fun x hx => List.mem_append_left _ hx) ((e a.2 (hw a ha)).mp (inS_mem hT (List.mem_map.mpr ⟨a, ha, rfl⟩)))
    rcases List.mem_append.mp hr with m | m
    · obtain ⟨a, ha, rfl⟩ := List.mem_map.mp m
      exact inU a ha
    · rw [List.mem_singleton.mp m]
      refine inS_smul hU ll ?_
      exact (lessF_span hw hU hl inU).mpr (inS_mem hU (List.mem_append_right _ (List.mem_singleton.mpr rfl)))
  · have sub' : ∀ x ∈ rowsOf S, x ∈ rowsOf (S ++ [(q, smul t (lessF S l))]) := fun x hx => by
      rw [rowsOf, List.map_append]
      exact List.mem_append_left _ hx
    rcases List.mem_append.mp hr with m | m
    · exact inS_mono hT hnew (hR r m) sub' ((e r (hR r m)).mpr (inS_mem hR m))
    · rw [List.mem_singleton.mp m]
      refine (lessF_span hw hnew hl fun a ha => inS_mem hnew (sub' _ (List.mem_map.mpr ⟨a, ha, rfl⟩))).mp ?_
      have ht' : t * at' (lessF S l) q = 1 := ht
      have e1 := smul_one' (w := w) (l := lessF S l) (t := t) (v := at' (lessF S l) q) ll ht'
      have inn : InS w (rowsOf (S ++ [(q, smul t (lessF S l))])) (smul t (lessF S l)) := inS_mem hnew (by
        rw [rowsOf, List.map_append]
        exact List.mem_append_right _ (List.mem_singleton.mpr rfl))
      have := inS_smul (c := at' (lessF S l) q) hnew (smul_len ll) inn
      rw [e1] at this
      exact this
/-! the steps in order, taken off from behind -/
structure Desc (w : Nat) (D : List (Nat × List F)) : Prop where
  good : ∀ a ∈ D, Good w a
  pw : D.Pairwise fun a b => b.1 < a.1 ∧ at' b.2 a.1 = 0
theorem Desc.sta {D : List (Nat × List F)} (h : Desc w D) : Sta w D := ⟨h.good, h.pw.imp fun ⟨a, b⟩ => ⟨by omega, b⟩⟩
theorem Desc.lad {D : List (Nat × List F)} (h : Desc w D) : Lad w D.reverse := ⟨fun a ha => h.good a (List.mem_reverse.mp ha), List.pairwise_reverse.mpr h.pw⟩
theorem desc_step {D : List (Nat × List F)} {R : List (List F)} {s : List F} {q : Nat} (h : Desc w D) (g : Good w (q, s)) (hd : ∀ a ∈ D, q < a.1) (hR : Wd w R) (e : Eqv w (rowsOf D) R) :
    Desc w (D ++ [(q, lessF D s)]) ∧ Eqv w (rowsOf (D ++ [(q, lessF D s)])) (R ++ [s]) := by
  have hw := h.sta.wds
  have hT := hw.wd
  have ls : s.length = w := g.len
  have ll := lessF_len hw ls
  have keep : ∀ j, j ≤ q → at' (lessF D s) j = at' s j := fun j hj => lessF_keep hw ls fun b hb => (h.good b hb).nil j (Nat.lt_of_le_of_lt hj (hd b hb))
  have g' : Good w (q, lessF D s) := ⟨ll, g.lt, by show at' (lessF D s) q = 1; rw [keep q (Nat.le_refl _)]; exact g.one, fun j hj => by show at' (lessF D s) j = 0; rw [keep j (Nat.le_of_lt hj)]; exact g.nil j hj⟩
  have hnew : Wd w (rowsOf (D ++ [(q, lessF D s)])) := by
    rw [rowsOf, List.map_append]
    exact wd_snoc hT ll
  have hU := wd_snoc hR ls
  refine ⟨⟨fun a ha => ?_, List.pairwise_append.mpr ⟨h.pw, List.pairwise_singleton .., fun a ha b hb => ?_⟩⟩, Eqv.of hnew hU (fun r hr => ?_) (fun r hr => ?_)⟩
  · rcases List.mem_append.mp ha with m | m
    · exact h.good a m
    · rw [List.mem_singleton.mp m]; exact g'
  · rw [List.mem_singleton.mp hb]
    exact ⟨hd a ha, lessF_zero h.sta ls a ha⟩
  · rw [rowsOf, List.map_append] at hr
    have inU : ∀ a ∈ D, InS w (R ++ [s]) a.2 := fun a ha => inS_mono hR hU (hw a ha) (fun x hx => List.mem_append_left _ hx) ((e a.2 (hw a ha)).mp (inS_mem hT (List.mem_map.mpr ⟨a, ha, rfl⟩)))
    rcases List.mem_append.mp hr with m | m
    · obtain ⟨a, ha, rfl⟩ := List.mem_map.mp m
      exact inU a ha
    · rw [List.mem_singleton.mp m]
      exact (lessF_span hw hU ls inU).mpr (inS_mem hU (List.mem_append_right _ (List.mem_singleton.mpr rfl)))
  · have sub' : ∀ x ∈ rowsOf D, x ∈ rowsOf (D ++ [(q, lessF D s)]) := fun x hx => by
      rw [rowsOf, List.map_append]
      exact List.mem_append_left _ hx
    rcases List.mem_append.mp hr with m | m
    · exact inS_mono hT hnew (hR r m) sub' ((e r (hR r m)).mpr (inS_mem hR m))
    · rw [List.mem_singleton.mp m]
      refine (lessF_span hw hnew ls fun a ha => inS_mem hnew (sub' _ (List.mem_map.mpr ⟨a, ha, rfl⟩))).mp (inS_mem hnew ?_)
      rw [rowsOf, List.map_append]
      exact List.mem_append_right _ (List.mem_singleton.mpr rfl)
/-! column by column -/
structure Col (w : Nat) (R : List (List F)) (q : Nat) (left : List (List F)) (L : List (Nat × List F)) : Prop where
  lad : Lad w L
  bef : ∀ a ∈ L, a.1 < q
  len : Wd w left
  nil : ∀ r ∈ left, ∀ j, j < q → at' r j = 0
  eqv : Eqv w (left ++ rowsOf L) R
theorem wd_app {A B : List (List F)} (a : Wd w A) (b : Wd w B) : Wd w (A ++ B) := fun r hr => (List.mem_append.mp hr).elim (a r) (b r)
theorem col_none {R left : List (List F)} {q : Nat} {L : List (Nat × List F)} (h : Col w R q left L) (hz : ∀ r ∈ left, at' r q = 0) : Col w R (q + 1) left L :=
  ⟨h.lad, fun a ha => Nat.lt_succ_of_lt (h.bef a ha), h.len, fun r hr j hj => by
    rcases Nat.lt_or_ge j q with z | z
    · exact h.nil r hr j z
    · have : j = q := by omega
      subst this
      exact hz r hr, h.eqv⟩
theorem col_some {R left rest : List (List F)} {q : Nat} {L : List (Nat × List F)} {head : List F} {t : F} (h : Col w R q left L) (hq : q < w) (hm : ∀ r, r ∈ left ↔ r = head ∨ r ∈ rest) (ht : t * at' head q = 1) :
    Col w R (q + 1) (rest.map fun r => sub r (smul t head) (at' r q)) (L.map (fun a => (a.1, sub a.2 (smul t head) (at' a.2 q))) ++ [(q, smul t head)]) := by
  have hh : head ∈ left := (hm head).mpr (.inl rfl)
  have lh := h.len head hh
  have l1 : (smul t head).length = w := smul_len lh
  have one : at' (smul t head) q = 1 := by rw [smul_at]; exact ht
  have nil : ∀ j, j < q → at' (smul t head) j = 0 := fun j hj => by rw [smul_at, h.nil head hh j hj]; grind
  have g : Good w (q, smul t head) := ⟨l1, hq, one, nil⟩
  have sa : ∀ {r : List F} {c : F}, r.length = w → ∀ j, at' (sub r (smul t head) c) j = at' r j - c * at' (smul t head) j := fun hr j => sub_at (by rw [hr, l1]) j
  have lr : ∀ r ∈ rest, r.length = w := fun r hr => h.len r ((hm r).mpr (.inr hr))
  have wl : Wd w (rest.map fun r => sub r (smul t head) (at' r q)) := fun r hr => by
    obtain ⟨r0, h0, rfl⟩ := List.mem_map.mp hr
    exact sub_len (lr r0 h0) l1
  have good1 : ∀ a ∈ L, Good w (a.1, sub a.2 (smul t head) (at' a.2 q)) := fun a ha => by
    have ga := h.lad.good a ha
    refine ⟨sub_len ga.len l1, ga.lt, ?_, fun j hj => ?_⟩
    · show at' (sub a.2 (smul t head) (at' a.2 q)) a.1 = 1
      rw [sa ga.len, ga.one, nil _ (h.bef a ha)]
      grind
    · show at' (sub a.2 (smul t head) (at' a.2 q)) j = 0
      rw [sa ga.len, ga.nil j hj, nil _ (Nat.lt_trans hj (h.bef a ha))]
      grind
  have lad' : Lad w (L.map (fun a => (a.1, sub a.2 (smul t head) (at' a.2 q))) ++ [(q, smul t head)]) := by
    refine ⟨fun a ha => ?_, List.pairwise_append.mpr ⟨?_, List.pairwise_singleton .., fun a ha b hb => ?_⟩⟩
    · rcases List.mem_append.mp ha with m | m
      · obtain ⟨a0, h0, rfl⟩ := List.mem_map.mp m
        exact good1 a0 h0
      · rw [List.mem_singleton.mp m]; exact g
    · rw [List.pairwise_map]
      refine h.lad.pw.imp_of_mem fun {a b} ha hb z => ⟨z.1, ?_⟩
      show at' (sub a.2 (smul t head) (at' a.2 q)) b.1 = 0
      rw [sa (h.lad.good a ha).len, z.2, nil _ (h.bef b hb)]
      grind
    · obtain ⟨a0, h0, rfl⟩ := List.mem_map.mp ha
      rw [List.mem_singleton.mp hb]
      refine ⟨h.bef a0 h0, ?_⟩
      show at' (sub a0.2 (smul t head) (at' a0.2 q)) q = 0
      rw [sa (h.lad.good a0 h0).len, one]
      grind
  refine ⟨lad', fun a ha => ?_, wl, fun r hr j hj => ?_, ?_⟩
  · rcases List.mem_append.mp ha with m | m
    · obtain ⟨a0, h0, rfl⟩ := List.mem_map.mp m
      exact Nat.lt_succ_of_lt (h.bef a0 h0)
    · rw [List.mem_singleton.mp m]; exact Nat.lt_succ_self q
  · obtain ⟨r0, h0, rfl⟩ := List.mem_map.mp hr
    rw [sa (lr r0 h0)]
    rcases Nat.lt_or_ge j q with z | z
    · rw [h.nil r0 ((hm r0).mpr (.inr h0)) j z, nil j z]
      grind
    · have : j = q := by omega
      subst this
      rw [one]
      grind
  · refine Eqv.trans ?_ h.eqv
    have hA := wd_app wl lad'.wd
    have hB := wd_app h.len h.lad.wd
    have inB : ∀ r, r ∈ left ∨ r ∈ rowsOf L → InS w (left ++ rowsOf L) r := fun r hr => inS_mem hB (List.mem_append.mpr hr)
    have hB1 : InS w (left ++ rowsOf L) (smul t head) := inS_smul hB lh (inB head (.inl hh))
    have hrow : rowsOf (L.map (fun a => (a.1, sub a.2 (smul t head) (at' a.2 q))) ++ [(q, smul t head)]) = (L.map fun a => sub a.2 (smul t head) (at' a.2 q)) ++ [smul t head] := by
      rw [rowsOf, List.map_append, List.map_map]; rfl
    rw [hrow] at hA ⊢
    have hA1 : InS w ((rest.map fun r => sub r (smul t head) (at' r q)) ++ ((L.map fun a => sub a.2 (smul t head) (at' a.2 q)) ++ [smul t head])) (smul t head) := inS_mem hA (List.mem_append_right _ (List.mem_append_right _ (List.mem_singleton.mpr rfl)))
    refine Eqv.of hA hB (fun r hr => ?_) (fun r hr => ?_)
    · rcases List.mem_append.mp hr with m | m
      · obtain ⟨r0, h0, rfl⟩ := List.mem_map.mp m
        exact inS_sub hB (lr r0 h0) l1 (inB r0 (.inl ((hm r0).mpr (.inr h0)))) hB1
      · rcases List.mem_append.mp m with m | m
        · obtain ⟨a0, h0, rfl⟩ := List.mem_map.mp m
          exact inS_sub hB (h.lad.good a0 h0).len l1 (inB _ (.inr (List.mem_map.mpr ⟨a0, h0, rfl⟩))) hB1
        · rw [List.mem_singleton.mp m]; exact hB1
    · rcases List.mem_append.mp hr with m | m
      · rcases (hm r).mp m with rfl | m
        · have e1 := smul_one' (w := w) (l := r) (t := t) (v := at' r q) lh ht
          have := inS_smul (c := at' r q) hA l1 hA1
          rw [e1] at this
          exact this
        · exact inS_back hA (lr r m) l1 (inS_mem hA (List.mem_append_left _ (List.mem_map.mpr ⟨r, m, rfl⟩))) hA1
      · obtain ⟨a0, h0, rfl⟩ := List.mem_map.mp m
        exact inS_back hA (h.lad.good a0 h0).len l1 (inS_mem hA (List.mem_append_right _ (List.mem_append_left _ (List.mem_map.mpr ⟨a0, h0, rfl⟩)))) hA1
theorem col_start {R : List (List F)} (hR : Wd w R) : Col w R 0 R [] := ⟨⟨fun a ha => (nomatch ha), .nil⟩, fun a ha => (nomatch ha), hR, fun r hr j hj => absurd hj (Nat.not_lt_zero j), by rw [show rowsOf ([] : List (Nat × List F)) = [] from rfl, List.append_nil]; exact .refl _⟩
theorem row_zero {r : List F} (hl : r.length = w) (hz : ∀ j, j < w → at' r j = 0) : r = zero w := by
  apply ext'
  · rw [hl, zero_len]
  · intro j
    rw [zero_at]
    rcases Nat.lt_or_ge j w with z | z
    · exact hz j z
    · unfold at'
      rw [List.getD_eq_getElem?_getD, List.getElem?_eq_none (by omega)]
      rfl
theorem col_end {R left : List (List F)} {L : List (Nat × List F)} (h : Col w R w left L) : Eqv w (rowsOf L) R := by
  refine Eqv.trans ?_ h.eqv
  have hB := wd_app h.len h.lad.wd
  refine Eqv.of h.lad.wd hB (fun r hr => inS_mem hB (List.mem_append_right _ hr)) (fun r hr => ?_)
  rcases List.mem_append.mp hr with m | m
  · rw [row_zero (h.len r m) (h.nil r m)]
    exact inS_zero h.lad.wd
  · exact inS_mem h.lad.wd m
/-! rows written otherwise -/
theorem eqv_set {R : List (List F)} {i : Nat} {r s : List F} (hR : Wd w R) (hi : R[i]? = some r) (hs : s.length = w) (a : InS w R s) (b : InS w (R.set i s) r) : Eqv w (R.set i s) R := by
  have hS : Wd w (R.set i s) := fun x hx => by
    rcases List.mem_or_eq_of_mem_set hx with m | m
    · exact hR x m
    · rw [m]; exact hs
  refine Eqv.of hS hR (fun x hx => ?_) (fun x hx => ?_)
  · rcases List.mem_or_eq_of_mem_set hx with m | m
    · exact inS_mem hR m
    · rw [m]; exact a
  · obtain ⟨j, hj⟩ := List.mem_iff_getElem?.mp hx
    by_cases e : j = i
    · subst e
      rw [hi] at hj
      cases hj
      exact b
    · refine inS_mem hS (List.mem_iff_getElem?.mpr ⟨j, ?_⟩)
      rw [List.getElem?_set_ne (fun z => e z.symm)]
      exact hj
theorem mem_set_self {α : Type} {R : List α} {i : Nat} {r s : α} (hi : R[i]? = some r) : s ∈ R.set i s := List.mem_set (List.getElem?_eq_some_iff.mp hi).1 s
theorem wd_set {R : List (List F)} {i : Nat} {s : List F} (hR : Wd w R) (hs : s.length = w) : Wd w (R.set i s) := fun x hx => by
  rcases List.mem_or_eq_of_mem_set hx with m | m
  · exact hR x m
  · rw [m]; exact hs
theorem eqv_scale {R : List (List F)} {i : Nat} {r : List F} {c t : F} (hR : Wd w R) (hi : R[i]? = some r) (hc : c * t = 1) : Eqv w (R.set i (smul c r)) R := by
  have hr := hR r (List.mem_of_getElem? hi)
  have hS := wd_set (i := i) hR (smul_len (c := c) hr)
  refine eqv_set hR hi (smul_len hr) (inS_smul hR hr (inS_mem hR (List.mem_of_getElem? hi))) ?_
  have := inS_smul (c := t) hS (smul_len hr) (inS_mem hS (mem_set_self hi))
  rw [smul_one' hr hc] at this
  exact this
theorem eqv_less {R : List (List F)} {i k : Nat} {r o : List F} {c : F} (hR : Wd w R) (hi : R[i]? = some r) (hk : R[k]? = some o) (ne : i ≠ k) : Eqv w (R.set i (sub r o c)) R := by
  have hr := hR r (List.mem_of_getElem? hi)
  have ho := hR o (List.mem_of_getElem? hk)
  have hS := wd_set (i := i) hR (sub_len (c := c) hr ho)
  refine eqv_set hR hi (sub_len hr ho) (inS_sub hR hr ho (inS_mem hR (List.mem_of_getElem? hi)) (inS_mem hR (List.mem_of_getElem? hk))) ?_
  refine inS_back (c := c) hS hr ho (inS_mem hS (mem_set_self hi)) (inS_mem hS (List.mem_iff_getElem?.mpr ⟨k, ?_⟩))
  rw [List.getElem?_set_ne ne]
  exact hk
theorem eqv_more {R E : List (List F)} (hR : Wd w R) (hE : Wd w E) (h : ∀ e ∈ E, InS w R e) : Eqv w (R ++ E) R := by
  have hA := wd_app hR hE
  refine Eqv.of hA hR (fun x hx => ?_) (fun x hx => inS_mem hA (List.mem_append_left _ hx))
  rcases List.mem_append.mp hx with m | m
  · exact inS_mem hR m
  · exact h x m
end LA

namespace LA
open Lean.Grind
structure Clk (n : Nat) : Prop where
  two : 2 ≤ n
  le : n ≤ 1000000
  pr : ∀ k : Nat, k < 1001 → 2 ≤ k → (k : Int) * k ≤ (n : Int) → (n : Int) % k ≠ 0
theorem Clk.cop {n : Nat} (h : Clk n) {v : Nat} (v0 : 0 < v) (vn : v < n) : Nat.gcd n v = 1 := by
  have hp := h.pr
  have d1 := Nat.gcd_dvd_left n v
  have d2 := Nat.gcd_dvd_right n v
  have g0 : 0 < Nat.gcd n v := Nat.gcd_pos_of_pos_right n v0
  have gle : Nat.gcd n v ≤ v := Nat.le_of_dvd v0 d2
  generalize Nat.gcd n v = g at d1 d2 g0 gle
  refine Decidable.byContradiction fun hg => ?_
  obtain ⟨m, hm⟩ := d1
  have m2 : 2 ≤ m := by
    rcases m with _ | _ | m
    · simp at hm; omega
    · simp at hm; omega
    · omega
  have key : ∀ k l : Nat, n = k * l → 2 ≤ k → k ≤ l → False := by
    intro k l e k2 kl
    have sq : k * k ≤ n := by rw [e]; exact Nat.mul_le_mul_left k kl
    have k1 : k < 1001 := by
      refine Decidable.byContradiction fun z => ?_
      have : 1001 * 1001 ≤ k * k := Nat.mul_le_mul (by omega) (by omega)
      have := h.le
      omega
    refine hp k k1 k2 (by exact_mod_cast sq) ?_
    have : n % k = 0 := by rw [e]; exact Nat.mul_mod_right k l
    exact_mod_cast this
  rcases Nat.le_total g m with z | z
  · exact key g m hm (by omega) z
  · exact key m g (by rw [hm, Nat.mul_comm]) m2 z
/-- the value that gives 1 with another, mod n -/
theorem inv_ex : ∀ (fuel : Nat) (p v one other first second : Int), (first * v - one) % p = 0 → (second * v - other) % p = 0 → Int.gcd one other = 1 → 0 ≤ other → 0 < one → other.toNat < fuel → ∃ r : Int, (r * v - 1) % p = 0
  | 0, _, _, _, _, _, _, _, _, _, _, _, h => by omega
  | fuel + 1, p, v, one, other, first, second, a, b, g, o, n, h => by
    by_cases h0 : other = 0
    · subst h0
      have e1 : one = 1 := by
        rw [Int.gcd_zero_right] at g
        omega
      exact ⟨first, by rw [← e1]; exact a⟩
    · have ho : 0 < other := by omega
      have e : one - one / other * other = one % other := by
        have := Int.emod_def one other
        rw [this, Int.mul_comm]
      have l := Int.emod_lt_of_pos one ho
      have nn := Int.emod_nonneg one (show other ≠ 0 by omega)
      refine inv_ex fuel p v other (one - one / other * other) second (first - one / other * second) b ?_ ?_ (by omega) ho (by omega)
      · have e2 : (first - one / other * second) * v - (one - one / other * other) = (first * v - one) - one / other * (second * v - other) := by grind
        rw [e2]
        obtain ⟨x, hx⟩ := Int.dvd_of_emod_eq_zero a
        obtain ⟨y, hy⟩ := Int.dvd_of_emod_eq_zero b
        rw [hx, hy]
        have e3 : p * x - one / other * (p * y) = p * (x - one / other * y) := by grind
        rw [e3, Int.mul_emod_right]
      · rw [Int.gcd_sub_mul_right_right, Int.gcd_comm]
        exact g
theorem Clk.ne {n : Nat} (h : Clk n) : NeZero n := ⟨by have := h.two; omega⟩
/-! ints and Fin n -/
section
variable {n : Nat} [NeZero n]
def cF (n : Nat) [NeZero n] (x : Int) : Fin n := Fin.ofNat n (x % n).toNat
theorem n_pos : (0 : Int) < n := by have := Nat.pos_of_neZero n; omega
theorem cF_val (x : Int) : ((cF n x).val : Int) = x % n := by
  have h0 := Int.emod_nonneg x (show (n : Int) ≠ 0 by have := n_pos (n := n); omega)
  have h1 := Int.emod_lt_of_pos x (n_pos (n := n))
  show (((x % n).toNat % n : Nat) : Int) = _
  rw [Nat.mod_eq_of_lt (by omega)]
  omega
theorem cF_of {a : Fin n} {x : Int} (h : (a.val : Int) = x % n) : a = cF n x := by
  apply Fin.ext
  have := cF_val (n := n) x
  omega
theorem cF_iff {x y : Int} : cF n x = cF n y ↔ x % n = y % n := by
  constructor
  · intro h
    rw [← cF_val (n := n) x, ← cF_val (n := n) y, h]
  · intro h
    apply cF_of
    rw [cF_val, h]
theorem cF_mod (x : Int) : cF n (x % n) = cF n x := cF_iff.mpr (Int.emod_emod_of_dvd _ (Int.dvd_refl _))
theorem cF_mul (x y : Int) : cF n (x * y) = cF n x * cF n y := by
  refine (cF_of ?_).symm
  rw [Fin.val_mul]
  push_cast
  rw [cF_val, cF_val, ← Int.mul_emod]
theorem cF_add (x y : Int) : cF n (x + y) = cF n x + cF n y := by
  refine (cF_of ?_).symm
  rw [Fin.val_add]
  push_cast
  rw [cF_val, cF_val, ← Int.add_emod]
theorem cF_zero : cF n 0 = 0 := by
  refine (cF_of ?_).symm
  simp
theorem cF_one : cF n 1 = 1 := by
  refine (cF_of ?_).symm
  show (((1 % n : Nat)) : Int) = 1 % n
  push_cast
  rfl
theorem cF_sub (x y : Int) : cF n (x - y) = cF n x - cF n y := by
  have e : cF n (x - y) + cF n y = cF n x := by rw [← cF_add]; congr 1; omega
  rw [← e]
  grind
theorem cF_neg (x : Int) : cF n (-x) = - cF n x := by
  have := cF_sub (n := n) 0 x
  rw [cF_zero] at this
  rw [show -x = 0 - x by omega, this]
  grind
theorem cF_inj {x y : Int} (hx : 0 ≤ x ∧ x < n) (hy : 0 ≤ y ∧ y < n) (h : cF n x = cF n y) : x = y := by
  have := cF_iff.mp h
  rw [Int.emod_eq_of_lt hx.1 hx.2, Int.emod_eq_of_lt hy.1 hy.2] at this
  exact this
theorem cF_nz {x : Int} (hx : 0 < x ∧ x < n) : cF n x ≠ 0 := fun h => by
  rw [← cF_zero] at h
  have := cF_inj (n := n) (by omega) ⟨by omega, n_pos⟩ h
  omega
theorem cF_all (a : Fin n) : ∃ x : Int, 0 ≤ x ∧ x < n ∧ cF n x = a := ⟨a.val, by omega, by have := a.isLt; omega, (cF_of (by rw [Int.emod_eq_of_lt (by omega) (by have := a.isLt; omega)])).symm⟩
theorem fin_ne (h : Clk n) : (1 : Fin n) ≠ 0 := by
  rw [← cF_one]
  have := h.two
  exact cF_nz (by omega)
theorem fin_inv (h : Clk n) (a : Fin n) (ha : a ≠ 0) : ∃ b : Fin n, b * a = 1 := by
  have v0 : 0 < a.val := by
    refine Nat.pos_of_ne_zero fun z => ha ?_
    apply Fin.ext
    simpa using z
  have hg := h.cop v0 a.isLt
  have n2 := h.two
  obtain ⟨r, hr⟩ := inv_ex (a.val + 1) n a.val n a.val 0 1 (by simp) (by simp) (by
    show Int.gcd ((n : Nat) : Int) ((a.val : Nat) : Int) = 1
    exact hg) (by omega) (by omega) (by omega)
  refine ⟨cF n r, ?_⟩
  have ea : a = cF n a.val := cF_of (by rw [Int.emod_eq_of_lt (by omega) (by have := a.isLt; omega)])
  rw [ea, ← cF_mul, ← cF_one, cF_iff]
  have e2 : r * (a.val : Int) = (r * a.val - 1) + 1 := by omega
  rw [e2, Int.add_emod, hr, Int.zero_add, Int.emod_emod_of_dvd _ (Int.dvd_refl _)]
theorem fin_cancel (h : Clk n) {a b c : Fin n} (ha : a ≠ 0) (e : a * b = a * c) : b = c := by
  obtain ⟨i, hi⟩ := fin_inv h a ha
  have : i * (a * b) = i * (a * c) := by rw [e]
  grind
end
/-! a ^ (n - 1) = 1 -/
theorem nodup_perm {α : Type} [BEq α] [LawfulBEq α] : ∀ {M L : List α}, M.Nodup → (∀ x ∈ M, x ∈ L) → L.length ≤ M.length → M.Perm L
  | [], L, _, _, h => by
    have : L = [] := List.length_eq_zero_iff.mp (by simpa using h)
    rw [this]
  | x :: M, L, hn, hm, h => by
    obtain ⟨h1, h2⟩ := List.nodup_cons.mp hn
    have hx := hm x List.mem_cons_self
    have p := List.perm_cons_erase hx
    refine List.Perm.trans (List.Perm.cons x (nodup_perm h2 (fun y hy => ?_) ?_)) p.symm
    · refine (List.mem_erase_of_ne fun z => ?_).mpr (hm y (List.mem_cons_of_mem _ hy))
      rw [z] at hy
      exact h1 hy
    · have := p.length_eq
      simp at this h
      omega
theorem nodup_le {α : Type} [BEq α] [LawfulBEq α] : ∀ {M L : List α}, M.Nodup → (∀ x ∈ M, x ∈ L) → M.length ≤ L.length
  | [], L, _, _ => by simp
  | x :: M, L, hn, hm => by
    obtain ⟨h1, h2⟩ := List.nodup_cons.mp hn
    have hx := hm x List.mem_cons_self
    have p := List.perm_cons_erase hx
    have := nodup_le (L := L.erase x) h2 fun y hy => by
      refine (List.mem_erase_of_ne fun z => ?_).mpr (hm y (List.mem_cons_of_mem _ hy))
      rw [z] at hy
      exact h1 hy
    have := p.length_eq
    simp at this ⊢
    omega
def prodL {F : Type} [CommRing F] : List F → F
  | [] => 1
  | x :: xs => x * prodL xs
theorem prodL_perm {F : Type} [CommRing F] {A B : List F} (p : A.Perm B) : prodL A = prodL B := by
  induction p with
  | nil => rfl
  | cons x _ ih => show x * _ = x * _; rw [ih]
  | swap x y l => show y * (x * _) = x * (y * _); grind
  | trans _ _ a b => exact a.trans b
theorem prodL_map {F : Type} [CommRing F] (a : F) : ∀ A : List F, prodL (A.map fun x => a * x) = a ^ A.length * prodL A
  | [] => by show (1 : F) = a ^ 0 * 1; grind
  | x :: A => by
    show a * x * prodL (A.map fun x => a * x) = a ^ (A.length + 1) * (x * prodL A)
    rw [prodL_map a A, Semiring.pow_succ]
    grind
theorem prodL_ne {n : Nat} [NeZero n] (h : Clk n) : ∀ A : List (Fin n), (∀ x ∈ A, x ≠ 0) → prodL A ≠ 0
  | [], _ => fin_ne h
  | x :: A, hA => fun z => by
    have hx := hA x List.mem_cons_self
    have : x * prodL A = x * 0 := by
      have z' : x * prodL A = 0 := z
      rw [z']
      grind
    exact prodL_ne h A (fun y hy => hA y (List.mem_cons_of_mem _ hy)) (fin_cancel h hx this)
theorem fermat {m : Nat} (h : Clk (m + 1)) (a : Fin (m + 1)) (ha : a ≠ 0) : a ^ m = 1 := by
  have hU : ∀ x : Fin (m + 1), x ∈ (List.finRange m).map Fin.succ ↔ x ≠ 0 := fun x => by
    constructor
    · intro hx
      obtain ⟨y, _, rfl⟩ := List.mem_map.mp hx
      exact Fin.succ_ne_zero y
    · intro hx
      exact List.mem_map.mpr ⟨x.pred hx, List.mem_finRange _, Fin.succ_pred x hx⟩
  have hN : ((List.finRange m).map Fin.succ).Nodup := (List.nodup_finRange m).map Fin.succ (fun x y hxy z => hxy (Fin.succ_inj.mp z))
  have hM : (((List.finRange m).map Fin.succ).map fun x => a * x).Nodup := hN.map (fun x => a * x) fun x y hxy z => hxy (fin_cancel h ha z)
  have p := nodup_perm hM (L := (List.finRange m).map Fin.succ) (fun y hy => by
    obtain ⟨x, hx, rfl⟩ := List.mem_map.mp hy
    refine (hU _).mpr fun z => ?_
    have hx0 := (hU x).mp hx
    exact hx0 (fin_cancel h ha (z.trans (by grind)))) (by simp)
  have e := prodL_perm p
  rw [prodL_map, List.length_map, List.length_finRange] at e
  have hne := prodL_ne h _ fun x hx => (hU x).mp hx
  refine fin_cancel h hne ?_
  grind
end LA

/-! ### trees told by ties: sides, and a search that finds nothing twice (plain) -/
namespace LT
def Adj (ts : List (Nat × Nat)) (x y : Int) : Prop := ∃ a ∈ ts, (x = a.1 ∧ y = a.2) ∨ (x = a.2 ∧ y = a.1)
theorem Adj.symm {ts : List (Nat × Nat)} {x y : Int} (h : Adj ts x y) : Adj ts y x := by
  obtain ⟨a, h1, h2⟩ := h
  exact ⟨a, h1, h2.elim (fun z => .inr ⟨z.2, z.1⟩) fun z => .inl ⟨z.2, z.1⟩⟩
inductive Rc (ts : List (Nat × Nat)) (bar : Option Int) (s : Int) : Int → Prop where
  | base : Rc ts bar s s
  | step {x y : Int} : Rc ts bar s x → Adj ts x y → bar ≠ some y → Rc ts bar s y
structure Rooted (n : Nat) (ts : List (Nat × Nat)) (pa : Int → Int) (rk : Int → Nat) (r : Int) : Prop where
  edge : ∀ x y, Adj ts x y → (pa x = y ∧ rk y < rk x) ∨ (pa y = x ∧ rk x < rk y)
  up : ∀ v : Int, 0 ≤ v → v < n → v ≠ r → Adj ts v (pa v) ∧ rk (pa v) < rk v
  rng : ∀ x y, Adj ts x y → 0 ≤ x ∧ x < n
  root : 0 ≤ r ∧ r < n
  rk0 : rk r = 0
section
variable {n : Nat} {ts : List (Nat × Nat)} {pa : Int → Int} {rk : Int → Nat} {r : Int}
theorem Rc.trans {bar : Option Int} {s x y : Int} (h : Rc ts bar s x) (g : Rc ts bar x y) : Rc ts bar s y := by
  induction g with
  | base => exact h
  | step _ h2 h3 ih => exact ih.step h2 h3
theorem Rooted.up_rng (R : Rooted n ts pa rk r) {v : Int} (h0 : 0 ≤ v) (h1 : v < n) (hr : v ≠ r) : 0 ≤ pa v ∧ pa v < n := R.rng _ _ (R.up v h0 h1 hr).1.symm
/-- from any post to the root -/
theorem Rooted.to_root (R : Rooted n ts pa rk r) : ∀ (k : Nat) (v : Int), rk v ≤ k → 0 ≤ v → v < n → Rc ts none v r
  | 0, v, hk, h0, h1 => by
    by_cases hr : v = r
    · rw [hr]; exact .base
    · have := (R.up v h0 h1 hr).2
      omega
  | k + 1, v, hk, h0, h1 => by
    by_cases hr : v = r
    · rw [hr]; exact .base
    · obtain ⟨u1, u2⟩ := R.up v h0 h1 hr
      obtain ⟨w1, w2⟩ := R.up_rng h0 h1 hr
      exact ((Rc.base (bar := none)).step u1 (by simp)).trans (R.to_root k (pa v) (by omega) w1 w2)
theorem Rooted.from_root (R : Rooted n ts pa rk r) : ∀ (k : Nat) (v : Int), rk v ≤ k → 0 ≤ v → v < n → Rc ts none r v
  | 0, v, hk, h0, h1 => by
    by_cases hr : v = r
    · rw [hr]; exact .base
    · have := (R.up v h0 h1 hr).2
      omega
  | k + 1, v, hk, h0, h1 => by
    by_cases hr : v = r
    · rw [hr]; exact .base
    · obtain ⟨u1, u2⟩ := R.up v h0 h1 hr
      obtain ⟨w1, w2⟩ := R.up_rng h0 h1 hr
      exact (R.from_root k (pa v) (by omega) w1 w2).step u1.symm (by simp)
theorem Rooted.all (R : Rooted n ts pa rk r) {u v : Int} (h0 : 0 ≤ u) (h1 : u < n) (h2 : 0 ≤ v) (h3 : v < n) : Rc ts none u v :=
  (R.to_root _ u (Nat.le_refl _) h0 h1).trans (R.from_root _ v (Nat.le_refl _) h2 h3)
theorem Rooted.rc_rng (R : Rooted n ts pa rk r) {bar : Option Int} {s v : Int} (h : Rc ts bar s v) (h0 : 0 ≤ s) (h1 : s < n) : 0 ≤ v ∧ v < n := by
  induction h with
  | base => exact ⟨h0, h1⟩
  | step _ h2 _ _ => exact R.rng _ _ h2.symm
/-- the posts below b -/
inductive Sub (pa : Int → Int) (r b : Int) : Int → Prop where
  | here : Sub pa r b b
  | up {v : Int} : v ≠ r → Sub pa r b (pa v) → Sub pa r b v
theorem Sub.inv {b v : Int} (h : Sub pa r b v) : v = b ∨ (v ≠ r ∧ Sub pa r b (pa v)) := by
  cases h with
  | here => exact .inl rfl
  | up h1 h2 => exact .inr ⟨h1, h2⟩
theorem Rooted.sub_rk (R : Rooted n ts pa rk r) {b v : Int} (h : Sub pa r b v) : 0 ≤ v → v < n → rk b ≤ rk v := by
  induction h with
  | here => exact fun _ _ => Nat.le_refl _
  | up h1 _ ih =>
    intro h0 hn
    obtain ⟨w1, w2⟩ := R.up_rng h0 hn h1
    have := ih w1 w2
    have := (R.up _ h0 hn h1).2
    omega
section
variable {a b : Int}
theorem Rooted.below (R : Rooted n ts pa rk r) (hab : Adj ts a b) (hp : pa b = a) (hk : rk a < rk b) {v : Int} : Rc ts (some a) b v ↔ (0 ≤ v ∧ v < n) ∧ Sub pa r b v := by
  have hb := R.rng _ _ hab.symm
  have hbr : b ≠ r := fun e => by rw [e, R.rk0] at hk; omega
  constructor
  · intro h
    refine ⟨R.rc_rng h hb.1 hb.2, ?_⟩
    induction h with
    | base => exact .here
    | @step x y h1 h2 h3 ih =>
      rcases R.edge _ _ h2 with ⟨e, k⟩ | ⟨e, k⟩
      · rcases ih.inv with z | ⟨_, z⟩
        · subst z
          rw [hp] at e
          exact absurd (by rw [e]) h3
        · rw [← e]
          exact z
      · have hyr : y ≠ r := fun z => by rw [z, R.rk0] at k; omega
        exact .up hyr (by rw [e]; exact ih)
  · rintro ⟨⟨h0, h1⟩, h⟩
    induction h with
    | here => exact .base
    | up g1 g2 ih =>
      obtain ⟨w1, w2⟩ := R.up_rng h0 h1 g1
      obtain ⟨u1, u2⟩ := R.up _ h0 h1 g1
      refine (ih w1 w2).step u1.symm fun e => ?_
      have := R.sub_rk g2 w1 w2
      rw [Option.some.inj e] at hk
      omega
theorem Rooted.above (R : Rooted n ts pa rk r) (hab : Adj ts a b) (hp : pa b = a) (hk : rk a < rk b) {v : Int} : Rc ts (some b) a v ↔ (0 ≤ v ∧ v < n) ∧ ¬ Sub pa r b v := by
  have ha := R.rng _ _ hab
  have hbr : b ≠ r := fun e => by rw [e, R.rk0] at hk; omega
  have hna : ¬ Sub pa r b a := fun h => by
    have := R.sub_rk h ha.1 ha.2
    omega
  constructor
  · intro h
    refine ⟨R.rc_rng h ha.1 ha.2, ?_⟩
    induction h with
    | base => exact hna
    | @step x y h1 h2 h3 ih =>
      intro hy
      rcases R.edge _ _ h2 with ⟨e, k⟩ | ⟨e, k⟩
      · have hxr : x ≠ r := fun z => by rw [z, R.rk0] at k; omega
        exact ih (.up hxr (by rw [e]; exact hy))
      · rcases hy.inv with z | ⟨_, z⟩
        · exact h3 (by rw [z])
        · rw [e] at z
          exact ih z
  · rintro ⟨⟨h0, h1⟩, h⟩
    have toR : ∀ (k : Nat) (u : Int), rk u ≤ k → 0 ≤ u → u < n → ¬ Sub pa r b u → Rc ts (some b) u r := by
      intro k
      induction k with
      | zero =>
        intro u hu h0 h1 _
        by_cases hr : u = r
        · rw [hr]; exact .base
        · have := (R.up u h0 h1 hr).2
          omega
      | succ k ih =>
        intro u hu h0 h1 hn
        by_cases hr : u = r
        · rw [hr]; exact .base
        · obtain ⟨u1, u2⟩ := R.up u h0 h1 hr
          obtain ⟨w1, w2⟩ := R.up_rng h0 h1 hr
          have hn' : ¬ Sub pa r b (pa u) := fun z => hn (.up hr z)
          exact (Rc.base.step u1 fun e => hn' (by rw [← Option.some.inj e]; exact .here)).trans (ih (pa u) (by omega) w1 w2 hn')
    have frR : ∀ (k : Nat) (u : Int), rk u ≤ k → 0 ≤ u → u < n → ¬ Sub pa r b u → Rc ts (some b) r u := by
      intro k
      induction k with
      | zero =>
        intro u hu h0 h1 _
        by_cases hr : u = r
        · rw [hr]; exact .base
        · have := (R.up u h0 h1 hr).2
          omega
      | succ k ih =>
        intro u hu h0 h1 hn
        by_cases hr : u = r
        · rw [hr]; exact .base
        · obtain ⟨u1, u2⟩ := R.up u h0 h1 hr
          obtain ⟨w1, w2⟩ := R.up_rng h0 h1 hr
          exact (ih (pa u) (by omega) w1 w2 fun z => hn (.up hr z)).step u1.symm fun e => hn (by rw [← Option.some.inj e]; exact .here)
    exact (toR _ a (Nat.le_refl _) ha.1 ha.2 hna).trans (frR _ v (Nat.le_refl _) h0 h1 h)
end
/-- a tie parts the posts in two -/
theorem Rooted.parts (R : Rooted n ts pa rk r) {a b v : Int} (hab : Adj ts a b) (h0 : 0 ≤ v) (h1 : v < n) : (Rc ts (some b) a v ∧ ¬ Rc ts (some a) b v) ∨ (¬ Rc ts (some b) a v ∧ Rc ts (some a) b v) := by
  rcases R.edge _ _ hab with ⟨e, k⟩ | ⟨e, k⟩
  · rw [R.below hab.symm e k, R.above hab.symm e k]
    by_cases h : Sub pa r a v
    · exact .inl ⟨⟨⟨h0, h1⟩, h⟩, fun z => z.2 h⟩
    · exact .inr ⟨fun z => h z.2, ⟨⟨h0, h1⟩, h⟩⟩
  · rw [R.below hab e k, R.above hab e k]
    by_cases h : Sub pa r b v
    · exact .inr ⟨fun z => z.2 h, ⟨⟨h0, h1⟩, h⟩⟩
    · exact .inl ⟨⟨⟨h0, h1⟩, h⟩, fun z => h z.2⟩
/-! a part of the tree with a top -/
structure RS (pa : Int → Int) (r : Int) (n : Nat) (S : List Int) (t : Int) : Prop where
  top : t ∈ S
  pr : ∀ s ∈ S, s ≠ t → s ≠ r ∧ pa s ∈ S
  rng : ∀ s ∈ S, 0 ≤ s ∧ s < n
variable {S : List Int} {t : Int}
theorem RS.min (R : Rooted n ts pa rk r) (h : RS pa r n S t) : ∀ (k : Nat) (s : Int), rk s ≤ k → s ∈ S → rk t ≤ rk s
  | 0, s, hk, hs => by
    by_cases e : s = t
    · rw [e]; exact Nat.le_refl _
    · obtain ⟨h1, h2⟩ := h.pr s hs e
      have := (R.up s (h.rng s hs).1 (h.rng s hs).2 h1).2
      omega
  | k + 1, s, hk, hs => by
    by_cases e : s = t
    · rw [e]; exact Nat.le_refl _
    · obtain ⟨h1, h2⟩ := h.pr s hs e
      have := (R.up s (h.rng s hs).1 (h.rng s hs).2 h1).2
      have := RS.min R h k (pa s) (by omega) h2
      omega
theorem RS.one (R : Rooted n ts pa rk r) (h : RS pa r n S t) {v x y : Int} (hv : v ∉ S) (hx : x ∈ S) (hy : y ∈ S) (ax : Adj ts v x) (ay : Adj ts v y) : x = y := by
  have key : ∀ z, z ∈ S → Adj ts v z → (pa v = z ∧ rk z < rk v) ∨ (z = t ∧ rk v < rk t) := fun z hz az => by
    rcases R.edge _ _ az with e | ⟨e, k⟩
    · exact .inl e
    · by_cases g : z = t
      · exact .inr ⟨g, by rw [← g]; exact k⟩
      · have := (h.pr z hz g).2
        rw [e] at this
        exact absurd this hv
  rcases key x hx ax with ⟨e1, k1⟩ | ⟨e1, k1⟩ <;> rcases key y hy ay with ⟨e2, k2⟩ | ⟨e2, k2⟩
  · rw [← e1, ← e2]
  · have := RS.min R h _ x (Nat.le_refl _) hx
    omega
  · have := RS.min R h _ y (Nat.le_refl _) hy
    omega
  · rw [e1, e2]
theorem RS.add (R : Rooted n ts pa rk r) (h : RS pa r n S t) {u v : Int} (hv : v ∉ S) (hu : u ∈ S) (a : Adj ts u v) {S' : List Int} (hS : ∀ x, x ∈ S' ↔ x ∈ S ∨ x = v) : ∃ t', RS pa r n S' t' := by
  have hr := R.rng _ _ a.symm
  rcases R.edge _ _ a with ⟨e, k⟩ | ⟨e, k⟩
  · refine ⟨v, (hS v).mpr (.inr rfl), fun s hs hne => ?_, fun s hs => ?_⟩
    · have hs' := ((hS s).mp hs).resolve_right hne
      by_cases g : s = t
      · by_cases g2 : u = t
        · rw [g, ← g2]
          exact ⟨fun z => by rw [z, R.rk0] at k; omega, by rw [e]; exact (hS v).mpr (.inr rfl)⟩
        · exact absurd (e ▸ (h.pr u hu g2).2) hv
      · obtain ⟨h1, h2⟩ := h.pr s hs' g
        exact ⟨h1, (hS _).mpr (.inl h2)⟩
    · rcases (hS s).mp hs with z | z
      · exact h.rng s z
      · rw [z]; exact hr
  · refine ⟨t, (hS t).mpr (.inl h.top), fun s hs hne => ?_, fun s hs => ?_⟩
    · rcases (hS s).mp hs with z | z
      · obtain ⟨h1, h2⟩ := h.pr s z hne
        exact ⟨h1, (hS _).mpr (.inl h2)⟩
      · rw [z]
        exact ⟨fun g => by rw [g, R.rk0] at k; omega, by rw [e]; exact (hS _).mpr (.inl hu)⟩
    · rcases (hS s).mp hs with z | z
      · exact h.rng s z
      · rw [z]; exact hr
/-! the search -/
structure Dfs (n : Nat) (ts : List (Nat × Nat)) (pa : Int → Int) (r : Int) (bar : Option Int) (s : Int) (fd wt : List Int) : Prop where
  nd : (fd ++ wt).Nodup
  rs : ∃ t, RS pa r n (fd ++ wt) t
  rch : ∀ x ∈ fd ++ wt, Rc ts bar s x
  src : s ∈ fd ++ wt
  ind : ∀ x ∈ wt, ∀ y ∈ wt, ¬ Adj ts x y
  cls : ∀ x ∈ fd, ∀ y, Adj ts x y → bar ≠ some y → y ∈ fd ++ wt
theorem Rooted.irr (R : Rooted n ts pa rk r) {x : Int} (h : Adj ts x x) : False := by
  rcases R.edge _ _ h with ⟨_, k⟩ | ⟨_, k⟩ <;> omega
theorem Dfs.start (R : Rooted n ts pa rk r) {bar : Option Int} {s : Int} (h0 : 0 ≤ s) (h1 : s < n) : Dfs n ts pa r bar s [] [s] where
  nd := by simp
  rs := ⟨s, by simp, fun x hx hne => absurd (List.mem_singleton.mp (by simpa using hx)) hne, fun x hx => by
    have := List.mem_singleton.mp (show x ∈ [s] by simpa using hx)
    rw [this]; exact ⟨h0, h1⟩⟩
  rch := fun x hx => by
    rw [List.mem_singleton.mp (show x ∈ [s] by simpa using hx)]
    exact .base
  src := by simp
  ind := fun x hx y hy a => by
    rw [List.mem_singleton.mp hx, List.mem_singleton.mp hy] at a
    exact R.irr a
  cls := fun x hx => by simp at hx
theorem Dfs.step (R : Rooted n ts pa rk r) {bar : Option Int} {s : Int} {fd wr near : List Int} {x : Int} (h : Dfs n ts pa r bar s fd (wr ++ [x])) (hn : near.Nodup) (hm : ∀ y, y ∈ near ↔ Adj ts x y) (p : Int → Bool) (hp : ∀ y, p y = true ↔ y ∉ fd ++ [x] ∧ bar ≠ some y) :
    Dfs n ts pa r bar s (fd ++ [x]) (wr ++ near.filter p) := by
  have hS : ∀ y, y ∈ (fd ++ [x]) ++ wr ↔ y ∈ fd ++ (wr ++ [x]) := fun y => by
    simp only [List.mem_append, List.mem_singleton]
    constructor
    · rintro ((a | a) | a)
      · exact .inl a
      · exact .inr (.inr a)
      · exact .inr (.inl a)
    · rintro (a | a | a)
      · exact .inl (.inl a)
      · exact .inr a
      · exact .inl (.inr a)
  have hxw : x ∈ wr ++ [x] := List.mem_append_right _ (List.mem_singleton.mpr rfl)
  have key : ∀ ad : List Int, ad.Nodup → (∀ y ∈ ad, Adj ts x y ∧ y ∉ fd ++ [x]) → ((fd ++ [x]) ++ (wr ++ ad)).Nodup ∧ (∃ t, RS pa r n ((fd ++ [x]) ++ (wr ++ ad)) t) ∧ ∀ y ∈ wr ++ ad, ∀ z ∈ wr ++ ad, ¬ Adj ts y z := by
    intro ad
    induction ad with
    | nil =>
      intro _ _
      rw [List.append_nil]
      refine ⟨?_, ?_, fun y hy z hz => h.ind y (List.mem_append_left _ hy) z (List.mem_append_left _ hz)⟩
      · have hpm : ((fd ++ [x]) ++ wr).Perm (fd ++ (wr ++ [x])) := by
          rw [List.append_assoc]
          exact List.Perm.append_left fd List.perm_append_comm
        exact hpm.nodup_iff.mpr h.nd
      · obtain ⟨t, ht⟩ := h.rs
        exact ⟨t, (hS t).mpr ht.top, fun z hz hne => ⟨(ht.pr z ((hS z).mp hz) hne).1, (hS _).mpr (ht.pr z ((hS z).mp hz) hne).2⟩, fun z hz => ht.rng z ((hS z).mp hz)⟩
    | cons o ad ih =>
      intro nd hh
      obtain ⟨n1, n2⟩ := List.nodup_cons.mp nd
      obtain ⟨k1, ⟨t, k2⟩, k3⟩ := ih n2 fun y hy => hh y (List.mem_cons_of_mem _ hy)
      obtain ⟨a1, a2⟩ := hh o (List.mem_cons_self ..)
      have ho : o ∉ (fd ++ [x]) ++ (wr ++ ad) := fun hm => by
        rcases List.mem_append.mp hm with z | z
        · exact a2 z
        · rcases List.mem_append.mp z with z | z
          · exact h.ind x hxw o (List.mem_append_left _ z) a1
          · exact n1 z
      have hx : x ∈ (fd ++ [x]) ++ (wr ++ ad) := List.mem_append_left _ (List.mem_append_right _ (List.mem_singleton.mpr rfl))
      have pm : ((fd ++ [x]) ++ (wr ++ o :: ad)).Perm (o :: ((fd ++ [x]) ++ (wr ++ ad))) := by
        refine (List.Perm.append_left _ List.perm_middle).trans ?_
        exact List.perm_middle
      refine ⟨pm.nodup_iff.mpr (List.nodup_cons.mpr ⟨ho, k1⟩), RS.add R k2 ho hx a1 fun y => ?_, ?_⟩
      · rw [pm.mem_iff, List.mem_cons]
        exact ⟨fun z => z.symm, fun z => z.symm⟩
      · have no : ∀ y ∈ wr ++ ad, ¬ Adj ts o y := fun y hy a => by
          have e := RS.one R k2 ho hx (List.mem_append_right _ hy) a1.symm a
          rw [List.nodup_append] at k1
          exact k1.2.2 x (List.mem_append_right _ (List.mem_singleton.mpr rfl)) y hy e
        have mem : ∀ y, y ∈ wr ++ o :: ad → y = o ∨ y ∈ wr ++ ad := fun y hy => by
          simp only [List.mem_append, List.mem_cons] at hy ⊢
          rcases hy with z | z | z
          · exact .inr (.inl z)
          · exact .inl z
          · exact .inr (.inr z)
        intro y hy z hz a
        rcases mem y hy with e1 | e1 <;> rcases mem z hz with e2 | e2
        · rw [e1, e2] at a; exact R.irr a
        · rw [e1] at a; exact no z e2 a
        · rw [e2] at a; exact no y e1 a.symm
        · exact k3 y e1 z e2 a
  obtain ⟨k1, k2, k3⟩ := key (near.filter p) (hn.filter _) fun y hy => by
    obtain ⟨m1, m2⟩ := List.mem_filter.mp hy
    exact ⟨(hm y).mp m1, ((hp y).mp m2).1⟩
  have hin : ∀ y, y ∈ fd ++ (wr ++ [x]) → y ∈ (fd ++ [x]) ++ (wr ++ near.filter p) := fun y hy => by
    have := (hS y).mpr hy
    rw [← List.append_assoc]
    exact List.mem_append_left _ this
  refine ⟨k1, k2, fun y hy => ?_, hin _ h.src, k3, fun y hy z a hb => ?_⟩
  · rw [← List.append_assoc] at hy
    rcases List.mem_append.mp hy with m | m
    · exact h.rch y ((hS y).mp m)
    · obtain ⟨m1, m2⟩ := List.mem_filter.mp m
      exact (h.rch x (List.mem_append_right _ hxw)).step ((hm y).mp m1) ((hp y).mp m2).2
  · rcases List.mem_append.mp hy with m | m
    · exact hin _ (h.cls y m z a hb)
    · rw [List.mem_singleton.mp m] at a
      by_cases g : z ∈ fd ++ [x]
      · exact List.mem_append_left _ g
      · exact List.mem_append_right _ (List.mem_append_right _ (List.mem_filter.mpr ⟨(hm z).mpr a, (hp z).mpr ⟨g, hb⟩⟩))
theorem Dfs.fin {bar : Option Int} {s : Int} {fd : List Int} (h : Dfs n ts pa r bar s fd []) : fd.Nodup ∧ ∀ y, y ∈ fd ↔ Rc ts bar s y := by
  have e : fd ++ [] = fd := List.append_nil _
  refine ⟨e ▸ h.nd, fun y => ⟨fun hy => h.rch y (e.symm ▸ hy), fun g => ?_⟩⟩
  induction g with
  | base => exact e ▸ h.src
  | step _ h2 h3 ih => exact e ▸ h.cls _ ih _ h2 h3
end
end LT

/-! ### ties made of names in a drawn order, each tied to one ahead of it -/
namespace LT
def srt (u w : Nat) : Nat × Nat := if u ≤ w then (u, w) else (w, u)
theorem srt_cases (u w : Nat) : srt u w = (u, w) ∨ srt u w = (w, u) := by
  unfold srt
  split
  · exact .inl rfl
  · exact .inr rfl
theorem srt_lt {u w : Nat} (h : u ≠ w) : (srt u w).1 < (srt u w).2 := by
  unfold srt
  split
  · show u < w; omega
  · show w < u; omega
theorem Rooted.perm {n : Nat} {ts us : List (Nat × Nat)} {pa : Int → Int} {rk : Int → Nat} {r : Int} (R : Rooted n ts pa rk r) (p : us.Perm ts) : Rooted n us pa rk r := by
  have e : ∀ x y, Adj us x y ↔ Adj ts x y := fun x y => ⟨fun ⟨a, h1, h2⟩ => ⟨a, p.mem_iff.mp h1, h2⟩, fun ⟨a, h1, h2⟩ => ⟨a, p.mem_iff.mpr h1, h2⟩⟩
  exact ⟨fun x y h => R.edge x y ((e x y).mp h), fun v h0 h1 hr => ⟨(e _ _).mpr (R.up v h0 h1 hr).1, (R.up v h0 h1 hr).2⟩, fun x y h => R.rng x y ((e x y).mp h), R.root, R.rk0⟩
theorem nd_at {α : Type} {xs : List α} {i j : Nat} {x : α} (h : xs.Nodup) (hi : xs[i]? = some x) (hj : xs[j]? = some x) : i = j := by
  obtain ⟨i1, i2⟩ := List.getElem?_eq_some_iff.mp hi
  obtain ⟨j1, j2⟩ := List.getElem?_eq_some_iff.mp hj
  rcases Nat.lt_trichotomy i j with z | z | z
  · exact absurd (i2.trans j2.symm) (List.pairwise_iff_getElem.mp h i j i1 j1 z)
  · exact z
  · exact absurd (j2.trans i2.symm) (List.pairwise_iff_getElem.mp h j i j1 i1 z)
theorem ties_made {n : Nat} {nm : List Nat} (hp : nm.Perm (List.range n)) {ps : List (Nat × Nat)} (hl : ps.length + 1 = n) (h : ∀ j a, ps[j]? = some a → ∃ o, o ≤ j ∧ a = srt (nm.getD (j + 1) 0) (nm.getD o 0)) :
    (∀ a ∈ ps, a.1 < a.2 ∧ a.2 < n) ∧ ps.Nodup ∧ ∃ pa rk r, Rooted n ps pa rk r := by
  have nd : nm.Nodup := hp.nodup_iff.mpr List.nodup_range
  have len : nm.length = n := by rw [hp.length_eq, List.length_range]
  have at' : ∀ i, i < n → nm[i]? = some (nm.getD i 0) := fun i hi => by
    rw [List.getD_eq_getElem?_getD, List.getElem?_eq_getElem (by omega)]
    rfl
  have inj : ∀ i j, i < n → j < n → nm.getD i 0 = nm.getD j 0 → i = j := fun i j hi hj e => nd_at nd (at' i hi) (by rw [e]; exact at' j hj)
  have lt : ∀ i, i < n → nm.getD i 0 < n := fun i hi => List.mem_range.mp (hp.mem_iff.mp (List.mem_of_getElem? (at' i hi)))
  have idx : ∀ i, i < n → nm.idxOf (nm.getD i 0) = i := fun i hi => by
    have hm : nm.getD i 0 ∈ nm := List.mem_of_getElem? (at' i hi)
    have h1 : nm.idxOf (nm.getD i 0) < nm.length := List.idxOf_lt_length_iff.mpr hm
    have h2 : nm[nm.idxOf (nm.getD i 0)] = nm.getD i 0 := List.getElem_idxOf h1
    exact nd_at nd (by rw [List.getElem?_eq_getElem h1, h2]) (at' i hi)
  have bk : ∀ v, v < n → ∃ i, i < n ∧ nm.getD i 0 = v := fun v hv => by
    obtain ⟨i, hi⟩ := List.mem_iff_getElem?.mp (hp.mem_iff.mpr (List.mem_range.mpr hv))
    have := (List.getElem?_eq_some_iff.mp hi).1
    exact ⟨i, by omega, by rw [List.getD_eq_getElem?_getD, hi]; rfl⟩
  obtain ⟨pr, hpr⟩ : ∃ pr : Nat → Nat, ∀ j, j < ps.length → pr j ≤ j ∧ ps[j]? = some (srt (nm.getD (j + 1) 0) (nm.getD (pr j) 0)) := by
    have : ∀ j, ∃ o, j < ps.length → o ≤ j ∧ ps[j]? = some (srt (nm.getD (j + 1) 0) (nm.getD o 0)) := fun j => by
      by_cases hj : j < ps.length
      · obtain ⟨o, h1, h2⟩ := h j _ (List.getElem?_eq_getElem hj)
        exact ⟨o, fun _ => ⟨h1, by rw [List.getElem?_eq_getElem hj, h2]⟩⟩
      · exact ⟨0, fun z => absurd z hj⟩
    exact ⟨fun j => Classical.choose (this j), fun j hj => Classical.choose_spec (this j) hj⟩
  have mem : ∀ a ∈ ps, ∃ j, j < ps.length ∧ ps[j]? = some a ∧ a = srt (nm.getD (j + 1) 0) (nm.getD (pr j) 0) := fun a ha => by
    obtain ⟨j, hj⟩ := List.mem_iff_getElem?.mp ha
    have hjl := (List.getElem?_eq_some_iff.mp hj).1
    have := (hpr j hjl).2
    rw [hj] at this
    exact ⟨j, hjl, hj, Option.some.inj this⟩
  refine ⟨fun a ha => ?_, ?_, ?_⟩
  · obtain ⟨j, hjl, _, rfl⟩ := mem a ha
    have hle := (hpr j hjl).1
    have hne : nm.getD (j + 1) 0 ≠ nm.getD (pr j) 0 := fun e => by
      have := inj _ _ (by omega) (by omega) e
      omega
    refine ⟨srt_lt hne, ?_⟩
    have l1 := lt (j + 1) (by omega)
    have l2 := lt (pr j) (by omega)
    rcases srt_cases (nm.getD (j + 1) 0) (nm.getD (pr j) 0) with e | e <;> rw [e]
    · exact l2
    · exact l1
  · refine List.pairwise_iff_getElem.mpr fun i j hi hj hij e => ?_
    have h1 := (hpr i hi).2
    have h2 := (hpr j hj).2
    have l1 := (hpr i hi).1
    have l2 := (hpr j hj).1
    rw [List.getElem?_eq_getElem hi] at h1
    rw [List.getElem?_eq_getElem hj] at h2
    have e2 := (Option.some.inj h1).symm.trans (e.trans (Option.some.inj h2))
    have k : (nm.getD (i + 1) 0 = nm.getD (j + 1) 0) ∨ (nm.getD (i + 1) 0 = nm.getD (pr j) 0 ∧ nm.getD (pr i) 0 = nm.getD (j + 1) 0) := by
      rcases srt_cases (nm.getD (i + 1) 0) (nm.getD (pr i) 0) with a | a <;> rcases srt_cases (nm.getD (j + 1) 0) (nm.getD (pr j) 0) with b | b <;> rw [a, b] at e2 <;> injection e2 with x1 x2
      · exact .inl x1
      · exact .inr ⟨x1, x2⟩
      · exact .inr ⟨x2, x1⟩
      · exact .inl x2
    rcases k with k | ⟨k1, k2⟩
    · have := inj _ _ (by omega) (by omega) k
      omega
    · have := inj _ _ (by omega) (by omega) k2
      omega
  · have hadj : ∀ j, j < ps.length → Adj ps (nm.getD (j + 1) 0 : Nat) (nm.getD (pr j) 0 : Nat) := fun j hj => by
      refine ⟨_, List.mem_of_getElem? (hpr j hj).2, ?_⟩
      rcases srt_cases (nm.getD (j + 1) 0) (nm.getD (pr j) 0) with e | e <;> rw [e]
      · exact .inl ⟨rfl, rfl⟩
      · exact .inr ⟨rfl, rfl⟩
    have inv : ∀ x y, Adj ps x y → ∃ j, j < ps.length ∧ ((x = (nm.getD (j + 1) 0 : Nat) ∧ y = (nm.getD (pr j) 0 : Nat)) ∨ (y = (nm.getD (j + 1) 0 : Nat) ∧ x = (nm.getD (pr j) 0 : Nat))) := fun x y ⟨a, ha, hxy⟩ => by
      obtain ⟨j, hjl, _, e⟩ := mem a ha
      refine ⟨j, hjl, ?_⟩
      rcases srt_cases (nm.getD (j + 1) 0) (nm.getD (pr j) 0) with b | b <;> rw [b] at e <;> subst e
      · exact hxy.imp id fun z => ⟨z.2, z.1⟩
      · exact hxy.elim (fun z => .inr ⟨z.2, z.1⟩) fun z => .inl z
    refine ⟨fun v => (nm.getD (pr (nm.idxOf v.toNat - 1)) 0 : Nat), fun v => nm.idxOf v.toNat, (nm.getD 0 0 : Nat), fun x y hxy => ?_, fun v h0 h1 hr => ?_, fun x y hxy => ?_, ?_, ?_⟩
    · obtain ⟨j, hj, ⟨rfl, rfl⟩ | ⟨rfl, rfl⟩⟩ := inv x y hxy
      · refine .inl ?_
        have := (hpr j hj).1
        rw [Int.toNat_natCast, Int.toNat_natCast, idx _ (by omega), idx _ (by omega)]
        exact ⟨rfl, by omega⟩
      · refine .inr ?_
        have := (hpr j hj).1
        rw [Int.toNat_natCast, Int.toNat_natCast, idx _ (by omega), idx _ (by omega)]
        exact ⟨rfl, by omega⟩
    · obtain ⟨i, hi, e⟩ := bk v.toNat (by omega)
      have ev : v = (nm.getD i 0 : Nat) := by omega
      have hi0 : i ≠ 0 := fun z => hr (by rw [ev, z])
      subst ev
      have := (hpr (i - 1) (by omega)).1
      simp only [Int.toNat_natCast]
      rw [idx i hi, idx _ (by omega)]
      have q := hadj (i - 1) (by omega)
      have e1 : i - 1 + 1 = i := by omega
      rw [e1] at q
      exact ⟨q, by omega⟩
    · obtain ⟨j, hj, ⟨rfl, rfl⟩ | ⟨rfl, rfl⟩⟩ := inv x y hxy
      · have := lt (j + 1) (by omega)
        omega
      · have := (hpr j hj).1
        have := lt (pr j) (by omega)
        omega
    · have := lt 0 (by omega)
      omega
    · show nm.idxOf (Int.toNat _) = 0
      rw [Int.toNat_natCast, idx 0 (by omega)]
end LT

namespace TK
open PySem PySem.Spec PyProof.Rows L2 TH
local macro_rules | `(tactic| walk_at "rd1") => `(tactic| first
  | (with_reducible refine TH.w_seq ?_)
  | (with_reducible refine TH.w_asg ?_)
  | (with_reducible refine TH.w_ret ?_)
  | (with_reducible refine TH.w_drop ?_)
  | (with_reducible refine TH.w_ifS ?_)
  | (with_reducible refine TH.w_next ?_)
  | ((with_reducible refine TH.w_var (v := ?vv) ?hv ?_); (case hv => rfl))
  | (with_reducible refine TH.w_c ?_)
  | ((with_reducible refine TH.w_gname (σ' := ?ss) ?hs ?_); (case hs => (dsimp only [List.set]; rfl)))
  | (with_reducible refine TH.w_op ?_)
  | (with_reducible refine TH.w_un ?_)
  | (with_reducible refine TH.w_chain ?_)
  | (with_reducible refine TH.w_I0 ?_)
  | ((with_reducible refine TH.w_I ?hm ?_); (case hm => first | (exact TH.CMul.l (by omega) (by omega)) | (exact TH.CMul.r (by omega) (by omega)) | (exact TH.CDiv.mk (by omega) (by omega)) | (show (0 : Int) < _; omega) | (exact TH.CPow.mk (by omega) (by omega) (by decide))))
  | (with_reducible refine TH.w_U ?_)
  | (with_reducible refine TH.w_eqI ?_)
  | (with_reducible refine TH.w_neI ?_)
  | (with_reducible refine TH.w_eqB ?_)
  | (with_reducible refine TH.w_isN ?_)
  | (with_reducible refine TH.w_nil ?_)
  | (with_reducible refine TH.w_cons ?_)
  | (with_reducible refine TH.w_test ?_)
  | (with_reducible refine TH.w_B ?_)
  | (with_reducible refine TH.w_bl ?_)
  | (with_reducible refine TH.w_and ?_)
  | (with_reducible refine TH.w_or ?_)
  | (with_reducible refine TH.w_not ?_)
  | (with_reducible refine TH.w_andV ?_)
  | (with_reducible refine TH.w_orV ?_)
  | (with_reducible refine TH.w_notV ?_)
  | (with_reducible refine TH.w_if ?_)
  | (with_reducible refine TH.w_parT ?_)
  | (with_reducible refine TH.w_par ?_)
  | (with_reducible refine TH.w_parT3 ?_)
  | (with_reducible refine TH.w_par3 ?_)
  | (with_reducible refine TH.w_cb ?_)
  | (with_reducible refine TH.w_call ?_)
  | ((with_reducible refine TH.w_aug (v := ?vv) ?hv ?_); (case hv => rfl))
  | (with_reducible refine TH.w_ip ?_)
  | (with_reducible refine TH.w_bm ?_)
  | (with_reducible refine TH.w_sl ?_)
  | (with_reducible refine TH.w_np ?_)
  | (with_reducible refine TH.w_pt ?_)
  | (with_reducible refine TH.w_pti ?_)
  | (with_reducible refine TH.w_gsub ?_)
  | (with_reducible refine TH.w_int ?_)
  | (with_reducible refine TH.w_tupT ?_)
  | (with_reducible refine TH.w_lstT ?_)
  | ((with_reducible show L2.rIxL _ _ _ _ _); (first | (refine TH.w_ixL (TH.sqL upd_same) rfl ?_) | (refine TH.w_ixL (TH.sqL (by assumption)) rfl ?_)))
  | ((with_reducible show L2.rSetL _ _ _ _ _); (first | (refine TH.w_set1 upd_same ?_) | (refine TH.w_set2 upd_same ?_) | (refine TH.w_set3 upd_same ?_) | (refine TH.w_set4 upd_same ?_) | (refine TH.w_set1 (by assumption) ?_) | (refine TH.w_set2 (by assumption) ?_) | (refine TH.w_set3 (by assumption) ?_) | (refine TH.w_set4 (by assumption) ?_)))
  | (with_reducible refine TH.w_lc ?_)
  | (with_reducible refine TH.w_dc ?_)
  | (with_reducible refine TH.w_itup ?_)
  | (with_reducible refine TH.w_ilist ?_)
  | (with_reducible refine TH.w_ienum ?_)
  | (with_reducible refine TH.w_izip ?_)
  | (with_reducible refine TH.w_irng1 ?_)
  | (with_reducible refine TH.w_irng2 ?_)
  | (with_reducible refine TH.w_for ?_)
  | (with_reducible refine TH.w_gcons ?_)
  | (with_reducible refine TH.w_gnil ?_)
  | (with_reducible refine TH.w_yes ?_)
  | (with_reducible refine TH.w_gtup2 upd_same ?_)
  | (with_reducible refine TH.w_gtup3 upd_same ?_)
  | (with_reducible refine TH.w_dput ?_)
  | (with_reducible refine TH.w_bm0 ?_)
  | (with_reducible refine TH.w_din ?_)
  | (with_reducible refine TH.w_dnotin ?_)
  | (with_reducible refine TH.w_dispK ?_)
  | (with_reducible refine TH.w_lock ?_)
  | (with_reducible refine TH.w_ikeys ?_)
  | (with_reducible refine TH.w_iitems ?_)
  | (with_reducible refine TH.w_dispT1 ?_)
  | (with_reducible refine TH.w_dnewT ?_)
  | (with_reducible refine TH.w_dnewK ?_)
  | (with_reducible refine TH.w_fld ?_)
  | (with_reducible refine TH.w_sfld ?_)
  | (with_reducible refine TH.w_meth ?_)
  | (with_reducible refine TH.w_make ?_)
  | (with_reducible refine TH.w_dget2 ?_)
  | (with_reducible refine TH.w_revL ?_)
  | (with_reducible refine TH.w_revT ?_)
  | (with_reducible refine TH.w_lstRg ?_)
  | (with_reducible refine TH.w_tupRg ?_)
  | (with_reducible refine TH.w_rg1 ?_)
  | (with_reducible refine TH.w_rg2 ?_)
  | (with_reducible refine TH.w_T ?_)
  | (with_reducible refine TH.w_F ?_))
local macro_rules | `(tactic| walk_at "rd") => `(tactic| repeat (first | walk_at "rd1" | (dsimp only [List.set, L2.wipe, List.map, TH.isInt, TH.isBool, TH.isTup, TH.isLst, TH.bo_f, TH.bo_t, TH.ba_f, TH.ba_t, TH.bn_t, TH.bn_f, List.append_nil, List.cons_append, List.nil_append])))

def top (i : Nat) : Stmt := PySem.Challenge.pw_tollhall_k04_whole_ways_sides_blocks.main.body.getD i (.Pass ⟨0, 0, 0, 0⟩)
abbrev s_is_integer : Stmt := top 7
abbrev N_is_integer : List Str := ["thing"]
theorem sc_is_integer : FnScope N_is_integer ["thing"] (C8.fnScope s_is_integer) := ⟨rfl, rfl, rfl, by decide +kernel, rfl, by decide +kernel, by decide +kernel⟩
abbrev s_is_within : Stmt := top 8
abbrev N_is_within : List Str := ["thing", "least", "most"]
theorem sc_is_within : FnScope N_is_within ["thing", "least", "most"] (C8.fnScope s_is_within) := ⟨rfl, rfl, rfl, by decide +kernel, rfl, by decide +kernel, by decide +kernel⟩
abbrev s_is_pair : Stmt := top 9
abbrev N_is_pair : List Str := ["thing"]
theorem sc_is_pair : FnScope N_is_pair ["thing"] (C8.fnScope s_is_pair) := ⟨rfl, rfl, rfl, by decide +kernel, rfl, by decide +kernel, by decide +kernel⟩
abbrev s_prime : Stmt := top 12
abbrev N_prime : List Str := ["number", "at"]
theorem sc_prime : FnScope N_prime ["number"] (C8.fnScope s_prime) := ⟨rfl, rfl, rfl, by decide +kernel, rfl, by decide +kernel, by decide +kernel⟩
abbrev s_is_clock : Stmt := top 13
abbrev N_is_clock : List Str := ["thing"]
theorem sc_is_clock : FnScope N_is_clock ["thing"] (C8.fnScope s_is_clock) := ⟨rfl, rfl, rfl, by decide +kernel, rfl, by decide +kernel, by decide +kernel⟩
abbrev s_is_row : Stmt := top 14
abbrev N_is_row : List Str := ["p", "wide", "thing", "value"]
theorem sc_is_row : FnScope N_is_row ["p", "wide", "thing"] (C8.fnScope s_is_row) := ⟨rfl, rfl, rfl, by decide +kernel, rfl, by decide +kernel, by decide +kernel⟩
abbrev s_is_tie : Stmt := top 17
abbrev N_is_tie : List Str := ["posts", "thing"]
theorem sc_is_tie : FnScope N_is_tie ["posts", "thing"] (C8.fnScope s_is_tie) := ⟨rfl, rfl, rfl, by decide +kernel, rfl, by decide +kernel, by decide +kernel⟩
abbrev s_reached : Stmt := top 18
abbrev N_reached : List Str := ["tied", "post", "barred", "found", "waiting", "other"]
theorem sc_reached : FnScope N_reached ["tied", "post", "barred"] (C8.fnScope s_reached) := ⟨rfl, rfl, rfl, by decide +kernel, rfl, by decide +kernel, by decide +kernel⟩
abbrev s_all_tied : Stmt := top 20
abbrev N_all_tied : List Str := ["posts", "ties", "found", "one", "other", "post", "some"]
theorem sc_all_tied : FnScope N_all_tied ["posts", "ties"] (C8.fnScope s_all_tied) := ⟨rfl, rfl, rfl, by decide +kernel, rfl, by decide +kernel, by decide +kernel⟩
abbrev s_tied_to : Stmt := top 21
abbrev N_tied_to : List Str := ["tree", "post"]
theorem sc_tied_to : FnScope N_tied_to ["tree", "post"] (C8.fnScope s_tied_to) := ⟨rfl, rfl, rfl, by decide +kernel, rfl, by decide +kernel, by decide +kernel⟩
abbrev s_check_post : Stmt := top 22
abbrev N_check_post : List Str := ["tree", "thing"]
theorem sc_check_post : FnScope N_check_post ["tree", "thing"] (C8.fnScope s_check_post) := ⟨rfl, rfl, rfl, by decide +kernel, rfl, by decide +kernel, by decide +kernel⟩
abbrev s_tied : Stmt := top 23
abbrev N_tied : List Str := ["tree", "post"]
theorem sc_tied : FnScope N_tied ["tree", "post"] (C8.fnScope s_tied) := ⟨rfl, rfl, rfl, by decide +kernel, rfl, by decide +kernel, by decide +kernel⟩
abbrev s_all_ways : Stmt := top 24
abbrev N_all_ways : List Str := ["tree", "one", "other"]
theorem sc_all_ways : FnScope N_all_ways ["tree"] (C8.fnScope s_all_ways) := ⟨rfl, rfl, rfl, by decide +kernel, rfl, by decide +kernel, by decide +kernel⟩
abbrev s_ways : Stmt := top 25
abbrev N_ways : List Str := ["tree"]
theorem sc_ways : FnScope N_ways ["tree"] (C8.fnScope s_ways) := ⟨rfl, rfl, rfl, by decide +kernel, rfl, by decide +kernel, by decide +kernel⟩
abbrev s_is_way : Stmt := top 26
abbrev N_is_way : List Str := ["tree", "thing", "post"]
theorem sc_is_way : FnScope N_is_way ["tree", "thing"] (C8.fnScope s_is_way) := ⟨rfl, rfl, rfl, by decide +kernel, rfl, by decide +kernel, by decide +kernel⟩
abbrev s_check_way : Stmt := top 27
abbrev N_check_way : List Str := ["tree", "thing"]
theorem sc_check_way : FnScope N_check_way ["tree", "thing"] (C8.fnScope s_check_way) := ⟨rfl, rfl, rfl, by decide +kernel, rfl, by decide +kernel, by decide +kernel⟩
abbrev s_this_side : Stmt := top 28
abbrev N_this_side : List Str := ["tree", "way"]
theorem sc_this_side : FnScope N_this_side ["tree", "way"] (C8.fnScope s_this_side) := ⟨rfl, rfl, rfl, by decide +kernel, rfl, by decide +kernel, by decide +kernel⟩
abbrev s_beyond_of : Stmt := top 29
abbrev N_beyond_of : List Str := ["tree", "way"]
theorem sc_beyond_of : FnScope N_beyond_of ["tree", "way"] (C8.fnScope s_beyond_of) := ⟨rfl, rfl, rfl, by decide +kernel, rfl, by decide +kernel, by decide +kernel⟩
abbrev s_beyond : Stmt := top 30
abbrev N_beyond : List Str := ["tree", "way"]
theorem sc_beyond : FnScope N_beyond ["tree", "way"] (C8.fnScope s_beyond) := ⟨rfl, rfl, rfl, by decide +kernel, rfl, by decide +kernel, by decide +kernel⟩
abbrev s_are_holds : Stmt := top 34
abbrev N_are_holds : List Str := ["posts", "thing", "many"]
theorem sc_are_holds : FnScope N_are_holds ["posts", "thing"] (C8.fnScope s_are_holds) := ⟨rfl, rfl, rfl, by decide +kernel, rfl, by decide +kernel, by decide +kernel⟩
abbrev s_are_lists : Stmt := top 35
abbrev N_are_lists : List Str := ["posts", "thing", "some"]
theorem sc_are_lists : FnScope N_are_lists ["posts", "thing"] (C8.fnScope s_are_lists) := ⟨rfl, rfl, rfl, by decide +kernel, rfl, by decide +kernel, by decide +kernel⟩
abbrev s_first_no_row : Stmt := top 36
abbrev N_first_no_row : List Str := ["p", "numbers", "wants", "post", "some", "want", "row"]
theorem sc_first_no_row : FnScope N_first_no_row ["p", "numbers", "wants"] (C8.fnScope s_first_no_row) := ⟨rfl, rfl, rfl, by decide +kernel, rfl, by decide +kernel, by decide +kernel⟩
abbrev s_held_by : Stmt := top 38
abbrev N_held_by : List Str := ["sheet", "post", "begin"]
theorem sc_held_by : FnScope N_held_by ["sheet", "post"] (C8.fnScope s_held_by) := ⟨rfl, rfl, rfl, by decide +kernel, rfl, by decide +kernel, by decide +kernel⟩
abbrev s_held : Stmt := top 39
abbrev N_held : List Str := ["sheet", "post"]
theorem sc_held : FnScope N_held ["sheet", "post"] (C8.fnScope s_held) := ⟨rfl, rfl, rfl, by decide +kernel, rfl, by decide +kernel, by decide +kernel⟩
abbrev s_held_this_side : Stmt := top 40
abbrev N_held_this_side : List Str := ["sheet", "way", "found", "post"]
theorem sc_held_this_side : FnScope N_held_this_side ["sheet", "way"] (C8.fnScope s_held_this_side) := ⟨rfl, rfl, rfl, by decide +kernel, rfl, by decide +kernel, by decide +kernel⟩
abbrev s_wants_beyond : Stmt := top 41
abbrev N_wants_beyond : List Str := ["sheet", "way", "found", "post", "want"]
theorem sc_wants_beyond : FnScope N_wants_beyond ["sheet", "way"] (C8.fnScope s_wants_beyond) := ⟨rfl, rfl, rfl, by decide +kernel, rfl, by decide +kernel, by decide +kernel⟩
abbrev s_cut_to : Stmt := top 42
abbrev N_cut_to : List Str := ["row", "numbers", "number"]
theorem sc_cut_to : FnScope N_cut_to ["row", "numbers"] (C8.fnScope s_cut_to) := ⟨rfl, rfl, rfl, by decide +kernel, rfl, by decide +kernel, by decide +kernel⟩
abbrev s_block_of : Stmt := top 43
abbrev N_block_of : List Str := ["sheet", "way", "numbers", "post", "want"]
theorem sc_block_of : FnScope N_block_of ["sheet", "way"] (C8.fnScope s_block_of) := ⟨rfl, rfl, rfl, by decide +kernel, rfl, by decide +kernel, by decide +kernel⟩
abbrev s_block : Stmt := top 44
abbrev N_block : List Str := ["sheet", "way"]
theorem sc_block : FnScope N_block ["sheet", "way"] (C8.fnScope s_block) := ⟨rfl, rfl, rfl, by decide +kernel, rfl, by decide +kernel, by decide +kernel⟩
abbrev s_Tree_init : Stmt := inClass (top 19) 0
abbrev N_Tree_init : List Str := ["self", "ties", "posts", "index", "tie"]
theorem sc_Tree_init : FnScope N_Tree_init ["self", "ties"] (C8.fnScope s_Tree_init) := ⟨rfl, rfl, rfl, by decide +kernel, rfl, by decide +kernel, by decide +kernel⟩
abbrev s_Sheet_init : Stmt := inClass (top 37) 0
abbrev N_Sheet_init : List Str := ["self", "p", "tree", "holds", "wants", "wrong", "some"]
theorem sc_Sheet_init : FnScope N_Sheet_init ["self", "p", "tree", "holds", "wants"] (C8.fnScope s_Sheet_init) := ⟨rfl, rfl, rfl, by decide +kernel, rfl, by decide +kernel, by decide +kernel⟩
abbrev s_law_hand : Stmt := top 46
abbrev N_law_hand : List Str := ["script", "cells", "cell"]
theorem sc_law_hand : FnScope N_law_hand ["script"] (C8.fnScope s_law_hand) := ⟨rfl, rfl, rfl, by decide +kernel, rfl, by decide +kernel, by decide +kernel⟩
abbrev s_law_draw : Stmt := top 47
abbrev N_law_draw : List Str := ["hand", "many", "number", "cell", "digit"]
theorem sc_law_draw : FnScope N_law_draw ["hand", "many"] (C8.fnScope s_law_draw) := ⟨rfl, rfl, rfl, by decide +kernel, rfl, by decide +kernel, by decide +kernel⟩
abbrev s_law_any : Stmt := top 48
abbrev N_law_any : List Str := ["hand", "items"]
theorem sc_law_any : FnScope N_law_any ["hand", "items"] (C8.fnScope s_law_any) := ⟨rfl, rfl, rfl, by decide +kernel, rfl, by decide +kernel, by decide +kernel⟩
abbrev s_law_is : Stmt := top 49
abbrev N_law_is : List Str := ["told", "due", "one", "two"]
theorem sc_law_is : FnScope N_law_is ["told", "due"] (C8.fnScope s_law_is) := ⟨rfl, rfl, rfl, by decide +kernel, rfl, by decide +kernel, by decide +kernel⟩
abbrev s_law_mixed : Stmt := top 50
abbrev N_law_mixed : List Str := ["hand", "items", "turn", "left", "found"]
theorem sc_law_mixed : FnScope N_law_mixed ["hand", "items"] (C8.fnScope s_law_mixed) := ⟨rfl, rfl, rfl, by decide +kernel, rfl, by decide +kernel, by decide +kernel⟩
abbrev s_law_less : Stmt := top 51
abbrev N_law_less : List Str := ["p", "row", "other", "many", "one", "two"]
theorem sc_law_less : FnScope N_law_less ["p", "row", "other", "many"] (C8.fnScope s_law_less) := ⟨rfl, rfl, rfl, by decide +kernel, rfl, by decide +kernel, by decide +kernel⟩
abbrev s_law_summed : Stmt := top 52
abbrev N_law_summed : List Str := ["p", "wide", "rows", "many", "found", "row", "value"]
theorem sc_law_summed : FnScope N_law_summed ["p", "wide", "rows", "many"] (C8.fnScope s_law_summed) := ⟨rfl, rfl, rfl, by decide +kernel, rfl, by decide +kernel, by decide +kernel⟩
abbrev s_law_clock : Stmt := top 53
abbrev N_law_clock : List Str := ["hand"]
theorem sc_law_clock : FnScope N_law_clock ["hand"] (C8.fnScope s_law_clock) := ⟨rfl, rfl, rfl, by decide +kernel, rfl, by decide +kernel, by decide +kernel⟩
abbrev s_law_some_row : Stmt := top 54
abbrev N_law_some_row : List Str := ["hand", "p", "wide", "rows", "kind", "at", "many", "row", "place"]
theorem sc_law_some_row : FnScope N_law_some_row ["hand", "p", "wide", "rows"] (C8.fnScope s_law_some_row) := ⟨rfl, rfl, rfl, by decide +kernel, rfl, by decide +kernel, by decide +kernel⟩
abbrev s_law_ties : Stmt := top 55
abbrev N_law_ties : List Str := ["hand", "posts", "at", "names", "kind", "found", "other"]
theorem sc_law_ties : FnScope N_law_ties ["hand", "posts"] (C8.fnScope s_law_ties) := ⟨rfl, rfl, rfl, by decide +kernel, rfl, by decide +kernel, by decide +kernel⟩
abbrev s_law_near : Stmt := top 56
abbrev N_law_near : List Str := ["ties", "post", "one", "other"]
theorem sc_law_near : FnScope N_law_near ["ties", "post"] (C8.fnScope s_law_near) := ⟨rfl, rfl, rfl, by decide +kernel, rfl, by decide +kernel, by decide +kernel⟩
abbrev s_law_all_ways : Stmt := top 57
abbrev N_law_all_ways : List Str := ["ties", "one", "other"]
theorem sc_law_all_ways : FnScope N_law_all_ways ["ties"] (C8.fnScope s_law_all_ways) := ⟨rfl, rfl, rfl, by decide +kernel, rfl, by decide +kernel, by decide +kernel⟩
abbrev s_law_this : Stmt := top 58
abbrev N_law_this : List Str := ["ties", "way", "found", "waiting", "here", "other"]
theorem sc_law_this : FnScope N_law_this ["ties", "way"] (C8.fnScope s_law_this) := ⟨rfl, rfl, rfl, by decide +kernel, rfl, by decide +kernel, by decide +kernel⟩
abbrev s_law_numbers : Stmt := top 59
abbrev N_law_numbers : List Str := ["holds", "posts", "found", "post"]
theorem sc_law_numbers : FnScope N_law_numbers ["holds", "posts"] (C8.fnScope s_law_numbers) := ⟨rfl, rfl, rfl, by decide +kernel, rfl, by decide +kernel, by decide +kernel⟩
abbrev s_law_full : Stmt := top 60
abbrev N_law_full : List Str := ["spec", "way", "post", "p", "ties", "holds", "wants", "mine", "found", "row", "at", "value"]
theorem sc_law_full : FnScope N_law_full ["spec", "way"] (C8.fnScope s_law_full) := ⟨rfl, rfl, rfl, by decide +kernel, rfl, by decide +kernel, by decide +kernel⟩
abbrev s_law_cut : Stmt := top 61
abbrev N_law_cut : List Str := ["spec", "way", "mine", "p", "ties", "holds", "wants", "row", "at"]
theorem sc_law_cut : FnScope N_law_cut ["spec", "way"] (C8.fnScope s_law_cut) := ⟨rfl, rfl, rfl, by decide +kernel, rfl, by decide +kernel, by decide +kernel⟩
abbrev s_law_spec : Stmt := top 62
abbrev N_law_spec : List Str := ["hand", "posts", "most", "holds", "post", "p", "ties", "wide", "seen", "wants", "rows", "want"]
theorem sc_law_spec : FnScope N_law_spec ["hand", "posts", "most"] (C8.fnScope s_law_spec) := ⟨rfl, rfl, rfl, by decide +kernel, rfl, by decide +kernel, by decide +kernel⟩
abbrev s_law_sheet : Stmt := top 63
abbrev N_law_sheet : List Str := ["spec"]
theorem sc_law_sheet : FnScope N_law_sheet ["spec"] (C8.fnScope s_law_sheet) := ⟨rfl, rfl, rfl, by decide +kernel, rfl, by decide +kernel, by decide +kernel⟩
abbrev s_law : Stmt := top 64
abbrev N_law : List Str := ["script", "hand", "turn", "posts", "ties", "post", "way", "spec", "sheet", "tree", "every", "there", "here"]
theorem sc_law : FnScope N_law ["script"] (C8.fnScope s_law) := ⟨rfl, rfl, rfl, by decide +kernel, rfl, by decide +kernel, by decide +kernel⟩

structure Txt (mg : Str → Option Value) : Prop where
  b_abs : mg "abs" = none
  b_all : mg "all" = none
  b_bool : mg "bool" = none
  b_enumerate : mg "enumerate" = none
  b_int : mg "int" = none
  b_isinstance : mg "isinstance" = none
  b_len : mg "len" = none
  b_list : mg "list" = none
  b_max : mg "max" = none
  b_range : mg "range" = none
  b_sorted : mg "sorted" = none
  b_sum : mg "sum" = none
  b_tuple : mg "tuple" = none
  b_zip : mg "zip" = none
  g_MOST_HOURS : ∃ u, mg "MOST_HOURS" = some u ∧ RelV (.int 1000000) u
  g_MOST_TIES : ∃ u, mg "MOST_TIES" = some u ∧ RelV (.int 23) u
  g_MOST_AT : ∃ u, mg "MOST_AT" = some u ∧ RelV (.int 8) u
  g_MOST_NUMBERS : ∃ u, mg "MOST_NUMBERS" = some u ∧ RelV (.int 60) u
variable {P : Program} {w : World} {K : PySem.W.Frag} {mg : Str → Option Value} {base : Heap}
/-! is_integer(thing) -/
def sp_is_integer (K : PySem.W.Frag) : Sp := fun vs H Q _ => ∃ (v : V) (d : D), vs = [v] ∧ Dp K H v d ∧ Q (.bl (isInt d)) H
theorem ok_is_integer {f : Addr} {fd : FuncData} (F : C8.Def K mg "is_integer" s_is_integer f fd) (b : Binds K fd ["thing"] []) (T : Txt mg) : C8.Cal P w K mg base 1 "is_integer" (sp_is_integer K) [] := by
  refine C8.cal0 F b .nil sc_is_integer (fun vs H Q E h => ?_) (fun cdv A outer s H vs Q E hr h => ?_)
  · obtain ⟨v, d, rfl, _⟩ := h
    rfl
  · obtain ⟨v, d, rfl, hd, q⟩ := h
    refine ⟨_, (pss_one (ps_ret (pe_and (pe_callB (TH.kcall_isi (K := K)) (by rfl) T.b_isinstance (by decide +kernel) (pa_cons (pv 0) (pa_cons (pe_bltn (v := .ty "int") (by rfl) T.b_int (by decide +kernel) rfl) pa_nil))) (pe_one (pe_not (pe_callB (TH.kcall_isi (K := K)) (by rfl) T.b_isinstance (by decide +kernel) (pa_cons (pv 0) (pa_cons (pe_bltn (v := .ty "bool") (by rfl) T.b_bool (by decide +kernel) rfl) pa_nil)))))))), ?_⟩
    refine w_start (σ' := [some v]) rfl ?_
    walk_at "rd"
    refine w_isInt hd ?_
    walk_at "rd"
    cases hd <;> walk_at "rd"
    all_goals try exact q
    · refine w_isBool (.bl _) ?_
      walk_at "rd"
      exact q
    · refine w_isBool (.int _) ?_
      walk_at "rd"
      exact q
/-! is_within(thing, least, most) -/
def inR (d : D) (lo hi : Int) : Bool := match d with
  | .int i => decide (lo ≤ i) && decide (i ≤ hi)
  | _ => false
theorem inR_int {i lo hi : Int} : inR (.int i) lo hi = (decide (lo ≤ i) && decide (i ≤ hi)) := rfl
def sp_is_within (K : PySem.W.Frag) : Sp := fun vs H Q _ => ∃ (v : V) (d : D) (lo hi : Int), vs = [v, .int lo, .int hi] ∧ Dp K H v d ∧ Q (.bl (inR d lo hi)) H
theorem ok_is_within {f : Addr} {fd : FuncData} (F : C8.Def K mg "is_within" s_is_within f fd) (b : Binds K fd ["thing", "least", "most"] []) (T : Txt mg)
    (c_is_integer : C8.Cal P w K mg base 1 "is_integer" (sp_is_integer K) []) : C8.Cal P w K mg base 2 "is_within" (sp_is_within K) [] := by
  refine C8.cal0 F b .nil sc_is_within (fun vs H Q E h => ?_) (fun cdv A outer s H vs Q E hr h => ?_)
  · obtain ⟨v, d, lo, hi, rfl, _⟩ := h
    rfl
  · obtain ⟨v, d, lo, hi, rfl, hd, q⟩ := h
    refine ⟨_, (pss_one (ps_ret (pe_and (C8.pe_c c_is_integer hr (by first | decide | exact Nat.le_refl _) (by rfl) (pa_cons (pv 0) pa_nil)) (pe_one (pe_chain op_le op_le (pv 1) (pv 0) (pv 2)))))), ?_⟩
    refine w_start (σ' := [some v, some (.int lo), some (.int hi)]) rfl ?_
    walk_at "rd"
    refine ⟨v, d, rfl, hd, ?_⟩
    walk_at "rd"
    cases hd <;> walk_at "rd"
    all_goals try exact q
    rw [inR_int] at q
    refine w_dec (fun h1 => ?_) (fun h1 => ?_)
    · walk_at "rd"
      rw [decide_eq_true h1, Bool.true_and] at q
      exact q
    · rw [decide_eq_false h1, Bool.false_and] at q
      exact q
/-! prime(number) -/
def primeB (n : Int) : Bool := decide (∀ k : Nat, k < 1001 → 2 ≤ k → (k : Int) * k ≤ n → n % k ≠ 0)
theorem primeB_no {n : Int} {k : Nat} (h1 : k < 1001) (h2 : 2 ≤ k) (h3 : (k : Int) * k ≤ n) (h4 : n % k = 0) : primeB n = false :=
  decide_eq_false fun h => h k h1 h2 h3 h4
theorem primeB_yes {n : Int} {a : Nat} (h1 : n < (a : Int) * a) (h2 : ∀ k : Nat, 2 ≤ k → k < a → n % k ≠ 0) : primeB n = true :=
  decide_eq_true fun k _ k2 k3 => h2 k k2 (by
    refine Decidable.byContradiction fun z => ?_
    have z' : a ≤ k := by omega
    have : (a : Int) * a ≤ (k : Int) * k := by exact_mod_cast Nat.mul_le_mul z' z'
    omega)
theorem sq_le {a : Nat} {n : Int} (h : (a : Int) * a ≤ n) (hn : n ≤ 1000000) : a < 1001 := by
  refine Decidable.byContradiction fun z => ?_
  have z' : 1001 ≤ a := by omega
  have : (1001 * 1001 : Nat) ≤ a * a := Nat.mul_le_mul z' z'
  have : ((1001 * 1001 : Nat) : Int) ≤ (a : Int) * a := by exact_mod_cast this
  omega
def sp_prime (K : PySem.W.Frag) : Sp := fun vs H Q _ => ∃ (n : Int), vs = [.int n] ∧ 2 ≤ n ∧ n ≤ 1000000 ∧ Q (.bl (primeB n)) H
theorem ok_prime {f : Addr} {fd : FuncData} (F : C8.Def K mg "prime" s_prime f fd) (b : Binds K fd ["number"] []) (T : Txt mg) : C8.Cal P w K mg base 1 "prime" (sp_prime K) [] := by
  refine C8.cal0 F b .nil sc_prime (fun vs H Q E h => ?_) (fun cdv A outer s H vs Q E hr h => ?_)
  · obtain ⟨n, rfl, _⟩ := h
    rfl
  · obtain ⟨n, rfl, h2, hn, q⟩ := h
    refine ⟨_, (pss_cons (ps_set (i := 1) sc_prime.nd rfl (Or.inl rfl) pe_int)
      (pss_cons (ps_while PassesOwn.never (pt_cmpR op_le (pe_op op_mul (pv 1) (pv 1)) (pv 0) (nomark _)) (pss_cons (ps_if (pt_cmpR op_eq (pe_op op_mod (pv 0) (pv 1)) pe_int (nomark _)) (pss_one (ps_ret pe_bl)) pss_nil)
      (pss_one (ps_aug (i := 1) sc_prime.nd rfl (Or.inl rfl) pe_int ip_add))))
      (pss_one (ps_ret pe_bl)))), ?_⟩
    refine w_start (σ' := [some (.int n), none]) rfl ?_
    walk_at "rd"
    refine ⟨fun m σ H' => H' = H ∧ ∃ a : Nat, σ = [some (.int n), some (.int a)] ∧ 2 ≤ a ∧ a ≤ 1001 ∧ (∀ k : Nat, 2 ≤ k → k < a → n % k ≠ 0) ∧ m = 1002 - a, ⟨_, rfl, 2, rfl, by omega, by omega, fun k _ _ => by omega, rfl⟩, fun m σ H' hw => ?_⟩
    obtain ⟨rfl, a, rfl, a2, a3, hk, rfl⟩ := hw
    walk_at "rd"
    refine w_dec (fun h1 => ?_) (fun h1 => ?_)
    · have ha := sq_le h1 hn
      refine ⟨fun σ' H'' => H'' = H' ∧ σ' = [some (.int n), some (.int ((a + 1 : Nat) : Int))] ∧ n % (a : Int) ≠ 0, fun σ' H'' ⟨e1, e2, e3⟩ => ⟨1002 - (a + 1), by omega, e1, a + 1, e2, by omega, by omega, fun k k2 k3 => ?_, rfl⟩, ?_⟩
      · rcases Nat.lt_or_ge k a with z | z
        · exact hk k k2 z
        · have : k = a := by omega
          subst this
          exact e3
      · walk_at "rd"
        refine w_dec (fun h2 => ?_) (fun h2 => ?_)
        · walk_at "rd"
          rw [primeB_no ha a2 h1 h2] at q
          exact q
        · walk_at "rd"
          exact ⟨rfl, rfl, h2⟩
    · walk_at "rd"
      rw [primeB_yes (by omega) hk] at q
      exact q
/-! is_clock(thing) -/
def clockB (d : D) : Bool := match d with
  | .int n => decide (2 ≤ n) && decide (n ≤ 1000000) && primeB n
  | _ => false
def sp_is_clock (K : PySem.W.Frag) : Sp := fun vs H Q _ => ∃ (v : V) (d : D), vs = [v] ∧ Dp K H v d ∧ Q (.bl (clockB d)) H
theorem ok_is_clock {f : Addr} {fd : FuncData} (F : C8.Def K mg "is_clock" s_is_clock f fd) (b : Binds K fd ["thing"] []) (T : Txt mg)
    (c_is_within : C8.Cal P w K mg base 2 "is_within" (sp_is_within K) []) (c_prime : C8.Cal P w K mg base 1 "prime" (sp_prime K) []) : C8.Cal P w K mg base 3 "is_clock" (sp_is_clock K) [] := by
  refine C8.cal0 F b .nil sc_is_clock (fun vs H Q E h => ?_) (fun cdv A outer s H vs Q E hr h => ?_)
  · obtain ⟨v, d, rfl, _⟩ := h
    rfl
  · obtain ⟨v, d, rfl, hd, q⟩ := h
    refine ⟨_, (pss_one (ps_ret (pe_and (C8.pe_c c_is_within hr (by first | decide | exact Nat.le_refl _) (by rfl) (pa_cons (pv 0) (pa_cons pe_int (pa_cons (C8.pe_gc (by rfl) T.g_MOST_HOURS) pa_nil)))) (pe_one (C8.pe_c c_prime hr (by first | decide | exact Nat.le_refl _) (by rfl) (pa_cons (pv 0) pa_nil)))))), ?_⟩
    refine w_start (σ' := [some v]) rfl ?_
    walk_at "rd"
    refine ⟨v, d, 2, 1000000, rfl, hd, ?_⟩
    walk_at "rd"
    refine w_bool (fun h1 => ?_) (fun h1 => ?_)
    · cases hd <;> first | (exact absurd h1 Bool.false_ne_true) | skip
      walk_at "rd"
      rw [inR_int] at h1
      have h2 := Bool.and_eq_true_iff.mp h1
      refine ⟨_, rfl, of_decide_eq_true h2.1, of_decide_eq_true h2.2, ?_⟩
      refine (show clockB (.int _) = primeB _ from ?_) ▸ q
      show (_ && primeB _) = primeB _
      rw [h1, Bool.true_and]
    · have e : clockB d = false := by
        cases d <;> try rfl
        rw [inR_int] at h1
        show (_ && primeB _) = false
        rw [h1, Bool.false_and]
      rw [e] at q
      exact q
/-! is_row(p, wide, thing) -/
def isRowD (p wide : Int) (d : D) : Bool := match d with
  | .tuple ds => decide ((ds.length : Int) = wide) && ds.all fun x => inR x 0 (p - 1)
  | _ => false
def sp_is_row (K : PySem.W.Frag) : Sp := fun vs H Q _ => ∃ (p wide : Int) (v : V) (d : D), vs = [.int p, .int wide, v] ∧ Dp K H v d ∧ (∀ ds, d = .tuple ds → ds.length ≤ 1000000) ∧ ∀ H', Ex H H' → Q (.bl (isRowD p wide d)) H'
theorem all_map {α : Type} (f : α → Bool) (xs : List α) : (xs.map f).all id = xs.all f := by
  induction xs with
  | nil => rfl
  | cons x xs ih => simp
theorem ok_is_row {f : Addr} {fd : FuncData} (F : C8.Def K mg "is_row" s_is_row f fd) (b : Binds K fd ["p", "wide", "thing"] []) (T : Txt mg)
    (c_is_within : C8.Cal P w K mg base 2 "is_within" (sp_is_within K) []) : C8.Cal P w K mg base 3 "is_row" (sp_is_row K) [] := by
  refine C8.cal0 F b .nil sc_is_row (fun vs H Q E h => ?_) (fun cdv A outer s H vs Q E hr h => ?_)
  · obtain ⟨p, wide, v, d, rfl, _⟩ := h
    rfl
  · obtain ⟨p, wide, v, d, rfl, hd, hl, q⟩ := h
    refine ⟨_, (pss_cons (ps_if (PW.pt (pw_or (pt_not (pt_val (pe_callB (TH.kcall_isi (K := K)) (by rfl) T.b_isinstance (by decide +kernel) (pa_cons (pv 2) (pa_cons (pe_bltn (v := .ty "tuple") (by rfl) T.b_tuple (by decide +kernel) rfl) pa_nil))))) (pw_or1 (pt_cmpR op_ne (pe_callB (TH.kcall_len (K := K)) (by rfl) T.b_len (by decide +kernel) (pa_cons (pv 2) pa_nil)) (pv 1) (nomark _))))) (pss_one (ps_ret pe_bl)) pss_nil)
      (pss_one (ps_ret (pe_callB (TH.kcr_all (K := K) rfl) (by rfl) T.b_all (by decide +kernel) (pa_cons (pe_lc (own := [("value", 3)]) (g := gName 3) (tt := tYes) rfl sc_is_row.nd (TH.kpi_tup (K := K) (pv 2)) (blkOk_by (own := [("value", 3)]) (N := N_is_row) (sc := C8.fnScope s_is_row) (by decide +kernel)) (fun _ _ _ _ _ => (pg_name (i := 3) sc_is_row.nd rfl (Or.inl rfl) (Or.inr rfl))) (fun _ _ _ _ _ => pts_nil) (fun _ _ _ _ _ => (C8.pe_c c_is_within hr (by first | decide | exact Nat.le_refl _) (by rfl) (pa_cons (pv 3) (pa_cons pe_int (pa_cons (pe_op op_sub (pv 0) pe_int) pa_nil)))))) pa_nil))))), ?_⟩
    refine w_start (σ' := [some (.int p), some (.int wide), some v, none]) rfl ?_
    walk_at "rd"
    refine w_isTup hd ?_
    cases hd <;> walk_at "rd"
    all_goals try exact q _ (Ex.refl _)
    rename_i a xs ds ha hda
    refine ⟨a, xs, rfl, .inr ha, ?_⟩
    walk_at "rd"
    have hle : xs.length = ds.length := dpa_len hda
    refine w_decN (fun h1 => ?_) (fun h1 => ?_)
    · walk_at "rd"
      refine (show isRowD p wide (.tuple ds) = false from ?_) ▸ q _ (Ex.refl _)
      show (_ && _) = false
      rw [decide_eq_false (by rw [← hle]; exact h1), Bool.false_and]
    · walk_at "rd"
      refine ⟨a, rfl, ⟨_, ha⟩, fun Dl hD => ?_⟩
      refine lc_data (K := K) walk_tup (fun _ => true) (fun i => .bool (inR (ds.getD i .none) 0 (p - 1))) (fun _ => rfl) (fun H' e => e.t ha) hD (by rw [hle]; exact hl _ rfl) (fun i x H' H'' hi e y R R0 k _ => ?_) (fun H' ws e hw hda' => ?_)
      · obtain ⟨rfl, hx⟩ := y
        obtain ⟨d, hd1, hd2⟩ := dpa_get (e.dpa hda) hx
        walk_at "rd"
        refine ⟨rfl, ?_⟩
        walk_at "rd"
        refine ⟨x, d, 0, p - 1, rfl, hd2, ?_⟩
        refine k rfl _ _ (Ex.refl _) ?_
        rw [getD_of hd1]
        exact .bl _
      · walk_at "rd"
        rw [made_all, hle, range_map PyData.none (fun x => PyData.bool (inR x 0 (p - 1)))] at hda'
        have e2 : ds.map (fun x => PyData.bool (inR x 0 (p - 1))) = (ds.map fun x => inR x 0 (p - 1)).map PyData.bool := by rw [List.map_map]; rfl
        rw [e2] at hda'
        have e3 := dpa_bools_inv hda'
        subst e3
        refine ⟨Dl, _, rfl, sqL hw, ?_⟩
        refine (show isRowD p wide (.tuple ds) = ((ds.map fun x => inR x 0 (p - 1)).all id) from ?_) ▸ q _ e
        rw [all_map]
        show (_ && _) = _
        rw [decide_eq_true (by rw [← hle]; exact h1), Bool.true_and]
/-! rows_base -/
structure RowsAt (K : PySem.W.Frag) (H : Hp) (v : V) (rs : List (List Int)) : Prop where
  at' : Dp K H v (rowsL rs) ∨ Dp K H v (rowsT rs)
theorem RowsAt.ex {H H' : Hp} {v : V} {rs : List (List Int)} (h : RowsAt K H v rs) (e : Ex H H') : RowsAt K H' v rs := ⟨h.at'.imp e.dp e.dp⟩
def Rin (p : Int) (wide : Nat) (r : List Int) : Prop := r.length = wide ∧ ∀ x ∈ r, 0 ≤ x ∧ x < p
theorem isRowD_row {p : Int} {wide : Nat} {r : List Int} (h : Rin p wide r) : isRowD p wide (row r) = true := by
  show (_ && _) = true
  rw [List.length_map, h.1, decide_eq_true rfl, Bool.true_and, List.all_eq_true]
  intro d hd
  obtain ⟨x, hx, rfl⟩ := List.mem_map.mp hd
  rw [inR_int]
  have := h.2 x hx
  rw [decide_eq_true (by omega), decide_eq_true (by omega)]
  rfl
theorem rowsAt_get {H : Hp} {vs : List V} {rs : List (List Int)} {i : Nat} {v : V} (h : DpAll K H vs (rs.map row)) (hv : vs[i]? = some v) : ∃ r, rs[i]? = some r ∧ Dp K H v (row r) := by
  obtain ⟨d, h1, h2⟩ := dpa_get h hv
  rw [List.getElem?_map] at h1
  cases e : rs[i]? with
  | none => rw [e] at h1; cases h1
  | some r => rw [e] at h1; cases h1; exact ⟨r, rfl, h2⟩
/-! the hand: cells, and four numbers that are told by a word alone -/
def HandW (c : Addr) (xs : List V) : Prop := ∃ (i : Nat) (cu sd tu : Int), xs = [.ref c, .int (i : Nat), .int cu, .int sd, .int tu] ∧ 0 ≤ cu ∧ 0 ≤ sd ∧ sd ≤ 2147483647 ∧ 0 ≤ tu
def HandAt (H : Hp) (v : V) : Prop := ∃ (h c : Addr) (ns : List Int), v = .ref h ∧ H h = some (LstP h (HandW c)) ∧ H c = some (.lst (ns.map V.int)) ∧ ∀ x ∈ ns, 0 ≤ x
theorem HandAt.ex {H H' : Hp} {v : V} (x : HandAt H v) (e : Ex H H') : HandAt H' v := by
  obtain ⟨h, c, ns, rfl, h1, h2, h3⟩ := x
  exact ⟨h, c, ns, rfl, e _ _ h1, e _ _ h2, h3⟩
/-! _law_draw(hand, many) -/
def sp_draw1 (K : PySem.W.Frag) : Sp := fun vs H Q _ => ∃ (h c : Addr) (ns : List Int) (xs : List V) (many : Int), vs = [.ref h, .int many] ∧ H h = some (.lst xs) ∧ HandW c xs ∧ H c = some (.lst (ns.map V.int)) ∧ (∀ x ∈ ns, 0 ≤ x) ∧ 0 < many ∧ many ≤ 1000000000 ∧
  ∀ (r : Int) (xs' : List V), 0 ≤ r → r < many → HandW c xs' → Q (.int r) (upd H h (.lst xs'))
theorem ok_draw1 {f : Addr} {fd : FuncData} (F : C8.Def K mg "_law_draw" s_law_draw f fd) (b : Binds K fd ["hand", "many"] []) (T : Txt mg) : C8.Cal P w K mg base 1 "_law_draw" (sp_draw1 K) [] := by
  refine C8.cal0 F b .nil sc_law_draw (fun vs H Q E h => ?_) (fun cdv A outer s H vs Q E hr h => ?_)
  · obtain ⟨h, c, ns, xs, many, rfl, _⟩ := h
    rfl
  · obtain ⟨h, c, ns, xs, many, rfl, hH, hW, hC, hns, m0, m1, q⟩ := h
    have hch : c ≠ h := fun e => by
      obtain ⟨i, cu, sd, tu, rfl, _⟩ := hW
      rw [e, hH] at hC
      have z := Option.some.inj hC
      have z2 : [V.ref h, V.int (i : Nat), V.int cu, V.int sd, V.int tu] = ns.map V.int := by
        injection z with z
        rw [← z, e]
      cases ns with
      | nil => cases z2
      | cons n ns => injection z2 with z3; cases z3
    refine ⟨_, (C8.pss_cut (ps_if (PW.pt (pw_and (pt_cmpR op_eq (pe_ix (TH.kix_list (K := K)) (pv 0) pe_int (fun _ _ => rfl)) pe_int (nomark _)) (pw_and1 (pt_cmpR op_lt (pe_ix (TH.kix_list (K := K)) (pv 0) pe_int (fun _ _ => rfl)) (pe_callB (TH.kcall_len (K := K)) (by rfl) T.b_len (by decide +kernel) (pa_cons (pe_ix (TH.kix_list (K := K)) (pv 0) pe_int (fun _ _ => rfl)) pa_nil)) (nomark _))))) (pss_cons (ps_set (i := 3) sc_law_draw.nd rfl (Or.inl rfl) (pe_ix (TH.kix_list (K := K)) (pe_ix (TH.kix_list (K := K)) (pv 0) pe_int (fun _ _ => rfl)) (pe_ix (TH.kix_list (K := K)) (pv 0) pe_int (fun _ _ => rfl)) (fun _ _ => rfl)))
      (pss_cons (ps_asg (pe_op op_add (pe_ix (TH.kix_list (K := K)) (pv 0) pe_int (fun _ _ => rfl)) pe_int) (pg_sub (pv 0) pe_int set_list))
      (pss_cons (ps_asg (pe_op op_mod (pe_callTy call_int1 (by rfl) T.b_int (by decide +kernel) (pa_cons (pe_op op_add (pe_op op_add (pe_op op_mul (pe_ix (TH.kix_list (K := K)) (pv 0) pe_int (fun _ _ => rfl)) pe_int) (pv 3)) pe_int) pa_nil)) pe_int) (pg_sub (pv 0) pe_int set_list))
      (pss_one (ps_if (pt_cmpR op_ge (pv 3) (pe_op op_pow pe_int pe_int) (nomark _)) (pss_one (ps_asg (pv 3) (pg_sub (pv 0) pe_int set_list))) pss_nil))))) pss_nil)
      (pss_cons (ps_if (pt_cmpR op_gt (pe_ix (TH.kix_list (K := K)) (pv 0) pe_int (fun _ _ => rfl)) pe_int (nomark _)) (pss_cons (ps_set (i := 4) sc_law_draw.nd rfl (Or.inl rfl) (pe_op op_mod (pe_callTy call_int1 (by rfl) T.b_int (by decide +kernel) (pa_cons (pe_ix (TH.kix_list (K := K)) (pv 0) pe_int (fun _ _ => rfl)) pa_nil)) (pv 1)))
      (pss_cons (ps_asg (pe_op op_fdiv (pe_ix (TH.kix_list (K := K)) (pv 0) pe_int (fun _ _ => rfl)) (pv 1)) (pg_sub (pv 0) pe_int set_list))
      (pss_one (ps_ret (pv 4))))) pss_nil)
      (pss_cons (ps_asg (pe_op op_add (pe_ix (TH.kix_list (K := K)) (pv 0) pe_int (fun _ _ => rfl)) pe_int) (pg_sub (pv 0) pe_int set_list))
      (pss_cons (ps_set (i := 2) sc_law_draw.nd rfl (Or.inl rfl) (pe_op op_mod (pe_callTy call_int1 (by rfl) T.b_int (by decide +kernel) (pa_cons (pe_op op_mul (pe_callTy call_int1 (by rfl) T.b_int (by decide +kernel) (pa_cons (pe_op op_add (pe_ix (TH.kix_list (K := K)) (pv 0) pe_int (fun _ _ => rfl)) (pe_op op_mul pe_int (pe_ix (TH.kix_list (K := K)) (pv 0) pe_int (fun _ _ => rfl)))) pa_nil)) pe_int) pa_nil)) pe_int))
      (pss_cons (ps_set (i := 2) sc_law_draw.nd rfl (Or.inl rfl) (pe_op op_mod (pe_callTy call_int1 (by rfl) T.b_int (by decide +kernel) (pa_cons (pe_op op_mul (pv 2) (pe_op op_add (pe_op op_fdiv (pv 2) pe_int) pe_int)) pa_nil)) pe_int))
      (pss_cons (ps_set (i := 2) sc_law_draw.nd rfl (Or.inl rfl) (pe_op op_mod (pe_callTy call_int1 (by rfl) T.b_int (by decide +kernel) (pa_cons (pe_op op_mul (pv 2) (pe_op op_add (pe_op op_fdiv (pv 2) pe_int) pe_int)) pa_nil)) pe_int))
      (pss_one (ps_ret (pe_op op_mod (pe_callTy call_int1 (by rfl) T.b_int (by decide +kernel) (pa_cons (pe_op op_fdiv (pv 2) pe_int) pa_nil)) (pv 1)))))))))), ?_⟩
    refine w_start (σ' := [some (.ref h), some (.int many), none, none, none]) rfl ?_
    refine ⟨fun σ' H' => ∃ (y2 y3 y4 : Option V) (xs' : List V), σ' = [some (.ref h), some (.int many), y2, y3, y4] ∧ HandW c xs' ∧ H' = upd H h (.lst xs'), ?_, ?_⟩
    · obtain ⟨i, cu, sd, tu, rfl, c0, s0, s1, t0⟩ := hW
      have fin : ∀ y2 y3 y4 : Option V, ∃ (z2 z3 z4 : Option V) (xs' : List V), [some (.ref h), some (.int many), y2, y3, y4] = [some (.ref h), some (.int many), z2, z3, z4] ∧ HandW c xs' ∧ H = upd H h (.lst xs') := fun y2 y3 y4 => ⟨y2, y3, y4, _, rfl, ⟨i, cu, sd, tu, rfl, c0, s0, s1, t0⟩, by
        funext b
        by_cases hb : b = h
        · rw [hb, upd_same, hH]
        · rw [upd_ne hb]⟩
      walk_at "rd"
      refine w_dec (fun h1 => ?_) (fun h1 => ?_)
      · walk_at "rd"
        refine ⟨c, _, rfl, .inl (sqL hC), ?_⟩
        walk_at "rd"
        refine w_dec (fun h2 => ?_) (fun h2 => ?_)
        · walk_at "rd"
          have hi : i < ns.length := by
            rw [List.length_map] at h2
            omega
          have hx := List.getElem?_eq_getElem hi
          have h0 := hns _ (List.getElem_mem hi)
          generalize ns[i] = x at hx h0
          refine w_ixL (sqL hC) (atI_int hx) ?_
          walk_at "rd"
          have e1 : 0 ≤ (sd * 69621 + x + 11) % 2147483629 := Int.emod_nonneg _ (by decide)
          have e2 := Int.emod_lt_of_pos (sd * 69621 + x + 11) (show (0 : Int) < 2147483629 by decide)
          have e3 : ((i : Int) + 1) = ((i + 1 : Nat) : Int) := by omega
          refine w_dec (fun h3 => ?_) (fun h3 => ?_)
          · walk_at "rd"
            refine ⟨_, _, _, _, rfl, ⟨i + 1, x, _, tu, by rw [← e3], h0, e1, by omega, t0⟩, ?_⟩
            simp only [upd_upd]
          · walk_at "rd"
            refine ⟨_, _, _, _, rfl, ⟨i + 1, cu, _, tu, by rw [← e3], c0, e1, by omega, t0⟩, ?_⟩
            simp only [upd_upd]
        · walk_at "rd"
          exact fin _ _ _
      · walk_at "rd"
        exact fin _ _ _
    · rintro σ' H' ⟨y2, y3, y4, xs', rfl, ⟨i, cu, sd, tu, rfl, c0, s0, s1, t0⟩, rfl⟩
      walk_at "rd"
      refine w_dec (fun h1 => ?_) (fun h1 => ?_)
      · walk_at "rd"
        have g := q (cu % many) [.ref c, .int (i : Nat), .int (cu / many), .int sd, .int tu] (Int.emod_nonneg _ (by omega)) (Int.emod_lt_of_pos _ m0) ⟨i, _, sd, tu, rfl, Int.ediv_nonneg (by omega) (by omega), s0, s1, t0⟩
        simp only [upd_upd]
        exact g
      · walk_at "rd"
        have b1 : 0 ≤ (sd + 7919 * (tu + 1)) * 48271 % 2147483647 := Int.emod_nonneg _ (by decide)
        have b2 := Int.emod_lt_of_pos ((sd + 7919 * (tu + 1)) * 48271) (show (0 : Int) < 2147483647 by decide)
        generalize (sd + 7919 * (tu + 1)) * 48271 % 2147483647 = n1 at b1 b2
        walk_at "rd"
        have b3 : 0 ≤ n1 * (n1 / 1009 + 69621) % 2147483647 := Int.emod_nonneg _ (by decide)
        have b4 := Int.emod_lt_of_pos (n1 * (n1 / 1009 + 69621)) (show (0 : Int) < 2147483647 by decide)
        generalize n1 * (n1 / 1009 + 69621) % 2147483647 = n2 at b3 b4
        walk_at "rd"
        have g := q (n2 * (n2 / 2003 + 40692) % 2147483399 / 16 % many) [.ref c, .int (i : Nat), .int cu, .int sd, .int (tu + 1)] (Int.emod_nonneg _ (by omega)) (Int.emod_lt_of_pos _ m0) ⟨i, _, sd, _, rfl, c0, s0, s1, by omega⟩
        simp only [upd_upd]
        exact g
/-- hand, many: some number below many; all that was tracked stands -/
def sp_draw (K : PySem.W.Frag) : Sp := fun vs H Q _ => ∃ (v : V) (many : Int), vs = [v, .int many] ∧ HandAt H v ∧ 0 < many ∧ many ≤ 1000000000 ∧ ∀ r : Int, 0 ≤ r → r < many → Q (.int r) H
theorem ok_law_draw {f : Addr} {fd : FuncData} (F : C8.Def K mg "_law_draw" s_law_draw f fd) (b : Binds K fd ["hand", "many"] []) (T : Txt mg) : C8.Cal P w K mg base 1 "_law_draw" (sp_draw K) [] := by
  refine cal_hide (ok_draw1 F b T) fun vs H Q E h => ?_
  obtain ⟨v, many, rfl, ⟨h, c, ns, rfl, h1, h2, h3⟩, m0, m1, q⟩ := h
  refine ⟨h, HandW c, h1, ⟨_, 0, 0, 0, 0, rfl, by omega, by omega, by omega, by omega⟩, fun xs hx => ?_⟩
  have hch : c ≠ h := fun e => by rw [e, h1] at h2; cases h2
  refine ⟨h, c, ns, xs, many, rfl, upd_same, hx, by rw [upd_ne hch]; exact h2, h3, m0, m1, fun r xs' r0 r1 hx' => ⟨xs', hx', upd_same, ?_⟩⟩
  rw [upd_upd, upd_upd]
  have e : upd H h (LstP h (HandW c)) = H := by
    funext b
    by_cases hb : b = h
    · rw [hb, upd_same, h1]
    · rw [upd_ne hb]
  rw [e]
  exact q r r0 r1
/-! _law_hand(script) -/
def absI (x : Int) : Int := if x < 0 then -x else x
theorem absI_nn (x : Int) : 0 ≤ absI x := by
  unfold absI
  split <;> omega
theorem cut_ints (ns : List Int) (lo hi : Option Int) : ∃ ms : List Int, cutV (ns.map V.int) lo hi = ms.map V.int ∧ ms.length ≤ ns.length := by
  refine ⟨(ns.drop (HT.sIx ns.length 0 lo)).take (HT.sIx ns.length ns.length hi - HT.sIx ns.length 0 lo), ?_, ?_⟩
  · unfold cutV
    rw [List.map_take, List.map_drop, List.length_map]
  · rw [List.length_take, List.length_drop]
    omega
def sp_hand1 (K : PySem.W.Frag) : Sp := fun vs H Q _ => ∃ (a : Addr) (ns : List Int), vs = [.ref a] ∧ SqL K H a (ns.map V.int) ∧ ns.length ≤ 1000000 ∧
  ∀ (h c : Addr) (ms : List Int) (H1 H' : Hp), Ex H H1 → H1 h = none → H1 c = some (.lst (ms.map V.int)) → (∀ x ∈ ms, 0 ≤ x) → ms.length ≤ 1000000 → H' = upd H1 h (.lst [.ref c, .int 0, .int 0, .int (1 + ms.length), .int 0]) → Q (.ref h) H'
theorem ok_hand1 {f : Addr} {fd : FuncData} (F : C8.Def K mg "_law_hand" s_law_hand f fd) (b : Binds K fd ["script"] []) (T : Txt mg) : C8.Cal P w K mg base 1 "_law_hand" (sp_hand1 K) [] := by
  refine C8.cal0 F b .nil sc_law_hand (fun vs H Q E h => ?_) (fun cdv A outer s H vs Q E hr h => ?_)
  · obtain ⟨a, ns, rfl, _⟩ := h
    rfl
  · obtain ⟨a, ns, rfl, ha, hl, q⟩ := h
    refine ⟨_, (pss_cons (ps_setLc (i := 1) (own := [("cell", 2)]) (g := gName 2) (tt := tYes) rfl sc_law_hand.nd rfl rfl (sw_true rfl rfl rfl (by decide +kernel)) (TH.kpi_list (K := K) (pe_slice (TH.ksl_list (K := K)) (pv 0) po_none (po_some pe_int))) (blkOk_by (own := [("cell", 2)]) (N := N_law_hand) (sc := C8.fnScope s_law_hand) (by decide +kernel)) (fun _ _ _ _ _ => (pg_name (i := 2) sc_law_hand.nd rfl (Or.inl rfl) (Or.inr rfl))) (fun _ _ _ _ _ => pts_nil) (fun _ _ _ _ _ => (pe_callB call_abs (by rfl) T.b_abs (by decide +kernel) (pa_cons (pe_callTy call_int1 (by rfl) T.b_int (by decide +kernel) (pa_cons (pv 2) pa_nil)) pa_nil))))
      (pss_one (ps_ret (pe_lst (pa_cons (pv 1) (pa_cons pe_int (pa_cons pe_int (pa_cons (pe_op op_add pe_int (pe_callB (TH.kcall_len (K := K)) (by rfl) T.b_len (by decide +kernel) (pa_cons (pv 1) pa_nil))) (pa_cons pe_int pa_nil))))))))), ?_⟩
    refine w_start (σ' := [some (.ref a), none, none]) rfl ?_
    walk_at "rd"
    obtain ⟨ms, e1, e2⟩ := cut_ints ns none (some 63)
    refine ⟨a, _, rfl, ha, fun p hp => ?_⟩
    rw [e1]
    refine ⟨p, rfl, ⟨_, sqL upd_same⟩, fun Dl hD => ?_⟩
    refine lc_data (K := K) (walk_list (xs := ms.map V.int)) (fun _ => true) (fun i => .int (absI (ms.getD i 0))) (fun _ => rfl) (fun H' e => e.l (sqL upd_same)) hD (by rw [List.length_map]; omega) (fun i x H' H'' hi e y R R0 k _ => ?_) (fun H' ws e hw hda => ?_)
    · obtain ⟨rfl, hx⟩ := y
      obtain ⟨n, hn, rfl⟩ := ints_at hx
      walk_at "rd"
      refine ⟨rfl, ?_⟩
      walk_at "rd"
      refine ⟨_, rfl, ?_⟩
      refine k rfl _ _ (Ex.refl _) ?_
      rw [getD_of hn]
      exact .int _
    · walk_at "rd"
      rw [made_all, List.length_map, range_map 0 (fun x : Int => PyData.int (absI x))] at hda
      have e3 : ms.map (fun x : Int => PyData.int (absI x)) = (ms.map absI).map PyData.int := by rw [List.map_map]; rfl
      rw [e3] at hda
      have e4 := dpa_ints_inv hda
      subst e4
      refine ⟨Dl, _, rfl, .inl (sqL hw), ?_⟩
      walk_at "rd"
      refine w_dispT (by simp) fun h hh => ?_
      refine q h Dl _ H' _ ((Ex.new hp).trans e) hh hw (fun x hx => ?_) (by rw [List.length_map]; omega) ?_
      · obtain ⟨y, _, rfl⟩ := List.mem_map.mp hx
        exact absI_nn y
      · rw [List.length_map]
/-- a script: a hand -/
def sp_hand (K : PySem.W.Frag) : Sp := fun vs H Q _ => ∃ (a : Addr) (ns : List Int), vs = [.ref a] ∧ SqL K H a (ns.map V.int) ∧ ns.length ≤ 1000000 ∧ ∀ v H', Ex H H' → HandAt H' v → Q v H'
theorem ok_law_hand {f : Addr} {fd : FuncData} (F : C8.Def K mg "_law_hand" s_law_hand f fd) (b : Binds K fd ["script"] []) (T : Txt mg) : C8.Cal P w K mg base 1 "_law_hand" (sp_hand K) [] := by
  refine cal_seal (ok_hand1 F b T) fun vs H Q E h => ?_
  obtain ⟨a, ns, rfl, ha, hl, q⟩ := h
  refine ⟨a, ns, rfl, ha, hl, fun h c ms H1 H' e hh hc hp hm hH => ?_⟩
  subst hH
  have hch : c ≠ h := fun z => by rw [z, hh] at hc; cases hc
  refine ⟨h, HandW c, _, e.fresh hh, ⟨0, 0, 1 + ms.length, 0, rfl, by omega, by omega, by omega, by omega⟩, upd_same, ?_⟩
  rw [upd_upd]
  exact q _ _ (e.trans (Ex.new hh)) ⟨h, c, ms, rfl, upd_same, by rw [upd_ne hch]; exact hc, hp⟩
/-! _law_any(hand, items) -/
def sp_any (K : PySem.W.Frag) : Sp := fun vs H Q _ => ∃ (v : V) (a : Addr) (xs : List V), vs = [v, .ref a] ∧ HandAt H v ∧ SqL K H a xs ∧ xs ≠ [] ∧ xs.length ≤ 1000000 ∧ ∀ x ∈ xs, Q x H
theorem ok_law_any {f : Addr} {fd : FuncData} (F : C8.Def K mg "_law_any" s_law_any f fd) (b : Binds K fd ["hand", "items"] []) (T : Txt mg)
    (c_law_draw : C8.Cal P w K mg base 1 "_law_draw" (sp_draw K) []) : C8.Cal P w K mg base 2 "_law_any" (sp_any K) [] := by
  refine C8.cal0 F b .nil sc_law_any (fun vs H Q E h => ?_) (fun cdv A outer s H vs Q E hr h => ?_)
  · obtain ⟨v, a, xs, rfl, _⟩ := h
    rfl
  · obtain ⟨v, a, xs, rfl, hv, ha, hne, hl, q⟩ := h
    refine ⟨_, (pss_one (ps_ret (pe_ix (TH.kix_list (K := K)) (pv 1) (C8.pe_c c_law_draw hr (by first | decide | exact Nat.le_refl _) (by rfl) (pa_cons (pv 0) (pa_cons (pe_callB (TH.kcall_len (K := K)) (by rfl) T.b_len (by decide +kernel) (pa_cons (pv 1) pa_nil)) pa_nil))) (fun _ _ => rfl)))), ?_⟩
    refine w_start (σ' := [some v, some (.ref a)]) rfl ?_
    have hpos := List.length_pos_iff.mpr hne
    walk_at "rd"
    refine ⟨a, _, rfl, .inl ha, ?_⟩
    walk_at "rd"
    refine ⟨v, _, rfl, hv, by omega, by omega, fun r r0 r1 => ?_⟩
    obtain ⟨n, rfl⟩ : ∃ n : Nat, r = n := ⟨r.toNat, by omega⟩
    have hn : n < xs.length := by omega
    exact w_ixL ha (atI_at (List.getElem?_eq_getElem hn)) (q _ (List.getElem_mem hn))
/-! _law_is(told, due): the same data -/
def wee : Nat → D → Prop
  | 0, d => d = .none ∨ (∃ b, d = .bool b) ∨ ∃ i, d = .int i
  | n + 1, d => (d = .none ∨ (∃ b, d = .bool b) ∨ ∃ i, d = .int i) ∨ ∃ ds : List D, (d = .tuple ds ∨ d = .list ds) ∧ ds.length ≤ 1000000 ∧ ∀ x ∈ ds, wee n x
def sp_is (n : Nat) (K : PySem.W.Frag) : Sp := fun vs H Q _ => ∃ (u v : V) (d : D), vs = [u, v] ∧ Dp K H u d ∧ Dp K H v d ∧ wee n d ∧ ∀ H', Ex H H' → Q (.bl true) H'
def sp_no : Sp := fun _ _ _ _ => False
theorem ok_law_is_no {f : Addr} {fd : FuncData} (F : C8.Def K mg "_law_is" s_law_is f fd) (b : Binds K fd ["told", "due"] []) : C8.Cal P w K mg base 1 "_law_is" sp_no [] :=
  C8.cal0 F b .nil sc_law_is (fun vs H Q E h => False.elim h) (fun cdv A outer s H vs Q E hr h => False.elim h)
theorem ok_law_is0 {f : Addr} {fd : FuncData} (F : C8.Def K mg "_law_is" s_law_is f fd) (b : Binds K fd ["told", "due"] []) (T : Txt mg)
    (c_law_is : C8.Cal P w K mg base 1 "_law_is" sp_no []) : C8.Cal P w K mg base 2 "_law_is" (sp_is 0 K) [] := by
  refine C8.cal0 F b .nil sc_law_is (fun vs H Q E h => ?_) (fun cdv A outer s H vs Q E hr h => ?_)
  · obtain ⟨u, v, d, rfl, _⟩ := h
    rfl
  · obtain ⟨u, v, d, rfl, hu1, hv1, hd, q⟩ := h
    refine ⟨_, (pss_cons (ps_if (pt_val (pe_callB (TH.kcall_isiT (K := K)) (by rfl) T.b_isinstance (by decide +kernel) (pa_cons (pv 1) (pa_cons (pe_tup (pa_cons (pe_bltn (v := .ty "tuple") (by rfl) T.b_tuple (by decide +kernel) rfl) (pa_cons (pe_bltn (v := .ty "list") (by rfl) T.b_list (by decide +kernel) rfl) pa_nil))) pa_nil)))) (pss_cons (ps_if (PW.pt (pw_or (pt_cmpR op_ne (pe_callB (TH.kcall_isi (K := K)) (by rfl) T.b_isinstance (by decide +kernel) (pa_cons (pv 0) (pa_cons (pe_bltn (v := .ty "tuple") (by rfl) T.b_tuple (by decide +kernel) rfl) pa_nil))) (pe_callB (TH.kcall_isi (K := K)) (by rfl) T.b_isinstance (by decide +kernel) (pa_cons (pv 1) (pa_cons (pe_bltn (v := .ty "tuple") (by rfl) T.b_tuple (by decide +kernel) rfl) pa_nil))) (nomark _)) (pw_or1 (pt_not (pt_val (pe_callB (TH.kcall_isiT (K := K)) (by rfl) T.b_isinstance (by decide +kernel) (pa_cons (pv 0) (pa_cons (pe_tup (pa_cons (pe_bltn (v := .ty "tuple") (by rfl) T.b_tuple (by decide +kernel) rfl) (pa_cons (pe_bltn (v := .ty "list") (by rfl) T.b_list (by decide +kernel) rfl) pa_nil))) pa_nil)))))))) (pss_one (ps_ret pe_bl)) pss_nil)
      (pss_one (ps_ret (pe_and (pe_cmpR op_eq (pe_callB (TH.kcall_len (K := K)) (by rfl) T.b_len (by decide +kernel) (pa_cons (pv 0) pa_nil)) (pe_callB (TH.kcall_len (K := K)) (by rfl) T.b_len (by decide +kernel) (pa_cons (pv 1) pa_nil)) (nomark _)) (pe_one (pe_callB (TH.kcr_all (K := K) rfl) (by rfl) T.b_all (by decide +kernel) (pa_cons (pe_lc (own := [("one", 2), ("two", 3)]) (g := gTup K 2 (gCons (gName 2) (gCons (gName 3) gNil))) (tt := tYes) rfl sc_law_is.nd (TH.kpi_zip (K := K) (by rfl) T.b_zip (pa_cons (pv 0) (pa_cons (pv 1) pa_nil))) (blkOk_by (own := [("one", 2), ("two", 3)]) (N := N_law_is) (sc := C8.fnScope s_law_is) (by decide +kernel)) (fun _ _ _ _ _ => (TH.kpg_tup (K := K) (n := 2) rfl (pgs_cons (pg_name (i := 2) sc_law_is.nd rfl (Or.inl rfl) (Or.inr rfl)) (pgs_cons (pg_name (i := 3) sc_law_is.nd rfl (Or.inl rfl) (Or.inr rfl)) pgs_nil)))) (fun _ _ _ _ _ => pts_nil) (fun _ _ _ _ _ => (C8.pe_c c_law_is hr (by first | decide | exact Nat.le_refl _) (by rfl) (pa_cons (pv 2) (pa_cons (pv 3) pa_nil))))) pa_nil))))))) pss_nil)
      (pss_one (ps_ret (pe_and (pe_cmpR op_eq (pe_callB (TH.kcall_isi (K := K)) (by rfl) T.b_isinstance (by decide +kernel) (pa_cons (pv 0) (pa_cons (pe_bltn (v := .ty "bool") (by rfl) T.b_bool (by decide +kernel) rfl) pa_nil))) (pe_callB (TH.kcall_isi (K := K)) (by rfl) T.b_isinstance (by decide +kernel) (pa_cons (pv 1) (pa_cons (pe_bltn (v := .ty "bool") (by rfl) T.b_bool (by decide +kernel) rfl) pa_nil))) (nomark _)) (pe_one (pe_cmpR op_eq (pv 0) (pv 1) (nomark _))))))), ?_⟩
    refine w_start (σ' := [some u, some v, none, none]) rfl ?_
    walk_at "rd"
    refine w_dispT (by decide) fun p hp => ?_
    walk_at "rd"
    refine w_isTL ((Ex.new hp).dp hv1) upd_same ?_
    have e1 := Ex.new (o := .tup [.ty "tuple", .ty "list"]) hp
    rcases hd with rfl | ⟨k, rfl⟩ | ⟨k, rfl⟩ <;> cases hu1 <;> cases hv1 <;> walk_at "rd"
    · refine w_isBool .non ?_
      walk_at "rd"
      refine w_isBool .non ?_
      walk_at "rd"
      refine w_dec (fun _ => ?_) (fun z => absurd rfl z)
      walk_at "rd"
      exact w_eq rfl (q _ e1)
    · refine w_isBool (.bl _) ?_
      walk_at "rd"
      refine w_isBool (.bl _) ?_
      walk_at "rd"
      refine w_dec (fun _ => ?_) (fun z => absurd rfl z)
      walk_at "rd"
      rw [decide_eq_true (rfl : k = k)]
      exact q _ e1
    · refine w_isBool (.int _) ?_
      walk_at "rd"
      refine w_isBool (.int _) ?_
      walk_at "rd"
      refine w_dec (fun _ => ?_) (fun z => absurd rfl z)
      walk_at "rd"
      rw [decide_eq_true (rfl : k = k)]
      exact q _ e1
theorem w_neBB {H : Hp} {Q : VK} {a : Bool} (k : Q (.bl false) H) : rNe (.bl a) (.bl a) H Q := ⟨rfl, by
  have e : (!decide (V.bl a = V.bl a)) = false := by rw [decide_eq_true rfl]; rfl
  rw [e]; exact k⟩
theorem wee_up : ∀ {n : Nat} {d : D}, wee n d → wee (n + 1) d
  | 0, _, h => .inl h
  | n + 1, _, .inl h => .inl h
  | n + 1, _, .inr ⟨ds, h1, h2, h3⟩ => .inr ⟨ds, h1, h2, fun x hx => wee_up (h3 x hx)⟩
theorem all_trues {n : Nat} : ((List.range n).map fun _ => true).all id = true := by
  rw [List.all_eq_true]
  intro x hx
  obtain ⟨_, _, rfl⟩ := List.mem_map.mp hx
  rfl
theorem ok_law_isS {n k : Nat} {f : Addr} {fd : FuncData} (F : C8.Def K mg "_law_is" s_law_is f fd) (b : Binds K fd ["told", "due"] []) (T : Txt mg)
    (c_law_is : C8.Cal P w K mg base k "_law_is" (sp_is n K) []) : C8.Cal P w K mg base (k + 1) "_law_is" (sp_is (n + 1) K) [] := by
  refine C8.cal0 F b .nil sc_law_is (fun vs H Q E h => ?_) (fun cdv A outer s H vs Q E hr h => ?_)
  · obtain ⟨u, v, d, rfl, _⟩ := h
    rfl
  · obtain ⟨u, v, d, rfl, hu1, hv1, hd, q⟩ := h
    refine ⟨_, (pss_cons (ps_if (pt_val (pe_callB (TH.kcall_isiT (K := K)) (by rfl) T.b_isinstance (by decide +kernel) (pa_cons (pv 1) (pa_cons (pe_tup (pa_cons (pe_bltn (v := .ty "tuple") (by rfl) T.b_tuple (by decide +kernel) rfl) (pa_cons (pe_bltn (v := .ty "list") (by rfl) T.b_list (by decide +kernel) rfl) pa_nil))) pa_nil)))) (pss_cons (ps_if (PW.pt (pw_or (pt_cmpR op_ne (pe_callB (TH.kcall_isi (K := K)) (by rfl) T.b_isinstance (by decide +kernel) (pa_cons (pv 0) (pa_cons (pe_bltn (v := .ty "tuple") (by rfl) T.b_tuple (by decide +kernel) rfl) pa_nil))) (pe_callB (TH.kcall_isi (K := K)) (by rfl) T.b_isinstance (by decide +kernel) (pa_cons (pv 1) (pa_cons (pe_bltn (v := .ty "tuple") (by rfl) T.b_tuple (by decide +kernel) rfl) pa_nil))) (nomark _)) (pw_or1 (pt_not (pt_val (pe_callB (TH.kcall_isiT (K := K)) (by rfl) T.b_isinstance (by decide +kernel) (pa_cons (pv 0) (pa_cons (pe_tup (pa_cons (pe_bltn (v := .ty "tuple") (by rfl) T.b_tuple (by decide +kernel) rfl) (pa_cons (pe_bltn (v := .ty "list") (by rfl) T.b_list (by decide +kernel) rfl) pa_nil))) pa_nil)))))))) (pss_one (ps_ret pe_bl)) pss_nil)
      (pss_one (ps_ret (pe_and (pe_cmpR op_eq (pe_callB (TH.kcall_len (K := K)) (by rfl) T.b_len (by decide +kernel) (pa_cons (pv 0) pa_nil)) (pe_callB (TH.kcall_len (K := K)) (by rfl) T.b_len (by decide +kernel) (pa_cons (pv 1) pa_nil)) (nomark _)) (pe_one (pe_callB (TH.kcr_all (K := K) rfl) (by rfl) T.b_all (by decide +kernel) (pa_cons (pe_lc (own := [("one", 2), ("two", 3)]) (g := gTup K 2 (gCons (gName 2) (gCons (gName 3) gNil))) (tt := tYes) rfl sc_law_is.nd (TH.kpi_zip (K := K) (by rfl) T.b_zip (pa_cons (pv 0) (pa_cons (pv 1) pa_nil))) (blkOk_by (own := [("one", 2), ("two", 3)]) (N := N_law_is) (sc := C8.fnScope s_law_is) (by decide +kernel)) (fun _ _ _ _ _ => (TH.kpg_tup (K := K) (n := 2) rfl (pgs_cons (pg_name (i := 2) sc_law_is.nd rfl (Or.inl rfl) (Or.inr rfl)) (pgs_cons (pg_name (i := 3) sc_law_is.nd rfl (Or.inl rfl) (Or.inr rfl)) pgs_nil)))) (fun _ _ _ _ _ => pts_nil) (fun _ _ _ _ _ => (C8.pe_c c_law_is hr (by first | decide | exact Nat.le_refl _) (by rfl) (pa_cons (pv 2) (pa_cons (pv 3) pa_nil))))) pa_nil))))))) pss_nil)
      (pss_one (ps_ret (pe_and (pe_cmpR op_eq (pe_callB (TH.kcall_isi (K := K)) (by rfl) T.b_isinstance (by decide +kernel) (pa_cons (pv 0) (pa_cons (pe_bltn (v := .ty "bool") (by rfl) T.b_bool (by decide +kernel) rfl) pa_nil))) (pe_callB (TH.kcall_isi (K := K)) (by rfl) T.b_isinstance (by decide +kernel) (pa_cons (pv 1) (pa_cons (pe_bltn (v := .ty "bool") (by rfl) T.b_bool (by decide +kernel) rfl) pa_nil))) (nomark _)) (pe_one (pe_cmpR op_eq (pv 0) (pv 1) (nomark _))))))), ?_⟩
    refine w_start (σ' := [some u, some v, none, none]) rfl ?_
    walk_at "rd"
    refine w_dispT (by decide) fun p hp => ?_
    walk_at "rd"
    refine w_isTL ((Ex.new hp).dp hv1) upd_same ?_
    have e1 := Ex.new (o := .tup [.ty "tuple", .ty "list"]) hp
    rcases hd with (rfl | ⟨k, rfl⟩ | ⟨k, rfl⟩) | ⟨ds, hds, hlen, hwee⟩
    · cases hu1; cases hv1
      walk_at "rd"
      refine w_isBool .non ?_
      walk_at "rd"
      refine w_isBool .non ?_
      walk_at "rd"
      refine w_dec (fun _ => ?_) (fun z => absurd rfl z)
      walk_at "rd"
      exact w_eq rfl (q _ e1)
    · cases hu1; cases hv1
      walk_at "rd"
      refine w_isBool (.bl _) ?_
      walk_at "rd"
      refine w_isBool (.bl _) ?_
      walk_at "rd"
      refine w_dec (fun _ => ?_) (fun z => absurd rfl z)
      walk_at "rd"
      rw [decide_eq_true (rfl : k = k)]
      exact q _ e1
    · cases hu1; cases hv1
      walk_at "rd"
      refine w_isBool (.int _) ?_
      walk_at "rd"
      refine w_isBool (.int _) ?_
      walk_at "rd"
      refine w_dec (fun _ => ?_) (fun z => absurd rfl z)
      walk_at "rd"
      rw [decide_eq_true (rfl : k = k)]
      exact q _ e1
    · have hsq : ∃ (ub vb : Addr) (xs ys : List V), u = .ref ub ∧ v = .ref vb ∧ ((SqL K H ub xs ∧ SqL K H vb ys) ∨ (SqT K H ub xs ∧ SqT K H vb ys)) ∧ DpAll K H xs ds ∧ DpAll K H ys ds ∧ (isTup d || isLst d) = true := by
        rcases hds with rfl | rfl
        · obtain ⟨a1, x1, rfl, h1, h2⟩ := dp_tup hu1
          obtain ⟨a2, x2, rfl, h3, h4⟩ := dp_tup hv1
          exact ⟨_, _, _, _, rfl, rfl, .inr ⟨h1, h3⟩, h2, h4, rfl⟩
        · obtain ⟨a1, x1, rfl, h1, h2⟩ := dp_lst hu1
          obtain ⟨a2, x2, rfl, h3, h4⟩ := dp_lst hv1
          exact ⟨_, _, _, _, rfl, rfl, .inl ⟨h1, h3⟩, h2, h4, rfl⟩
      obtain ⟨ub, vb, xs, ys, rfl, rfl, hsq, hxs, hys, htl⟩ := hsq
      have lx : xs.length = ds.length := dpa_len hxs
      have ly : ys.length = ds.length := dpa_len hys
      rw [htl]
      walk_at "rd"
      refine w_isTup (e1.dp hu1) ?_
      walk_at "rd"
      refine w_isTup (e1.dp hv1) ?_
      walk_at "rd"
      refine w_neBB ⟨_, rfl, ?_⟩
      walk_at "rd"
      refine w_dispT (by decide) fun p2 hp2 => ?_
      walk_at "rd"
      have e2 : Ex H _ := e1.trans (Ex.new (o := .tup [.ty "tuple", .ty "list"]) hp2)
      refine w_isTL (e2.dp hu1) upd_same ?_
      rw [htl]
      walk_at "rd"
      refine ⟨ub, xs, rfl, hsq.imp (fun z => e2.l z.1) (fun z => e2.t z.1), ?_⟩
      walk_at "rd"
      refine ⟨vb, ys, rfl, hsq.imp (fun z => e2.l z.2) (fun z => e2.t z.2), ?_⟩
      walk_at "rd"
      refine w_dec (fun _ => ?_) (fun z => absurd (by omega) z)
      walk_at "rd"
      have turn : ∀ (i : Nat) (H' : Hp) (t : Addr) (x1 x2 : V) (R : VK), i < ds.length → Ex H H' → H' t = none → xs[i]? = some x1 → ys[i]? = some x2 → (∀ v H3, Ex H' H3 → Dp K H3 v (.bool true) → R v H3) →
          sp_is n K [x1, x2] (upd H' t (.tup [x1, x2])) R C8.E0 := by
        intro i H' t x1 x2 R hi e ht h1 h2 k
        obtain ⟨d1, hd1, hd2⟩ := dpa_get hxs h1
        obtain ⟨d2, hd3, hd4⟩ := dpa_get hys h2
        rw [hd1] at hd3
        cases hd3
        have e3 := e.trans (Ex.new (o := .tup [x1, x2]) ht)
        exact ⟨x1, x2, d1, rfl, e3.dp hd2, e3.dp hd4, hwee _ (List.mem_of_getElem? hd1), fun H3 e4 => k _ _ ((Ex.new ht).trans e4) (.bl _)⟩
      have fin : ∀ (Dl : Addr) (H' : Hp) (ws : List V), Ex (upd (upd H p (.tup [.ty "tuple", .ty "list"])) p2 (.tup [.ty "tuple", .ty "list"])) H' → H' Dl = some (.lst ws) → DpAll K H' ws (made ds.length (fun _ => true) fun _ => PyData.bool true) → rAll K [.ref Dl] H' Q := by
        intro Dl H' ws e hw hda
        rw [made_all] at hda
        have e5 : (List.range ds.length).map (fun _ => PyData.bool true) = ((List.range ds.length).map fun _ => true).map PyData.bool := by rw [List.map_map]; rfl
        rw [e5] at hda
        have e6 := dpa_bools_inv hda
        subst e6
        refine ⟨Dl, _, rfl, sqL hw, ?_⟩
        rw [all_trues]
        exact q _ (e2.trans e)
      refine ⟨ub, vb, xs, ys, rfl, ?_⟩
      rcases hsq with ⟨ha, hb⟩ | ⟨ha, hb⟩
      · refine .inl ⟨e2.l ha, e2.l hb, fun Dl hD => ?_⟩
        refine lc_data (K := K) (walk_zip (by omega : ds.length = _)) (fun _ => true) (fun i => .bool true) (fun _ => rfl) (fun H' e => ⟨(e2.trans e).l ha, (e2.trans e).l hb⟩) hD hlen (fun i x H' H'' hi e y R R0 k _ => ?_) (fun H' ws e hw hda => fin Dl H' ws e hw hda)
        obtain ⟨t, x1, x2, rfl, ht, rfl, h1, h2⟩ := y
        walk_at "rd"
        refine ⟨rfl, ?_⟩
        walk_at "rd"
        exact turn i H' t x1 x2 R hi (e2.trans e) ht h1 h2 (k rfl)
      · refine .inr ⟨e2.t ha, e2.t hb, fun Dl hD => ?_⟩
        refine lc_data (K := K) (walk_zipT (by omega : ds.length = _)) (fun _ => true) (fun i => .bool true) (fun _ => rfl) (fun H' e => ⟨(e2.trans e).t ha, (e2.trans e).t hb⟩) hD hlen (fun i x H' H'' hi e y R R0 k _ => ?_) (fun H' ws e hw hda => fin Dl H' ws e hw hda)
        obtain ⟨t, x1, x2, rfl, ht, rfl, h1, h2⟩ := y
        walk_at "rd"
        refine ⟨rfl, ?_⟩
        walk_at "rd"
        exact turn i H' t x1 x2 R hi (e2.trans e) ht h1 h2 (k rfl)
/-! _law_mixed(hand, items): the items in some order -/
def sp_mixed (K : PySem.W.Frag) : Sp := fun vs H Q _ => ∃ (v : V) (a : Addr) (xs : List V), vs = [v, .ref a] ∧ HandAt H v ∧ SqL K H a xs ∧ xs.length ≤ 1000000 ∧
  ∀ (l : Addr) (H' : Hp) (ys : List V), Ex H H' → H l = none → H' l = some (.lst ys) → ys.Perm xs → Q (.ref l) H'
theorem ok_law_mixed {f : Addr} {fd : FuncData} (F : C8.Def K mg "_law_mixed" s_law_mixed f fd) (b : Binds K fd ["hand", "items"] []) (T : Txt mg)
    (c_law_draw : C8.Cal P w K mg base 1 "_law_draw" (sp_draw K) []) : C8.Cal P w K mg base 2 "_law_mixed" (sp_mixed K) [] := by
  refine C8.cal0 F b .nil sc_law_mixed (fun vs H Q E h => ?_) (fun cdv A outer s H vs Q E hr h => ?_)
  · obtain ⟨v, a, xs, rfl, _⟩ := h
    rfl
  · obtain ⟨v, a, xs, rfl, hv, ha, hl, q⟩ := h
    refine ⟨_, (pss_cons (ps_par (i := 3) (j := 4) rfl sc_law_mixed.nd rfl rfl (by decide) rfl rfl (pa_cons (pe_callTy (TH.kcall_list (K := K)) (by rfl) T.b_list (by decide +kernel) (pa_cons (pv 1) pa_nil)) (pa_cons (pe_lst pa_nil) pa_nil)) (by rfl))
      (pss_cons (ps_for PassesOwn.never rfl (pi_range1 (by rfl) T.b_range (pa_cons (pe_callB (TH.kcall_len (K := K)) (by rfl) T.b_len (by decide +kernel) (pa_cons (pv 3) pa_nil)) pa_nil)) (pg_name (i := 2) sc_law_mixed.nd rfl (Or.inl rfl) (Or.inr rfl)) (pss_one (ps_expr (TH.kpe_bm (K := K) PySem.F.plainAttrs_list PySem.F.slot_list_append PySem.F.type_list_append mt_append (pv 4) (pa_cons (TH.kpe_bm (K := K) PySem.F.plainAttrs_list PySem.F.slot_list_pop PySem.F.type_list_pop mt_popAt (pv 3) (pa_cons (C8.pe_c c_law_draw hr (by first | decide | exact Nat.le_refl _) (by rfl) (pa_cons (pv 0) (pa_cons (pe_callB (TH.kcall_len (K := K)) (by rfl) T.b_len (by decide +kernel) (pa_cons (pv 3) pa_nil)) pa_nil))) pa_nil)) pa_nil)))))
      (pss_one (ps_ret (pv 4))))), ?_⟩
    refine w_start (σ' := [some v, some (.ref a), none, none, none]) rfl ?_
    walk_at "rd"
    refine ⟨a, _, rfl, .inl ha, fun l hl0 => ?_⟩
    walk_at "rd"
    refine w_dispT (by decide) fun g hg => ?_
    walk_at "rd"
    have hgl : g ≠ l := fun z => by rw [z, upd_same] at hg; cases hg
    have hg0 : H g = none := by rw [upd_ne hgl] at hg; exact hg
    refine ⟨l, _, rfl, .inl (sqL (by rw [upd_ne (Ne.symm hgl)]; exact upd_same)), ?_⟩
    walk_at "rd"
    refine w_isrng (by omega) (by omega) ?_
    refine for_go walk_range (fun i σ H' => Ex H H' ∧ (∃ y, σ = [some v, some (.ref a), y, some (.ref l), some (.ref g)]) ∧ ∃ lf fd, H' l = some (.lst lf) ∧ H' g = some (.lst fd) ∧ lf.length = xs.length - i ∧ (fd ++ lf).Perm xs)
      ⟨(Ex.new hl0).trans (Ex.new hg), ⟨_, rfl⟩, xs, [], by rw [upd_ne (Ne.symm hgl)]; exact upd_same, upd_same, rfl, .refl _⟩ (fun _ _ _ _ _ => trivial) (fun i x σ H' H'' hi p y => ?_) (fun σ H' p => ?_)
    · obtain ⟨e, ⟨y1, rfl⟩, lf, fd, h1, h2, h3, h4⟩ := p
      obtain ⟨rfl, rfl⟩ := y
      walk_at "rd"
      refine ⟨tyL h2, ?_⟩
      walk_at "rd"
      refine ⟨tyL h1, ?_⟩
      walk_at "rd"
      refine ⟨l, _, rfl, .inl (sqL h1), ?_⟩
      walk_at "rd"
      refine ⟨v, _, rfl, hv.ex e, by omega, by omega, fun r r0 r1 => ?_⟩
      obtain ⟨n, rfl⟩ : ∃ n : Nat, r = n := ⟨r.toNat, by omega⟩
      have hn : n < lf.length := by omega
      walk_at "rd"
      refine w_popAt h1 (List.getElem?_eq_getElem hn) (by omega) ?_
      walk_at "rd"
      have hlen : fd.length + lf.length = xs.length := by rw [← List.length_append]; exact h4.length_eq
      refine w_app (by rw [upd_ne hgl]; exact h2) (by omega) ?_
      walk_at "rd"
      refine ⟨(e.mut hl0).mut hg0, ⟨_, rfl⟩, lf.eraseIdx n, fd ++ [lf[n]], by rw [upd_ne (Ne.symm hgl)]; exact upd_same, upd_same, by rw [List.length_eraseIdx_of_lt hn]; omega, perm_take h4 (List.getElem?_eq_getElem hn)⟩
    · obtain ⟨e, ⟨y1, rfl⟩, lf, fd, h1, h2, h3, h4⟩ := p
      walk_at "rd"
      have : lf = [] := List.length_eq_zero_iff.mp (by omega)
      subst this
      rw [List.append_nil] at h4
      exact q g H' fd e hg0 h2 h4
/-! sub_base -/
def iSub (p : Int) (ns ms : List Int) (c : Int) : List Int := List.zipWith (fun x y => (x - c * y) % p) ns ms
/-! _law_less(p, row, other, many) -/
def sp_law_less (K : PySem.W.Frag) : Sp := fun vs H Q _ => ∃ (p c : Int) (v u : V) (ns ms : List Int), vs = [.int p, v, u, .int c] ∧ Dp K H v (row ns) ∧ Dp K H u (row ms) ∧ 0 < p ∧ -1000000 ≤ c ∧ c ≤ 1000000 ∧ ns.length ≤ 1000000 ∧ ∀ u H', Ex H H' → Dp K H' u (row (iSub p ns ms c)) → Q u H'
theorem ok_law_less {f : Addr} {fd : FuncData} (F : C8.Def K mg "_law_less" s_law_less f fd) (b : Binds K fd ["p", "row", "other", "many"] []) (T : Txt mg) : C8.Cal P w K mg base 1 "_law_less" (sp_law_less K) [] := by
  refine C8.cal0 F b .nil sc_law_less (fun vs H Q E h => ?_) (fun cdv A outer s H vs Q E hr h => ?_)
  · obtain ⟨p, c, v, u, ns, ms, rfl, _⟩ := h
    rfl
  · obtain ⟨p, c, v, u, ns, ms, rfl, hd, hd2, p0, c0, c1, hl, q⟩ := h
    obtain ⟨a, rfl, ha⟩ := dp_row hd
    obtain ⟨b, rfl, hb⟩ := dp_row hd2
    refine ⟨_, (pss_one (ps_ret (pe_callTy (TH.kcall_tuple (K := K)) (by rfl) T.b_tuple (by decide +kernel) (pa_cons (pe_lc (own := [("one", 4), ("two", 5)]) (g := gTup K 2 (gCons (gName 4) (gCons (gName 5) gNil))) (tt := tYes) rfl sc_law_less.nd (TH.kpi_zip (K := K) (by rfl) T.b_zip (pa_cons (pv 1) (pa_cons (pv 2) pa_nil))) (blkOk_by (own := [("one", 4), ("two", 5)]) (N := N_law_less) (sc := C8.fnScope s_law_less) (by decide +kernel)) (fun _ _ _ _ _ => (TH.kpg_tup (K := K) (n := 2) rfl (pgs_cons (pg_name (i := 4) sc_law_less.nd rfl (Or.inl rfl) (Or.inr rfl)) (pgs_cons (pg_name (i := 5) sc_law_less.nd rfl (Or.inl rfl) (Or.inr rfl)) pgs_nil)))) (fun _ _ _ _ _ => pts_nil) (fun _ _ _ _ _ => (pe_op op_mod (pe_callTy call_int1 (by rfl) T.b_int (by decide +kernel) (pa_cons (pe_op op_sub (pv 4) (pe_op op_mul (pv 3) (pv 5))) pa_nil)) (pv 0)))) pa_nil)))), ?_⟩
    refine w_start (σ' := [some (.int p), some (.ref a), some (.ref b), some (.int c), none, none]) rfl ?_
    walk_at "rd"
    refine ⟨a, b, _, _, rfl, .inr ⟨ha, hb, fun Dl hD => ?_⟩⟩
    refine lc_data (K := K) (walk_zipT rfl) (fun _ => true) (fun i => .int ((ns.getD i 0 - c * ms.getD i 0) % p)) (fun _ => rfl) (fun H' e => ⟨e.t ha, e.t hb⟩) hD (by simp; omega) (fun i x H' H'' hi e y R R0 k _ => ?_) (fun H' ws e hw hda => ?_)
    · obtain ⟨t, x1, x2, rfl, ht, rfl, h1, h2⟩ := y
      obtain ⟨n, hn, rfl⟩ := ints_at h1
      obtain ⟨m, hm, rfl⟩ := ints_at h2
      walk_at "rd"
      refine ⟨rfl, ?_⟩
      walk_at "rd"
      refine k rfl _ _ (Ex.new ht) ?_
      rw [getD_of hn, getD_of hm]
      exact .int _
    · walk_at "rd"
      refine ⟨Dl, ws, rfl, .inl ⟨sqL hw, fun l hl => ?_⟩⟩
      refine q _ _ (e.trans (Ex.new hl)) ?_
      rw [made_all, List.length_map, List.length_map, range_zip 0 0 (fun x y => PyData.int ((x - c * y) % p))] at hda
      refine .tup (sqT upd_same) ((Ex.new hl).dpa ?_)
      unfold iSub
      rw [List.map_zipWith]
      exact hda
/-! _law_clock(hand) -/
def clocks : List Int := [2, 3, 5, 7, 2, 11, 101, 999983]
def sp_clock (K : PySem.W.Frag) : Sp := fun vs H Q _ => ∃ (v : V), vs = [v] ∧ HandAt H v ∧ ∀ (p : Int) (H' : Hp), Ex H H' → p ∈ clocks → Q (.int p) H'
theorem ok_law_clock {f : Addr} {fd : FuncData} (F : C8.Def K mg "_law_clock" s_law_clock f fd) (b : Binds K fd ["hand"] []) (T : Txt mg)
    (c_law_any : C8.Cal P w K mg base 2 "_law_any" (sp_any K) []) : C8.Cal P w K mg base 3 "_law_clock" (sp_clock K) [] := by
  refine C8.cal0 F b .nil sc_law_clock (fun vs H Q E h => ?_) (fun cdv A outer s H vs Q E hr h => ?_)
  · obtain ⟨v, rfl, _⟩ := h
    rfl
  · obtain ⟨v, rfl, hv, q⟩ := h
    refine ⟨_, (pss_one (ps_ret (C8.pe_c c_law_any hr (by first | decide | exact Nat.le_refl _) (by rfl) (pa_cons (pv 0) (pa_cons (pe_lst (pa_cons pe_int (pa_cons pe_int (pa_cons pe_int (pa_cons pe_int (pa_cons pe_int (pa_cons pe_int (pa_cons pe_int (pa_cons pe_int pa_nil))))))))) pa_nil))))), ?_⟩
    refine w_start (σ' := [some v]) rfl ?_
    walk_at "rd"
    refine w_dispT (by decide) fun l hl => ?_
    refine ⟨v, l, clocks.map V.int, rfl, hv.ex (Ex.new hl), sqL upd_same, by simp [clocks], by decide, fun x hx => ?_⟩
    obtain ⟨p, hp, rfl⟩ := List.mem_map.mp hx
    exact q p _ (Ex.new hl) hp
/-! _law_summed(p, wide, rows, many) -/
theorem w_rep0 {l : Addr} {k : Nat} {H : Hp} {Q : VK} (h : H l = some (.tup [.int 0])) (hk : k ≤ 1000) (q : ∀ a H', Ex H H' → Dp K H' (.ref a) (row (List.replicate k 0)) → Q (.ref a) H') : rRepA K (.ref l) (.int (k : Nat)) H Q := by
  refine ⟨l, k, _, rfl, rfl, sqT h, by simp, by omega, by omega, by simp, fun e => ?_, fun e p hp => ?_⟩
  · have e1 : k = 1 := by omega
    subst e1
    exact q l H (Ex.refl _) (dp_row_of (ns := [0]) (sqT h))
  · refine q p _ (Ex.new hp) (dp_row_of (sqT ?_))
    rw [upd_same]
    congr 3
    rw [Int.toNat_natCast]
    clear e hk q
    induction k with
    | zero => rfl
    | succ k ih => rw [List.replicate_succ, List.flatten_cons, ih, List.replicate_succ]; rfl
def sumI (p : Int) (acc : List Int) : List (List Int) → List Int → List Int
  | r :: rs, m :: ms => sumI p (if m = 0 then acc else iSub p acc r (-m)) rs ms
  | _, _ => acc
theorem sumI_snoc (p : Int) : ∀ (rs : List (List Int)) (ms : List Int) (acc r : List Int) (m : Int) (i : Nat), rs[i]? = some r → ms[i]? = some m → sumI p acc (rs.take (i + 1)) (ms.take (i + 1)) = if m = 0 then sumI p acc (rs.take i) (ms.take i) else iSub p (sumI p acc (rs.take i) (ms.take i)) r (-m)
  | [], _, _, _, _, _, h, _ => by simp at h
  | _ :: _, [], _, _, _, _, _, h => by simp at h
  | r0 :: rs, m0 :: ms, acc, r, m, 0, h1, h2 => by
    cases h1; cases h2
    simp [sumI]
  | r0 :: rs, m0 :: ms, acc, r, m, i + 1, h1, h2 => by
    have := sumI_snoc p rs ms (if m0 = 0 then acc else iSub p acc r0 (-m0)) r m i (by simpa using h1) (by simpa using h2)
    simpa [sumI] using this
theorem iSub_len {p c : Int} {ns ms : List Int} (h : ms.length = ns.length) : (iSub p ns ms c).length = ns.length := by
  unfold iSub
  rw [List.length_zipWith, h, Nat.min_self]
theorem iSub_in {p c : Int} {wide : Nat} {ns ms : List Int} (hp : 0 < p) (h1 : ns.length = wide) (h2 : ms.length = wide) : Rin p wide (iSub p ns ms c) := by
  refine ⟨by rw [iSub_len (by omega)]; exact h1, fun x hx => ?_⟩
  unfold iSub at hx
  obtain ⟨i, hi, e⟩ := List.mem_iff_getElem.mp hx
  rw [List.getElem_zipWith] at e
  subst e
  exact ⟨Int.emod_nonneg _ (by omega), Int.emod_lt_of_pos _ hp⟩
theorem sumI_len {p : Int} {wide : Nat} : ∀ {rs : List (List Int)} {ms acc : List Int}, acc.length = wide → (∀ r ∈ rs, r.length = wide) → (sumI p acc rs ms).length = wide
  | [], _, _, h, _ => by simpa [sumI] using h
  | _ :: _, [], _, h, _ => by simpa [sumI] using h
  | r :: rs, m :: ms, acc, h, hr => by
    unfold sumI
    refine sumI_len ?_ fun r' h' => hr r' (List.mem_cons_of_mem _ h')
    split
    · exact h
    · rw [iSub_len (by rw [hr r (List.mem_cons_self ..), h])]
      exact h
def sp_summed (K : PySem.W.Frag) : Sp := fun vs H Q _ => ∃ (p : Int) (wide : Nat) (a b : Addr) (xs : List V) (rs : List (List Int)) (ms : List Int), vs = [.int p, .int (wide : Nat), .ref a, .ref b] ∧ SqL K H a xs ∧ DpAll K H xs (rs.map row) ∧ SqL K H b (ms.map V.int) ∧
  0 < p ∧ wide ≤ 1000 ∧ rs.length ≤ 1000000 ∧ (∀ r ∈ rs, r.length = wide) ∧ (∀ m ∈ ms, 0 ≤ m ∧ m ≤ 1000000) ∧ ∀ u H', Ex H H' → Dp K H' u (row (sumI p (List.replicate wide 0) rs ms)) → Q u H'
theorem ok_law_summed {f : Addr} {fd : FuncData} (F : C8.Def K mg "_law_summed" s_law_summed f fd) (b : Binds K fd ["p", "wide", "rows", "many"] []) (T : Txt mg)
    (c_law_less : C8.Cal P w K mg base 1 "_law_less" (sp_law_less K) []) : C8.Cal P w K mg base 2 "_law_summed" (sp_summed K) [] := by
  refine C8.cal0 F b .nil sc_law_summed (fun vs H Q E h => ?_) (fun cdv A outer s H vs Q E hr h => ?_)
  · obtain ⟨p, wide, a, b, xs, rs, ms, rfl, _⟩ := h
    rfl
  · obtain ⟨p, wide, a, b, xs, rs, ms, rfl, ha, hda, hb, p0, hw, hrl, hrw, hms, q⟩ := h
    refine ⟨_, (pss_cons (ps_set (i := 4) sc_law_summed.nd rfl (Or.inl rfl) (pe_op (TH.kop_repA (K := K)) (pe_tup (pa_cons pe_int pa_nil)) (pv 1)))
      (pss_cons (ps_for PassesOwn.never rfl (TH.kpi_zip (K := K) (by rfl) T.b_zip (pa_cons (pv 2) (pa_cons (pv 3) pa_nil))) (TH.kpg_tup (K := K) (n := 2) rfl (pgs_cons (pg_name (i := 5) sc_law_summed.nd rfl (Or.inl rfl) (Or.inr rfl)) (pgs_cons (pg_name (i := 6) sc_law_summed.nd rfl (Or.inl rfl) (Or.inr rfl)) pgs_nil))) (pss_one (ps_set (i := 4) sc_law_summed.nd rfl (Or.inl rfl) (pe_ifExp (pt_cmpR op_ne (pv 6) pe_int (nomark _)) (C8.pe_c c_law_less hr (by first | decide | exact Nat.le_refl _) (by rfl) (pa_cons (pv 0) (pa_cons (pv 4) (pa_cons (pv 5) (pa_cons (pe_un un_neg (pv 6)) pa_nil))))) (pv 4)))))
      (pss_one (ps_ret (pv 4))))), ?_⟩
    refine w_start (σ' := [some (.int p), some (.int wide), some (.ref a), some (.ref b), none, none, none]) rfl ?_
    walk_at "rd"
    refine w_dispT (by decide) fun t ht => ?_
    walk_at "rd"
    refine w_rep0 upd_same hw fun z H1 e1 hz => ?_
    have e1 : Ex H H1 := (Ex.new ht).trans e1
    walk_at "rd"
    have hxl : xs.length = rs.length := by rw [dpa_len hda, List.length_map]
    refine ⟨a, b, _, _, rfl, .inl ⟨e1.l ha, e1.l hb, ?_⟩⟩
    refine for_go (walk_zip rfl) (fun i σ H' => Ex H H' ∧ ∃ u y1 y2, σ = [some (.int p), some (.int wide), some (.ref a), some (.ref b), some u, y1, y2] ∧ Dp K H' u (row (sumI p (List.replicate wide 0) (rs.take i) (ms.take i))))
      ⟨e1, _, _, _, rfl, by cases rs <;> cases ms <;> exact hz⟩ (fun i σ H' _ p => ⟨p.1.l ha, p.1.l hb⟩) (fun i x σ H' H'' hi p y => ?_) (fun σ H' p => ?_)
    · obtain ⟨e, u, y1, y2, rfl, hu⟩ := p
      obtain ⟨t2, x1, x2, rfl, ht2, rfl, h1, h2⟩ := y
      obtain ⟨m, hm, rfl⟩ := ints_at h2
      obtain ⟨r, hr1, hr2⟩ := rowsAt_get hda h1
      have hlen : (sumI p (List.replicate wide 0) (rs.take i) (ms.take i)).length = wide := sumI_len (by simp) fun r hr => hrw r (List.mem_of_mem_take hr)
      have e3 := e.trans (Ex.new (o := .tup [x1, .int m]) ht2)
      have hmm := hms m (List.mem_of_getElem? hm)
      have hsn := sumI_snoc p rs ms (List.replicate wide 0) r m i hr1 hm
      walk_at "rd"
      refine w_decN (fun hz => ?_) (fun hz => ?_)
      · walk_at "rd"
        refine ⟨_, _, _, _, _, _, rfl, (Ex.new ht2).dp hu, e3.dp hr2, p0, by omega, by omega, by omega, fun u' H3 e4 hu' => ?_⟩
        walk_at "rd"
        refine ⟨e3.trans e4, _, _, _, rfl, ?_⟩
        rw [hsn, if_neg hz]
        exact hu'
      · walk_at "rd"
        refine ⟨e3, _, _, _, rfl, ?_⟩
        rw [hsn, if_pos hz]
        exact (Ex.new ht2).dp hu
    · obtain ⟨e, u, y1, y2, rfl, hu⟩ := p
      walk_at "rd"
      refine q u H' e ?_
      have e9 : ∀ (rs : List (List Int)) (ms acc : List Int), sumI p acc (rs.take (min rs.length ms.length)) (ms.take (min rs.length ms.length)) = sumI p acc rs ms := by
        intro rs
        induction rs with
        | nil => intro ms acc; simp [sumI]
        | cons r rs ih =>
          intro ms acc
          cases ms with
          | nil => simp [sumI]
          | cons m ms =>
            have := ih ms (if m = 0 then acc else iSub p acc r (-m))
            simpa [sumI, Nat.add_min_add_right] using this
      rw [hxl, List.length_map, e9] at hu
      exact hu
/-! _law_some_row(hand, p, wide, rows): a row that is right -/
theorem sumI_in {p : Int} {wide : Nat} (hp : 0 < p) : ∀ {rs : List (List Int)} {ms acc : List Int}, Rin p wide acc → (∀ r ∈ rs, Rin p wide r) → Rin p wide (sumI p acc rs ms)
  | [], _, _, h, _ => by simpa [sumI] using h
  | _ :: _, [], _, h, _ => by simpa [sumI] using h
  | r :: rs, m :: ms, acc, h, hr => by
    unfold sumI
    refine sumI_in hp ?_ fun r' h' => hr r' (List.mem_cons_of_mem _ h')
    split
    · exact h
    · exact iSub_in hp h.1 (hr r (List.mem_cons_self ..)).1
theorem zero_in {p : Int} {wide : Nat} (hp : 0 < p) : Rin p wide (List.replicate wide 0) := ⟨by simp, fun x hx => by rw [(List.mem_replicate.mp hx).2]; omega⟩
theorem rin_of {p : Int} {wide : Nat} {ds : List D} (hl : ds.length = wide) (h : ∀ (i : Nat) (d : D), ds[i]? = some d → ∃ x, d = PyData.int x ∧ 0 ≤ x ∧ x < p) : ∃ ns, ds = ns.map PyData.int ∧ Rin p wide ns := by
  obtain ⟨ns, rfl, hns⟩ := ints_of (P := fun _ x => 0 ≤ x ∧ x < p) ds h
  refine ⟨ns, rfl, by simpa using hl, fun x hx => ?_⟩
  obtain ⟨i, hi⟩ := List.mem_iff_getElem?.mp hx
  exact hns i x hi
def sp_some_row (K : PySem.W.Frag) : Sp := fun vs H Q _ => ∃ (v : V) (p : Int) (wide : Nat) (a : Addr) (xs : List V) (rs : List (List Int)), vs = [v, .int p, .int (wide : Nat), .ref a] ∧ HandAt H v ∧ SqL K H a xs ∧ DpAll K H xs (rs.map row) ∧
  2 ≤ p ∧ p ≤ 1000000 ∧ wide ≤ 1000 ∧ rs.length ≤ 1000000 ∧ (∀ r ∈ rs, Rin p wide r) ∧ ∀ u H' r, Ex H H' → Dp K H' u (row r) → Rin p wide r → Q u H'
theorem ok_law_some_row {f : Addr} {fd : FuncData} (F : C8.Def K mg "_law_some_row" s_law_some_row f fd) (b : Binds K fd ["hand", "p", "wide", "rows"] []) (T : Txt mg)
    (c_law_draw : C8.Cal P w K mg base 1 "_law_draw" (sp_draw K) []) (c_law_any : C8.Cal P w K mg base 2 "_law_any" (sp_any K) []) (c_law_summed : C8.Cal P w K mg base 2 "_law_summed" (sp_summed K) []) : C8.Cal P w K mg base 3 "_law_some_row" (sp_some_row K) [] := by
  refine C8.cal0 F b .nil sc_law_some_row (fun vs H Q E h => ?_) (fun cdv A outer s H vs Q E hr h => ?_)
  · obtain ⟨v, p, wide, a, xs, rs, rfl, _⟩ := h
    rfl
  · obtain ⟨v, p, wide, a, xs, rs, rfl, hv, ha, hda, p2, pm, hw, hrl, hrs, q⟩ := h
    have hxl : xs.length = rs.length := by rw [dpa_len hda, List.length_map]
    have fin : ∀ (Dl : Addr) (H' : Hp) (ws : List V) (ds : List D), Ex H H' → H' Dl = some (.lst ws) → ds.length = wide → (∀ (i : Nat) (d : D), ds[i]? = some d → ∃ x, d = PyData.int x ∧ 0 ≤ x ∧ x < p) → DpAll K H' ws ds → ∃ p ys, [V.ref Dl] = [V.ref p] ∧ ((SqL K H' p ys ∧ ∀ l, H' l = none → Q (.ref l) (upd H' l (.tup ys))) ∨ (SqT K H' p ys ∧ Q (.ref p) H')) := by
      intro Dl H' ws ds e hw hl hφ hda
      obtain ⟨ns, rfl, hns⟩ := rin_of hl hφ
      refine ⟨Dl, ws, rfl, .inl ⟨sqL hw, fun l hl => ?_⟩⟩
      exact q _ _ ns (e.trans (Ex.new hl)) (.tup (sqT upd_same) ((Ex.new hl).dpa hda)) hns
    refine ⟨_, (pss_cons (ps_set (i := 4) sc_law_some_row.nd rfl (Or.inl rfl) (C8.pe_c c_law_draw hr (by first | decide | exact Nat.le_refl _) (by rfl) (pa_cons (pv 0) (pa_cons pe_int pa_nil))))
      (pss_cons (ps_if (pt_cmpR op_eq (pv 4) pe_int (nomark _)) (pss_one (ps_ret (pe_op (TH.kop_repA (K := K)) (pe_tup (pa_cons pe_int pa_nil)) (pv 2)))) pss_nil)
      (C8.pss_cut (ps_if (PW.pt (pw_and (pt_cmpR op_lt (pv 4) pe_int (nomark _)) (pw_and1 (pt_cmpR op_gt (pv 2) pe_int (nomark _))))) (pss_cons (ps_set (i := 5) sc_law_some_row.nd rfl (Or.inr rfl) (C8.pe_c c_law_draw hr (by first | decide | exact Nat.le_refl _) (by rfl) (pa_cons (pv 0) (pa_cons (pv 2) pa_nil))))
      (pss_one (ps_ret (pe_callTy (TH.kcall_tuple (K := K)) (by rfl) T.b_tuple (by decide +kernel) (pa_cons (pe_lc (own := [("place", 8)]) (g := gName 8) (tt := tYes) rfl sc_law_some_row.nd (pi_range1 (by rfl) T.b_range (pa_cons (pv 2) pa_nil)) (blkOk_by (own := [("place", 8)]) (N := N_law_some_row) (sc := C8.fnScope s_law_some_row) (by decide +kernel)) (fun _ _ _ _ _ => (pg_name (i := 8) sc_law_some_row.nd rfl (Or.inl rfl) (Or.inr rfl))) (fun _ _ _ _ _ => pts_nil) (fun _ _ _ _ _ => (pe_ifExp (pt_cmpR op_eq (pv 8) (pv 5) (nomark _)) (pe_op op_add pe_int (C8.pe_c c_law_draw hr (by first | decide | exact Nat.le_refl _) (by rfl) (pa_cons (pv 0) (pa_cons (pe_op op_sub (pv 1) pe_int) pa_nil)))) pe_int))) pa_nil))))) pss_nil)
      (C8.pss_cut (ps_if (PW.pt (pw_and (pt_cmpR op_lt (pv 4) pe_int (nomark _)) (pw_and1 (pt_cmpR op_gt (pe_callB (TH.kcall_len (K := K)) (by rfl) T.b_len (by decide +kernel) (pa_cons (pv 3) pa_nil)) pe_int (nomark _))))) (pss_cons (ps_setLc (i := 6) (own := [("row", 7)]) (g := gName 7) (tt := tYes) rfl sc_law_some_row.nd rfl rfl (sw_true rfl rfl rfl (by decide +kernel)) (TH.kpi_list (K := K) (pv 3)) (blkOk_by (own := [("row", 7)]) (N := N_law_some_row) (sc := C8.fnScope s_law_some_row) (by decide +kernel)) (fun _ _ _ _ _ => (pg_name (i := 7) sc_law_some_row.nd rfl (Or.inl rfl) (Or.inr rfl))) (fun _ _ _ _ _ => pts_nil) (fun _ _ _ _ _ => (C8.pe_c c_law_any hr (by first | decide | exact Nat.le_refl _) (by rfl) (pa_cons (pv 0) (pa_cons (pe_lst (pa_cons pe_int (pa_cons pe_int (pa_cons (pe_op op_sub (pv 1) pe_int) (pa_cons (C8.pe_c c_law_draw hr (by first | decide | exact Nat.le_refl _) (by rfl) (pa_cons (pv 0) (pa_cons (pv 1) pa_nil))) pa_nil))))) pa_nil)))))
      (pss_one (ps_ret (C8.pe_c c_law_summed hr (by first | decide | exact Nat.le_refl _) (by rfl) (pa_cons (pv 1) (pa_cons (pv 2) (pa_cons (pv 3) (pa_cons (pv 6) pa_nil)))))))) pss_nil)
      (C8.pss_cut (ps_if (pt_cmpR op_eq (pv 4) pe_int (nomark _)) (pss_one (ps_ret (pe_callTy (TH.kcall_tuple (K := K)) (by rfl) T.b_tuple (by decide +kernel) (pa_cons (pe_lc (own := [("place", 8)]) (g := gName 8) (tt := tYes) rfl sc_law_some_row.nd (pi_range1 (by rfl) T.b_range (pa_cons (pv 2) pa_nil)) (blkOk_by (own := [("place", 8)]) (N := N_law_some_row) (sc := C8.fnScope s_law_some_row) (by decide +kernel)) (fun _ _ _ _ _ => (pg_name (i := 8) sc_law_some_row.nd rfl (Or.inl rfl) (Or.inr rfl))) (fun _ _ _ _ _ => pts_nil) (fun _ _ _ _ _ => (pe_ifExp (pt_cmpR op_eq (C8.pe_c c_law_draw hr (by first | decide | exact Nat.le_refl _) (by rfl) (pa_cons (pv 0) (pa_cons pe_int pa_nil))) pe_int (nomark _)) (C8.pe_c c_law_draw hr (by first | decide | exact Nat.le_refl _) (by rfl) (pa_cons (pv 0) (pa_cons (pv 1) pa_nil))) pe_int))) pa_nil)))) pss_nil)
      (pss_one (ps_ret (pe_callTy (TH.kcall_tuple (K := K)) (by rfl) T.b_tuple (by decide +kernel) (pa_cons (pe_lc (own := [("place", 8)]) (g := gName 8) (tt := tYes) rfl sc_law_some_row.nd (pi_range1 (by rfl) T.b_range (pa_cons (pv 2) pa_nil)) (blkOk_by (own := [("place", 8)]) (N := N_law_some_row) (sc := C8.fnScope s_law_some_row) (by decide +kernel)) (fun _ _ _ _ _ => (pg_name (i := 8) sc_law_some_row.nd rfl (Or.inl rfl) (Or.inr rfl))) (fun _ _ _ _ _ => pts_nil) (fun _ _ _ _ _ => (C8.pe_c c_law_draw hr (by first | decide | exact Nat.le_refl _) (by rfl) (pa_cons (pv 0) (pa_cons (pv 1) pa_nil))))) pa_nil))))))))), ?_⟩
    refine w_start (σ' := [some v, some (.int p), some (.int wide), some (.ref a), none, none, none, none, none]) rfl ?_
    walk_at "rd"
    refine ⟨v, _, rfl, hv, by omega, by omega, fun kind k0 k1 => ?_⟩
    walk_at "rd"
    refine w_dec (fun _ => ?_) (fun _ => ?_)
    · walk_at "rd"
      refine w_dispT (by decide) fun t ht => ?_
      walk_at "rd"
      exact w_rep0 upd_same hw fun z H1 e1 hz => q _ _ _ ((Ex.new ht).trans e1) hz (zero_in (by omega))

    walk_at "rd"
    refine ⟨fun σ' H' => H' = H ∧ ∃ y1 y2 y3 y4, σ' = [some v, some (.int p), some (.int wide), some (.ref a), some (.int kind), y1, y2, y3, y4], ?_, ?_⟩
    · walk_at "rd"
      refine w_dec (fun _ => ?_) (fun _ => ?_)
      · walk_at "rd"
        refine w_dec (fun hw0 => ?_) (fun _ => ?_)
        · walk_at "rd"
          refine ⟨v, _, rfl, hv, by omega, by omega, fun at' a0 a1 => ?_⟩
          walk_at "rd"
          refine w_isrng (by omega) (by omega) fun Dl hD => ?_
          refine lc_some (K := K) walk_range (fun _ d => ∃ x, d = PyData.int x ∧ 0 ≤ x ∧ x < p) (fun i d hd => by obtain ⟨x, rfl, _⟩ := hd; rfl) (fun _ _ => trivial) hD (by omega) (fun i x H' H'' hi e y R k => ?_) (fun H' ws ds e hw hl hφ hda => ?_)
          · obtain ⟨rfl, rfl⟩ := y
            walk_at "rd"
            refine ⟨rfl, ?_⟩
            walk_at "rd"
            refine w_dec (fun _ => ?_) (fun _ => ?_)
            · walk_at "rd"
              refine ⟨v, _, rfl, hv.ex e, by omega, by omega, fun r r0 r1 => ?_⟩
              walk_at "rd"
              exact k _ _ _ (Ex.refl _) ⟨_, rfl, by omega, by omega⟩ (.int _)
            · walk_at "rd"
              exact k _ _ _ (Ex.refl _) ⟨_, rfl, by omega, by omega⟩ (.int _)
          · walk_at "rd"
            exact fin Dl H' ws ds e hw (by omega) hφ hda
        · walk_at "rd"
          exact ⟨rfl, _, _, _, _, rfl⟩
      · walk_at "rd"
        exact ⟨rfl, _, _, _, _, rfl⟩
    rintro σ' H' ⟨rfl, y1, y2, y3, y4, rfl⟩
    refine ⟨fun σ' H'' => H'' = H' ∧ ∃ y1 y2 y3 y4, σ' = [some v, some (.int p), some (.int wide), some (.ref a), some (.int kind), y1, y2, y3, y4], ?_, ?_⟩
    · walk_at "rd"
      refine w_dec (fun _ => ?_) (fun _ => ?_)
      · walk_at "rd"
        refine ⟨a, _, rfl, .inl ha, ?_⟩
        walk_at "rd"
        refine w_dec (fun hw0 => ?_) (fun _ => ?_)
        · walk_at "rd"
          refine ⟨a, rfl, ⟨_, ha⟩, fun Dl hD => ?_⟩
          refine lc_some (K := K) walk_list (fun _ d => ∃ x, d = PyData.int x ∧ 0 ≤ x ∧ x < p) (fun i d hd => by obtain ⟨x, rfl, _⟩ := hd; rfl) (fun H' e => e.l ha) hD (by omega) (fun i x H2 H'' hi e y R k => ?_) (fun H2 ws ds e hws hl hφ hda' => ?_)
          · obtain ⟨rfl, hx⟩ := y
            walk_at "rd"
            refine ⟨rfl, ?_⟩
            walk_at "rd"
            refine ⟨v, _, rfl, hv.ex e, by omega, by omega, fun r r0 r1 => ?_⟩
            walk_at "rd"
            refine w_dispT (by simp) fun l hl => ?_
            refine ⟨v, l, [.int 0, .int 1, .int (p - 1), .int r], rfl, (hv.ex e).ex (Ex.new hl), sqL upd_same, by simp, by simp, fun x hx => ?_⟩
            have hx' : ∃ n : Int, x = .int n ∧ 0 ≤ n ∧ n < p := by
              simp only [List.mem_cons, List.not_mem_nil, or_false] at hx
              rcases hx with rfl | rfl | rfl | rfl
              · exact ⟨_, rfl, by omega, by omega⟩
              · exact ⟨_, rfl, by omega, by omega⟩
              · exact ⟨_, rfl, by omega, by omega⟩
              · exact ⟨_, rfl, by omega, by omega⟩
            obtain ⟨n, rfl, n0, n1⟩ := hx'
            exact k _ _ _ (Ex.new hl) ⟨_, rfl, n0, n1⟩ (.int n)
          · obtain ⟨ms, rfl, hms⟩ := rin_of (p := p) rfl hφ
            have e5 := dpa_ints_inv hda'
            subst e5
            walk_at "rd"
            refine ⟨p, wide, a, Dl, xs, rs, ms, rfl, e.l ha, e.dpa hda, sqL hws, by omega, hw, hrl, fun r hr => (hrs r hr).1, fun m hm => ?_, fun u H3 e3 hu => ?_⟩
            · have := hms.2 m hm
              omega
            · exact q u H3 _ (e.trans e3) hu (sumI_in (by omega) (zero_in (by omega)) hrs)
        · walk_at "rd"
          exact ⟨rfl, _, _, _, _, rfl⟩
      · walk_at "rd"
        exact ⟨rfl, _, _, _, _, rfl⟩
    rintro σ' H'' ⟨rfl, y1, y2, y3, y4, rfl⟩
    refine ⟨fun σ' H' => H' = H'' ∧ ∃ y1 y2 y3 y4, σ' = [some v, some (.int p), some (.int wide), some (.ref a), some (.int kind), y1, y2, y3, y4], ?_, ?_⟩
    · walk_at "rd"
      refine w_dec (fun _ => ?_) (fun _ => ?_)
      · walk_at "rd"
        refine w_isrng (by omega) (by omega) fun Dl hD => ?_
        refine lc_some (K := K) walk_range (fun _ d => ∃ x, d = PyData.int x ∧ 0 ≤ x ∧ x < p) (fun i d hd => by obtain ⟨x, rfl, _⟩ := hd; rfl) (fun _ _ => trivial) hD (by omega) (fun i x H2 H3 hi e y R k => ?_) (fun H2 ws ds e hws hl hφ hda' => ?_)
        · obtain ⟨rfl, rfl⟩ := y
          walk_at "rd"
          refine ⟨rfl, ?_⟩
          walk_at "rd"
          refine ⟨v, _, rfl, hv.ex e, by omega, by omega, fun r r0 r1 => ?_⟩
          walk_at "rd"
          refine w_dec (fun _ => ?_) (fun _ => ?_)
          · walk_at "rd"
            refine ⟨v, _, rfl, hv.ex e, by omega, by omega, fun r2 r3 r4 => ?_⟩
            exact k _ _ _ (Ex.refl _) ⟨_, rfl, by omega, by omega⟩ (.int _)
          · walk_at "rd"
            exact k _ _ _ (Ex.refl _) ⟨_, rfl, by omega, by omega⟩ (.int _)
        · walk_at "rd"
          exact fin Dl H2 ws ds e hws (by omega) hφ hda'
      · walk_at "rd"
        exact ⟨rfl, _, _, _, _, rfl⟩
    rintro σ' H' ⟨rfl, y1, y2, y3, y4, rfl⟩
    walk_at "rd"
    refine w_isrng (by omega) (by omega) fun Dl hD => ?_
    refine lc_some (K := K) walk_range (fun _ d => ∃ x, d = PyData.int x ∧ 0 ≤ x ∧ x < p) (fun i d hd => by obtain ⟨x, rfl, _⟩ := hd; rfl) (fun _ _ => trivial) hD (by omega) (fun i x H2 H3 hi e y R k => ?_) (fun H2 ws ds e hws hl hφ hda' => ?_)
    · obtain ⟨rfl, rfl⟩ := y
      walk_at "rd"
      refine ⟨rfl, ?_⟩
      walk_at "rd"
      refine ⟨v, _, rfl, hv.ex e, by omega, by omega, fun r r0 r1 => ?_⟩
      exact k _ _ _ (Ex.refl _) ⟨_, rfl, by omega, by omega⟩ (.int _)
    · walk_at "rd"
      exact fin Dl H2 ws ds e hws (by omega) hφ hda'
/-! data that is its own like -/
theorem lay_ints : ∀ ns : List Int, PyData.canLayAll0 (ns.map .int) = true
  | [] => rfl
  | n :: ns => by
    show (PyData.canLay0 (.int n) && PyData.canLayAll0 (ns.map .int)) = true
    rw [lay_ints ns]
    rfl
theorem lay_list : ∀ ds : List D, (∀ d ∈ ds, ∃ r : List Int, d = row r) → PyData.canLayAll0 ds = true
  | [], _ => rfl
  | d :: ds, h => by
    obtain ⟨r, rfl⟩ := h d List.mem_cons_self
    show (PyData.canLayAll0 (r.map .int) && PyData.canLayAll0 ds) = true
    rw [lay_ints, lay_list ds fun d hd => h d (List.mem_cons_of_mem _ hd)]
    rfl
theorem depth_list : ∀ ds : List D, (∀ d ∈ ds, ∃ r : List Int, d = row r) → PyData.depthAll ds ≤ 1
  | [], _ => Nat.zero_le _
  | d :: ds, h => by
    obtain ⟨r, rfl⟩ := h d List.mem_cons_self
    have := depth_list ds fun d hd => h d (List.mem_cons_of_mem _ hd)
    show max (PyData.depthAll (r.map .int) + 1) (PyData.depthAll ds) ≤ 1
    rw [PySem.W.depth_ints]
    omega
theorem ne_list {H : Hp} {Q : VK} {x y : V} {ds : List D} (hx : Dp K H x (.list ds)) (hy : Dp K H y (.list ds)) (h : ∀ d ∈ ds, ∃ r : List Int, d = row r) (q : Q (.bl false) H) : rNeD K x y H Q := by
  have hl : PyData.canLay0 (.list ds) = true := lay_list ds h
  have hd : (PyData.list ds).depth ≤ 64 := by
    have := depth_list ds h
    show PyData.depthAll ds + 1 ≤ 64
    omega
  have hs : SeqAt.shaped (.list ds) = true := by
    unfold SeqAt.shaped
    rw [hl, decide_eq_true hd]
    rfl
  refine ⟨_, _, hx, hy, hs, hs, ?_⟩
  rw [SeqAt.eqv_refl _ hl]
  exact q
theorem rows_are (rs : List (List Int)) : ∀ d ∈ rs.map row, ∃ r : List Int, d = row r := fun d hd => by
  obtain ⟨r, _, rfl⟩ := List.mem_map.mp hd
  exact ⟨r, rfl⟩
/-! the clocks that are drawn -/
theorem clock_ok {p : Int} (h : p ∈ clocks) : ∃ n : Nat, p = n ∧ clockB (.int n) = true ∧ n ≤ 1000000 := by
  simp only [clocks, List.mem_cons, List.not_mem_nil, or_false] at h
  rcases h with rfl | rfl | rfl | rfl | rfl | rfl | rfl | rfl
  · exact ⟨2, rfl, by decide +kernel, by decide⟩
  · exact ⟨3, rfl, by decide +kernel, by decide⟩
  · exact ⟨5, rfl, by decide +kernel, by decide⟩
  · exact ⟨7, rfl, by decide +kernel, by decide⟩
  · exact ⟨2, rfl, by decide +kernel, by decide⟩
  · exact ⟨11, rfl, by decide +kernel, by decide⟩
  · exact ⟨101, rfl, by decide +kernel, by decide⟩
  · exact ⟨999983, rfl, by decide +kernel, by decide⟩
theorem wee_rows {rs : List (List Int)} {wide : Nat} (h1 : rs.length ≤ 1000000) (h2 : ∀ r ∈ rs, r.length ≤ 1000000) : wee 2 (rowsT rs) := by
  refine .inr ⟨rs.map row, .inl rfl, by rw [List.length_map]; exact h1, fun d hd => ?_⟩
  obtain ⟨r, hr, rfl⟩ := List.mem_map.mp hd
  refine .inr ⟨r.map PyData.int, .inl rfl, by rw [List.length_map]; exact h2 r hr, fun x hx => ?_⟩
  obtain ⟨i, _, rfl⟩ := List.mem_map.mp hx
  exact .inr (.inr ⟨i, rfl⟩)
theorem wee_bool (b : Bool) : wee 2 (.bool b) := .inl (.inr (.inl ⟨b, rfl⟩))
theorem wee_int (i : Int) : wee 2 (.int i) := .inl (.inr (.inr ⟨i, rfl⟩))
end TK

namespace TK
open PySem PySem.Spec PyProof.Rows L2 TH
local macro_rules | `(tactic| walk_at "rd1") => `(tactic| first
  | (with_reducible refine TH.w_seq ?_)
  | (with_reducible refine TH.w_asg ?_)
  | (with_reducible refine TH.w_ret ?_)
  | (with_reducible refine TH.w_drop ?_)
  | (with_reducible refine TH.w_ifS ?_)
  | (with_reducible refine TH.w_next ?_)
  | ((with_reducible refine TH.w_var (v := ?vv) ?hv ?_); (case hv => rfl))
  | (with_reducible refine TH.w_c ?_)
  | ((with_reducible refine TH.w_gname (σ' := ?ss) ?hs ?_); (case hs => (dsimp only [List.set]; rfl)))
  | (with_reducible refine TH.w_op ?_)
  | (with_reducible refine TH.w_un ?_)
  | (with_reducible refine TH.w_chain ?_)
  | (with_reducible refine TH.w_I0 ?_)
  | ((with_reducible refine TH.w_I ?hm ?_); (case hm => first | (exact TH.CMul.l (by omega) (by omega)) | (exact TH.CMul.r (by omega) (by omega)) | (exact TH.CDiv.mk (by omega) (by omega)) | (show (0 : Int) < _; omega) | (exact TH.CPow.mk (by omega) (by omega) (by decide))))
  | (with_reducible refine TH.w_U ?_)
  | (with_reducible refine TH.w_eqI ?_)
  | (with_reducible refine TH.w_neI ?_)
  | (with_reducible refine TH.w_eqB ?_)
  | (with_reducible refine TH.w_isN ?_)
  | (with_reducible refine TH.w_nil ?_)
  | (with_reducible refine TH.w_cons ?_)
  | (with_reducible refine TH.w_test ?_)
  | (with_reducible refine TH.w_B ?_)
  | (with_reducible refine TH.w_bl ?_)
  | (with_reducible refine TH.w_and ?_)
  | (with_reducible refine TH.w_or ?_)
  | (with_reducible refine TH.w_not ?_)
  | (with_reducible refine TH.w_andV ?_)
  | (with_reducible refine TH.w_orV ?_)
  | (with_reducible refine TH.w_notV ?_)
  | (with_reducible refine TH.w_if ?_)
  | (with_reducible refine TH.w_parT ?_)
  | (with_reducible refine TH.w_par ?_)
  | (with_reducible refine TH.w_parT3 ?_)
  | (with_reducible refine TH.w_par3 ?_)
  | (with_reducible refine TH.w_cb ?_)
  | (with_reducible refine TH.w_call ?_)
  | ((with_reducible refine TH.w_aug (v := ?vv) ?hv ?_); (case hv => rfl))
  | (with_reducible refine TH.w_ip ?_)
  | (with_reducible refine TH.w_bm ?_)
  | (with_reducible refine TH.w_sl ?_)
  | (with_reducible refine TH.w_np ?_)
  | (with_reducible refine TH.w_pt ?_)
  | (with_reducible refine TH.w_pti ?_)
  | (with_reducible refine TH.w_gsub ?_)
  | (with_reducible refine TH.w_int ?_)
  | (with_reducible refine TH.w_tupT ?_)
  | (with_reducible refine TH.w_lstT ?_)
  | ((with_reducible show L2.rIxL _ _ _ _ _); (first | (refine TH.w_ixL (TH.sqL upd_same) rfl ?_) | (refine TH.w_ixL (TH.sqL (by assumption)) rfl ?_)))
  | ((with_reducible show L2.rSetL _ _ _ _ _); (first | (refine TH.w_set1 upd_same ?_) | (refine TH.w_set2 upd_same ?_) | (refine TH.w_set3 upd_same ?_) | (refine TH.w_set4 upd_same ?_) | (refine TH.w_set1 (by assumption) ?_) | (refine TH.w_set2 (by assumption) ?_) | (refine TH.w_set3 (by assumption) ?_) | (refine TH.w_set4 (by assumption) ?_)))
  | (with_reducible refine TH.w_lc ?_)
  | (with_reducible refine TH.w_dc ?_)
  | (with_reducible refine TH.w_itup ?_)
  | (with_reducible refine TH.w_ilist ?_)
  | (with_reducible refine TH.w_ienum ?_)
  | (with_reducible refine TH.w_izip ?_)
  | (with_reducible refine TH.w_irng1 ?_)
  | (with_reducible refine TH.w_irng2 ?_)
  | (with_reducible refine TH.w_for ?_)
  | (with_reducible refine TH.w_gcons ?_)
  | (with_reducible refine TH.w_gnil ?_)
  | (with_reducible refine TH.w_yes ?_)
  | (with_reducible refine TH.w_gtup2 upd_same ?_)
  | (with_reducible refine TH.w_gtup3 upd_same ?_)
  | (with_reducible refine TH.w_dput ?_)
  | (with_reducible refine TH.w_bm0 ?_)
  | (with_reducible refine TH.w_din ?_)
  | (with_reducible refine TH.w_dnotin ?_)
  | (with_reducible refine TH.w_dispK ?_)
  | (with_reducible refine TH.w_lock ?_)
  | (with_reducible refine TH.w_ikeys ?_)
  | (with_reducible refine TH.w_iitems ?_)
  | (with_reducible refine TH.w_dispT1 ?_)
  | (with_reducible refine TH.w_dnewT ?_)
  | (with_reducible refine TH.w_dnewK ?_)
  | (with_reducible refine TH.w_fld ?_)
  | (with_reducible refine TH.w_sfld ?_)
  | (with_reducible refine TH.w_meth ?_)
  | (with_reducible refine TH.w_make ?_)
  | (with_reducible refine TH.w_dget2 ?_)
  | (with_reducible refine TH.w_revL ?_)
  | (with_reducible refine TH.w_revT ?_)
  | (with_reducible refine TH.w_lstRg ?_)
  | (with_reducible refine TH.w_tupRg ?_)
  | (with_reducible refine TH.w_rg1 ?_)
  | (with_reducible refine TH.w_rg2 ?_)
  | (with_reducible refine TH.w_T ?_)
  | (with_reducible refine TH.w_F ?_))
local macro_rules | `(tactic| walk_at "rd") => `(tactic| repeat (first | walk_at "rd1" | (dsimp only [List.set, L2.wipe, List.map, TH.isInt, TH.isBool, TH.isTup, TH.isLst, TH.bo_f, TH.bo_t, TH.ba_f, TH.ba_t, TH.bn_t, TH.bn_f, List.append_nil, List.cons_append, List.nil_append])))

variable {P : Program} {w : World} {K : PySem.W.Frag} {mg : Str → Option Value} {base : Heap}
/-! is_pair(thing) -/
def isPairD (d : D) : Bool := match d with
  | .tuple ds => decide (ds.length = 2)
  | _ => false
def sp_is_pair (K : PySem.W.Frag) : Sp := fun vs H Q _ => ∃ (v : V) (d : D), vs = [v] ∧ Dp K H v d ∧ Q (.bl (isPairD d)) H
theorem ok_is_pair {f : Addr} {fd : FuncData} (F : C8.Def K mg "is_pair" s_is_pair f fd) (b : Binds K fd ["thing"] []) (T : Txt mg) : C8.Cal P w K mg base 1 "is_pair" (sp_is_pair K) [] := by
  refine C8.cal0 F b .nil sc_is_pair (fun vs H Q E h => ?_) (fun cdv A outer s H vs Q E hr h => ?_)
  · obtain ⟨v, d, rfl, _⟩ := h
    rfl
  · obtain ⟨v, d, rfl, hd, q⟩ := h
    refine ⟨_, (pss_one (ps_ret (pe_and (pe_callB (TH.kcall_isi (K := K)) (by rfl) T.b_isinstance (by decide +kernel) (pa_cons (pv 0) (pa_cons (pe_bltn (v := .ty "tuple") (by rfl) T.b_tuple (by decide +kernel) rfl) pa_nil))) (pe_one (pe_cmpR op_eq (pe_callB (TH.kcall_len (K := K)) (by rfl) T.b_len (by decide +kernel) (pa_cons (pv 0) pa_nil)) pe_int (nomark _)))))), ?_⟩
    refine w_start (σ' := [some v]) rfl ?_
    walk_at "rd"
    refine w_isTup hd ?_
    cases hd <;> walk_at "rd"
    all_goals try exact q
    rename_i a xs ds ha hda
    refine ⟨a, xs, rfl, .inr ha, ?_⟩
    walk_at "rd"
    have hle : xs.length = ds.length := dpa_len hda
    have e : decide ((xs.length : Int) = 2) = isPairD (.tuple ds) := by
      show _ = decide (ds.length = 2)
      rw [hle]
      by_cases h : ds.length = 2
      · rw [decide_eq_true h, decide_eq_true (by omega)]
      · rw [decide_eq_false h, decide_eq_false (by omega)]
    rw [e]
    exact q
/-! ties_base -/
def tieD (a : Nat × Nat) : D := .tuple [.int (a.1 : Nat), .int (a.2 : Nat)]
def tiesT (ts : List (Nat × Nat)) : D := .tuple (ts.map tieD)
def tiesL (ts : List (Nat × Nat)) : D := .list (ts.map tieD)
theorem imm_tie (a : Nat × Nat) : imm (tieD a) = true := rfl
theorem imm_ties (ts : List (Nat × Nat)) : immAll (ts.map tieD) = true := immAll_iff.mpr fun d hd => by
  obtain ⟨a, _, rfl⟩ := List.mem_map.mp hd
  rfl
theorem dp_tie {H : Hp} {v : V} {a : Nat × Nat} (h : Dp K H v (tieD a)) : ∃ t, v = .ref t ∧ SqT K H t [.int (a.1 : Nat), .int (a.2 : Nat)] := by
  obtain ⟨t, vs, rfl, h1, h2⟩ := dp_tup h
  cases h2 with
  | cons d1 d2 => cases d2 with
    | cons d3 d4 =>
      cases d4
      cases d1
      cases d3
      exact ⟨t, rfl, h1⟩
theorem dp_tie_of {H : Hp} {t : Addr} {a : Nat × Nat} (h : SqT K H t [.int (a.1 : Nat), .int (a.2 : Nat)]) : Dp K H (.ref t) (tieD a) := .tup h (.cons (.int _) (.cons (.int _) .nil))
theorem dpa_ties {H : Hp} {vs : List V} {ts : List (Nat × Nat)} {i : Nat} {v : V} (h : DpAll K H vs (ts.map tieD)) (hv : vs[i]? = some v) : ∃ a, ts[i]? = some a ∧ Dp K H v (tieD a) := by
  obtain ⟨d, h1, h2⟩ := dpa_get h hv
  rw [List.getElem?_map] at h1
  cases e : ts[i]? with
  | none => rw [e] at h1; cases h1
  | some r => rw [e] at h1; cases h1; exact ⟨r, rfl, h2⟩
/-! is_tie(posts, thing), what is right -/
def sp_is_tie (K : PySem.W.Frag) : Sp := fun vs H Q _ => ∃ (posts : Nat) (v : V) (a : Nat × Nat), vs = [.int (posts : Nat), v] ∧ Dp K H v (tieD a) ∧ a.1 < a.2 ∧ a.2 < posts ∧ Q (.bl true) H
theorem ok_is_tie {f : Addr} {fd : FuncData} (F : C8.Def K mg "is_tie" s_is_tie f fd) (b : Binds K fd ["posts", "thing"] []) (T : Txt mg)
    (c_is_pair : C8.Cal P w K mg base 1 "is_pair" (sp_is_pair K) []) (c_is_within : C8.Cal P w K mg base 2 "is_within" (sp_is_within K) []) : C8.Cal P w K mg base 3 "is_tie" (sp_is_tie K) [] := by
  refine C8.cal0 F b .nil sc_is_tie (fun vs H Q E h => ?_) (fun cdv A outer s H vs Q E hr h => ?_)
  · obtain ⟨posts, v, a, rfl, _⟩ := h
    rfl
  · obtain ⟨posts, v, a, rfl, hd, h1, h2, q⟩ := h
    obtain ⟨t, rfl, ht⟩ := dp_tie hd
    refine ⟨_, (pss_one (ps_ret (pe_and (C8.pe_c c_is_pair hr (by first | decide | exact Nat.le_refl _) (by rfl) (pa_cons (pv 1) pa_nil)) (pe_and (C8.pe_c c_is_within hr (by first | decide | exact Nat.le_refl _) (by rfl) (pa_cons (pe_ix (TH.kix_tup (K := K)) (pv 1) pe_int (fun _ _ => rfl)) (pa_cons pe_int (pa_cons (pe_op op_sub (pv 0) pe_int) pa_nil)))) (pe_one (C8.pe_c c_is_within hr (by first | decide | exact Nat.le_refl _) (by rfl) (pa_cons (pe_ix (TH.kix_tup (K := K)) (pv 1) pe_int (fun _ _ => rfl)) (pa_cons pe_int (pa_cons (pe_op op_sub (pe_ix (TH.kix_tup (K := K)) (pv 1) pe_int (fun _ _ => rfl)) pe_int) pa_nil))))))))), ?_⟩
    refine w_start (σ' := [some (.int posts), some (.ref t)]) rfl ?_
    walk_at "rd"
    refine ⟨_, _, rfl, hd, ?_⟩
    have e : isPairD (tieD a) = true := rfl
    rw [e]
    walk_at "rd"
    refine w_ixT ht (atI_at (j := 1) rfl) ?_
    walk_at "rd"
    refine ⟨_, _, _, _, rfl, .int _, ?_⟩
    rw [inR_int, decide_eq_true (by omega), decide_eq_true (by omega)]
    walk_at "rd"
    refine w_ixT ht (atI_at (j := 0) rfl) ?_
    walk_at "rd"
    refine w_ixT ht (atI_at (j := 1) rfl) ?_
    walk_at "rd"
    refine ⟨_, _, _, _, rfl, .int _, ?_⟩
    rw [inR_int, decide_eq_true (by omega), decide_eq_true (by omega)]
    exact q
end TK

namespace TK
open PySem PySem.Spec PyProof.Rows L2 TH
local macro_rules | `(tactic| walk_at "rd1") => `(tactic| first
  | (with_reducible refine TH.w_seq ?_)
  | (with_reducible refine TH.w_asg ?_)
  | (with_reducible refine TH.w_ret ?_)
  | (with_reducible refine TH.w_drop ?_)
  | (with_reducible refine TH.w_ifS ?_)
  | (with_reducible refine TH.w_next ?_)
  | ((with_reducible refine TH.w_var (v := ?vv) ?hv ?_); (case hv => rfl))
  | (with_reducible refine TH.w_c ?_)
  | ((with_reducible refine TH.w_gname (σ' := ?ss) ?hs ?_); (case hs => (dsimp only [List.set]; rfl)))
  | (with_reducible refine TH.w_op ?_)
  | (with_reducible refine TH.w_un ?_)
  | (with_reducible refine TH.w_chain ?_)
  | (with_reducible refine TH.w_I0 ?_)
  | ((with_reducible refine TH.w_I ?hm ?_); (case hm => first | (exact TH.CMul.l (by omega) (by omega)) | (exact TH.CMul.r (by omega) (by omega)) | (exact TH.CDiv.mk (by omega) (by omega)) | (show (0 : Int) < _; omega) | (exact TH.CPow.mk (by omega) (by omega) (by decide))))
  | (with_reducible refine TH.w_U ?_)
  | (with_reducible refine TH.w_eqI ?_)
  | (with_reducible refine TH.w_neI ?_)
  | (with_reducible refine TH.w_eqB ?_)
  | (with_reducible refine TH.w_isN ?_)
  | (with_reducible refine TH.w_nil ?_)
  | (with_reducible refine TH.w_cons ?_)
  | (with_reducible refine TH.w_test ?_)
  | (with_reducible refine TH.w_B ?_)
  | (with_reducible refine TH.w_bl ?_)
  | (with_reducible refine TH.w_and ?_)
  | (with_reducible refine TH.w_or ?_)
  | (with_reducible refine TH.w_not ?_)
  | (with_reducible refine TH.w_andV ?_)
  | (with_reducible refine TH.w_orV ?_)
  | (with_reducible refine TH.w_notV ?_)
  | (with_reducible refine TH.w_if ?_)
  | (with_reducible refine TH.w_parT ?_)
  | (with_reducible refine TH.w_par ?_)
  | (with_reducible refine TH.w_parT3 ?_)
  | (with_reducible refine TH.w_par3 ?_)
  | (with_reducible refine TH.w_cb ?_)
  | (with_reducible refine TH.w_call ?_)
  | ((with_reducible refine TH.w_aug (v := ?vv) ?hv ?_); (case hv => rfl))
  | (with_reducible refine TH.w_ip ?_)
  | (with_reducible refine TH.w_bm ?_)
  | (with_reducible refine TH.w_sl ?_)
  | (with_reducible refine TH.w_np ?_)
  | (with_reducible refine TH.w_pt ?_)
  | (with_reducible refine TH.w_pti ?_)
  | (with_reducible refine TH.w_gsub ?_)
  | (with_reducible refine TH.w_int ?_)
  | (with_reducible refine TH.w_tupT ?_)
  | (with_reducible refine TH.w_lstT ?_)
  | ((with_reducible show L2.rIxL _ _ _ _ _); (first | (refine TH.w_ixL (TH.sqL upd_same) rfl ?_) | (refine TH.w_ixL (TH.sqL (by assumption)) rfl ?_)))
  | ((with_reducible show L2.rSetL _ _ _ _ _); (first | (refine TH.w_set1 upd_same ?_) | (refine TH.w_set2 upd_same ?_) | (refine TH.w_set3 upd_same ?_) | (refine TH.w_set4 upd_same ?_) | (refine TH.w_set1 (by assumption) ?_) | (refine TH.w_set2 (by assumption) ?_) | (refine TH.w_set3 (by assumption) ?_) | (refine TH.w_set4 (by assumption) ?_)))
  | (with_reducible refine TH.w_lc ?_)
  | (with_reducible refine TH.w_dc ?_)
  | (with_reducible refine TH.w_itup ?_)
  | (with_reducible refine TH.w_ilist ?_)
  | (with_reducible refine TH.w_ienum ?_)
  | (with_reducible refine TH.w_izip ?_)
  | (with_reducible refine TH.w_irng1 ?_)
  | (with_reducible refine TH.w_irng2 ?_)
  | (with_reducible refine TH.w_for ?_)
  | (with_reducible refine TH.w_gcons ?_)
  | (with_reducible refine TH.w_gnil ?_)
  | (with_reducible refine TH.w_yes ?_)
  | (with_reducible refine TH.w_gtup2 upd_same ?_)
  | (with_reducible refine TH.w_gtup3 upd_same ?_)
  | (with_reducible refine TH.w_dput ?_)
  | (with_reducible refine TH.w_bm0 ?_)
  | (with_reducible refine TH.w_din ?_)
  | (with_reducible refine TH.w_dnotin ?_)
  | (with_reducible refine TH.w_dispK ?_)
  | (with_reducible refine TH.w_lock ?_)
  | (with_reducible refine TH.w_ikeys ?_)
  | (with_reducible refine TH.w_iitems ?_)
  | (with_reducible refine TH.w_dispT1 ?_)
  | (with_reducible refine TH.w_dnewT ?_)
  | (with_reducible refine TH.w_dnewK ?_)
  | (with_reducible refine TH.w_fld ?_)
  | (with_reducible refine TH.w_sfld ?_)
  | (with_reducible refine TH.w_meth ?_)
  | (with_reducible refine TH.w_make ?_)
  | (with_reducible refine TH.w_dget2 ?_)
  | (with_reducible refine TH.w_revL ?_)
  | (with_reducible refine TH.w_revT ?_)
  | (with_reducible refine TH.w_lstRg ?_)
  | (with_reducible refine TH.w_tupRg ?_)
  | (with_reducible refine TH.w_rg1 ?_)
  | (with_reducible refine TH.w_rg2 ?_)
  | (with_reducible refine TH.w_T ?_)
  | (with_reducible refine TH.w_F ?_))
local macro_rules | `(tactic| walk_at "rd") => `(tactic| repeat (first | walk_at "rd1" | (dsimp only [List.set, L2.wipe, List.map, TH.isInt, TH.isBool, TH.isTup, TH.isLst, TH.bo_f, TH.bo_t, TH.ba_f, TH.ba_t, TH.bn_t, TH.bn_f, List.append_nil, List.cons_append, List.nil_append])))

variable {P : Program} {w : World} {K : PySem.W.Frag} {mg : Str → Option Value} {base : Heap}
/-! sort_ints_base -/
def sortZ (ns : List Int) : List Int := ns.mergeSort fun a b => decide (a ≤ b)
theorem sortZ_perm (ns : List Int) : (sortZ ns).Perm ns := List.mergeSort_perm ns _
theorem sortZ_pw (ns : List Int) : (sortZ ns).Pairwise fun a b => a ≤ b :=
  (List.pairwise_mergeSort (le := fun a b : Int => decide (a ≤ b)) (fun a b c h1 h2 => decide_eq_true (Int.le_trans (of_decide_eq_true h1) (of_decide_eq_true h2))) (fun a b => by
    rw [Bool.or_eq_true]
    exact (Int.le_total a b).imp decide_eq_true decide_eq_true) ns).imp of_decide_eq_true
theorem sortZ_of_perm {as bs : List Int} (p : as.Perm bs) : sortZ as = sortZ bs :=
  List.Perm.eq_of_pairwise (le := fun a b : Int => a ≤ b) (fun a b _ _ h1 h2 => Int.le_antisymm h1 h2) (sortZ_pw as) (sortZ_pw bs) ((sortZ_perm as).trans (p.trans (sortZ_perm bs).symm))
theorem sort_ints (ns : List Int) : (ns.map PyData.int).mergeSort (PySem.W.dataLe false id) = (sortZ ns).map PyData.int := by
  refine (PySem.W.sort_maps PyData.int fun a _ b _ => ?_).symm
  exact (congrFun (congrFun (PySem.W.dataLe_int (fun x : Int => x)) a) b).symm
theorem w_sortI {H : Hp} {Q : VK} {a : Addr} {ns : List Int} (h : SqL K H a (ns.map V.int)) (q : ∀ p, H p = none → Q (.ref p) (upd H p (.lst ((sortZ ns).map V.int)))) : rSortedD K [.ref a] H Q := by
  refine ⟨a, _, ns.map PyData.int, rfl, h, dpa_ints ns, PySem.W.AllAlike.of (enc := PyData.int) fun a b => by simp [PySem.W.alike], .inr fun d hd => ?_, fun d hd => ?_, fun ws p hp hw => ?_⟩
  · obtain ⟨x, _, rfl⟩ := List.mem_map.mp hd
    exact ⟨(fun e => nomatch e), (fun xs e => nomatch e)⟩
  · obtain ⟨x, _, rfl⟩ := List.mem_map.mp hd
    simp [PyData.depth]
  · rw [sort_ints] at hw
    rw [dpa_ints_inv hw]
    exact q p hp
/-! all_tied(posts, ties) -/
def adjZ (ts : List (Nat × Nat)) (v : Nat) : List Int := ts.flatMap fun a => (if a.1 = v then [(a.2 : Int)] else []) ++ (if a.2 = v then [(a.1 : Int)] else [])
def nearZ (ts : List (Nat × Nat)) (v : Nat) : List Int := sortZ (adjZ ts v)
theorem adjZ_snoc {ts : List (Nat × Nat)} {i v : Nat} {a : Nat × Nat} (h : ts[i]? = some a) : adjZ (ts.take (i + 1)) v = adjZ (ts.take i) v ++ ((if a.1 = v then [(a.2 : Int)] else []) ++ (if a.2 = v then [(a.1 : Int)] else [])) := by
  unfold adjZ
  rw [List.take_add_one, h, List.flatMap_append]
  simp
theorem nodup_at {α : Type} {xs : List α} {i j : Nat} {x : α} (h : xs.Nodup) (hi : xs[i]? = some x) (hj : xs[j]? = some x) : i = j := by
  obtain ⟨i1, i2⟩ := List.getElem?_eq_some_iff.mp hi
  obtain ⟨j1, j2⟩ := List.getElem?_eq_some_iff.mp hj
  rcases Nat.lt_trichotomy i j with z | z | z
  · exact absurd (i2.trans j2.symm) (List.pairwise_iff_getElem.mp h i j i1 j1 z)
  · exact z
  · exact absurd (j2.trans i2.symm) (List.pairwise_iff_getElem.mp h j i j1 i1 z)
/-- lists of numbers, one for each place, all new -/
structure LsAt (H0 H : Hp) (fl : Addr) (as : List Addr) (f : Nat → List Int) : Prop where
  ex : Ex H0 H
  nd : as.Nodup
  new : ∀ a ∈ as, H0 a = none ∧ a ≠ fl
  fl0 : H0 fl = none
  top : H fl = some (.lst (as.map V.ref))
  at' : ∀ (j : Nat) (a : Addr), as[j]? = some a → H a = some (.lst ((f j).map V.int))
theorem LsAt.mono {H0 H H' : Hp} {fl : Addr} {as : List Addr} {f : Nat → List Int} (h : LsAt H0 H fl as f) (e : Ex H H') : LsAt H0 H' fl as f := ⟨h.ex.trans e, h.nd, h.new, h.fl0, e _ _ h.top, fun j a ha => e _ _ (h.at' j a ha)⟩
theorem LsAt.put {H0 H : Hp} {fl : Addr} {as : List Addr} {f g : Nat → List Int} {j : Nat} {a : Addr} (h : LsAt H0 H fl as f) (ha : as[j]? = some a) (hj : ∀ i, i ≠ j → g i = f i) : LsAt H0 (upd H a (.lst ((g j).map V.int))) fl as g := by
  have ham := List.mem_of_getElem? ha
  obtain ⟨n1, n2⟩ := h.new a ham
  refine ⟨h.ex.mut n1, h.nd, h.new, h.fl0, by rw [upd_ne (Ne.symm n2)]; exact h.top, fun i b hb => ?_⟩
  by_cases e : b = a
  · subst e
    obtain ⟨i1, i2⟩ := List.getElem?_eq_some_iff.mp hb
    obtain ⟨j1, j2⟩ := List.getElem?_eq_some_iff.mp ha
    have : i = j := nodup_at h.nd hb ha
    subst this
    exact upd_same
  · rw [upd_ne e]
    have : i ≠ j := fun z => e (by rw [z, ha] at hb; exact (Option.some.inj hb).symm)
    rw [hj i this]
    exact h.at' i b hb
def sp_all_tied (K : PySem.W.Frag) : Sp := fun vs H Q _ => ∃ (posts : Nat) (v : V) (ts : List (Nat × Nat)), vs = [.int (posts : Nat), v] ∧ Dp K H v (tiesT ts) ∧ posts ≤ 1000 ∧ ts.length ≤ 1000 ∧ (∀ a ∈ ts, a.1 < a.2 ∧ a.2 < posts) ∧
  ∀ (l : Addr) (H' : Hp), Ex H H' → Dp K H' (.ref l) (.list ((List.range posts).map fun v => row (nearZ ts v))) → Q (.ref l) H'
theorem ok_all_tied {f : Addr} {fd : FuncData} (F : C8.Def K mg "all_tied" s_all_tied f fd) (b : Binds K fd ["posts", "ties"] []) (T : Txt mg) : C8.Cal P w K mg base 1 "all_tied" (sp_all_tied K) [] := by
  refine C8.cal0 F b .nil sc_all_tied (fun vs H Q E h => ?_) (fun cdv A outer s H vs Q E hr h => ?_)
  · obtain ⟨posts, v, ts, rfl, _⟩ := h
    rfl
  · obtain ⟨posts, v, ts, rfl, hd, hp, htl, hts, q⟩ := h
    obtain ⟨ta, tv, rfl, hta, htv⟩ := dp_tup hd
    have htvl : tv.length = ts.length := by rw [dpa_len htv, List.length_map]
    have hu64 := hu64_of hr
    refine ⟨_, (pss_cons (ps_setLc (i := 2) (own := [("post", 5)]) (g := gName 5) (tt := tYes) rfl sc_all_tied.nd rfl rfl (sw_true rfl rfl rfl (by decide +kernel)) (pi_range1 (by rfl) T.b_range (pa_cons (pv 0) pa_nil)) (blkOk_by (own := [("post", 5)]) (N := N_all_tied) (sc := C8.fnScope s_all_tied) (by decide +kernel)) (fun _ _ _ _ _ => (pg_name (i := 5) sc_all_tied.nd rfl (Or.inl rfl) (Or.inr rfl))) (fun _ _ _ _ _ => pts_nil) (fun _ _ _ _ _ => (pe_lst pa_nil)))
      (pss_cons (ps_for PassesOwn.never rfl (TH.kpi_tup (K := K) (pv 1)) (TH.kpg_tup (K := K) (n := 2) rfl (pgs_cons (pg_name (i := 3) sc_all_tied.nd rfl (Or.inl rfl) (Or.inr rfl)) (pgs_cons (pg_name (i := 4) sc_all_tied.nd rfl (Or.inl rfl) (Or.inr rfl)) pgs_nil))) (pss_cons (ps_expr (TH.kpe_bm (K := K) PySem.F.plainAttrs_list PySem.F.slot_list_append PySem.F.type_list_append mt_append (pe_ix (TH.kix_list (K := K)) (pv 2) (pv 3) (fun _ _ => rfl)) (pa_cons (pv 4) pa_nil)))
      (pss_one (ps_expr (TH.kpe_bm (K := K) PySem.F.plainAttrs_list PySem.F.slot_list_append PySem.F.type_list_append mt_append (pe_ix (TH.kix_list (K := K)) (pv 2) (pv 4) (fun _ _ => rfl)) (pa_cons (pv 3) pa_nil))))))
      (pss_one (ps_ret (pe_lc (own := [("some", 6)]) (g := gName 6) (tt := tYes) rfl sc_all_tied.nd (TH.kpi_list (K := K) (pv 2)) (blkOk_by (own := [("some", 6)]) (N := N_all_tied) (sc := C8.fnScope s_all_tied) (by decide +kernel)) (fun _ _ _ _ _ => (pg_name (i := 6) sc_all_tied.nd rfl (Or.inl rfl) (Or.inr rfl))) (fun _ _ _ _ _ => pts_nil) (fun _ _ _ _ _ => (pe_callTy (TH.kcall_tuple (K := K)) (by rfl) T.b_tuple (by decide +kernel) (pa_cons (pe_callB (TH.call_sortedD (K := K) hu64) (by rfl) T.b_sorted (by decide +kernel) (pa_cons (pv 6) pa_nil)) pa_nil)))))))), ?_⟩
    refine w_start (σ' := [some (.int posts), some (.ref ta), none, none, none, none, none]) rfl ?_
    walk_at "rd"
    refine w_isrng (by omega) (by omega) fun Dl hD => ?_
    refine lc_it' walk_rng (fun i H' => ∃ as, LsAt H H' Dl as (fun _ => []) ∧ as.length = i) ⟨[], ⟨Ex.new hD, .nil, fun a ha => (nomatch ha), hD, upd_same, fun j a h => by simp at h⟩, rfl⟩ (fun _ _ _ _ => trivial) (fun i x H' H'' hi p y => ?_) (fun H' p => ?_)
    · obtain ⟨as, hl, hal⟩ := p
      obtain ⟨rfl, rfl⟩ := y
      walk_at "rd"
      refine ⟨rfl, ?_⟩
      walk_at "rd"
      refine w_dispT (by simp) fun p hpn => ?_
      have hl2 := hl.mono (Ex.new (o := .lst []) hpn)
      have hpf : p ≠ Dl := fun z => by rw [z, hl.top] at hpn; cases hpn
      refine ⟨_, hl2.top, Nat.lt_of_lt_of_le (show (as.map V.ref).length < 1000000 by rw [List.length_map]; omega) (small2 (Nat.le_refl _)), as ++ [p], ⟨hl2.ex.mut hl.fl0, List.nodup_append.mpr ⟨hl.nd, by simp, fun a ha b hb e => ?_⟩, fun a ha => ?_, hl.fl0, by rw [upd_same, List.map_append]; rfl, fun j a ha => ?_⟩, by rw [List.length_append, hal]; rfl⟩
      · rw [List.mem_singleton] at hb
        subst hb
        subst e
        obtain ⟨j, hj⟩ := List.mem_iff_getElem?.mp ha
        rw [hl.at' j a hj] at hpn
        cases hpn
      · rcases List.mem_append.mp ha with m | m
        · exact hl.new a m
        · rw [List.mem_singleton.mp m]
          exact ⟨hl.ex.fresh hpn, hpf⟩
      · rcases Nat.lt_or_ge j as.length with z | z
        · rw [List.getElem?_append_left z] at ha
          rw [upd_ne (hl.new a (List.mem_of_getElem? ha)).2]
          exact hl2.at' j a ha
        · rw [List.getElem?_append_right z] at ha
          have z2 : j - as.length = 0 := by
            refine Decidable.byContradiction fun z3 => ?_
            rw [List.getElem?_eq_none (by simp; omega)] at ha
            cases ha
          rw [z2] at ha
          cases ha
          rw [upd_ne hpf, upd_same]
          rfl
    · obtain ⟨as, hl, hal⟩ := p
      have hal' : as.length = posts := by omega
      walk_at "rd"
      refine ⟨ta, rfl, ⟨_, hl.ex.t hta⟩, ?_⟩
      refine for_go walk_tup (fun i σ H2 => LsAt H H2 Dl as (adjZ (ts.take i)) ∧ ∃ y3 y4, σ = [some (.int posts), some (.ref ta), some (.ref Dl), y3, y4, none, none]) ⟨hl, _, _, rfl⟩ (fun i σ H2 _ p => p.1.ex.t hta) (fun i x σ H2 H3 hi p y => ?_) (fun σ H2 p => ?_)
      · obtain ⟨hl, y3, y4, rfl⟩ := p
        obtain ⟨rfl, hx⟩ := y
        obtain ⟨a, ha1, ha2⟩ := dpa_ties htv hx
        obtain ⟨t, rfl, ht⟩ := dp_tie ha2
        obtain ⟨h1, h2⟩ := hts a (List.mem_of_getElem? ha1)
        have hs := fun v => adjZ_snoc (v := v) ha1
        have g1 : ∃ b1, as[a.1]? = some b1 := ⟨_, List.getElem?_eq_getElem (by omega)⟩
        have g2 : ∃ b2, as[a.2]? = some b2 := ⟨_, List.getElem?_eq_getElem (by omega)⟩
        obtain ⟨b1, g1⟩ := g1
        obtain ⟨b2, g2⟩ := g2
        refine w_gtup (hl.ex.t ht) rfl ?_
        walk_at "rd"
        have ix : ∀ {H : Hp} {j : Nat} {b : Addr} {Q : VK}, H Dl = some (.lst (as.map V.ref)) → as[j]? = some b → Q (.ref b) H → rIxL K (.ref Dl) (.int (j : Nat)) H Q := fun h1 h2 q => w_ixL (sqL h1) (atI_at (by rw [List.getElem?_map, h2]; rfl)) q
        have small : ∀ j, (adjZ (ts.take i) j).length ≤ 2000 := fun j => by
          have : ∀ xs : List (Nat × Nat), (adjZ xs j).length ≤ 2 * xs.length := fun xs => by
            induction xs with
            | nil => simp [adjZ]
            | cons x xs ih =>
              have e : (adjZ (x :: xs) j).length = ((if x.1 = j then [(x.2 : Int)] else []) ++ (if x.2 = j then [(x.1 : Int)] else [])).length + (adjZ xs j).length := by
                unfold adjZ
                rw [List.flatMap_cons, List.length_append]
              rw [e, List.length_cons, List.length_append]
              have h1 : (if x.1 = j then [(x.2 : Int)] else []).length ≤ 1 := by split <;> simp
              have h2 : (if x.2 = j then [(x.1 : Int)] else []).length ≤ 1 := by split <;> simp
              omega
          have := this (ts.take i)
          rw [List.length_take] at this
          omega
        generalize hf0 : adjZ (ts.take i) = f0 at hl hs small
        refine ix hl.top g1 ⟨tyL (hl.at' _ _ g1), ?_⟩
        walk_at "rd"
        refine w_app (hl.at' _ _ g1) (by rw [List.length_map]; have := small a.1; omega) ?_
        walk_at "rd"
        have hl1 := hl.put (g := fun v => if v = a.1 then f0 v ++ [(a.2 : Int)] else f0 v) g1 (fun i hi => if_neg hi)
        simp only [if_true, List.map_append, List.map_cons, List.map_nil] at hl1
        generalize upd H3 b1 (.lst ((f0 a.1).map V.int ++ [V.int (a.2 : Int)])) = H4 at hl1 ⊢
        refine ix hl1.top g2 ⟨tyL (hl1.at' _ _ g2), ?_⟩
        walk_at "rd"
        have e2 : (if a.2 = a.1 then f0 a.2 ++ [(a.2 : Int)] else f0 a.2) = f0 a.2 := if_neg (by omega)
        refine w_app (hl1.at' _ _ g2) (by simp only [e2]; rw [List.length_map]; have := small a.2; omega) ?_
        walk_at "rd"
        have hl2 := hl1.put (g := adjZ (ts.take (i + 1))) g2 (fun v hv => by
          rw [hs v]
          by_cases e : v = a.1
          · rw [if_pos e.symm, if_pos e, if_neg (Ne.symm hv)]
            rfl
          · rw [if_neg (Ne.symm e), if_neg e, if_neg (Ne.symm hv)]
            simp)
        refine ⟨?_, _, _, rfl⟩
        have e3 : (adjZ (ts.take (i + 1)) a.2).map V.int = (if a.2 = a.1 then f0 a.2 ++ [(a.2 : Int)] else f0 a.2).map V.int ++ [V.int (a.1 : Int)] := by
          rw [hs a.2, e2, if_neg (by omega), if_pos rfl, List.nil_append, List.map_append]
          rfl
        rw [e3] at hl2
        exact hl2
      · obtain ⟨hl, y3, y4, rfl⟩ := p
        rw [htvl, List.take_length] at hl
        walk_at "rd"
        refine ⟨Dl, rfl, ⟨_, sqL hl.top⟩, fun D2 hD2 => ?_⟩
        refine lc_data (K := K) walk_list (fun _ => true) (fun v => row (nearZ ts v)) (fun _ => imm_row _) (fun H' e => e.l (sqL hl.top)) hD2 (by rw [List.length_map]; omega) (fun j x H5 H6 hj e y R R0 k _ => ?_) (fun H5 ws e hw hda => ?_)
        · obtain ⟨rfl, hx⟩ := y
          obtain ⟨b, hb, rfl⟩ : ∃ b, as[j]? = some b ∧ x = .ref b := by
            rw [List.getElem?_map] at hx
            cases g : as[j]? with
            | none => rw [g] at hx; cases hx
            | some b => rw [g] at hx; exact ⟨b, rfl, (Option.some.inj hx).symm⟩
          walk_at "rd"
          refine ⟨rfl, ?_⟩
          walk_at "rd"
          refine w_sortI (sqL (e _ _ (hl.at' j b hb))) fun p hp => ?_
          walk_at "rd"
          refine ⟨p, _, rfl, .inl ⟨sqL upd_same, fun l hl3 => ?_⟩⟩
          exact k rfl _ _ ((Ex.new hp).trans (Ex.new hl3)) (dp_row_of (sqT upd_same))
        · rw [made_all, List.length_map, hal'] at hda
          exact q D2 H5 (hl.ex.trans e) (.lst (sqL hw) hda)
end TK

namespace TK
open PySem PySem.Spec PyProof.Rows L2 TH
local macro_rules | `(tactic| walk_at "rd1") => `(tactic| first
  | (with_reducible refine TH.w_seq ?_)
  | (with_reducible refine TH.w_asg ?_)
  | (with_reducible refine TH.w_ret ?_)
  | (with_reducible refine TH.w_drop ?_)
  | (with_reducible refine TH.w_ifS ?_)
  | (with_reducible refine TH.w_next ?_)
  | ((with_reducible refine TH.w_var (v := ?vv) ?hv ?_); (case hv => rfl))
  | (with_reducible refine TH.w_c ?_)
  | ((with_reducible refine TH.w_gname (σ' := ?ss) ?hs ?_); (case hs => (dsimp only [List.set]; rfl)))
  | (with_reducible refine TH.w_op ?_)
  | (with_reducible refine TH.w_un ?_)
  | (with_reducible refine TH.w_chain ?_)
  | (with_reducible refine TH.w_I0 ?_)
  | ((with_reducible refine TH.w_I ?hm ?_); (case hm => first | (exact TH.CMul.l (by omega) (by omega)) | (exact TH.CMul.r (by omega) (by omega)) | (exact TH.CDiv.mk (by omega) (by omega)) | (show (0 : Int) < _; omega) | (exact TH.CPow.mk (by omega) (by omega) (by decide))))
  | (with_reducible refine TH.w_U ?_)
  | (with_reducible refine TH.w_eqI ?_)
  | (with_reducible refine TH.w_neI ?_)
  | (with_reducible refine TH.w_eqB ?_)
  | (with_reducible refine TH.w_isN ?_)
  | (with_reducible refine TH.w_nil ?_)
  | (with_reducible refine TH.w_cons ?_)
  | (with_reducible refine TH.w_test ?_)
  | (with_reducible refine TH.w_B ?_)
  | (with_reducible refine TH.w_bl ?_)
  | (with_reducible refine TH.w_and ?_)
  | (with_reducible refine TH.w_or ?_)
  | (with_reducible refine TH.w_not ?_)
  | (with_reducible refine TH.w_andV ?_)
  | (with_reducible refine TH.w_orV ?_)
  | (with_reducible refine TH.w_notV ?_)
  | (with_reducible refine TH.w_if ?_)
  | (with_reducible refine TH.w_parT ?_)
  | (with_reducible refine TH.w_par ?_)
  | (with_reducible refine TH.w_parT3 ?_)
  | (with_reducible refine TH.w_par3 ?_)
  | (with_reducible refine TH.w_cb ?_)
  | (with_reducible refine TH.w_call ?_)
  | ((with_reducible refine TH.w_aug (v := ?vv) ?hv ?_); (case hv => rfl))
  | (with_reducible refine TH.w_ip ?_)
  | (with_reducible refine TH.w_bm ?_)
  | (with_reducible refine TH.w_sl ?_)
  | (with_reducible refine TH.w_np ?_)
  | (with_reducible refine TH.w_pt ?_)
  | (with_reducible refine TH.w_pti ?_)
  | (with_reducible refine TH.w_gsub ?_)
  | (with_reducible refine TH.w_int ?_)
  | (with_reducible refine TH.w_tupT ?_)
  | (with_reducible refine TH.w_lstT ?_)
  | ((with_reducible show L2.rIxL _ _ _ _ _); (first | (refine TH.w_ixL (TH.sqL upd_same) rfl ?_) | (refine TH.w_ixL (TH.sqL (by assumption)) rfl ?_)))
  | ((with_reducible show L2.rSetL _ _ _ _ _); (first | (refine TH.w_set1 upd_same ?_) | (refine TH.w_set2 upd_same ?_) | (refine TH.w_set3 upd_same ?_) | (refine TH.w_set4 upd_same ?_) | (refine TH.w_set1 (by assumption) ?_) | (refine TH.w_set2 (by assumption) ?_) | (refine TH.w_set3 (by assumption) ?_) | (refine TH.w_set4 (by assumption) ?_)))
  | (with_reducible refine TH.w_lc ?_)
  | (with_reducible refine TH.w_dc ?_)
  | (with_reducible refine TH.w_itup ?_)
  | (with_reducible refine TH.w_ilist ?_)
  | (with_reducible refine TH.w_ienum ?_)
  | (with_reducible refine TH.w_izip ?_)
  | (with_reducible refine TH.w_irng1 ?_)
  | (with_reducible refine TH.w_irng2 ?_)
  | (with_reducible refine TH.w_for ?_)
  | (with_reducible refine TH.w_gcons ?_)
  | (with_reducible refine TH.w_gnil ?_)
  | (with_reducible refine TH.w_yes ?_)
  | (with_reducible refine TH.w_gtup2 upd_same ?_)
  | (with_reducible refine TH.w_gtup3 upd_same ?_)
  | (with_reducible refine TH.w_dput ?_)
  | (with_reducible refine TH.w_bm0 ?_)
  | (with_reducible refine TH.w_din ?_)
  | (with_reducible refine TH.w_dnotin ?_)
  | (with_reducible refine TH.w_dispK ?_)
  | (with_reducible refine TH.w_lock ?_)
  | (with_reducible refine TH.w_ikeys ?_)
  | (with_reducible refine TH.w_iitems ?_)
  | (with_reducible refine TH.w_dispT1 ?_)
  | (with_reducible refine TH.w_dnewT ?_)
  | (with_reducible refine TH.w_dnewK ?_)
  | (with_reducible refine TH.w_fld ?_)
  | (with_reducible refine TH.w_sfld ?_)
  | (with_reducible refine TH.w_meth ?_)
  | (with_reducible refine TH.w_make ?_)
  | (with_reducible refine TH.w_dget2 ?_)
  | (with_reducible refine TH.w_revL ?_)
  | (with_reducible refine TH.w_revT ?_)
  | (with_reducible refine TH.w_lstRg ?_)
  | (with_reducible refine TH.w_tupRg ?_)
  | (with_reducible refine TH.w_rg1 ?_)
  | (with_reducible refine TH.w_rg2 ?_)
  | (with_reducible refine TH.w_T ?_)
  | (with_reducible refine TH.w_F ?_))
local macro_rules | `(tactic| walk_at "rd") => `(tactic| repeat (first | walk_at "rd1" | (dsimp only [List.set, L2.wipe, List.map, TH.isInt, TH.isBool, TH.isTup, TH.isLst, TH.bo_f, TH.bo_t, TH.ba_f, TH.ba_t, TH.bn_t, TH.bn_f, List.append_nil, List.cons_append, List.nil_append])))

variable {P : Program} {w : World} {K : PySem.W.Frag} {mg : Str → Option Value} {base : Heap}
/-! reached(tied, post, barred) -/
inductive Rch (nb : List (List Int)) (bar : Option Int) (s : Int) : Int → Prop where
  | base : Rch nb bar s s
  | step {x y : Int} : Rch nb bar s x → y ∈ nb.getD x.toNat [] → bar ≠ some y → Rch nb bar s y
def barV : Option Int → V
  | none => .non
  | some b => .int b
/-- the search: what is found, what waits -/
structure Srch (nb : List (List Int)) (bar : Option Int) (s : Int) (ks ws : List Int) : Prop where
  nd : ks.Nodup
  sub : ∀ x ∈ ws, x ∈ ks
  rng : ∀ x ∈ ks, 0 ≤ x ∧ x < nb.length
  rch : ∀ x ∈ ks, Rch nb bar s x
  src : s ∈ ks
  cls : ∀ x ∈ ks, x ∉ ws → ∀ y ∈ nb.getD x.toNat [], bar ≠ some y → y ∈ ks
theorem Srch.few {nb : List (List Int)} {bar : Option Int} {s : Int} {ks ws : List Int} (h : Srch nb bar s ks ws) : ks.length ≤ nb.length := by
  have := LA.nodup_le (L := (List.range nb.length).map fun i => ((i : Nat) : Int)) h.nd fun k hk => by
    have := h.rng k hk
    exact List.mem_map.mpr ⟨k.toNat, List.mem_range.mpr (by omega), by omega⟩
  rw [List.length_map, List.length_range] at this
  exact this
theorem Srch.fin {nb : List (List Int)} {bar : Option Int} {s : Int} {ks : List Int} (h : Srch nb bar s ks []) (y : Int) : y ∈ ks ↔ Rch nb bar s y := by
  refine ⟨h.rch y, fun r => ?_⟩
  induction r with
  | base => exact h.src
  | step _ hy hb ih => exact h.cls _ ih (by simp) _ hy hb
theorem few_of {N : Nat} {ks : List Int} (nd : ks.Nodup) (rng : ∀ x ∈ ks, 0 ≤ x ∧ x < N) : ks.length ≤ N := by
  have := LA.nodup_le (L := (List.range N).map fun i => ((i : Nat) : Int)) nd fun k hk => by
    have := rng k hk
    exact List.mem_map.mpr ⟨k.toNat, List.mem_range.mpr (by omega), by omega⟩
  rw [List.length_map, List.length_range] at this
  exact this
theorem w_neBar {H : Hp} {Q : VK} {z : Int} {bar : Option Int} (k : Q (.bl (!decide (bar = some z))) H) : rNe (.int z) (barV bar) H Q := by
  cases bar with
  | none =>
    refine w_ne rfl ?_
    have e : decide (V.int z = barV none) = decide ((none : Option Int) = some z) := by
      rw [decide_eq_false (fun h => nomatch h), decide_eq_false (fun h => nomatch h)]
    rw [e]
    exact k
  | some b =>
    refine w_ne rfl ?_
    have e : decide (V.int z = barV (some b)) = decide (some b = some z) := by
      show decide (V.int z = V.int b) = _
      by_cases h : b = z
      · subst h
        rw [decide_eq_true rfl, decide_eq_true rfl]
      · rw [decide_eq_false (fun h' => h (V.int.inj h').symm), decide_eq_false (fun h' => h (Option.some.inj h'))]
    rw [e]
    exact k
/-- while the neighbours of x (taken off) are looked at, the first j of them -/
structure Srch1 (nb : List (List Int)) (bar : Option Int) (s x : Int) (j : Nat) (ks ws : List Int) : Prop where
  nd : ks.Nodup
  sub : ∀ x ∈ ws, x ∈ ks
  rng : ∀ x ∈ ks, 0 ≤ x ∧ x < nb.length
  rch : ∀ x ∈ ks, Rch nb bar s x
  src : s ∈ ks
  me : x ∈ ks
  cls : ∀ z ∈ ks, z ≠ x → z ∉ ws → ∀ y ∈ nb.getD z.toNat [], bar ≠ some y → y ∈ ks
  done : ∀ y ∈ (nb.getD x.toNat []).take j, bar ≠ some y → y ∈ ks
def sp_reached (K : PySem.W.Frag) : Sp := fun vs H Q _ => ∃ (l : Addr) (xs : List V) (nb : List (List Int)) (s : Nat) (bar : Option Int), vs = [.ref l, .int (s : Nat), barV bar] ∧ SqL K H l xs ∧ DpAll K H xs (nb.map row) ∧ s < nb.length ∧ nb.length ≤ 60 ∧
  (∀ r ∈ nb, r.length ≤ 100000 ∧ ∀ y ∈ r, 0 ≤ y ∧ y < nb.length) ∧ ∀ (u : V) (ys : List Int) (H' : Hp), Ex H H' → Dp K H' u (row ys) → ys.Pairwise (· ≤ ·) → ys.Nodup → (∀ y, y ∈ ys ↔ Rch nb bar s y) → Q u H'
theorem ok_reached {f : Addr} {fd : FuncData} (F : C8.Def K mg "reached" s_reached f fd) (b : Binds K fd ["tied", "post", "barred"] []) (T : Txt mg) : C8.Cal P w K mg base 1 "reached" (sp_reached K) [] := by
  refine C8.cal0 F b .nil sc_reached (fun vs H Q E h => ?_) (fun cdv A outer s H vs Q E hr h => ?_)
  · obtain ⟨l, xs, nb, s, bar, rfl, _⟩ := h
    rfl
  · obtain ⟨l, xs, nb, s, bar, rfl, hl, hda, hs, hn, hnb, q⟩ := h
    have hu := hu_of hr
    have hu64 := hu64_of hr
    refine ⟨_, (pss_cons (ps_set (i := 3) sc_reached.nd rfl (Or.inl rfl) (pe_disp (pps_cons (pv 1) pe_bl pps_nil) rfl rfl (by simp) (by decide)))
      (pss_cons (ps_set (i := 4) sc_reached.nd rfl (Or.inl rfl) (pe_lst (pa_cons (pv 1) pa_nil)))
      (pss_cons (ps_while PassesOwn.never (pt_cmpR op_gt (pe_callB (TH.kcall_len (K := K)) (by rfl) T.b_len (by decide +kernel) (pa_cons (pv 4) pa_nil)) pe_int (nomark _)) (pss_one (ps_for PassesOwn.never rfl (TH.kpi_tup (K := K) (pe_ix (TH.kix_list (K := K)) (pv 0) (TH.kpe_bm0 (K := K) PySem.F.plainAttrs_list PySem.F.slot_list_pop PySem.F.type_list_pop mt_pop (pv 4)) (fun _ _ => rfl))) (pg_name (i := 5) sc_reached.nd rfl (Or.inl rfl) (Or.inr rfl)) (pss_one (ps_if (PW.pt (pw_and (pt_cmp (pc_dnotin hu (pv 5) (pv 3))) (pw_and1 (pt_cmpR op_ne (pv 5) (pv 2) (nomark _))))) (pss_cons (ps_dput hu (pv 3) (pv 5) pe_bl rfl)
      (pss_one (ps_expr (TH.kpe_bm (K := K) PySem.F.plainAttrs_list PySem.F.slot_list_append PySem.F.type_list_append mt_append (pv 4) (pa_cons (pv 5) pa_nil))))) pss_nil)))))
      (pss_one (ps_ret (pe_callTy (TH.kcall_tuple (K := K)) (by rfl) T.b_tuple (by decide +kernel) (pa_cons (pe_callB (call_sortedDI rfl) (by rfl) T.b_sorted (by decide +kernel) (pa_cons (pv 3) pa_nil)) pa_nil))))))), ?_⟩
    refine w_start (σ' := [some (.ref l), some (.int s), some (barV bar), none, none, none]) rfl ?_
    walk_at "rd"
    intro fd hfd
    refine w_var (v := .int s) rfl ?_
    refine ⟨upd_same, [(Sum.inl (s : Int), .bl true)], rfl, by simp, ?_⟩
    have em : mergeK [] [((Sum.inl (s : Int) : Key), V.bl true)] = [(Sum.inl (s : Int), V.bl true)] := rfl
    rw [em, upd_upd]
    walk_at "rd"
    refine w_dispT (by simp) fun wl hwl => ?_
    walk_at "rd"
    have hfw : fd ≠ wl := fun z => by rw [z, upd_same] at hwl; cases hwl
    have hwl0 : H wl = none := by rw [upd_ne (Ne.symm hfw)] at hwl; exact hwl
    have hxl : xs.length = nb.length := by rw [dpa_len hda, List.length_map]
    refine ⟨fun m σ H' => Ex H H' ∧ ∃ (y5 : Option V) (kvs : List (Key × V)) (ks ws : List Int), σ = [some (.ref l), some (.int s), some (barV bar), some (.ref fd), some (.ref wl), y5] ∧ H' fd = some (.dK kvs) ∧ KeyI kvs ks ∧ H' wl = some (.lst (ws.map V.int)) ∧ Srch nb bar s ks ws ∧ m = 2 * (nb.length - ks.length) + ws.length ∧ m ≤ 2 * nb.length,
      ⟨_, (Ex.new hfd).trans (Ex.new hwl), _, [(Sum.inl (s : Int), V.bl true)], [(s : Int)], [(s : Int)], rfl, by rw [upd_ne hfw]; exact upd_same, rfl, upd_same, ⟨by simp, fun x hx => hx, fun x hx => by rw [List.mem_singleton.mp hx]; omega, fun x hx => by rw [List.mem_singleton.mp hx]; exact .base, List.mem_singleton.mpr rfl, fun x hx hn => absurd hx hn⟩, rfl, by simp; omega⟩, fun m σ H' hw => ?_⟩
    obtain ⟨e, y5, kvs, ks, ws, rfl, h1, h2, h3, h4, hm, hm2⟩ := hw
    walk_at "rd"
    refine ⟨wl, _, rfl, .inl (sqL h3), ?_⟩
    walk_at "rd"
    refine w_dec (fun hpos => ?_) (fun hpos => ?_)
    · obtain ⟨wr, x, rfl⟩ : ∃ wr x, ws = wr ++ [x] := by
        have hne : ws ≠ [] := fun z => by rw [z] at hpos; simp at hpos
        exact ⟨ws.dropLast, ws.getLast hne, (List.dropLast_concat_getLast hne).symm⟩
      have hxk := h4.sub x (List.mem_append_right _ (List.mem_singleton.mpr rfl))
      have hxr := h4.rng x hxk
      refine ⟨fun σ' H'' => Ex H H'' ∧ ∃ (y5 : Option V) (kvs : List (Key × V)) (ks ws : List Int), σ' = [some (.ref l), some (.int s), some (barV bar), some (.ref fd), some (.ref wl), y5] ∧ H'' fd = some (.dK kvs) ∧ KeyI kvs ks ∧ H'' wl = some (.lst (ws.map V.int)) ∧ Srch nb bar s ks ws ∧ 2 * (nb.length - ks.length) + ws.length < m, fun σ' H'' hh => ?_, ?_⟩
      · obtain ⟨a1, y5', kvs', ks', ws', a2, a3, a4, a5, a6, a7⟩ := hh
        exact ⟨_, a7, a1, y5', kvs', ks', ws', a2, a3, a4, a5, a6, rfl, by omega⟩
      · walk_at "rd"
        have hrow : nb[x.toNat]? = some (nb.getD x.toNat []) := getD_at (by omega)
        have hrin := hnb _ (List.mem_of_getElem? hrow)
        obtain ⟨rv, hrv1, hrv2⟩ := dpa_getD (i := x.toNat) (d := row (nb.getD x.toNat [])) (e.dpa hda) (by rw [List.getElem?_map, hrow]; rfl)
        generalize hR : nb.getD x.toNat [] = R at hrin hrv2
        obtain ⟨ra, rfl, hra⟩ := dp_row hrv2
        refine ⟨tyL h3, ?_⟩
        rw [List.map_append] at h3
        refine w_pop h3 ?_
        have tx : Tx H' (upd H' wl (.lst (wr.map V.int))) := Tx.updL h3
        have e2 : Ex H (upd H' wl (.lst (wr.map V.int))) := e.mut hwl0
        have h12 : upd H' wl (.lst (wr.map V.int)) fd = some (.dK kvs) := by rw [upd_ne hfw]; exact h1
        have h32 : upd H' wl (.lst (wr.map V.int)) wl = some (.lst (wr.map V.int)) := upd_same
        have hra2 := tx.t hra
        generalize upd H' wl (.lst (wr.map V.int)) = H2 at e2 h12 h32 hra2 ⊢
        have ex : x = ((x.toNat : Nat) : Int) := by omega
        rw [ex]
        refine w_ixL (e2.l hl) (atI_at hrv1) ?_
        refine ⟨ra, rfl, ⟨_, hra2⟩, ?_⟩
        have hst : Srch1 nb bar s x 0 ks wr := ⟨h4.nd, fun z hz => h4.sub z (List.mem_append_left _ hz), h4.rng, h4.rch, h4.src, hxk, fun z hz hne hzw => h4.cls z hz fun hm => (List.mem_append.mp hm).elim hzw fun h => hne (List.mem_singleton.mp h), fun y hy => by simp at hy⟩
        have hkf := h4.few
        rw [List.length_append, List.length_singleton] at hm
        refine for_go walk_tup (fun j σ H3 => Ex H H3 ∧ SqT K H3 ra (R.map V.int) ∧ ∃ (y5 : Option V) (kvs : List (Key × V)) (ks ws : List Int), σ = [some (.ref l), some (.int s), some (barV bar), some (.ref fd), some (.ref wl), y5] ∧ H3 fd = some (.dK kvs) ∧ KeyI kvs ks ∧ H3 wl = some (.lst (ws.map V.int)) ∧ Srch1 nb bar s x j ks ws ∧ ks.length ≤ nb.length ∧ 2 * (nb.length - ks.length) + ws.length < m)
          ⟨e2, hra2, _, kvs, ks, wr, rfl, h12, h2, h32, hst, hkf, by omega⟩ (fun j σ H3 _ p => p.2.1) (fun j v σ H3 H4 hj p y => ?_) (fun σ H3 p => ?_)
        · obtain ⟨e3, hra3, y5, kvs, ks, ws, rfl, g1, g2, g3, g4, g5, g6⟩ := p
          obtain ⟨rfl, hx⟩ := y
          obtain ⟨z, hz, rfl⟩ := ints_at hx
          have hzr := hrin.2 z (List.mem_of_getElem? hz)
          have htk : R.take (j + 1) = R.take j ++ [z] := by rw [List.take_add_one, hz]; rfl
          have skip : (z ∈ ks ∨ bar = some z) → Srch1 nb bar s x (j + 1) ks ws := fun hh => ⟨g4.nd, g4.sub, g4.rng, g4.rch, g4.src, g4.me, g4.cls, fun y hy hb => by
            rw [hR, htk] at hy
            rcases List.mem_append.mp hy with m | m
            · exact g4.done y (by rw [hR]; exact m) hb
            · rw [List.mem_singleton.mp m] at hb ⊢
              exact hh.elim id fun e => absurd e hb⟩
          walk_at "rd"
          refine ⟨fd, _, rfl, DGet.k (k := Sum.inl z) g1, ?_⟩
          rw [keyI_has g2]
          walk_at "rd"
          refine w_decN (fun hnk => ?_) (fun hin => ?_)
          · walk_at "rd"
            refine w_neBar ?_
            walk_at "rd"
            refine w_decN (fun hnb' => ?_) (fun hb' => ?_)
            · walk_at "rd"
              have hkl := keyI_len g2
              refine ⟨fd, _, rfl, DPut.k (k := Sum.inl z) g1 (Nat.lt_of_lt_of_le (show kvs.length < 1000000 by omega) (small2 (Nat.le_refl _))), ?_⟩
              have g3' : upd H4 fd (.dK (putK kvs (Sum.inl z) (.bl true))) wl = some (.lst (ws.map V.int)) := by rw [upd_ne (Ne.symm hfw)]; exact g3
              have hws : ws.length ≤ 1000 := by omega
              walk_at "rd"
              refine ⟨tyL g3', ?_⟩
              walk_at "rd"
              refine w_app g3' (by rw [List.length_map]; omega) ?_
              walk_at "rd"
              have nd' : (ks ++ [z]).Nodup := List.nodup_append.mpr ⟨g4.nd, by simp, fun a ha b hb e => hnk (by rw [List.mem_singleton] at hb; rw [← hb, ← e]; exact ha)⟩
              have rng' : ∀ y ∈ ks ++ [z], 0 ≤ y ∧ y < nb.length := fun y hy => (List.mem_append.mp hy).elim (g4.rng y) fun m => by rw [List.mem_singleton.mp m]; exact hzr
              have few' := few_of nd' rng'
              have fl := few'
              rw [List.length_append, List.length_singleton] at fl
              refine ⟨(e3.mut hfd).mut hwl0, (Tx.updL g3').t ((Tx.updK g1).t hra3), _, _, ks ++ [z], ws ++ [z], rfl, by rw [upd_ne hfw]; exact upd_same, keyI_new g2 hnk, by rw [upd_same, List.map_append]; rfl, ⟨nd', fun y hy => ?_, rng', fun y hy => ?_, List.mem_append_left _ g4.src, List.mem_append_left _ g4.me, fun y hy hne hyw a ha hb => ?_, fun y hy hb => ?_⟩, few', by rw [List.length_append, List.length_append, List.length_singleton]; omega⟩
              · rcases List.mem_append.mp hy with m | m
                · exact List.mem_append_left _ (g4.sub y m)
                · exact List.mem_append_right _ m
              · rcases List.mem_append.mp hy with m | m
                · exact g4.rch y m
                · rw [List.mem_singleton.mp m]
                  refine .step (g4.rch x g4.me) ?_ hnb'
                  rw [hR]
                  exact List.mem_of_getElem? hz
              · have hy' : y ∈ ks := (List.mem_append.mp hy).elim id fun m => absurd (List.mem_append_right ws m) hyw
                exact List.mem_append_left _ (g4.cls y hy' hne (fun m => hyw (List.mem_append_left _ m)) a ha hb)
              · rw [hR, htk] at hy
                rcases List.mem_append.mp hy with m | m
                · exact List.mem_append_left _ (g4.done y (by rw [hR]; exact m) hb)
                · exact List.mem_append_right _ m
            · walk_at "rd"
              exact ⟨e3, hra3, _, kvs, ks, ws, rfl, g1, g2, g3, skip (.inr hb'), g5, g6⟩
          · walk_at "rd"
            exact ⟨e3, hra3, _, kvs, ks, ws, rfl, g1, g2, g3, skip (.inl hin), g5, g6⟩
        · obtain ⟨e3, _, y5, kvs, ks, ws, rfl, g1, g2, g3, g4, g5, g6⟩ := p
          refine ⟨e3, y5, kvs, ks, ws, rfl, g1, g2, g3, ⟨g4.nd, g4.sub, g4.rng, g4.rch, g4.src, fun z hz hzw y hy hb => ?_⟩, g6⟩
          by_cases hzx : z = x
          · subst hzx
            refine g4.done y ?_ hb
            rw [hR] at hy ⊢
            rw [List.length_map, List.take_length]
            exact hy
          · exact g4.cls z hz hzx hzw y hy hb
    · have hws : ws = [] := List.length_eq_zero_iff.mp (by rw [List.length_map] at hpos; omega)
      subst hws
      walk_at "rd"
      refine ⟨fd, kvs, ks, rfl, .inl h1, h2, by have := h4.few; omega, fun ys p hperm hpw hp => ?_⟩
      walk_at "rd"
      refine ⟨p, _, rfl, .inl ⟨sqL upd_same, fun u hu => ?_⟩⟩
      exact q _ ys _ (e.trans ((Ex.new hp).trans (Ex.new hu))) (dp_row_of (sqT upd_same)) hpw (hperm.nodup_iff.mpr h4.nd) fun y => (hperm.mem_iff).trans (h4.fin y)
end TK

namespace TK
open PySem PySem.Spec PyProof.Rows L2 TH
local macro_rules | `(tactic| walk_at "rd1") => `(tactic| first
  | (with_reducible refine TH.w_seq ?_)
  | (with_reducible refine TH.w_asg ?_)
  | (with_reducible refine TH.w_ret ?_)
  | (with_reducible refine TH.w_drop ?_)
  | (with_reducible refine TH.w_ifS ?_)
  | (with_reducible refine TH.w_next ?_)
  | ((with_reducible refine TH.w_var (v := ?vv) ?hv ?_); (case hv => rfl))
  | (with_reducible refine TH.w_c ?_)
  | ((with_reducible refine TH.w_gname (σ' := ?ss) ?hs ?_); (case hs => (dsimp only [List.set]; rfl)))
  | (with_reducible refine TH.w_op ?_)
  | (with_reducible refine TH.w_un ?_)
  | (with_reducible refine TH.w_chain ?_)
  | (with_reducible refine TH.w_I0 ?_)
  | ((with_reducible refine TH.w_I ?hm ?_); (case hm => first | (exact TH.CMul.l (by omega) (by omega)) | (exact TH.CMul.r (by omega) (by omega)) | (exact TH.CDiv.mk (by omega) (by omega)) | (show (0 : Int) < _; omega) | (exact TH.CPow.mk (by omega) (by omega) (by decide))))
  | (with_reducible refine TH.w_U ?_)
  | (with_reducible refine TH.w_eqI ?_)
  | (with_reducible refine TH.w_neI ?_)
  | (with_reducible refine TH.w_eqB ?_)
  | (with_reducible refine TH.w_isN ?_)
  | (with_reducible refine TH.w_nil ?_)
  | (with_reducible refine TH.w_cons ?_)
  | (with_reducible refine TH.w_test ?_)
  | (with_reducible refine TH.w_B ?_)
  | (with_reducible refine TH.w_bl ?_)
  | (with_reducible refine TH.w_and ?_)
  | (with_reducible refine TH.w_or ?_)
  | (with_reducible refine TH.w_not ?_)
  | (with_reducible refine TH.w_andV ?_)
  | (with_reducible refine TH.w_orV ?_)
  | (with_reducible refine TH.w_notV ?_)
  | (with_reducible refine TH.w_if ?_)
  | (with_reducible refine TH.w_parT ?_)
  | (with_reducible refine TH.w_par ?_)
  | (with_reducible refine TH.w_parT3 ?_)
  | (with_reducible refine TH.w_par3 ?_)
  | (with_reducible refine TH.w_cb ?_)
  | (with_reducible refine TH.w_call ?_)
  | ((with_reducible refine TH.w_aug (v := ?vv) ?hv ?_); (case hv => rfl))
  | (with_reducible refine TH.w_ip ?_)
  | (with_reducible refine TH.w_bm ?_)
  | (with_reducible refine TH.w_sl ?_)
  | (with_reducible refine TH.w_np ?_)
  | (with_reducible refine TH.w_pt ?_)
  | (with_reducible refine TH.w_pti ?_)
  | (with_reducible refine TH.w_gsub ?_)
  | (with_reducible refine TH.w_int ?_)
  | (with_reducible refine TH.w_tupT ?_)
  | (with_reducible refine TH.w_lstT ?_)
  | ((with_reducible show L2.rIxL _ _ _ _ _); (first | (refine TH.w_ixL (TH.sqL upd_same) rfl ?_) | (refine TH.w_ixL (TH.sqL (by assumption)) rfl ?_)))
  | ((with_reducible show L2.rSetL _ _ _ _ _); (first | (refine TH.w_set1 upd_same ?_) | (refine TH.w_set2 upd_same ?_) | (refine TH.w_set3 upd_same ?_) | (refine TH.w_set4 upd_same ?_) | (refine TH.w_set1 (by assumption) ?_) | (refine TH.w_set2 (by assumption) ?_) | (refine TH.w_set3 (by assumption) ?_) | (refine TH.w_set4 (by assumption) ?_)))
  | (with_reducible refine TH.w_lc ?_)
  | (with_reducible refine TH.w_dc ?_)
  | (with_reducible refine TH.w_itup ?_)
  | (with_reducible refine TH.w_ilist ?_)
  | (with_reducible refine TH.w_ienum ?_)
  | (with_reducible refine TH.w_izip ?_)
  | (with_reducible refine TH.w_irng1 ?_)
  | (with_reducible refine TH.w_irng2 ?_)
  | (with_reducible refine TH.w_for ?_)
  | (with_reducible refine TH.w_gcons ?_)
  | (with_reducible refine TH.w_gnil ?_)
  | (with_reducible refine TH.w_yes ?_)
  | (with_reducible refine TH.w_gtup2 upd_same ?_)
  | (with_reducible refine TH.w_gtup3 upd_same ?_)
  | (with_reducible refine TH.w_dput ?_)
  | (with_reducible refine TH.w_bm0 ?_)
  | (with_reducible refine TH.w_din ?_)
  | (with_reducible refine TH.w_dnotin ?_)
  | (with_reducible refine TH.w_dispK ?_)
  | (with_reducible refine TH.w_lock ?_)
  | (with_reducible refine TH.w_ikeys ?_)
  | (with_reducible refine TH.w_iitems ?_)
  | (with_reducible refine TH.w_dispT1 ?_)
  | (with_reducible refine TH.w_dnewT ?_)
  | (with_reducible refine TH.w_dnewK ?_)
  | (with_reducible refine TH.w_fld ?_)
  | (with_reducible refine TH.w_sfld ?_)
  | (with_reducible refine TH.w_meth ?_)
  | (with_reducible refine TH.w_make ?_)
  | (with_reducible refine TH.w_dget2 ?_)
  | (with_reducible refine TH.w_revL ?_)
  | (with_reducible refine TH.w_revT ?_)
  | (with_reducible refine TH.w_lstRg ?_)
  | (with_reducible refine TH.w_tupRg ?_)
  | (with_reducible refine TH.w_rg1 ?_)
  | (with_reducible refine TH.w_rg2 ?_)
  | (with_reducible refine TH.w_T ?_)
  | (with_reducible refine TH.w_F ?_))
local macro_rules | `(tactic| walk_at "rd") => `(tactic| repeat (first | walk_at "rd1" | (dsimp only [List.set, L2.wipe, List.map, TH.isInt, TH.isBool, TH.isTup, TH.isLst, TH.bo_f, TH.bo_t, TH.ba_f, TH.ba_t, TH.bn_t, TH.bn_f, List.append_nil, List.cons_append, List.nil_append])))

variable {P : Program} {w : World} {K : PySem.W.Frag} {mg : Str → Option Value} {base : Heap}
/-! tree_base -/
structure TrC (K : PySem.W.Frag) (C : Addr) : Prop where
  cl : Cls K C
  nT : NoAttr K C "ties"
  nP : NoAttr K C "posts"
def tf (t : V) (posts : Nat) : List (Str × V) := putF "posts" (.int (posts : Nat)) (putF "ties" t [])
theorem tf_ties {t : V} {n : Nat} : (tf t n).lookup ("ties" : Str) = some t := by
  unfold tf
  rw [lookup_putF, if_neg (by decide +kernel), lookup_putF, if_pos rfl]
theorem tf_posts {t : V} {n : Nat} : (tf t n).lookup ("posts" : Str) = some (.int (n : Nat)) := by
  unfold tf
  rw [lookup_putF, if_pos rfl]
/-- ties in order, in range -/
structure TiesOk (posts : Nat) (ts : List (Nat × Nat)) : Prop where
  len : ts.length + 1 = posts
  few : posts ≤ 24
  rng : ∀ a ∈ ts, a.1 < a.2 ∧ a.2 < posts
  ord : ts.Pairwise fun a b => a.1 < b.1 ∨ (a.1 = b.1 ∧ a.2 < b.2)
/-- the neighbours -/
def nbZ (posts : Nat) (ts : List (Nat × Nat)) : List (List Int) := (List.range posts).map (nearZ ts)
/-- a tree at v -/
def TreeAt (K : PySem.W.Frag) (C : Addr) (H : Hp) (v : V) (posts : Nat) (ts : List (Nat × Nat)) : Prop := ∃ (a dx : Addr) (t : V), v = .ref a ∧ H a = some (.ins C dx (tf t posts)) ∧ Dp K H t (tiesT ts)
theorem TreeAt.ex {C : Addr} {H H' : Hp} {v : V} {posts : Nat} {ts : List (Nat × Nat)} (h : TreeAt K C H v posts ts) (e : Ex H H') : TreeAt K C H' v posts ts := by
  obtain ⟨a, dx, t, rfl, h1, h2⟩ := h
  exact ⟨a, dx, t, rfl, e _ _ h1, e.dp h2⟩
/-! check_post(tree, thing), what is right -/
def sp_check_post (K : PySem.W.Frag) (C : Addr) : Sp := fun vs H Q _ => ∃ (v : V) (posts : Nat) (ts : List (Nat × Nat)) (x : Nat), vs = [v, .int (x : Nat)] ∧ TreeAt K C H v posts ts ∧ x < posts ∧ Q .non H
theorem ok_check_post {C f : Addr} {fd : FuncData} (F : C8.Def K mg "check_post" s_check_post f fd) (b : Binds K fd ["tree", "thing"] []) (T : Txt mg) (TC : TrC K C)
    (c_is_within : C8.Cal P w K mg base 2 "is_within" (sp_is_within K) []) : C8.Cal P w K mg base 3 "check_post" (sp_check_post K C) [] := by
  refine C8.cal0 F b .nil sc_check_post (fun vs H Q E h => ?_) (fun cdv A outer s H vs Q E hr h => ?_)
  · obtain ⟨v, posts, ts, x, rfl, _⟩ := h
    rfl
  · obtain ⟨v, posts, ts, x, rfl, ⟨a, dx, t, rfl, ha, ht⟩, hx, q⟩ := h
    refine ⟨_, (pss_one (ps_if (pt_not (pt_val (C8.pe_c c_is_within hr (by first | decide | exact Nat.le_refl _) (by rfl) (pa_cons (pv 1) (pa_cons pe_int (pa_cons (pe_op op_sub (TH.kpe_fld (K := K) (pv 0) rfl) pe_int) pa_nil)))))) (pss_one ps_never) pss_nil)), ?_⟩
    refine w_start (σ' := [some (.ref a), some (.int x)]) rfl ?_
    walk_at "rd"
    refine ⟨a, C, dx, _, _, rfl, ha, TC.cl, TC.nP, tf_posts, ?_⟩
    walk_at "rd"
    refine ⟨_, _, _, _, rfl, .int _, ?_⟩
    rw [inR_int, decide_eq_true (by omega), decide_eq_true (by omega)]
    walk_at "rd"
    exact q
/-! tied_to(tree, post), tied(tree, post) -/
def sp_tied (K : PySem.W.Frag) (C : Addr) : Sp := fun vs H Q _ => ∃ (v : V) (posts : Nat) (ts : List (Nat × Nat)) (x : Nat), vs = [v, .int (x : Nat)] ∧ TreeAt K C H v posts ts ∧ TiesOk posts ts ∧ x < posts ∧ ∀ u H', Ex H H' → Dp K H' u (row (nearZ ts x)) → Q u H'
theorem ok_tied_to {C f : Addr} {fd : FuncData} (F : C8.Def K mg "tied_to" s_tied_to f fd) (b : Binds K fd ["tree", "post"] []) (T : Txt mg) (TC : TrC K C)
    (c_all_tied : C8.Cal P w K mg base 1 "all_tied" (sp_all_tied K) []) : C8.Cal P w K mg base 2 "tied_to" (sp_tied K C) [] := by
  refine C8.cal0 F b .nil sc_tied_to (fun vs H Q E h => ?_) (fun cdv A outer s H vs Q E hr h => ?_)
  · obtain ⟨v, posts, ts, x, rfl, _⟩ := h
    rfl
  · obtain ⟨v, posts, ts, x, rfl, ⟨a, dx, t, rfl, ha, ht⟩, ok, hx, q⟩ := h
    have o1 := ok.len
    have o2 := ok.few
    refine ⟨_, (pss_one (ps_ret (pe_ix (TH.kix_list (K := K)) (C8.pe_c c_all_tied hr (by first | decide | exact Nat.le_refl _) (by rfl) (pa_cons (TH.kpe_fld (K := K) (pv 0) rfl) (pa_cons (TH.kpe_fld (K := K) (pv 0) rfl) pa_nil))) (pv 1) (fun _ _ => rfl)))), ?_⟩
    refine w_start (σ' := [some (.ref a), some (.int x)]) rfl ?_
    walk_at "rd"
    refine ⟨a, C, dx, _, _, rfl, ha, TC.cl, TC.nP, tf_posts, ?_⟩
    walk_at "rd"
    refine ⟨a, C, dx, _, _, rfl, ha, TC.cl, TC.nT, tf_ties, ?_⟩
    walk_at "rd"
    refine ⟨posts, t, ts, rfl, ht, by omega, by omega, ok.rng, fun l H1 e1 hl => ?_⟩
    walk_at "rd"
    obtain ⟨l', xs, el, hl1, hl2⟩ := dp_lst hl
    cases el
    obtain ⟨u, hu1, hu2⟩ := dpa_getD (i := x) (d := row (nearZ ts x)) hl2 (by rw [List.getElem?_map, List.getElem?_range hx]; rfl)
    exact w_ixL hl1 (atI_at hu1) (q u H1 e1 hu2)
theorem ok_tied {C f : Addr} {fd : FuncData} (F : C8.Def K mg "tied" s_tied f fd) (b : Binds K fd ["tree", "post"] []) (T : Txt mg) (TC : TrC K C)
    (c_check_post : C8.Cal P w K mg base 3 "check_post" (sp_check_post K C) []) (c_tied_to : C8.Cal P w K mg base 2 "tied_to" (sp_tied K C) []) : C8.Cal P w K mg base 4 "tied" (sp_tied K C) [] := by
  refine C8.cal0 F b .nil sc_tied (fun vs H Q E h => ?_) (fun cdv A outer s H vs Q E hr h => ?_)
  · obtain ⟨v, posts, ts, x, rfl, _⟩ := h
    rfl
  · obtain ⟨v, posts, ts, x, rfl, ht, ok, hx, q⟩ := h
    refine ⟨_, (pss_cons (ps_expr (C8.pe_c c_check_post hr (by first | decide | exact Nat.le_refl _) (by rfl) (pa_cons (pv 0) (pa_cons (pv 1) pa_nil))))
      (pss_one (ps_ret (C8.pe_c c_tied_to hr (by first | decide | exact Nat.le_refl _) (by rfl) (pa_cons (pv 0) (pa_cons (pv 1) pa_nil)))))), ?_⟩
    refine w_start (σ' := [some v, some (.int x)]) rfl ?_
    walk_at "rd"
    refine ⟨v, posts, ts, x, rfl, ht, hx, ?_⟩
    walk_at "rd"
    exact ⟨v, posts, ts, x, rfl, ht, ok, hx, q⟩
end TK

namespace TK
open PySem PySem.Spec PyProof.Rows L2 TH
local macro_rules | `(tactic| walk_at "rd1") => `(tactic| first
  | (with_reducible refine TH.w_seq ?_)
  | (with_reducible refine TH.w_asg ?_)
  | (with_reducible refine TH.w_ret ?_)
  | (with_reducible refine TH.w_drop ?_)
  | (with_reducible refine TH.w_ifS ?_)
  | (with_reducible refine TH.w_next ?_)
  | ((with_reducible refine TH.w_var (v := ?vv) ?hv ?_); (case hv => rfl))
  | (with_reducible refine TH.w_c ?_)
  | ((with_reducible refine TH.w_gname (σ' := ?ss) ?hs ?_); (case hs => (dsimp only [List.set]; rfl)))
  | (with_reducible refine TH.w_op ?_)
  | (with_reducible refine TH.w_un ?_)
  | (with_reducible refine TH.w_chain ?_)
  | (with_reducible refine TH.w_I0 ?_)
  | ((with_reducible refine TH.w_I ?hm ?_); (case hm => first | (exact TH.CMul.l (by omega) (by omega)) | (exact TH.CMul.r (by omega) (by omega)) | (exact TH.CDiv.mk (by omega) (by omega)) | (show (0 : Int) < _; omega) | (exact TH.CPow.mk (by omega) (by omega) (by decide))))
  | (with_reducible refine TH.w_U ?_)
  | (with_reducible refine TH.w_eqI ?_)
  | (with_reducible refine TH.w_neI ?_)
  | (with_reducible refine TH.w_eqB ?_)
  | (with_reducible refine TH.w_isN ?_)
  | (with_reducible refine TH.w_nil ?_)
  | (with_reducible refine TH.w_cons ?_)
  | (with_reducible refine TH.w_test ?_)
  | (with_reducible refine TH.w_B ?_)
  | (with_reducible refine TH.w_bl ?_)
  | (with_reducible refine TH.w_and ?_)
  | (with_reducible refine TH.w_or ?_)
  | (with_reducible refine TH.w_not ?_)
  | (with_reducible refine TH.w_andV ?_)
  | (with_reducible refine TH.w_orV ?_)
  | (with_reducible refine TH.w_notV ?_)
  | (with_reducible refine TH.w_if ?_)
  | (with_reducible refine TH.w_parT ?_)
  | (with_reducible refine TH.w_par ?_)
  | (with_reducible refine TH.w_parT3 ?_)
  | (with_reducible refine TH.w_par3 ?_)
  | (with_reducible refine TH.w_cb ?_)
  | (with_reducible refine TH.w_call ?_)
  | ((with_reducible refine TH.w_aug (v := ?vv) ?hv ?_); (case hv => rfl))
  | (with_reducible refine TH.w_ip ?_)
  | (with_reducible refine TH.w_bm ?_)
  | (with_reducible refine TH.w_sl ?_)
  | (with_reducible refine TH.w_np ?_)
  | (with_reducible refine TH.w_pt ?_)
  | (with_reducible refine TH.w_pti ?_)
  | (with_reducible refine TH.w_gsub ?_)
  | (with_reducible refine TH.w_int ?_)
  | (with_reducible refine TH.w_tupT ?_)
  | (with_reducible refine TH.w_lstT ?_)
  | ((with_reducible show L2.rIxL _ _ _ _ _); (first | (refine TH.w_ixL (TH.sqL upd_same) rfl ?_) | (refine TH.w_ixL (TH.sqL (by assumption)) rfl ?_)))
  | ((with_reducible show L2.rSetL _ _ _ _ _); (first | (refine TH.w_set1 upd_same ?_) | (refine TH.w_set2 upd_same ?_) | (refine TH.w_set3 upd_same ?_) | (refine TH.w_set4 upd_same ?_) | (refine TH.w_set1 (by assumption) ?_) | (refine TH.w_set2 (by assumption) ?_) | (refine TH.w_set3 (by assumption) ?_) | (refine TH.w_set4 (by assumption) ?_)))
  | (with_reducible refine TH.w_lc ?_)
  | (with_reducible refine TH.w_dc ?_)
  | (with_reducible refine TH.w_itup ?_)
  | (with_reducible refine TH.w_ilist ?_)
  | (with_reducible refine TH.w_ienum ?_)
  | (with_reducible refine TH.w_izip ?_)
  | (with_reducible refine TH.w_irng1 ?_)
  | (with_reducible refine TH.w_irng2 ?_)
  | (with_reducible refine TH.w_for ?_)
  | (with_reducible refine TH.w_gcons ?_)
  | (with_reducible refine TH.w_gnil ?_)
  | (with_reducible refine TH.w_yes ?_)
  | (with_reducible refine TH.w_gtup2 upd_same ?_)
  | (with_reducible refine TH.w_gtup3 upd_same ?_)
  | (with_reducible refine TH.w_dput ?_)
  | (with_reducible refine TH.w_bm0 ?_)
  | (with_reducible refine TH.w_din ?_)
  | (with_reducible refine TH.w_dnotin ?_)
  | (with_reducible refine TH.w_dispK ?_)
  | (with_reducible refine TH.w_lock ?_)
  | (with_reducible refine TH.w_ikeys ?_)
  | (with_reducible refine TH.w_iitems ?_)
  | (with_reducible refine TH.w_dispT1 ?_)
  | (with_reducible refine TH.w_dnewT ?_)
  | (with_reducible refine TH.w_dnewK ?_)
  | (with_reducible refine TH.w_fld ?_)
  | (with_reducible refine TH.w_sfld ?_)
  | (with_reducible refine TH.w_meth ?_)
  | (with_reducible refine TH.w_make ?_)
  | (with_reducible refine TH.w_dget2 ?_)
  | (with_reducible refine TH.w_revL ?_)
  | (with_reducible refine TH.w_revT ?_)
  | (with_reducible refine TH.w_lstRg ?_)
  | (with_reducible refine TH.w_tupRg ?_)
  | (with_reducible refine TH.w_rg1 ?_)
  | (with_reducible refine TH.w_rg2 ?_)
  | (with_reducible refine TH.w_T ?_)
  | (with_reducible refine TH.w_F ?_))
local macro_rules | `(tactic| walk_at "rd") => `(tactic| repeat (first | walk_at "rd1" | (dsimp only [List.set, L2.wipe, List.map, TH.isInt, TH.isBool, TH.isTup, TH.isLst, TH.bo_f, TH.bo_t, TH.ba_f, TH.ba_t, TH.bn_t, TH.bn_f, List.append_nil, List.cons_append, List.nil_append])))

variable {P : Program} {w : World} {K : PySem.W.Frag} {mg : Str → Option Value} {base : Heap}
/-! sort_ties_base -/
def leP (p q : Nat × Nat) : Bool := decide ((p.1 : Int) < q.1 ∨ ((p.1 : Int) = q.1 ∧ (p.2 : Int) ≤ q.2))
def sortP (xs : List (Nat × Nat)) : List (Nat × Nat) := xs.mergeSort leP
theorem sortP_perm (xs : List (Nat × Nat)) : (sortP xs).Perm xs := List.mergeSort_perm xs _
theorem sort_ties (xs : List (Nat × Nat)) : (xs.map tieD).mergeSort (PySem.W.dataLe false id) = (sortP xs).map tieD := by
  refine (PySem.W.sort_maps tieD fun a _ b _ => ?_).symm
  exact (congrFun (congrFun (PySem.W.dataLe_ii (fun x : Nat × Nat => (x.1 : Int)) (fun x : Nat × Nat => (x.2 : Int))) a) b).symm
theorem alike_tie (a b : Nat × Nat) : PySem.W.alike (tieD a) (tieD b) = true := by
  simp [tieD, PySem.W.alike, PySem.W.alikeAll]
theorem w_sortP {H : Hp} {Q : VK} {a : Addr} {xs : List V} {ts : List (Nat × Nat)} (h : SqL K H a xs) (hd : DpAll K H xs (ts.map tieD)) (q : ∀ p ws, H p = none → DpAll K H ws ((sortP ts).map tieD) → Q (.ref p) (upd H p (.lst ws))) : rSortedD K [.ref a] H Q := by
  refine ⟨a, xs, ts.map tieD, rfl, h, hd, PySem.W.AllAlike.of alike_tie, .inl fun d hd => ?_, fun d hd => ?_, fun ws p hp hw => ?_⟩
  · obtain ⟨x, _, rfl⟩ := List.mem_map.mp hd
    exact ⟨_, _, rfl⟩
  · obtain ⟨x, _, rfl⟩ := List.mem_map.mp hd
    simp [tieD, PyData.depth, PyData.depthAll]
  · rw [sort_ties] at hw
    exact q p ws hp hw
/-! all_ways(tree) -/
def swapP (a : Nat × Nat) : Nat × Nat := (a.2, a.1)
def waysP (ts : List (Nat × Nat)) : List (Nat × Nat) := sortP (ts ++ ts.map swapP)
def sp_all_ways (K : PySem.W.Frag) (C : Addr) : Sp := fun vs H Q _ => ∃ (v : V) (posts : Nat) (ts : List (Nat × Nat)), vs = [v] ∧ TreeAt K C H v posts ts ∧ ts.length ≤ 1000 ∧ ∀ l ws H', Ex H H' → H l = none → H' l = some (.lst ws) → DpAll K H' ws ((waysP ts).map tieD) → Q (.ref l) H'
theorem ok_all_ways {C f : Addr} {fd : FuncData} (F : C8.Def K mg "all_ways" s_all_ways f fd) (b : Binds K fd ["tree"] []) (T : Txt mg) (TC : TrC K C) : C8.Cal P w K mg base 1 "all_ways" (sp_all_ways K C) [] := by
  refine C8.cal0 F b .nil sc_all_ways (fun vs H Q E h => ?_) (fun cdv A outer s H vs Q E hr h => ?_)
  · obtain ⟨v, posts, ts, rfl, _⟩ := h
    rfl
  · obtain ⟨v, posts, ts, rfl, ⟨a, dx, t, rfl, ha, ht⟩, hl, q⟩ := h
    have hu64 := hu64_of hr
    obtain ⟨ta, tv, rfl, hta, htv⟩ := dp_tup ht
    have htl : tv.length = ts.length := by rw [dpa_len htv, List.length_map]
    refine ⟨_, (pss_one (ps_ret (pe_callB (TH.call_sortedD (K := K) hu64) (by rfl) T.b_sorted (by decide +kernel) (pa_cons (pe_op op_cat (pe_callTy (TH.kcall_list (K := K)) (by rfl) T.b_list (by decide +kernel) (pa_cons (TH.kpe_fld (K := K) (pv 0) rfl) pa_nil)) (pe_lc (own := [("one", 1), ("other", 2)]) (g := gTup K 2 (gCons (gName 1) (gCons (gName 2) gNil))) (tt := tYes) rfl sc_all_ways.nd (TH.kpi_tup (K := K) (TH.kpe_fld (K := K) (pv 0) rfl)) (blkOk_by (own := [("one", 1), ("other", 2)]) (N := N_all_ways) (sc := C8.fnScope s_all_ways) (by decide +kernel)) (fun _ _ _ _ _ => (TH.kpg_tup (K := K) (n := 2) rfl (pgs_cons (pg_name (i := 1) sc_all_ways.nd rfl (Or.inl rfl) (Or.inr rfl)) (pgs_cons (pg_name (i := 2) sc_all_ways.nd rfl (Or.inl rfl) (Or.inr rfl)) pgs_nil)))) (fun _ _ _ _ _ => pts_nil) (fun _ _ _ _ _ => (pe_tup (pa_cons (pv 2) (pa_cons (pv 1) pa_nil)))))) pa_nil)))), ?_⟩
    refine w_start (σ' := [some (.ref a), none, none]) rfl ?_
    walk_at "rd"
    refine ⟨a, C, dx, _, _, rfl, ha, TC.cl, TC.nT, tf_ties, ?_⟩
    walk_at "rd"
    refine ⟨ta, tv, rfl, .inr hta, fun l1 hl1 => ?_⟩
    have e1 : Ex H (upd H l1 (.lst tv)) := Ex.new hl1
    have u1 : upd H l1 (.lst tv) l1 = some (.lst tv) := upd_same
    generalize upd H l1 (.lst tv) = H1 at e1 u1 ⊢
    walk_at "rd"
    refine ⟨a, C, dx, _, _, rfl, e1 _ _ ha, TC.cl, TC.nT, tf_ties, ?_⟩
    refine ⟨ta, rfl, ⟨_, e1.t hta⟩, fun Dl hD => ?_⟩
    refine lc_data (K := K) walk_tup (fun _ => true) (fun i => tieD (swapP (ts.getD i (0, 0)))) (fun _ => rfl) (fun H' e => e.t (e1.t hta)) hD (by omega) (fun i x H' H'' hi e y R R0 k _ => ?_) (fun H2 ws e2 hws hdw => ?_)
    · obtain ⟨rfl, hx⟩ := y
      obtain ⟨c, hc1, hc2⟩ := dpa_ties ((e1.trans e).dpa htv) hx
      obtain ⟨tt, rfl, htt⟩ := dp_tie hc2
      refine w_gtup htt rfl ?_
      walk_at "rd"
      refine ⟨rfl, ?_⟩
      walk_at "rd"
      refine w_dispT (by simp) fun p hp => ?_
      refine k rfl _ _ (Ex.new hp) ?_
      rw [getD_of hc1]
      exact dp_tie_of (sqT upd_same)
    · have e3 : (List.range tv.length).map (fun i => tieD (swapP (ts.getD i (0, 0)))) = (ts.map swapP).map tieD := by
        rw [htl, List.map_map]
        exact range_map (0, 0) (fun c => tieD (swapP c)) ts
      rw [made_all, e3] at hdw
      have hwl : ws.length = ts.length := by rw [dpa_len hdw, List.length_map, List.length_map]
      refine ⟨l1, Dl, _, _, rfl, rfl, e2 _ _ u1, hws, small2 (by omega), fun l3 hl3 => ?_⟩
      have e13 := e1.trans (e2.trans (Ex.new (o := .lst (tv ++ ws)) hl3))
      have hd3 : DpAll K (upd H2 l3 (.lst (tv ++ ws))) (tv ++ ws) ((ts ++ ts.map swapP).map tieD) := by
        rw [List.map_append]
        exact (Ex.new hl3).dpa (dpa_append ((e1.trans e2).dpa htv) hdw)
      have u3 : upd H2 l3 (.lst (tv ++ ws)) l3 = some (.lst (tv ++ ws)) := upd_same
      generalize upd H2 l3 (.lst (tv ++ ws)) = H3 at e13 hd3 u3 ⊢
      walk_at "rd"
      refine w_sortP (sqL u3) hd3 fun p ws' hp hw' => ?_
      exact q p ws' _ (e13.trans (Ex.new hp)) (e13.fresh hp) upd_same ((Ex.new hp).dpa hw')
end TK

namespace TK
open PySem PySem.Spec PyProof.Rows L2 TH
local macro_rules | `(tactic| walk_at "rd1") => `(tactic| first
  | (with_reducible refine TH.w_seq ?_)
  | (with_reducible refine TH.w_asg ?_)
  | (with_reducible refine TH.w_ret ?_)
  | (with_reducible refine TH.w_drop ?_)
  | (with_reducible refine TH.w_ifS ?_)
  | (with_reducible refine TH.w_next ?_)
  | ((with_reducible refine TH.w_var (v := ?vv) ?hv ?_); (case hv => rfl))
  | (with_reducible refine TH.w_c ?_)
  | ((with_reducible refine TH.w_gname (σ' := ?ss) ?hs ?_); (case hs => (dsimp only [List.set]; rfl)))
  | (with_reducible refine TH.w_op ?_)
  | (with_reducible refine TH.w_un ?_)
  | (with_reducible refine TH.w_chain ?_)
  | (with_reducible refine TH.w_I0 ?_)
  | ((with_reducible refine TH.w_I ?hm ?_); (case hm => first | (exact TH.CMul.l (by omega) (by omega)) | (exact TH.CMul.r (by omega) (by omega)) | (exact TH.CDiv.mk (by omega) (by omega)) | (show (0 : Int) < _; omega) | (exact TH.CPow.mk (by omega) (by omega) (by decide))))
  | (with_reducible refine TH.w_U ?_)
  | (with_reducible refine TH.w_eqI ?_)
  | (with_reducible refine TH.w_neI ?_)
  | (with_reducible refine TH.w_eqB ?_)
  | (with_reducible refine TH.w_isN ?_)
  | (with_reducible refine TH.w_nil ?_)
  | (with_reducible refine TH.w_cons ?_)
  | (with_reducible refine TH.w_test ?_)
  | (with_reducible refine TH.w_B ?_)
  | (with_reducible refine TH.w_bl ?_)
  | (with_reducible refine TH.w_and ?_)
  | (with_reducible refine TH.w_or ?_)
  | (with_reducible refine TH.w_not ?_)
  | (with_reducible refine TH.w_andV ?_)
  | (with_reducible refine TH.w_orV ?_)
  | (with_reducible refine TH.w_notV ?_)
  | (with_reducible refine TH.w_if ?_)
  | (with_reducible refine TH.w_parT ?_)
  | (with_reducible refine TH.w_par ?_)
  | (with_reducible refine TH.w_parT3 ?_)
  | (with_reducible refine TH.w_par3 ?_)
  | (with_reducible refine TH.w_cb ?_)
  | (with_reducible refine TH.w_call ?_)
  | ((with_reducible refine TH.w_aug (v := ?vv) ?hv ?_); (case hv => rfl))
  | (with_reducible refine TH.w_ip ?_)
  | (with_reducible refine TH.w_bm ?_)
  | (with_reducible refine TH.w_sl ?_)
  | (with_reducible refine TH.w_np ?_)
  | (with_reducible refine TH.w_pt ?_)
  | (with_reducible refine TH.w_pti ?_)
  | (with_reducible refine TH.w_gsub ?_)
  | (with_reducible refine TH.w_int ?_)
  | (with_reducible refine TH.w_tupT ?_)
  | (with_reducible refine TH.w_lstT ?_)
  | ((with_reducible show L2.rIxL _ _ _ _ _); (first | (refine TH.w_ixL (TH.sqL upd_same) rfl ?_) | (refine TH.w_ixL (TH.sqL (by assumption)) rfl ?_)))
  | ((with_reducible show L2.rSetL _ _ _ _ _); (first | (refine TH.w_set1 upd_same ?_) | (refine TH.w_set2 upd_same ?_) | (refine TH.w_set3 upd_same ?_) | (refine TH.w_set4 upd_same ?_) | (refine TH.w_set1 (by assumption) ?_) | (refine TH.w_set2 (by assumption) ?_) | (refine TH.w_set3 (by assumption) ?_) | (refine TH.w_set4 (by assumption) ?_)))
  | (with_reducible refine TH.w_lc ?_)
  | (with_reducible refine TH.w_dc ?_)
  | (with_reducible refine TH.w_itup ?_)
  | (with_reducible refine TH.w_ilist ?_)
  | (with_reducible refine TH.w_ienum ?_)
  | (with_reducible refine TH.w_izip ?_)
  | (with_reducible refine TH.w_irng1 ?_)
  | (with_reducible refine TH.w_irng2 ?_)
  | (with_reducible refine TH.w_for ?_)
  | (with_reducible refine TH.w_gcons ?_)
  | (with_reducible refine TH.w_gnil ?_)
  | (with_reducible refine TH.w_yes ?_)
  | (with_reducible refine TH.w_gtup2 upd_same ?_)
  | (with_reducible refine TH.w_gtup3 upd_same ?_)
  | (with_reducible refine TH.w_dput ?_)
  | (with_reducible refine TH.w_bm0 ?_)
  | (with_reducible refine TH.w_din ?_)
  | (with_reducible refine TH.w_dnotin ?_)
  | (with_reducible refine TH.w_dispK ?_)
  | (with_reducible refine TH.w_lock ?_)
  | (with_reducible refine TH.w_ikeys ?_)
  | (with_reducible refine TH.w_iitems ?_)
  | (with_reducible refine TH.w_dispT1 ?_)
  | (with_reducible refine TH.w_dnewT ?_)
  | (with_reducible refine TH.w_dnewK ?_)
  | (with_reducible refine TH.w_fld ?_)
  | (with_reducible refine TH.w_sfld ?_)
  | (with_reducible refine TH.w_meth ?_)
  | (with_reducible refine TH.w_make ?_)
  | (with_reducible refine TH.w_dget2 ?_)
  | (with_reducible refine TH.w_revL ?_)
  | (with_reducible refine TH.w_revT ?_)
  | (with_reducible refine TH.w_lstRg ?_)
  | (with_reducible refine TH.w_tupRg ?_)
  | (with_reducible refine TH.w_rg1 ?_)
  | (with_reducible refine TH.w_rg2 ?_)
  | (with_reducible refine TH.w_T ?_)
  | (with_reducible refine TH.w_F ?_))
local macro_rules | `(tactic| walk_at "rd") => `(tactic| repeat (first | walk_at "rd1" | (dsimp only [List.set, L2.wipe, List.map, TH.isInt, TH.isBool, TH.isTup, TH.isLst, TH.bo_f, TH.bo_t, TH.ba_f, TH.ba_t, TH.bn_t, TH.bn_f, List.append_nil, List.cons_append, List.nil_append])))

variable {P : Program} {w : World} {K : PySem.W.Frag} {mg : Str → Option Value} {base : Heap}
/-! ways(tree) -/
theorem ok_ways {C f : Addr} {fd : FuncData} (F : C8.Def K mg "ways" s_ways f fd) (b : Binds K fd ["tree"] []) (T : Txt mg)
    (c_all_ways : C8.Cal P w K mg base 1 "all_ways" (sp_all_ways K C) []) : C8.Cal P w K mg base 2 "ways" (sp_all_ways K C) [] := by
  refine C8.cal0 F b .nil sc_ways (fun vs H Q E h => ?_) (fun cdv A outer s H vs Q E hr h => ?_)
  · obtain ⟨v, posts, ts, rfl, _⟩ := h
    rfl
  · obtain ⟨v, posts, ts, rfl, ht, hl, q⟩ := h
    refine ⟨_, (pss_one (ps_ret (C8.pe_c c_all_ways hr (by first | decide | exact Nat.le_refl _) (by rfl) (pa_cons (pv 0) pa_nil)))), ?_⟩
    refine w_start (σ' := [some v]) rfl ?_
    walk_at "rd"
    exact ⟨v, posts, ts, rfl, ht, hl, q⟩
/-! this_side(tree, way) -/
theorem nb_rng {posts : Nat} {ts : List (Nat × Nat)} (ok : TiesOk posts ts) : ∀ r ∈ nbZ posts ts, r.length ≤ 100000 ∧ ∀ y ∈ r, 0 ≤ y ∧ y < (nbZ posts ts).length := fun r hr => by
  obtain ⟨v, _, rfl⟩ := List.mem_map.mp hr
  have hl : (nbZ posts ts).length = posts := by simp [nbZ]
  have hp := sortZ_perm (adjZ ts v)
  refine ⟨?_, fun y hy => ?_⟩
  · have : ∀ xs : List (Nat × Nat), (adjZ xs v).length ≤ 2 * xs.length := fun xs => by
      induction xs with
      | nil => simp [adjZ]
      | cons x xs ih =>
        have e : (adjZ (x :: xs) v).length = ((if x.1 = v then [(x.2 : Int)] else []) ++ (if x.2 = v then [(x.1 : Int)] else [])).length + (adjZ xs v).length := by
          unfold adjZ
          rw [List.flatMap_cons, List.length_append]
        rw [e, List.length_cons, List.length_append]
        have h1 : (if x.1 = v then [(x.2 : Int)] else []).length ≤ 1 := by split <;> simp
        have h2 : (if x.2 = v then [(x.1 : Int)] else []).length ≤ 1 := by split <;> simp
        omega
    have := this ts
    have o1 := ok.len
    have o2 := ok.few
    have e : (nearZ ts v).length = (adjZ ts v).length := hp.length_eq
    omega
  · have hy' : y ∈ adjZ ts v := hp.mem_iff.mp hy
    obtain ⟨a, ha, hm⟩ := List.mem_flatMap.mp hy'
    have := ok.rng a ha
    rw [hl]
    rcases List.mem_append.mp hm with m | m
    · split at m
      · rw [List.mem_singleton.mp m]; omega
      · cases m
    · split at m
      · rw [List.mem_singleton.mp m]; omega
      · cases m
def sp_this_side (K : PySem.W.Frag) (C : Addr) : Sp := fun vs H Q _ => ∃ (v u : V) (posts : Nat) (ts : List (Nat × Nat)) (c : Nat × Nat), vs = [v, u] ∧ TreeAt K C H v posts ts ∧ TiesOk posts ts ∧ Dp K H u (tieD c) ∧ c.1 < posts ∧
  ∀ (r : V) (ys : List Int) (H' : Hp), Ex H H' → Dp K H' r (row ys) → ys.Pairwise (· ≤ ·) → ys.Nodup → (∀ y, y ∈ ys ↔ Rch (nbZ posts ts) (some (c.2 : Int)) (c.1 : Int) y) → Q r H'
theorem ok_this_side {C f : Addr} {fd : FuncData} (F : C8.Def K mg "this_side" s_this_side f fd) (b : Binds K fd ["tree", "way"] []) (T : Txt mg) (TC : TrC K C)
    (c_all_tied : C8.Cal P w K mg base 1 "all_tied" (sp_all_tied K) []) (c_reached : C8.Cal P w K mg base 1 "reached" (sp_reached K) []) : C8.Cal P w K mg base 2 "this_side" (sp_this_side K C) [] := by
  refine C8.cal0 F b .nil sc_this_side (fun vs H Q E h => ?_) (fun cdv A outer s H vs Q E hr h => ?_)
  · obtain ⟨v, u, posts, ts, c, rfl, _⟩ := h
    rfl
  · obtain ⟨v, u, posts, ts, c, rfl, ⟨a, dx, t, rfl, ha, ht⟩, ok, hc, hx, q⟩ := h
    obtain ⟨ca, rfl, hca⟩ := dp_tie hc
    have o1 := ok.len
    have o2 := ok.few
    refine ⟨_, (pss_one (ps_ret (C8.pe_c c_reached hr (by first | decide | exact Nat.le_refl _) (by rfl) (pa_cons (C8.pe_c c_all_tied hr (by first | decide | exact Nat.le_refl _) (by rfl) (pa_cons (TH.kpe_fld (K := K) (pv 0) rfl) (pa_cons (TH.kpe_fld (K := K) (pv 0) rfl) pa_nil))) (pa_cons (pe_ix (TH.kix_tup (K := K)) (pv 1) pe_int (fun _ _ => rfl)) (pa_cons (pe_ix (TH.kix_tup (K := K)) (pv 1) pe_int (fun _ _ => rfl)) pa_nil)))))), ?_⟩
    refine w_start (σ' := [some (.ref a), some (.ref ca)]) rfl ?_
    walk_at "rd"
    refine ⟨a, C, dx, _, _, rfl, ha, TC.cl, TC.nP, tf_posts, ?_⟩
    walk_at "rd"
    refine ⟨a, C, dx, _, _, rfl, ha, TC.cl, TC.nT, tf_ties, ?_⟩
    walk_at "rd"
    refine ⟨posts, t, ts, rfl, ht, by omega, by omega, ok.rng, fun l H1 e1 hl => ?_⟩
    walk_at "rd"
    refine w_ixT (e1.t hca) (atI_at (j := 0) rfl) ?_
    walk_at "rd"
    refine w_ixT (e1.t hca) (atI_at (j := 1) rfl) ?_
    obtain ⟨l', xs, el, hl1, hl2⟩ := dp_lst hl
    cases el
    have hl3 : DpAll K H1 xs ((nbZ posts ts).map row) := by
      unfold nbZ
      rw [List.map_map]
      exact hl2
    have hnl : (nbZ posts ts).length = posts := by simp [nbZ]
    exact ⟨l, xs, nbZ posts ts, c.1, some (c.2 : Int), rfl, hl1, hl3, by omega, by omega, nb_rng ok, fun u ys H2 e2 hu p1 p2 p3 => q u ys H2 (e1.trans e2) hu p1 p2 p3⟩
end TK

namespace TK
open PySem PySem.Spec PyProof.Rows L2 TH
local macro_rules | `(tactic| walk_at "rd1") => `(tactic| first
  | (with_reducible refine TH.w_seq ?_)
  | (with_reducible refine TH.w_asg ?_)
  | (with_reducible refine TH.w_ret ?_)
  | (with_reducible refine TH.w_drop ?_)
  | (with_reducible refine TH.w_ifS ?_)
  | (with_reducible refine TH.w_next ?_)
  | ((with_reducible refine TH.w_var (v := ?vv) ?hv ?_); (case hv => rfl))
  | (with_reducible refine TH.w_c ?_)
  | ((with_reducible refine TH.w_gname (σ' := ?ss) ?hs ?_); (case hs => (dsimp only [List.set]; rfl)))
  | (with_reducible refine TH.w_op ?_)
  | (with_reducible refine TH.w_un ?_)
  | (with_reducible refine TH.w_chain ?_)
  | (with_reducible refine TH.w_I0 ?_)
  | ((with_reducible refine TH.w_I ?hm ?_); (case hm => first | (exact TH.CMul.l (by omega) (by omega)) | (exact TH.CMul.r (by omega) (by omega)) | (exact TH.CDiv.mk (by omega) (by omega)) | (show (0 : Int) < _; omega) | (exact TH.CPow.mk (by omega) (by omega) (by decide))))
  | (with_reducible refine TH.w_U ?_)
  | (with_reducible refine TH.w_eqI ?_)
  | (with_reducible refine TH.w_neI ?_)
  | (with_reducible refine TH.w_eqB ?_)
  | (with_reducible refine TH.w_isN ?_)
  | (with_reducible refine TH.w_nil ?_)
  | (with_reducible refine TH.w_cons ?_)
  | (with_reducible refine TH.w_test ?_)
  | (with_reducible refine TH.w_B ?_)
  | (with_reducible refine TH.w_bl ?_)
  | (with_reducible refine TH.w_and ?_)
  | (with_reducible refine TH.w_or ?_)
  | (with_reducible refine TH.w_not ?_)
  | (with_reducible refine TH.w_andV ?_)
  | (with_reducible refine TH.w_orV ?_)
  | (with_reducible refine TH.w_notV ?_)
  | (with_reducible refine TH.w_if ?_)
  | (with_reducible refine TH.w_parT ?_)
  | (with_reducible refine TH.w_par ?_)
  | (with_reducible refine TH.w_parT3 ?_)
  | (with_reducible refine TH.w_par3 ?_)
  | (with_reducible refine TH.w_cb ?_)
  | (with_reducible refine TH.w_call ?_)
  | ((with_reducible refine TH.w_aug (v := ?vv) ?hv ?_); (case hv => rfl))
  | (with_reducible refine TH.w_ip ?_)
  | (with_reducible refine TH.w_bm ?_)
  | (with_reducible refine TH.w_sl ?_)
  | (with_reducible refine TH.w_np ?_)
  | (with_reducible refine TH.w_pt ?_)
  | (with_reducible refine TH.w_pti ?_)
  | (with_reducible refine TH.w_gsub ?_)
  | (with_reducible refine TH.w_int ?_)
  | (with_reducible refine TH.w_tupT ?_)
  | (with_reducible refine TH.w_lstT ?_)
  | ((with_reducible show L2.rIxL _ _ _ _ _); (first | (refine TH.w_ixL (TH.sqL upd_same) rfl ?_) | (refine TH.w_ixL (TH.sqL (by assumption)) rfl ?_)))
  | ((with_reducible show L2.rSetL _ _ _ _ _); (first | (refine TH.w_set1 upd_same ?_) | (refine TH.w_set2 upd_same ?_) | (refine TH.w_set3 upd_same ?_) | (refine TH.w_set4 upd_same ?_) | (refine TH.w_set1 (by assumption) ?_) | (refine TH.w_set2 (by assumption) ?_) | (refine TH.w_set3 (by assumption) ?_) | (refine TH.w_set4 (by assumption) ?_)))
  | (with_reducible refine TH.w_lc ?_)
  | (with_reducible refine TH.w_dc ?_)
  | (with_reducible refine TH.w_itup ?_)
  | (with_reducible refine TH.w_ilist ?_)
  | (with_reducible refine TH.w_ienum ?_)
  | (with_reducible refine TH.w_izip ?_)
  | (with_reducible refine TH.w_irng1 ?_)
  | (with_reducible refine TH.w_irng2 ?_)
  | (with_reducible refine TH.w_for ?_)
  | (with_reducible refine TH.w_gcons ?_)
  | (with_reducible refine TH.w_gnil ?_)
  | (with_reducible refine TH.w_yes ?_)
  | (with_reducible refine TH.w_gtup2 upd_same ?_)
  | (with_reducible refine TH.w_gtup3 upd_same ?_)
  | (with_reducible refine TH.w_dput ?_)
  | (with_reducible refine TH.w_bm0 ?_)
  | (with_reducible refine TH.w_din ?_)
  | (with_reducible refine TH.w_dnotin ?_)
  | (with_reducible refine TH.w_dispK ?_)
  | (with_reducible refine TH.w_lock ?_)
  | (with_reducible refine TH.w_ikeys ?_)
  | (with_reducible refine TH.w_iitems ?_)
  | (with_reducible refine TH.w_dispT1 ?_)
  | (with_reducible refine TH.w_dnewT ?_)
  | (with_reducible refine TH.w_dnewK ?_)
  | (with_reducible refine TH.w_fld ?_)
  | (with_reducible refine TH.w_sfld ?_)
  | (with_reducible refine TH.w_meth ?_)
  | (with_reducible refine TH.w_make ?_)
  | (with_reducible refine TH.w_dget2 ?_)
  | (with_reducible refine TH.w_revL ?_)
  | (with_reducible refine TH.w_revT ?_)
  | (with_reducible refine TH.w_lstRg ?_)
  | (with_reducible refine TH.w_tupRg ?_)
  | (with_reducible refine TH.w_rg1 ?_)
  | (with_reducible refine TH.w_rg2 ?_)
  | (with_reducible refine TH.w_T ?_)
  | (with_reducible refine TH.w_F ?_))
local macro_rules | `(tactic| walk_at "rd") => `(tactic| repeat (first | walk_at "rd1" | (dsimp only [List.set, L2.wipe, List.map, TH.isInt, TH.isBool, TH.isTup, TH.isLst, TH.bo_f, TH.bo_t, TH.ba_f, TH.ba_t, TH.bn_t, TH.bn_f, List.append_nil, List.cons_append, List.nil_append])))

variable {P : Program} {w : World} {K : PySem.W.Frag} {mg : Str → Option Value} {base : Heap}
/-! whole trees -/
def TreeOk (posts : Nat) (ts : List (Nat × Nat)) : Prop := TiesOk posts ts ∧ ∃ pa rk r, LT.Rooted posts ts pa rk r
theorem mem_adjZ {ts : List (Nat × Nat)} {v : Nat} {y : Int} : y ∈ adjZ ts v ↔ LT.Adj ts v y := by
  unfold adjZ LT.Adj
  rw [List.mem_flatMap]
  constructor
  · rintro ⟨a, ha, hm⟩
    refine ⟨a, ha, ?_⟩
    rcases List.mem_append.mp hm with m | m
    · split at m
      · next e => exact .inl ⟨by rw [e], List.mem_singleton.mp m⟩
      · cases m
    · split at m
      · next e => exact .inr ⟨by rw [e], List.mem_singleton.mp m⟩
      · cases m
  · rintro ⟨a, ha, h⟩
    refine ⟨a, ha, List.mem_append.mpr ?_⟩
    rcases h with ⟨h1, h2⟩ | ⟨h1, h2⟩
    · refine .inl ?_
      rw [if_pos (by omega), h2]
      exact List.mem_singleton.mpr rfl
    · refine .inr ?_
      rw [if_pos (by omega), h2]
      exact List.mem_singleton.mpr rfl
theorem mem_nearZ {ts : List (Nat × Nat)} {v : Nat} {y : Int} : y ∈ nearZ ts v ↔ LT.Adj ts v y := ((sortZ_perm _).mem_iff).trans mem_adjZ
theorem nbZ_len {posts : Nat} {ts : List (Nat × Nat)} : (nbZ posts ts).length = posts := by simp [nbZ]
theorem nbZ_at {posts : Nat} {ts : List (Nat × Nat)} {x : Int} (h0 : 0 ≤ x) (h1 : x < posts) : (nbZ posts ts).getD x.toNat [] = nearZ ts x.toNat := by
  unfold nbZ
  rw [List.getD_eq_getElem?_getD, List.getElem?_map, List.getElem?_range (by omega)]
  rfl
theorem rch_rc {posts : Nat} {ts : List (Nat × Nat)} (ok : TreeOk posts ts) {bar : Option Int} {s y : Int} (h0 : 0 ≤ s) (h1 : s < posts) : Rch (nbZ posts ts) bar s y ↔ LT.Rc ts bar s y := by
  obtain ⟨_, pa, rk, r, R⟩ := ok
  constructor
  · intro h
    refine (show LT.Rc ts bar s y ∧ 0 ≤ y ∧ y < posts from ?_).1
    induction h with
    | base => exact ⟨.base, h0, h1⟩
    | @step x y g1 g2 g3 ih =>
      obtain ⟨i1, i2, i3⟩ := ih
      rw [nbZ_at i2 i3] at g2
      have a := mem_nearZ.mp g2
      have e : ((x.toNat : Nat) : Int) = x := by omega
      rw [e] at a
      exact ⟨i1.step a g3, R.rng _ _ a.symm⟩
  · intro h
    induction h with
    | base => exact .base
    | @step x y g1 g2 g3 ih =>
      refine ih.step ?_ g3
      obtain ⟨k1, k2⟩ := R.rng _ _ g2
      rw [nbZ_at k1 k2]
      have e : ((x.toNat : Nat) : Int) = x := by omega
      exact mem_nearZ.mpr (by rw [e]; exact g2)
theorem len_of_rng {N : Nat} {ks : List Int} (nd : ks.Nodup) (h : ∀ x, x ∈ ks ↔ 0 ≤ x ∧ x < N) : ks.length = N := by
  have h1 := few_of nd fun x hx => (h x).mp hx
  have h2 := LA.nodup_le (M := (List.range N).map fun i => ((i : Nat) : Int)) (by
    refine List.pairwise_map.mpr (List.nodup_range.imp fun hne e => hne (by omega))) fun k hk => by
    obtain ⟨i, hi, rfl⟩ := List.mem_map.mp hk
    have := List.mem_range.mp hi
    exact (h _).mpr ⟨by omega, by omega⟩
  rw [List.length_map, List.length_range] at h2
  omega
/-! Tree.__init__(ties) -/
def sp_tree_init (K : PySem.W.Frag) (C : Addr) : Sp := fun vs H Q _ => ∃ (s dx : Addr) (t : V) (posts : Nat) (ts : List (Nat × Nat)), vs = [.ref s, t] ∧ H s = some (.ins C dx []) ∧ Dp K H t (tiesT ts) ∧ TreeOk posts ts ∧
  ∀ H', (∀ a, a ≠ s → ∀ o, H a = some o → H' a = some o) → H' s = some (.ins C dx (tf t posts)) → Dp K H' t (tiesT ts) → Q .non H'
theorem ok_tree_init {C f : Addr} {fd : FuncData} (M : Mk K C f) (hm : mg "Tree" = some (.ref C)) (F : C8.Fun K "__init__" "Tree.__init__" s_Tree_init f fd) (b : Binds K fd ["self", "ties"] []) (T : Txt mg) (TC : TrC K C)
    (c_is_tie : C8.Cal P w K mg base 3 "is_tie" (sp_is_tie K) []) (c_all_tied : C8.Cal P w K mg base 1 "all_tied" (sp_all_tied K) []) (c_reached : C8.Cal P w K mg base 1 "reached" (sp_reached K) []) : C8.Mak P w K mg base 4 "Tree" C (sp_tree_init K C) [] := by
  refine C8.mak0 M hm F b .nil sc_Tree_init (fun vs H Q E h => ?_) (fun cdv A outer s H vs Q E hr h => ?_)
  · obtain ⟨s, dx, t, posts, ts, rfl, _⟩ := h
    rfl
  · obtain ⟨s, dx, t, posts, ts, rfl, hs, ht, ok, q⟩ := h
    obtain ⟨ta, tv, rfl, hta, htv⟩ := dp_tup ht
    have hu64 := hu64_of hr
    have htvl : tv.length = ts.length := by rw [dpa_len htv, List.length_map]
    have o1 := ok.1.len
    have o2 := ok.1.few
    refine ⟨_, (pss_cons (ps_if (PW.pt (pw_or (pt_not (pt_val (pe_callB (TH.kcall_isi (K := K)) (by rfl) T.b_isinstance (by decide +kernel) (pa_cons (pv 1) (pa_cons (pe_bltn (v := .ty "tuple") (by rfl) T.b_tuple (by decide +kernel) rfl) pa_nil))))) (pw_or1 (pt_cmpR op_gt (pe_callB (TH.kcall_len (K := K)) (by rfl) T.b_len (by decide +kernel) (pa_cons (pv 1) pa_nil)) (C8.pe_gc (by rfl) T.g_MOST_TIES) (nomark _))))) (pss_one ps_never) pss_nil)
      (pss_cons (ps_set (i := 2) sc_Tree_init.nd rfl (Or.inl rfl) (pe_op op_add (pe_callB (TH.kcall_len (K := K)) (by rfl) T.b_len (by decide +kernel) (pa_cons (pv 1) pa_nil)) pe_int))
      (pss_cons (ps_for PassesOwn.never rfl (TH.kpi_enum (K := K) (by rfl) T.b_enumerate (pa_cons (pv 1) pa_nil)) (TH.kpg_tup (K := K) (n := 2) rfl (pgs_cons (pg_name (i := 3) sc_Tree_init.nd rfl (Or.inl rfl) (Or.inr rfl)) (pgs_cons (pg_name (i := 4) sc_Tree_init.nd rfl (Or.inl rfl) (Or.inr rfl)) pgs_nil))) (pss_one (ps_if (PW.pt (pw_or (pt_not (pt_val (C8.pe_c c_is_tie hr (by first | decide | exact Nat.le_refl _) (by rfl) (pa_cons (pv 2) (pa_cons (pv 4) pa_nil))))) (pw_or1 (PW.pt (pw_and (pt_cmpR op_gt (pv 3) pe_int (nomark _)) (pw_and1 (pt_not (pt_cmpR (TH.kop_ltT (K := K) hu64) (pe_ix (TH.kix_tup (K := K)) (pv 1) (pe_op op_sub (pv 3) pe_int) (fun _ _ => rfl)) (pv 4) (nomark _))))))))) (pss_one ps_never) pss_nil)))
      (pss_cons (ps_if (pt_cmpR op_lt (pe_callB (TH.kcall_len (K := K)) (by rfl) T.b_len (by decide +kernel) (pa_cons (C8.pe_c c_reached hr (by first | decide | exact Nat.le_refl _) (by rfl) (pa_cons (C8.pe_c c_all_tied hr (by first | decide | exact Nat.le_refl _) (by rfl) (pa_cons (pv 2) (pa_cons (pv 1) pa_nil))) (pa_cons pe_int (pa_cons pe_non pa_nil)))) pa_nil)) (pv 2) (nomark _)) (pss_one ps_never) pss_nil)
      (pss_cons (ps_fld (pv 0) (pv 1) rfl)
      (pss_one (ps_fld (pv 0) (pv 2) rfl))))))), ?_⟩
    refine w_start (σ' := [some (.ref s), some (.ref ta), none, none, none]) rfl ?_
    walk_at "rd"
    refine w_isTup ht ?_
    have e0 : isTup (tiesT ts) = true := rfl
    rw [e0]
    walk_at "rd"
    refine ⟨ta, _, rfl, .inr hta, ?_⟩
    walk_at "rd"
    rw [decide_eq_false (show ¬ ((tv.length : Int) > 23) by omega)]
    walk_at "rd"
    refine ⟨ta, _, rfl, .inr hta, ?_⟩
    walk_at "rd"
    have ep : ((tv.length : Nat) : Int) + 1 = (posts : Nat) := by omega
    rw [ep]
    refine ⟨ta, tv, rfl, .inr ⟨hta, ?_⟩⟩
    refine for_go walk_enumT (fun i σ H2 => Ex H H2 ∧ ∃ y3 y4, σ = [some (.ref s), some (.ref ta), some (.int posts), y3, y4]) ⟨Ex.refl _, _, _, rfl⟩ (fun i σ H2 _ p => p.1.t hta) (fun i x σ H2 H3 hi p y => ?_) (fun σ H2 p => ?_)
    · obtain ⟨e, y3, y4, rfl⟩ := p
      obtain ⟨tp, x1, x2, rfl, htp, rfl, k1, k2⟩ := y
      cases k1
      have e3 : Ex H (upd H2 tp (.tup [.int (i : Nat), x2])) := e.trans (Ex.new htp)
      have u3 : upd H2 tp (.tup [.int (i : Nat), x2]) tp = some (.tup [.int (i : Nat), x2]) := upd_same
      generalize upd H2 tp (.tup [.int (i : Nat), x2]) = H3 at e3 u3 ⊢
      refine w_gtup2 u3 ?_
      walk_at "rd"
      obtain ⟨a, ha1, ha2⟩ := dpa_ties (e3.dpa htv) k2
      obtain ⟨h1, h2⟩ := ok.1.rng a (List.mem_of_getElem? ha1)
      refine ⟨posts, x2, a, rfl, ha2, h1, h2, ?_⟩
      walk_at "rd"
      refine w_dec (fun hpos => ?_) (fun _ => ?_)
      · walk_at "rd"
        obtain ⟨x0, hx0⟩ : ∃ x0, tv[i - 1]? = some x0 := ⟨_, List.getElem?_eq_getElem (by omega)⟩
        obtain ⟨a0, ha01, ha02⟩ := dpa_ties (e3.dpa htv) hx0
        obtain ⟨t0, rfl, ht0⟩ := dp_tie ha02
        obtain ⟨t2, rfl, ht2⟩ := dp_tie ha2
        have ei : (i : Int) - 1 = ((i - 1 : Nat) : Int) := by omega
        rw [ei]
        refine w_ixT (e3.t hta) (atI_at hx0) ?_
        walk_at "rd"
        refine ⟨t0, t2, [(a0.1 : Int), (a0.2 : Int)], [(a.1 : Int), (a.2 : Int)], rfl, rfl, ht0, ht2, ?_⟩
        have hlt : HT.lexLt [(a0.1 : Int), (a0.2 : Int)] [(a.1 : Int), (a.2 : Int)] = true := by
          obtain ⟨g1, g2⟩ := List.getElem?_eq_some_iff.mp ha01
          obtain ⟨g3, g4⟩ := List.getElem?_eq_some_iff.mp ha1
          have := List.pairwise_iff_getElem.mp ok.1.ord (i - 1) i g1 g3 (by omega)
          rw [g2, g4] at this
          rw [HT.lexLt_cons]
          by_cases e : (a0.1 : Int) = (a.1 : Int)
          · rw [if_pos e, HT.lexLt_cons, if_neg (by omega), decide_eq_true (by omega)]
          · rw [if_neg e, decide_eq_true (by omega)]
        rw [hlt]
        walk_at "rd"
        exact ⟨e3, _, _, rfl⟩
      · walk_at "rd"
        exact ⟨e3, _, _, rfl⟩
    · obtain ⟨e, y3, y4, rfl⟩ := p
      walk_at "rd"
      refine ⟨posts, .ref ta, ts, rfl, e.dp ht, by omega, by omega, ok.1.rng, fun l H3 e3 hl => ?_⟩
      walk_at "rd"
      obtain ⟨l', xs, el, hl1, hl2⟩ := dp_lst hl
      cases el
      have hl3 : DpAll K H3 xs ((nbZ posts ts).map row) := by
        unfold nbZ
        rw [List.map_map]
        exact hl2
      have hnl := nbZ_len (posts := posts) (ts := ts)
      refine ⟨l, xs, nbZ posts ts, 0, none, rfl, hl1, hl3, by omega, by omega, nb_rng ok.1, fun u ys H4 e4 hu p1 p2 p3 => ?_⟩
      obtain ⟨ua, rfl, hua⟩ := dp_row hu
      walk_at "rd"
      refine ⟨ua, _, rfl, .inr hua, ?_⟩
      walk_at "rd"
      have hyl : ys.length = posts := len_of_rng p2 fun x => by
        rw [p3, rch_rc ok (by omega) (by omega)]
        obtain ⟨_, pa, rk, r, R⟩ := ok
        exact ⟨fun h => R.rc_rng h (by omega) (by omega), fun h => R.all (by omega) (by omega) h.1 h.2⟩
      rw [List.length_map, hyl, decide_eq_false (show ¬ ((posts : Int) < posts) by omega)]
      walk_at "rd"
      have e5 := e.trans (e3.trans e4)
      refine ⟨s, C, dx, [], rfl, e5 _ _ hs, TC.cl, TC.nT, by decide, ?_⟩
      walk_at "rd"
      refine ⟨s, C, dx, _, rfl, upd_same, TC.cl, TC.nP, Nat.lt_of_le_of_lt (length_putF _ _ _) (by decide), ?_⟩
      rw [upd_upd]
      have tx : Tx H4 (upd H4 s (.ins C dx (tf (.ref ta) posts))) := Tx.wr (e5 _ _ hs) (fun _ z => nomatch z) (fun _ _ z => nomatch z)
      refine q _ (fun a ha o ho => ?_) upd_same (tx.dp (by unfold tiesT imm; exact imm_ties ts) (e5.dp ht))
      rw [upd_ne ha]
      exact e5 _ _ ho
end TK

namespace TK
open PySem PySem.Spec PyProof.Rows L2 TH
local macro_rules | `(tactic| walk_at "rd1") => `(tactic| first
  | (with_reducible refine TH.w_seq ?_)
  | (with_reducible refine TH.w_asg ?_)
  | (with_reducible refine TH.w_ret ?_)
  | (with_reducible refine TH.w_drop ?_)
  | (with_reducible refine TH.w_ifS ?_)
  | (with_reducible refine TH.w_next ?_)
  | ((with_reducible refine TH.w_var (v := ?vv) ?hv ?_); (case hv => rfl))
  | (with_reducible refine TH.w_c ?_)
  | ((with_reducible refine TH.w_gname (σ' := ?ss) ?hs ?_); (case hs => (dsimp only [List.set]; rfl)))
  | (with_reducible refine TH.w_op ?_)
  | (with_reducible refine TH.w_un ?_)
  | (with_reducible refine TH.w_chain ?_)
  | (with_reducible refine TH.w_I0 ?_)
  | ((with_reducible refine TH.w_I ?hm ?_); (case hm => first | (exact TH.CMul.l (by omega) (by omega)) | (exact TH.CMul.r (by omega) (by omega)) | (exact TH.CDiv.mk (by omega) (by omega)) | (show (0 : Int) < _; omega) | (exact TH.CPow.mk (by omega) (by omega) (by decide))))
  | (with_reducible refine TH.w_U ?_)
  | (with_reducible refine TH.w_eqI ?_)
  | (with_reducible refine TH.w_neI ?_)
  | (with_reducible refine TH.w_eqB ?_)
  | (with_reducible refine TH.w_isN ?_)
  | (with_reducible refine TH.w_nil ?_)
  | (with_reducible refine TH.w_cons ?_)
  | (with_reducible refine TH.w_test ?_)
  | (with_reducible refine TH.w_B ?_)
  | (with_reducible refine TH.w_bl ?_)
  | (with_reducible refine TH.w_and ?_)
  | (with_reducible refine TH.w_or ?_)
  | (with_reducible refine TH.w_not ?_)
  | (with_reducible refine TH.w_andV ?_)
  | (with_reducible refine TH.w_orV ?_)
  | (with_reducible refine TH.w_notV ?_)
  | (with_reducible refine TH.w_if ?_)
  | (with_reducible refine TH.w_parT ?_)
  | (with_reducible refine TH.w_par ?_)
  | (with_reducible refine TH.w_parT3 ?_)
  | (with_reducible refine TH.w_par3 ?_)
  | (with_reducible refine TH.w_cb ?_)
  | (with_reducible refine TH.w_call ?_)
  | ((with_reducible refine TH.w_aug (v := ?vv) ?hv ?_); (case hv => rfl))
  | (with_reducible refine TH.w_ip ?_)
  | (with_reducible refine TH.w_bm ?_)
  | (with_reducible refine TH.w_sl ?_)
  | (with_reducible refine TH.w_np ?_)
  | (with_reducible refine TH.w_pt ?_)
  | (with_reducible refine TH.w_pti ?_)
  | (with_reducible refine TH.w_gsub ?_)
  | (with_reducible refine TH.w_int ?_)
  | (with_reducible refine TH.w_tupT ?_)
  | (with_reducible refine TH.w_lstT ?_)
  | ((with_reducible show L2.rIxL _ _ _ _ _); (first | (refine TH.w_ixL (TH.sqL upd_same) rfl ?_) | (refine TH.w_ixL (TH.sqL (by assumption)) rfl ?_)))
  | ((with_reducible show L2.rSetL _ _ _ _ _); (first | (refine TH.w_set1 upd_same ?_) | (refine TH.w_set2 upd_same ?_) | (refine TH.w_set3 upd_same ?_) | (refine TH.w_set4 upd_same ?_) | (refine TH.w_set1 (by assumption) ?_) | (refine TH.w_set2 (by assumption) ?_) | (refine TH.w_set3 (by assumption) ?_) | (refine TH.w_set4 (by assumption) ?_)))
  | (with_reducible refine TH.w_lc ?_)
  | (with_reducible refine TH.w_dc ?_)
  | (with_reducible refine TH.w_itup ?_)
  | (with_reducible refine TH.w_ilist ?_)
  | (with_reducible refine TH.w_ienum ?_)
  | (with_reducible refine TH.w_izip ?_)
  | (with_reducible refine TH.w_irng1 ?_)
  | (with_reducible refine TH.w_irng2 ?_)
  | (with_reducible refine TH.w_for ?_)
  | (with_reducible refine TH.w_gcons ?_)
  | (with_reducible refine TH.w_gnil ?_)
  | (with_reducible refine TH.w_yes ?_)
  | (with_reducible refine TH.w_gtup2 upd_same ?_)
  | (with_reducible refine TH.w_gtup3 upd_same ?_)
  | (with_reducible refine TH.w_dput ?_)
  | (with_reducible refine TH.w_bm0 ?_)
  | (with_reducible refine TH.w_din ?_)
  | (with_reducible refine TH.w_dnotin ?_)
  | (with_reducible refine TH.w_dispK ?_)
  | (with_reducible refine TH.w_lock ?_)
  | (with_reducible refine TH.w_ikeys ?_)
  | (with_reducible refine TH.w_iitems ?_)
  | (with_reducible refine TH.w_dispT1 ?_)
  | (with_reducible refine TH.w_dnewT ?_)
  | (with_reducible refine TH.w_dnewK ?_)
  | (with_reducible refine TH.w_fld ?_)
  | (with_reducible refine TH.w_sfld ?_)
  | (with_reducible refine TH.w_meth ?_)
  | (with_reducible refine TH.w_make ?_)
  | (with_reducible refine TH.w_dget2 ?_)
  | (with_reducible refine TH.w_revL ?_)
  | (with_reducible refine TH.w_revT ?_)
  | (with_reducible refine TH.w_lstRg ?_)
  | (with_reducible refine TH.w_tupRg ?_)
  | (with_reducible refine TH.w_rg1 ?_)
  | (with_reducible refine TH.w_rg2 ?_)
  | (with_reducible refine TH.w_T ?_)
  | (with_reducible refine TH.w_F ?_))
local macro_rules | `(tactic| walk_at "rd") => `(tactic| repeat (first | walk_at "rd1" | (dsimp only [List.set, L2.wipe, List.map, TH.isInt, TH.isBool, TH.isTup, TH.isLst, TH.bo_f, TH.bo_t, TH.ba_f, TH.ba_t, TH.bn_t, TH.bn_f, List.append_nil, List.cons_append, List.nil_append])))

variable {P : Program} {w : World} {K : PySem.W.Frag} {mg : Str → Option Value} {base : Heap}
/-! sorted(a tuple of numbers) -/
theorem sortZ_self {ns : List Int} (h : ns.Pairwise (· ≤ ·)) : sortZ ns = ns :=
  List.Perm.eq_of_pairwise (le := fun a b : Int => a ≤ b) (fun a b _ _ h1 h2 => Int.le_antisymm h1 h2) (sortZ_pw ns) h (sortZ_perm ns)
theorem sortZ_pair (u v : Nat) : sortZ [(u : Int), (v : Int)] = [((LT.srt u v).1 : Int), ((LT.srt u v).2 : Int)] := by
  unfold LT.srt
  split
  · exact sortZ_self (by simp; omega)
  · refine (sortZ_of_perm (bs := [(v : Int), (u : Int)]) (.swap _ _ _)).trans ?_
    exact sortZ_self (by simp; omega)
theorem w_sortTI {H : Hp} {Q : VK} {a : Addr} {ns : List Int} (h : SqT K H a (ns.map V.int)) (q : ∀ p, H p = none → Q (.ref p) (upd H p (.lst ((sortZ ns).map V.int)))) : rSortedTD K [.ref a] H Q := by
  refine ⟨a, _, ns.map PyData.int, rfl, h, dpa_ints ns, PySem.W.AllAlike.of (enc := PyData.int) fun a b => by simp [PySem.W.alike], .inr fun d hd => ?_, fun d hd => ?_, fun ws p hp hw => ?_⟩
  · obtain ⟨x, _, rfl⟩ := List.mem_map.mp hd
    exact ⟨(fun e => nomatch e), (fun xs e => nomatch e)⟩
  · obtain ⟨x, _, rfl⟩ := List.mem_map.mp hd
    simp [PyData.depth]
  · rw [sort_ints] at hw
    rw [dpa_ints_inv hw]
    exact q p hp
theorem plain_ties : ∀ ts : List (Nat × Nat), PyData.plainAll (ts.map tieD) = true
  | [] => rfl
  | t :: ts => by
    show (true && PyData.plainAll (ts.map tieD)) = true
    rw [plain_ties ts]
    rfl
theorem eqv_tie (a b : Nat × Nat) : PyData.eqv (tieD a) (tieD b) = decide (a = b) := by
  have e : PyData.eqv (tieD a) (tieD b) = (decide ((a.1 : Int) = b.1) && decide ((a.2 : Int) = b.2)) := by
    simp [tieD, PyData.eqv, PyData.eqvAll]
    rfl
  rw [e]
  by_cases h : a = b
  · subst h
    simp
  · rw [decide_eq_false h]
    rw [Bool.and_eq_false_iff]
    by_cases h1 : a.1 = b.1
    · right
      rw [decide_eq_false]
      intro h2
      exact h (Prod.ext h1 (by omega))
    · left
      rw [decide_eq_false]
      omega
/-! is_way(tree, thing), what is right -/
def WayOk (ts : List (Nat × Nat)) (c : Nat × Nat) : Prop := LT.srt c.1 c.2 ∈ ts
theorem WayOk.rng {posts : Nat} {ts : List (Nat × Nat)} {c : Nat × Nat} (ok : TiesOk posts ts) (h : WayOk ts c) : c.1 < posts ∧ c.2 < posts ∧ c.1 ≠ c.2 := by
  have := ok.rng _ h
  rcases LT.srt_cases c.1 c.2 with e | e <;> rw [e] at this
  · have t1 : c.1 < c.2 := this.1
    have t2 : c.2 < posts := this.2
    omega
  · have t1 : c.2 < c.1 := this.1
    have t2 : c.1 < posts := this.2
    omega
theorem WayOk.swap {ts : List (Nat × Nat)} {c : Nat × Nat} (h : WayOk ts c) : WayOk ts (swapP c) := by
  have e : LT.srt c.2 c.1 = LT.srt c.1 c.2 := by
    unfold LT.srt
    by_cases h1 : c.1 ≤ c.2
    · rw [if_pos h1]
      by_cases h2 : c.2 ≤ c.1
      · rw [if_pos h2]
        have : c.1 = c.2 := by omega
        rw [this]
      · rw [if_neg h2]
    · rw [if_neg h1, if_pos (by omega)]
  unfold WayOk swapP
  rw [e]
  exact h
theorem WayOk.adj {ts : List (Nat × Nat)} {c : Nat × Nat} (h : WayOk ts c) : LT.Adj ts (c.1 : Int) (c.2 : Int) := by
  refine ⟨_, h, ?_⟩
  rcases LT.srt_cases c.1 c.2 with e | e <;> rw [e]
  · exact .inl ⟨rfl, rfl⟩
  · exact .inr ⟨rfl, rfl⟩
def sp_is_way (K : PySem.W.Frag) (C : Addr) : Sp := fun vs H Q _ => ∃ (v u : V) (posts : Nat) (ts : List (Nat × Nat)) (c : Nat × Nat), vs = [v, u] ∧ TreeAt K C H v posts ts ∧ TiesOk posts ts ∧ Dp K H u (tieD c) ∧ WayOk ts c ∧ ∀ H', Ex H H' → Q (.bl true) H'
theorem ok_is_way {C f : Addr} {fd : FuncData} (F : C8.Def K mg "is_way" s_is_way f fd) (b : Binds K fd ["tree", "thing"] []) (T : Txt mg) (TC : TrC K C)
    (c_is_pair : C8.Cal P w K mg base 1 "is_pair" (sp_is_pair K) []) (c_is_within : C8.Cal P w K mg base 2 "is_within" (sp_is_within K) []) : C8.Cal P w K mg base 3 "is_way" (sp_is_way K C) [] := by
  refine C8.cal0 F b .nil sc_is_way (fun vs H Q E h => ?_) (fun cdv A outer s H vs Q E hr h => ?_)
  · obtain ⟨v, u, posts, ts, c, rfl, _⟩ := h
    rfl
  · obtain ⟨v, u, posts, ts, c, rfl, ⟨a, dx, t, rfl, ha, ht⟩, ok, hc, hw, q⟩ := h
    obtain ⟨ca, rfl, hca⟩ := dp_tie hc
    have hu64 := hu64_of hr
    have o2 := ok.few
    obtain ⟨r1, r2, r3⟩ := hw.rng ok
    refine ⟨_, (pss_cons (ps_if (PW.pt (pw_or (pt_not (pt_val (C8.pe_c c_is_pair hr (by first | decide | exact Nat.le_refl _) (by rfl) (pa_cons (pv 1) pa_nil)))) (pw_or1 (pt_not (pt_val (pe_callB (TH.kcr_all (K := K) rfl) (by rfl) T.b_all (by decide +kernel) (pa_cons (pe_lc (own := [("post", 2)]) (g := gName 2) (tt := tYes) rfl sc_is_way.nd (TH.kpi_tup (K := K) (pv 1)) (blkOk_by (own := [("post", 2)]) (N := N_is_way) (sc := C8.fnScope s_is_way) (by decide +kernel)) (fun _ _ _ _ _ => (pg_name (i := 2) sc_is_way.nd rfl (Or.inl rfl) (Or.inr rfl))) (fun _ _ _ _ _ => pts_nil) (fun _ _ _ _ _ => (C8.pe_c c_is_within hr (by first | decide | exact Nat.le_refl _) (by rfl) (pa_cons (pv 2) (pa_cons pe_int (pa_cons (pe_op op_sub (TH.kpe_fld (K := K) (pv 0) rfl) pe_int) pa_nil)))))) pa_nil))))))) (pss_one (ps_ret pe_bl)) pss_nil)
      (pss_one (ps_ret (pe_cmpR (TH.kop_inD (K := K) hu64) (pe_callTy (TH.kcall_tuple (K := K)) (by rfl) T.b_tuple (by decide +kernel) (pa_cons (pe_callB (TH.call_sortedTD (K := K) hu64) (by rfl) T.b_sorted (by decide +kernel) (pa_cons (pv 1) pa_nil)) pa_nil)) (TH.kpe_fld (K := K) (pv 0) rfl) (by rfl))))), ?_⟩
    refine w_start (σ' := [some (.ref a), some (.ref ca), none]) rfl ?_
    walk_at "rd"
    refine ⟨_, _, rfl, hc, ?_⟩
    have e : isPairD (tieD c) = true := rfl
    rw [e]
    walk_at "rd"
    refine ⟨ca, rfl, ⟨_, hca⟩, fun Dl hD => ?_⟩
    refine lc_data (K := K) walk_tup (fun _ => true) (fun i => .bool true) (fun _ => rfl) (fun H' e => e.t hca) hD (by simp) (fun i x H' H'' hi e y R R0 k _ => ?_) (fun H1 ws e1 hws hda => ?_)
    · obtain ⟨rfl, hx⟩ := y
      walk_at "rd"
      refine ⟨rfl, ?_⟩
      walk_at "rd"
      obtain ⟨z, rfl, hz⟩ : ∃ z : Nat, x = .int (z : Nat) ∧ z < posts := by
        match i, hi with
        | 0, _ => exact ⟨c.1, (Option.some.inj hx).symm, r1⟩
        | 1, _ => exact ⟨c.2, (Option.some.inj hx).symm, r2⟩
      refine ⟨a, C, dx, _, _, rfl, e _ _ ha, TC.cl, TC.nP, tf_posts, ?_⟩
      walk_at "rd"
      refine ⟨_, _, _, _, rfl, .int _, ?_⟩
      rw [inR_int, decide_eq_true (by omega), decide_eq_true (by omega)]
      exact k rfl _ _ (Ex.refl _) (.bl true)
    · walk_at "rd"
      rw [made_all] at hda
      have e3 : (List.range [V.int (c.1 : Nat), V.int (c.2 : Nat)].length).map (fun _ => PyData.bool true) = [true, true].map PyData.bool := rfl
      rw [e3] at hda
      have e4 := dpa_bools_inv hda
      subst e4
      refine ⟨Dl, _, rfl, sqL hws, ?_⟩
      have e6 : ([true, true].all id) = true := rfl
      rw [e6]
      walk_at "rd"
      have g1 : SqT K H1 ca ([(c.1 : Int), (c.2 : Int)].map V.int) := e1.t hca
      refine w_sortTI g1 fun p hp => ?_
      walk_at "rd"
      refine ⟨p, _, rfl, .inl ⟨sqL upd_same, fun l hl => ?_⟩⟩
      have e5 := e1.trans ((Ex.new (o := .lst ((sortZ [(c.1 : Int), (c.2 : Int)]).map V.int)) hp).trans (Ex.new (o := .tup ((sortZ [(c.1 : Int), (c.2 : Int)]).map V.int)) hl))
      have u5 : upd (upd H1 p (.lst ((sortZ [(c.1 : Int), (c.2 : Int)]).map V.int))) l (.tup ((sortZ [(c.1 : Int), (c.2 : Int)]).map V.int)) l = some (.tup ((sortZ [(c.1 : Int), (c.2 : Int)]).map V.int)) := upd_same
      generalize upd (upd H1 p (.lst ((sortZ [(c.1 : Int), (c.2 : Int)]).map V.int))) l (.tup ((sortZ [(c.1 : Int), (c.2 : Int)]).map V.int)) = H5 at e5 u5 ⊢
      walk_at "rd"
      refine ⟨a, C, dx, _, _, rfl, e5 _ _ ha, TC.cl, TC.nT, tf_ties, ?_⟩
      have hd : Dp K H5 (.ref l) (tieD (LT.srt c.1 c.2)) := by
        rw [sortZ_pair] at u5
        exact dp_tie_of (sqT u5)
      refine ⟨_, ts.map tieD, hd, .inr (e5.dp ht), plain_ties ts, rfl, by show (1 : Nat) ≤ 50; decide, ?_⟩
      have ea : (ts.map tieD).any (fun y => PyData.eqv y (tieD (LT.srt c.1 c.2))) = true := by
        rw [List.any_eq_true]
        exact ⟨_, List.mem_map.mpr ⟨_, hw, rfl⟩, by rw [eqv_tie]; exact decide_eq_true rfl⟩
      rw [ea]
      exact q _ e5
/-! check_way(tree, thing), what is right -/
def sp_check_way (K : PySem.W.Frag) (C : Addr) : Sp := fun vs H Q _ => ∃ (v u : V) (posts : Nat) (ts : List (Nat × Nat)) (c : Nat × Nat), vs = [v, u] ∧ TreeAt K C H v posts ts ∧ TiesOk posts ts ∧ Dp K H u (tieD c) ∧ WayOk ts c ∧ ∀ H', Ex H H' → Q .non H'
theorem ok_check_way {C f : Addr} {fd : FuncData} (F : C8.Def K mg "check_way" s_check_way f fd) (b : Binds K fd ["tree", "thing"] []) (T : Txt mg)
    (c_is_way : C8.Cal P w K mg base 3 "is_way" (sp_is_way K C) []) : C8.Cal P w K mg base 4 "check_way" (sp_check_way K C) [] := by
  refine C8.cal0 F b .nil sc_check_way (fun vs H Q E h => ?_) (fun cdv A outer s H vs Q E hr h => ?_)
  · obtain ⟨v, u, posts, ts, c, rfl, _⟩ := h
    rfl
  · obtain ⟨v, u, posts, ts, c, rfl, ht, ok, hc, hw, q⟩ := h
    refine ⟨_, (pss_one (ps_if (pt_not (pt_val (C8.pe_c c_is_way hr (by first | decide | exact Nat.le_refl _) (by rfl) (pa_cons (pv 0) (pa_cons (pv 1) pa_nil))))) (pss_one ps_never) pss_nil)), ?_⟩
    refine w_start (σ' := [some v, some u]) rfl ?_
    walk_at "rd"
    refine ⟨v, u, posts, ts, c, rfl, ht, ok, hc, hw, fun H' e => ?_⟩
    walk_at "rd"
    exact q H' e
/-! beyond_of(tree, way), beyond(tree, way) -/
def sp_beyond_of (K : PySem.W.Frag) (C : Addr) : Sp := fun vs H Q _ => ∃ (v u : V) (posts : Nat) (ts : List (Nat × Nat)) (c : Nat × Nat), vs = [v, u] ∧ TreeAt K C H v posts ts ∧ TiesOk posts ts ∧ Dp K H u (tieD c) ∧ c.2 < posts ∧
  ∀ (r : V) (ys : List Int) (H' : Hp), Ex H H' → Dp K H' r (row ys) → ys.Pairwise (· ≤ ·) → ys.Nodup → (∀ y, y ∈ ys ↔ Rch (nbZ posts ts) (some (c.1 : Int)) (c.2 : Int) y) → Q r H'
theorem ok_beyond_of {C f : Addr} {fd : FuncData} (F : C8.Def K mg "beyond_of" s_beyond_of f fd) (b : Binds K fd ["tree", "way"] []) (T : Txt mg)
    (c_this_side : C8.Cal P w K mg base 2 "this_side" (sp_this_side K C) []) : C8.Cal P w K mg base 3 "beyond_of" (sp_beyond_of K C) [] := by
  refine C8.cal0 F b .nil sc_beyond_of (fun vs H Q E h => ?_) (fun cdv A outer s H vs Q E hr h => ?_)
  · obtain ⟨v, u, posts, ts, c, rfl, _⟩ := h
    rfl
  · obtain ⟨v, u, posts, ts, c, rfl, ht, ok, hc, hx, q⟩ := h
    obtain ⟨ca, rfl, hca⟩ := dp_tie hc
    refine ⟨_, (pss_one (ps_ret (C8.pe_c c_this_side hr (by first | decide | exact Nat.le_refl _) (by rfl) (pa_cons (pv 0) (pa_cons (TH.kpe_revT (K := K) (pv 1)) pa_nil))))), ?_⟩
    refine w_start (σ' := [some v, some (.ref ca)]) rfl ?_
    walk_at "rd"
    refine ⟨ca, _, rfl, hca, fun p hp => ?_⟩
    walk_at "rd"
    have e := Ex.new (o := .tup [V.int (c.1 : Nat), V.int (c.2 : Nat)].reverse) hp
    exact ⟨v, .ref p, posts, ts, swapP c, rfl, ht.ex e, ok, dp_tie_of (a := swapP c) (sqT upd_same), hx, fun r ys H' e' => q r ys H' (e.trans e')⟩
def sp_beyond (K : PySem.W.Frag) (C : Addr) : Sp := fun vs H Q _ => ∃ (v u : V) (posts : Nat) (ts : List (Nat × Nat)) (c : Nat × Nat), vs = [v, u] ∧ TreeAt K C H v posts ts ∧ TiesOk posts ts ∧ Dp K H u (tieD c) ∧ WayOk ts c ∧
  ∀ (r : V) (ys : List Int) (H' : Hp), Ex H H' → Dp K H' r (row ys) → ys.Pairwise (· ≤ ·) → ys.Nodup → (∀ y, y ∈ ys ↔ Rch (nbZ posts ts) (some (c.1 : Int)) (c.2 : Int) y) → Q r H'
theorem ok_beyond {C f : Addr} {fd : FuncData} (F : C8.Def K mg "beyond" s_beyond f fd) (b : Binds K fd ["tree", "way"] []) (T : Txt mg)
    (c_check_way : C8.Cal P w K mg base 4 "check_way" (sp_check_way K C) []) (c_beyond_of : C8.Cal P w K mg base 3 "beyond_of" (sp_beyond_of K C) []) : C8.Cal P w K mg base 5 "beyond" (sp_beyond K C) [] := by
  refine C8.cal0 F b .nil sc_beyond (fun vs H Q E h => ?_) (fun cdv A outer s H vs Q E hr h => ?_)
  · obtain ⟨v, u, posts, ts, c, rfl, _⟩ := h
    rfl
  · obtain ⟨v, u, posts, ts, c, rfl, ht, ok, hc, hw, q⟩ := h
    refine ⟨_, (pss_cons (ps_expr (C8.pe_c c_check_way hr (by first | decide | exact Nat.le_refl _) (by rfl) (pa_cons (pv 0) (pa_cons (pv 1) pa_nil))))
      (pss_one (ps_ret (C8.pe_c c_beyond_of hr (by first | decide | exact Nat.le_refl _) (by rfl) (pa_cons (pv 0) (pa_cons (pv 1) pa_nil)))))), ?_⟩
    refine w_start (σ' := [some v, some u]) rfl ?_
    walk_at "rd"
    refine ⟨v, u, posts, ts, c, rfl, ht, ok, hc, hw, fun H1 e1 => ?_⟩
    walk_at "rd"
    exact ⟨v, u, posts, ts, c, rfl, ht.ex e1, ok, e1.dp hc, (hw.rng ok).2.1, fun r ys H' e' => q r ys H' (e1.trans e')⟩
end TK

namespace TK
open PySem PySem.Spec PyProof.Rows L2 TH
local macro_rules | `(tactic| walk_at "rd1") => `(tactic| first
  | (with_reducible refine TH.w_seq ?_)
  | (with_reducible refine TH.w_asg ?_)
  | (with_reducible refine TH.w_ret ?_)
  | (with_reducible refine TH.w_drop ?_)
  | (with_reducible refine TH.w_ifS ?_)
  | (with_reducible refine TH.w_next ?_)
  | ((with_reducible refine TH.w_var (v := ?vv) ?hv ?_); (case hv => rfl))
  | (with_reducible refine TH.w_c ?_)
  | ((with_reducible refine TH.w_gname (σ' := ?ss) ?hs ?_); (case hs => (dsimp only [List.set]; rfl)))
  | (with_reducible refine TH.w_op ?_)
  | (with_reducible refine TH.w_un ?_)
  | (with_reducible refine TH.w_chain ?_)
  | (with_reducible refine TH.w_I0 ?_)
  | ((with_reducible refine TH.w_I ?hm ?_); (case hm => first | (exact TH.CMul.l (by omega) (by omega)) | (exact TH.CMul.r (by omega) (by omega)) | (exact TH.CDiv.mk (by omega) (by omega)) | (show (0 : Int) < _; omega) | (exact TH.CPow.mk (by omega) (by omega) (by decide))))
  | (with_reducible refine TH.w_U ?_)
  | (with_reducible refine TH.w_eqI ?_)
  | (with_reducible refine TH.w_neI ?_)
  | (with_reducible refine TH.w_eqB ?_)
  | (with_reducible refine TH.w_isN ?_)
  | (with_reducible refine TH.w_nil ?_)
  | (with_reducible refine TH.w_cons ?_)
  | (with_reducible refine TH.w_test ?_)
  | (with_reducible refine TH.w_B ?_)
  | (with_reducible refine TH.w_bl ?_)
  | (with_reducible refine TH.w_and ?_)
  | (with_reducible refine TH.w_or ?_)
  | (with_reducible refine TH.w_not ?_)
  | (with_reducible refine TH.w_andV ?_)
  | (with_reducible refine TH.w_orV ?_)
  | (with_reducible refine TH.w_notV ?_)
  | (with_reducible refine TH.w_if ?_)
  | (with_reducible refine TH.w_parT ?_)
  | (with_reducible refine TH.w_par ?_)
  | (with_reducible refine TH.w_parT3 ?_)
  | (with_reducible refine TH.w_par3 ?_)
  | (with_reducible refine TH.w_cb ?_)
  | (with_reducible refine TH.w_call ?_)
  | ((with_reducible refine TH.w_aug (v := ?vv) ?hv ?_); (case hv => rfl))
  | (with_reducible refine TH.w_ip ?_)
  | (with_reducible refine TH.w_bm ?_)
  | (with_reducible refine TH.w_sl ?_)
  | (with_reducible refine TH.w_np ?_)
  | (with_reducible refine TH.w_pt ?_)
  | (with_reducible refine TH.w_pti ?_)
  | (with_reducible refine TH.w_gsub ?_)
  | (with_reducible refine TH.w_int ?_)
  | (with_reducible refine TH.w_tupT ?_)
  | (with_reducible refine TH.w_lstT ?_)
  | ((with_reducible show L2.rIxL _ _ _ _ _); (first | (refine TH.w_ixL (TH.sqL upd_same) rfl ?_) | (refine TH.w_ixL (TH.sqL (by assumption)) rfl ?_)))
  | ((with_reducible show L2.rSetL _ _ _ _ _); (first | (refine TH.w_set1 upd_same ?_) | (refine TH.w_set2 upd_same ?_) | (refine TH.w_set3 upd_same ?_) | (refine TH.w_set4 upd_same ?_) | (refine TH.w_set1 (by assumption) ?_) | (refine TH.w_set2 (by assumption) ?_) | (refine TH.w_set3 (by assumption) ?_) | (refine TH.w_set4 (by assumption) ?_)))
  | (with_reducible refine TH.w_lc ?_)
  | (with_reducible refine TH.w_dc ?_)
  | (with_reducible refine TH.w_itup ?_)
  | (with_reducible refine TH.w_ilist ?_)
  | (with_reducible refine TH.w_ienum ?_)
  | (with_reducible refine TH.w_izip ?_)
  | (with_reducible refine TH.w_irng1 ?_)
  | (with_reducible refine TH.w_irng2 ?_)
  | (with_reducible refine TH.w_for ?_)
  | (with_reducible refine TH.w_gcons ?_)
  | (with_reducible refine TH.w_gnil ?_)
  | (with_reducible refine TH.w_yes ?_)
  | (with_reducible refine TH.w_gtup2 upd_same ?_)
  | (with_reducible refine TH.w_gtup3 upd_same ?_)
  | (with_reducible refine TH.w_dput ?_)
  | (with_reducible refine TH.w_bm0 ?_)
  | (with_reducible refine TH.w_din ?_)
  | (with_reducible refine TH.w_dnotin ?_)
  | (with_reducible refine TH.w_dispK ?_)
  | (with_reducible refine TH.w_lock ?_)
  | (with_reducible refine TH.w_ikeys ?_)
  | (with_reducible refine TH.w_iitems ?_)
  | (with_reducible refine TH.w_dispT1 ?_)
  | (with_reducible refine TH.w_dnewT ?_)
  | (with_reducible refine TH.w_dnewK ?_)
  | (with_reducible refine TH.w_fld ?_)
  | (with_reducible refine TH.w_sfld ?_)
  | (with_reducible refine TH.w_meth ?_)
  | (with_reducible refine TH.w_make ?_)
  | (with_reducible refine TH.w_dget2 ?_)
  | (with_reducible refine TH.w_revL ?_)
  | (with_reducible refine TH.w_revT ?_)
  | (with_reducible refine TH.w_lstRg ?_)
  | (with_reducible refine TH.w_tupRg ?_)
  | (with_reducible refine TH.w_rg1 ?_)
  | (with_reducible refine TH.w_rg2 ?_)
  | (with_reducible refine TH.w_T ?_)
  | (with_reducible refine TH.w_F ?_))
local macro_rules | `(tactic| walk_at "rd") => `(tactic| repeat (first | walk_at "rd1" | (dsimp only [List.set, L2.wipe, List.map, TH.isInt, TH.isBool, TH.isTup, TH.isLst, TH.bo_f, TH.bo_t, TH.ba_f, TH.ba_t, TH.bn_t, TH.bn_f, List.append_nil, List.cons_append, List.nil_append])))

variable {P : Program} {w : World} {K : PySem.W.Frag} {mg : Str → Option Value} {base : Heap}
/-! sheets -/
def nz (l : List Nat) : List Int := l.map fun x : Nat => (x : Int)
theorem nz_len (l : List Nat) : (nz l).length = l.length := by simp [nz]
theorem nz_sum : ∀ l : List Nat, (nz l).sum = (l.sum : Nat)
  | [] => rfl
  | x :: l => by
    show (x : Int) + (nz l).sum = ((x + l.sum : Nat) : Int)
    rw [nz_sum l]
    omega
theorem nz_at {l : List Nat} {i : Nat} {x : Nat} (h : l[i]? = some x) : (nz l)[i]? = some (x : Int) := by
  unfold nz
  rw [List.getElem?_map, h]
  rfl
theorem nz_take (l : List Nat) (k : Nat) : (nz l).take k = nz (l.take k) := by
  unfold nz
  rw [List.map_take]
def wantsT (ws : List (List (List Int))) : D := .tuple (ws.map rowsT)
theorem imm_wants (ws : List (List (List Int))) : imm (wantsT ws) = true := by
  unfold wantsT imm
  rw [immAll_iff]
  intro d hd
  obtain ⟨r, _, rfl⟩ := List.mem_map.mp hd
  unfold rowsT imm
  exact imm_rows r
structure Spc where
  p : Int
  posts : Nat
  ts : List (Nat × Nat)
  hs : List Nat
  ws : List (List (List Int))
structure SpcOk (S : Spc) : Prop where
  clk : clockB (.int S.p) = true
  tree : TreeOk S.posts S.ts
  hl : S.hs.length = S.posts
  h8 : ∀ x ∈ S.hs, x ≤ 8
  h60 : S.hs.sum ≤ 60
  wl : S.ws.length = S.posts
  w8 : ∀ rs ∈ S.ws, rs.length ≤ 8
  w60 : (S.ws.map List.length).sum ≤ 60
  rin : ∀ rs ∈ S.ws, ∀ r ∈ rs, Rin S.p S.hs.sum r
structure ShC (K : PySem.W.Frag) (C : Addr) : Prop where
  cl : Cls K C
  nP : NoAttr K C "p"
  nT : NoAttr K C "tree"
  nH : NoAttr K C "holds"
  nW : NoAttr K C "wants"
  nN : NoAttr K C "numbers"
def shf (p : Int) (t h w : V) (n : Nat) : List (Str × V) := putF "numbers" (.int (n : Nat)) (putF "wants" w (putF "holds" h (putF "tree" t (putF "p" (.int p) []))))
theorem shf_p {p : Int} {t h w : V} {n : Nat} : (shf p t h w n).lookup ("p" : Str) = some (.int p) := by
  unfold shf
  rw [lookup_putF, if_neg (by decide +kernel), lookup_putF, if_neg (by decide +kernel), lookup_putF, if_neg (by decide +kernel), lookup_putF, if_neg (by decide +kernel), lookup_putF, if_pos rfl]
theorem shf_tree {p : Int} {t h w : V} {n : Nat} : (shf p t h w n).lookup ("tree" : Str) = some t := by
  unfold shf
  rw [lookup_putF, if_neg (by decide +kernel), lookup_putF, if_neg (by decide +kernel), lookup_putF, if_neg (by decide +kernel), lookup_putF, if_pos rfl]
theorem shf_holds {p : Int} {t h w : V} {n : Nat} : (shf p t h w n).lookup ("holds" : Str) = some h := by
  unfold shf
  rw [lookup_putF, if_neg (by decide +kernel), lookup_putF, if_neg (by decide +kernel), lookup_putF, if_pos rfl]
theorem shf_wants {p : Int} {t h w : V} {n : Nat} : (shf p t h w n).lookup ("wants" : Str) = some w := by
  unfold shf
  rw [lookup_putF, if_neg (by decide +kernel), lookup_putF, if_pos rfl]
theorem shf_numbers {p : Int} {t h w : V} {n : Nat} : (shf p t h w n).lookup ("numbers" : Str) = some (.int (n : Nat)) := by
  unfold shf
  rw [lookup_putF, if_pos rfl]
/-- a sheet at v -/
def SheetAt (K : PySem.W.Frag) (C CT : Addr) (H : Hp) (v : V) (S : Spc) : Prop := ∃ (a dx : Addr) (t h w : V), v = .ref a ∧ H a = some (.ins C dx (shf S.p t h w S.hs.sum)) ∧ TreeAt K CT H t S.posts S.ts ∧ Dp K H h (row (nz S.hs)) ∧ Dp K H w (wantsT S.ws)
theorem SheetAt.ex {C CT : Addr} {H H' : Hp} {v : V} {S : Spc} (h : SheetAt K C CT H v S) (e : Ex H H') : SheetAt K C CT H' v S := by
  obtain ⟨a, dx, t, h, w, rfl, h1, h2, h3, h4⟩ := h
  exact ⟨a, dx, t, h, w, rfl, e _ _ h1, h2.ex e, e.dp h3, e.dp h4⟩
/-! all of some bools -/
theorem w_all {H : Hp} {Q : VK} {Dl : Addr} {ws : List V} {n : Nat} {f : Nat → Bool} (hw : H Dl = some (.lst ws)) (hd : DpAll K H ws (made n (fun _ => true) fun i => .bool (f i))) (hf : ∀ i, i < n → f i = true) (q : Q (.bl true) H) : rAll K [.ref Dl] H Q := by
  rw [made_all] at hd
  have e2 : (List.range n).map (fun i => PyData.bool (f i)) = ((List.range n).map f).map PyData.bool := by rw [List.map_map]; rfl
  rw [e2] at hd
  have e3 := dpa_bools_inv hd
  subst e3
  refine ⟨Dl, _, rfl, sqL hw, ?_⟩
  have e4 : ((List.range n).map f).all id = true := by
    rw [List.all_eq_true]
    intro b hb
    obtain ⟨i, hi, rfl⟩ := List.mem_map.mp hb
    exact hf i (List.mem_range.mp hi)
  rw [e4]
  exact q
/-! are_holds(posts, thing), what is right -/
def sp_are_holds (K : PySem.W.Frag) : Sp := fun vs H Q _ => ∃ (posts : Nat) (v : V) (hs : List Nat), vs = [.int (posts : Nat), v] ∧ Dp K H v (row (nz hs)) ∧ hs.length = posts ∧ posts ≤ 100 ∧ (∀ x ∈ hs, x ≤ 8) ∧ hs.sum ≤ 60 ∧ ∀ H', Ex H H' → Q (.bl true) H'
theorem ok_are_holds {f : Addr} {fd : FuncData} (F : C8.Def K mg "are_holds" s_are_holds f fd) (b : Binds K fd ["posts", "thing"] []) (T : Txt mg)
    (c_is_within : C8.Cal P w K mg base 2 "is_within" (sp_is_within K) []) : C8.Cal P w K mg base 3 "are_holds" (sp_are_holds K) [] := by
  refine C8.cal0 F b .nil sc_are_holds (fun vs H Q E h => ?_) (fun cdv A outer s H vs Q E hr h => ?_)
  · obtain ⟨posts, v, hs, rfl, _⟩ := h
    rfl
  · obtain ⟨posts, v, hs, rfl, hd, hl, hp, h8, h60, q⟩ := h
    refine ⟨_, (pss_cons (ps_if (PW.pt (pw_or (pt_not (pt_val (pe_callB (TH.kcall_isi (K := K)) (by rfl) T.b_isinstance (by decide +kernel) (pa_cons (pv 1) (pa_cons (pe_bltn (v := .ty "tuple") (by rfl) T.b_tuple (by decide +kernel) rfl) pa_nil))))) (pw_or1 (pt_cmpR op_ne (pe_callB (TH.kcall_len (K := K)) (by rfl) T.b_len (by decide +kernel) (pa_cons (pv 1) pa_nil)) (pv 0) (nomark _))))) (pss_one (ps_ret pe_bl)) pss_nil)
      (pss_one (ps_ret (pe_and (pe_callB (TH.kcr_all (K := K) rfl) (by rfl) T.b_all (by decide +kernel) (pa_cons (pe_lc (own := [("many", 2)]) (g := gName 2) (tt := tYes) rfl sc_are_holds.nd (TH.kpi_tup (K := K) (pv 1)) (blkOk_by (own := [("many", 2)]) (N := N_are_holds) (sc := C8.fnScope s_are_holds) (by decide +kernel)) (fun _ _ _ _ _ => (pg_name (i := 2) sc_are_holds.nd rfl (Or.inl rfl) (Or.inr rfl))) (fun _ _ _ _ _ => pts_nil) (fun _ _ _ _ _ => (C8.pe_c c_is_within hr (by first | decide | exact Nat.le_refl _) (by rfl) (pa_cons (pv 2) (pa_cons pe_int (pa_cons (C8.pe_gc (by rfl) T.g_MOST_AT) pa_nil)))))) pa_nil)) (pe_one (pe_cmpR op_le (pe_callB (TH.kcr_sumT (K := K) rfl) (by rfl) T.b_sum (by decide +kernel) (pa_cons (pv 1) pa_nil)) (C8.pe_gc (by rfl) T.g_MOST_NUMBERS) (nomark _))))))), ?_⟩
    refine w_start (σ' := [some (.int posts), some v, none]) rfl ?_
    walk_at "rd"
    refine w_isTup hd ?_
    have e0 : isTup (row (nz hs)) = true := rfl
    rw [e0]
    obtain ⟨a, rfl, ha⟩ := dp_row hd
    walk_at "rd"
    refine ⟨a, _, rfl, .inr ha, ?_⟩
    walk_at "rd"
    have e1 : ((((nz hs).map V.int).length : Nat) : Int) = (posts : Nat) := by rw [List.length_map, nz_len, hl]
    rw [e1, decide_eq_true rfl]
    walk_at "rd"
    refine ⟨a, rfl, ⟨_, ha⟩, fun Dl hD => ?_⟩
    refine lc_data (K := K) walk_tup (fun _ => true) (fun i => .bool true) (fun _ => rfl) (fun H' e => e.t ha) hD (by rw [List.length_map, nz_len]; omega) (fun i x H' H'' hi e y R R0 k _ => ?_) (fun H1 ws e1 hws hda => ?_)
    · obtain ⟨rfl, hx⟩ := y
      obtain ⟨z, hz, rfl⟩ := ints_at hx
      obtain ⟨n, hn, rfl⟩ := List.mem_map.mp (List.mem_of_getElem? hz)
      have := h8 n hn
      walk_at "rd"
      refine ⟨rfl, ?_⟩
      walk_at "rd"
      refine ⟨_, _, _, _, rfl, .int _, ?_⟩
      rw [inR_int, decide_eq_true (by omega), decide_eq_true (by omega)]
      exact k rfl _ _ (Ex.refl _) (.bl true)
    · walk_at "rd"
      refine w_all hws hda (fun _ _ => rfl) ?_
      walk_at "rd"
      refine w_sumT (e1.t ha) ?_
      walk_at "rd"
      rw [nz_sum, decide_eq_true (by omega)]
      exact q H1 e1
/-! are_lists(posts, thing), what is right -/
def sp_are_lists (K : PySem.W.Frag) : Sp := fun vs H Q _ => ∃ (posts : Nat) (v : V) (ws : List (List (List Int))), vs = [.int (posts : Nat), v] ∧ Dp K H v (wantsT ws) ∧ ws.length = posts ∧ posts ≤ 100 ∧ (∀ x ∈ ws, x.length ≤ 8) ∧ ∀ H', Ex H H' → Q (.bl true) H'
theorem dpa_wants {H : Hp} {vs : List V} {ws : List (List (List Int))} {i : Nat} {v : V} (h : DpAll K H vs (ws.map rowsT)) (hv : vs[i]? = some v) : ∃ (rs : List (List Int)) (a : Addr) (us : List V), ws[i]? = some rs ∧ v = .ref a ∧ SqT K H a us ∧ DpAll K H us (rs.map row) := by
  obtain ⟨d, h1, h2⟩ := dpa_get h hv
  rw [List.getElem?_map] at h1
  cases e : ws[i]? with
  | none => rw [e] at h1; cases h1
  | some r =>
    rw [e] at h1
    cases h1
    obtain ⟨a, us, g1, g2, g3⟩ := dp_tup h2
    exact ⟨r, a, us, rfl, g1, g2, g3⟩
theorem ok_are_lists {f : Addr} {fd : FuncData} (F : C8.Def K mg "are_lists" s_are_lists f fd) (b : Binds K fd ["posts", "thing"] []) (T : Txt mg) : C8.Cal P w K mg base 1 "are_lists" (sp_are_lists K) [] := by
  refine C8.cal0 F b .nil sc_are_lists (fun vs H Q E h => ?_) (fun cdv A outer s H vs Q E hr h => ?_)
  · obtain ⟨posts, v, ws, rfl, _⟩ := h
    rfl
  · obtain ⟨posts, v, ws, rfl, hd, hl, hp, h8, q⟩ := h
    refine ⟨_, (pss_cons (ps_if (PW.pt (pw_or (pt_not (pt_val (pe_callB (TH.kcall_isi (K := K)) (by rfl) T.b_isinstance (by decide +kernel) (pa_cons (pv 1) (pa_cons (pe_bltn (v := .ty "tuple") (by rfl) T.b_tuple (by decide +kernel) rfl) pa_nil))))) (pw_or1 (pt_cmpR op_ne (pe_callB (TH.kcall_len (K := K)) (by rfl) T.b_len (by decide +kernel) (pa_cons (pv 1) pa_nil)) (pv 0) (nomark _))))) (pss_one (ps_ret pe_bl)) pss_nil)
      (pss_one (ps_ret (pe_callB (TH.kcr_all (K := K) rfl) (by rfl) T.b_all (by decide +kernel) (pa_cons (pe_lc (own := [("some", 2)]) (g := gName 2) (tt := tYes) rfl sc_are_lists.nd (TH.kpi_tup (K := K) (pv 1)) (blkOk_by (own := [("some", 2)]) (N := N_are_lists) (sc := C8.fnScope s_are_lists) (by decide +kernel)) (fun _ _ _ _ _ => (pg_name (i := 2) sc_are_lists.nd rfl (Or.inl rfl) (Or.inr rfl))) (fun _ _ _ _ _ => pts_nil) (fun _ _ _ _ _ => (pe_and (pe_callB (TH.kcall_isi (K := K)) (by rfl) T.b_isinstance (by decide +kernel) (pa_cons (pv 2) (pa_cons (pe_bltn (v := .ty "tuple") (by rfl) T.b_tuple (by decide +kernel) rfl) pa_nil))) (pe_one (pe_cmpR op_le (pe_callB (TH.kcall_len (K := K)) (by rfl) T.b_len (by decide +kernel) (pa_cons (pv 2) pa_nil)) (C8.pe_gc (by rfl) T.g_MOST_AT) (nomark _)))))) pa_nil))))), ?_⟩
    refine w_start (σ' := [some (.int posts), some v, none]) rfl ?_
    walk_at "rd"
    refine w_isTup hd ?_
    have e0 : isTup (wantsT ws) = true := rfl
    rw [e0]
    obtain ⟨a, us, rfl, ha, hus⟩ := dp_tup hd
    have hul : us.length = ws.length := by rw [dpa_len hus, List.length_map]
    walk_at "rd"
    refine ⟨a, _, rfl, .inr ha, ?_⟩
    walk_at "rd"
    have e1 : ((us.length : Nat) : Int) = (posts : Nat) := by omega
    rw [e1, decide_eq_true rfl]
    walk_at "rd"
    refine ⟨a, rfl, ⟨_, ha⟩, fun Dl hD => ?_⟩
    refine lc_data (K := K) walk_tup (fun _ => true) (fun i => .bool true) (fun _ => rfl) (fun H' e => e.t ha) hD (by omega) (fun i x H' H'' hi e y R R0 k _ => ?_) (fun H1 ws e1 hws hda => ?_)
    · obtain ⟨rfl, hx⟩ := y
      obtain ⟨rs, b, vs, g1, rfl, g2, g3⟩ := dpa_wants (e.dpa hus) hx
      have := h8 rs (List.mem_of_getElem? g1)
      walk_at "rd"
      refine ⟨rfl, ?_⟩
      walk_at "rd"
      refine w_isTup (.tup g2 g3) ?_
      walk_at "rd"
      refine ⟨b, _, rfl, .inr g2, ?_⟩
      walk_at "rd"
      rw [decide_eq_true (by rw [dpa_len g3, List.length_map]; omega)]
      exact k rfl _ _ (Ex.refl _) (.bl true)
    · walk_at "rd"
      exact w_all hws hda (fun _ _ => rfl) (q H1 e1)
/-! first_no_row(p, numbers, wants), what is right -/
def sp_first_no_row (K : PySem.W.Frag) : Sp := fun vs H Q _ => ∃ (p : Int) (n : Nat) (v : V) (ws : List (List (List Int))), vs = [.int p, .int (n : Nat), v] ∧ Dp K H v (wantsT ws) ∧ n ≤ 1000 ∧ (∀ rs ∈ ws, ∀ r ∈ rs, Rin p n r) ∧ ∀ H', Ex H H' → Q .non H'
theorem ok_first_no_row {f : Addr} {fd : FuncData} (F : C8.Def K mg "first_no_row" s_first_no_row f fd) (b : Binds K fd ["p", "numbers", "wants"] []) (T : Txt mg)
    (c_is_row : C8.Cal P w K mg base 3 "is_row" (sp_is_row K) []) : C8.Cal P w K mg base 4 "first_no_row" (sp_first_no_row K) [] := by
  refine C8.cal0 F b .nil sc_first_no_row (fun vs H Q E h => ?_) (fun cdv A outer s H vs Q E hr h => ?_)
  · obtain ⟨p, n, v, ws, rfl, _⟩ := h
    rfl
  · obtain ⟨p, n, v, ws, rfl, hd, hn, hin, q⟩ := h
    obtain ⟨a, us, rfl, ha, hus⟩ := dp_tup hd
    have hul : us.length = ws.length := by rw [dpa_len hus, List.length_map]
    refine ⟨_, (pss_cons (ps_for PassesOwn.never rfl (TH.kpi_enum (K := K) (by rfl) T.b_enumerate (pa_cons (pv 2) pa_nil)) (TH.kpg_tup (K := K) (n := 2) rfl (pgs_cons (pg_name (i := 3) sc_first_no_row.nd rfl (Or.inl rfl) (Or.inr rfl)) (pgs_cons (pg_name (i := 4) sc_first_no_row.nd rfl (Or.inl rfl) (Or.inr rfl)) pgs_nil))) (pss_one (ps_for PassesOwn.never rfl (TH.kpi_enum (K := K) (by rfl) T.b_enumerate (pa_cons (pv 4) pa_nil)) (TH.kpg_tup (K := K) (n := 2) rfl (pgs_cons (pg_name (i := 5) sc_first_no_row.nd rfl (Or.inl rfl) (Or.inr rfl)) (pgs_cons (pg_name (i := 6) sc_first_no_row.nd rfl (Or.inl rfl) (Or.inr rfl)) pgs_nil))) (pss_one (ps_if (pt_not (pt_val (C8.pe_c c_is_row hr (by first | decide | exact Nat.le_refl _) (by rfl) (pa_cons (pv 0) (pa_cons (pv 1) (pa_cons (pv 6) pa_nil)))))) (pss_one (ps_ret (pe_tup (pa_cons (pv 3) (pa_cons (pv 5) pa_nil))))) pss_nil)))))
      (pss_one (ps_ret pe_non))), ?_⟩
    refine w_start (σ' := [some (.int p), some (.int n), some (.ref a), none, none, none, none]) rfl ?_
    walk_at "rd"
    refine ⟨a, us, rfl, .inr ⟨ha, ?_⟩⟩
    refine for_go walk_enumT (fun i σ H2 => Ex H H2 ∧ ∃ y3 y4 y5 y6, σ = [some (.int p), some (.int n), some (.ref a), y3, y4, y5, y6]) ⟨Ex.refl _, _, _, _, _, rfl⟩ (fun i σ H2 _ p => p.1.t ha) (fun i x σ H2 H3 hi p y => ?_) (fun σ H2 p => ?_)
    · obtain ⟨e, y3, y4, y5, y6, rfl⟩ := p
      obtain ⟨tp, x1, x2, rfl, htp, rfl, k1, k2⟩ := y
      cases k1
      have e3 : Ex H (upd H2 tp (.tup [.int (i : Nat), x2])) := e.trans (Ex.new htp)
      have u3 : upd H2 tp (.tup [.int (i : Nat), x2]) tp = some (.tup [.int (i : Nat), x2]) := upd_same
      generalize upd H2 tp (.tup [.int (i : Nat), x2]) = H3 at e3 u3 ⊢
      refine w_gtup2 u3 ?_
      walk_at "rd"
      obtain ⟨rs, b, vs, g1, rfl, g2, g3⟩ := dpa_wants (e3.dpa hus) k2
      have hrs := hin rs (List.mem_of_getElem? g1)
      refine ⟨b, vs, rfl, .inr ⟨g2, ?_⟩⟩
      refine for_go walk_enumT (fun j σ H4 => Ex H H4 ∧ Ex H3 H4 ∧ ∃ y5 y6, σ = [some (.int p), some (.int n), some (.ref a), some (.int i), some (.ref b), y5, y6]) ⟨e3, Ex.refl _, _, _, rfl⟩ (fun j σ H4 _ p => p.2.1.t g2) (fun j x σ H4 H5 hj p y => ?_) (fun σ H4 p => ?_)
      · obtain ⟨e4, e34, y5, y6, rfl⟩ := p
        obtain ⟨tp', x1, x2, rfl, htp', rfl, k3, k4⟩ := y
        cases k3
        have e5 : Ex H4 (upd H4 tp' (.tup [.int (j : Nat), x2])) := Ex.new htp'
        have u5 : upd H4 tp' (.tup [.int (j : Nat), x2]) tp' = some (.tup [.int (j : Nat), x2]) := upd_same
        generalize upd H4 tp' (.tup [.int (j : Nat), x2]) = H5 at e5 u5 ⊢
        refine w_gtup2 u5 ?_
        walk_at "rd"
        obtain ⟨r, g4, g5⟩ := rowsAt_get ((e34.trans e5).dpa g3) k4
        have hr := hrs r (List.mem_of_getElem? g4)
        refine ⟨p, n, x2, _, rfl, g5, fun ds hds => ?_, fun H6 e6 => ?_⟩
        · cases hds
          rw [List.length_map, hr.1]
          omega
        · rw [isRowD_row hr]
          walk_at "rd"
          exact ⟨e4.trans (e5.trans e6), e34.trans (e5.trans e6), _, _, rfl⟩
      · obtain ⟨e4, e34, y5, y6, rfl⟩ := p
        exact ⟨e4, _, _, _, _, rfl⟩
    · obtain ⟨e, y3, y4, y5, y6, rfl⟩ := p
      walk_at "rd"
      exact q H2 e
end TK

namespace TK
open PySem PySem.Spec PyProof.Rows L2 TH
local macro_rules | `(tactic| walk_at "rd1") => `(tactic| first
  | (with_reducible refine TH.w_seq ?_)
  | (with_reducible refine TH.w_asg ?_)
  | (with_reducible refine TH.w_ret ?_)
  | (with_reducible refine TH.w_drop ?_)
  | (with_reducible refine TH.w_ifS ?_)
  | (with_reducible refine TH.w_next ?_)
  | ((with_reducible refine TH.w_var (v := ?vv) ?hv ?_); (case hv => rfl))
  | (with_reducible refine TH.w_c ?_)
  | ((with_reducible refine TH.w_gname (σ' := ?ss) ?hs ?_); (case hs => (dsimp only [List.set]; rfl)))
  | (with_reducible refine TH.w_op ?_)
  | (with_reducible refine TH.w_un ?_)
  | (with_reducible refine TH.w_chain ?_)
  | (with_reducible refine TH.w_I0 ?_)
  | ((with_reducible refine TH.w_I ?hm ?_); (case hm => first | (exact TH.CMul.l (by omega) (by omega)) | (exact TH.CMul.r (by omega) (by omega)) | (exact TH.CDiv.mk (by omega) (by omega)) | (show (0 : Int) < _; omega) | (exact TH.CPow.mk (by omega) (by omega) (by decide))))
  | (with_reducible refine TH.w_U ?_)
  | (with_reducible refine TH.w_eqI ?_)
  | (with_reducible refine TH.w_neI ?_)
  | (with_reducible refine TH.w_eqB ?_)
  | (with_reducible refine TH.w_isN ?_)
  | (with_reducible refine TH.w_nil ?_)
  | (with_reducible refine TH.w_cons ?_)
  | (with_reducible refine TH.w_test ?_)
  | (with_reducible refine TH.w_B ?_)
  | (with_reducible refine TH.w_bl ?_)
  | (with_reducible refine TH.w_and ?_)
  | (with_reducible refine TH.w_or ?_)
  | (with_reducible refine TH.w_not ?_)
  | (with_reducible refine TH.w_andV ?_)
  | (with_reducible refine TH.w_orV ?_)
  | (with_reducible refine TH.w_notV ?_)
  | (with_reducible refine TH.w_if ?_)
  | (with_reducible refine TH.w_parT ?_)
  | (with_reducible refine TH.w_par ?_)
  | (with_reducible refine TH.w_parT3 ?_)
  | (with_reducible refine TH.w_par3 ?_)
  | (with_reducible refine TH.w_cb ?_)
  | (with_reducible refine TH.w_call ?_)
  | ((with_reducible refine TH.w_aug (v := ?vv) ?hv ?_); (case hv => rfl))
  | (with_reducible refine TH.w_ip ?_)
  | (with_reducible refine TH.w_bm ?_)
  | (with_reducible refine TH.w_sl ?_)
  | (with_reducible refine TH.w_np ?_)
  | (with_reducible refine TH.w_pt ?_)
  | (with_reducible refine TH.w_pti ?_)
  | (with_reducible refine TH.w_gsub ?_)
  | (with_reducible refine TH.w_int ?_)
  | (with_reducible refine TH.w_tupT ?_)
  | (with_reducible refine TH.w_lstT ?_)
  | ((with_reducible show L2.rIxL _ _ _ _ _); (first | (refine TH.w_ixL (TH.sqL upd_same) rfl ?_) | (refine TH.w_ixL (TH.sqL (by assumption)) rfl ?_)))
  | ((with_reducible show L2.rSetL _ _ _ _ _); (first | (refine TH.w_set1 upd_same ?_) | (refine TH.w_set2 upd_same ?_) | (refine TH.w_set3 upd_same ?_) | (refine TH.w_set4 upd_same ?_) | (refine TH.w_set1 (by assumption) ?_) | (refine TH.w_set2 (by assumption) ?_) | (refine TH.w_set3 (by assumption) ?_) | (refine TH.w_set4 (by assumption) ?_)))
  | (with_reducible refine TH.w_lc ?_)
  | (with_reducible refine TH.w_dc ?_)
  | (with_reducible refine TH.w_itup ?_)
  | (with_reducible refine TH.w_ilist ?_)
  | (with_reducible refine TH.w_ienum ?_)
  | (with_reducible refine TH.w_izip ?_)
  | (with_reducible refine TH.w_irng1 ?_)
  | (with_reducible refine TH.w_irng2 ?_)
  | (with_reducible refine TH.w_for ?_)
  | (with_reducible refine TH.w_gcons ?_)
  | (with_reducible refine TH.w_gnil ?_)
  | (with_reducible refine TH.w_yes ?_)
  | (with_reducible refine TH.w_gtup2 upd_same ?_)
  | (with_reducible refine TH.w_gtup3 upd_same ?_)
  | (with_reducible refine TH.w_dput ?_)
  | (with_reducible refine TH.w_bm0 ?_)
  | (with_reducible refine TH.w_din ?_)
  | (with_reducible refine TH.w_dnotin ?_)
  | (with_reducible refine TH.w_dispK ?_)
  | (with_reducible refine TH.w_lock ?_)
  | (with_reducible refine TH.w_ikeys ?_)
  | (with_reducible refine TH.w_iitems ?_)
  | (with_reducible refine TH.w_dispT1 ?_)
  | (with_reducible refine TH.w_dnewT ?_)
  | (with_reducible refine TH.w_dnewK ?_)
  | (with_reducible refine TH.w_fld ?_)
  | (with_reducible refine TH.w_sfld ?_)
  | (with_reducible refine TH.w_meth ?_)
  | (with_reducible refine TH.w_make ?_)
  | (with_reducible refine TH.w_dget2 ?_)
  | (with_reducible refine TH.w_revL ?_)
  | (with_reducible refine TH.w_revT ?_)
  | (with_reducible refine TH.w_lstRg ?_)
  | (with_reducible refine TH.w_tupRg ?_)
  | (with_reducible refine TH.w_rg1 ?_)
  | (with_reducible refine TH.w_rg2 ?_)
  | (with_reducible refine TH.w_T ?_)
  | (with_reducible refine TH.w_F ?_))
local macro_rules | `(tactic| walk_at "rd") => `(tactic| repeat (first | walk_at "rd1" | (dsimp only [List.set, L2.wipe, List.map, TH.isInt, TH.isBool, TH.isTup, TH.isLst, TH.bo_f, TH.bo_t, TH.ba_f, TH.ba_t, TH.bn_t, TH.bn_f, List.append_nil, List.cons_append, List.nil_append])))

variable {P : Program} {w : World} {K : PySem.W.Frag} {mg : Str → Option Value} {base : Heap}
/-! an object of an own class -/
structure IsC (K : PySem.W.Frag) (C : Addr) : Prop where
  cl : Cls K C
  ha : PySem.W.findIn K (.ref C) "__class__" = some (some (.builtin "object.__class__"))
  hn : PySem.W.specialIn K (.builtin "object.__class__") "__get__" = some (some (.builtin "getset_descriptor.__get__"))
  htk : PySem.W.takesIn K (.builtin "object.__class__") = some true
  hm : PySem.W.mroIn K C (.type "object") = some true
theorem w_isOwn {H : Hp} {Q : VK} {a C dx : Addr} {fs : List (Str × V)} (I : IsC K C) (h : H a = some (.ins C dx fs)) (q : Q (.bl true) H) : rIsi K [.ref a, .ref C] H Q := by
  refine ⟨.ref a, .ref C, .ref C, .ref C, true, rfl, .own C, .base (.ins h I.cl I.ha I.hn I.htk I.hm), ?_, q⟩
  unfold PySem.W.kitOne
  rw [if_pos (by simp)]
/-! parts of rows -/
theorem w_cutT {H : Hp} {Q : VK} {a : Addr} {xs : List V} {k : Nat} (h : SqT K H a xs) (hk : k ≤ xs.length) (q : ∀ b H', Ex H H' → SqT K H' b (xs.take k) → Q (.ref b) H') : rSlA K (.ref a) none (some (k : Int)) H Q := by
  refine ⟨a, xs, rfl, h, fun hw => ?_, fun hw p hp => ?_⟩
  · rw [HT.sIx_nat] at hw
    have e : k = xs.length := by omega
    refine q a H (Ex.refl _) ?_
    rw [e, List.take_length]
    exact h
  · have e : cutV xs none (some (k : Int)) = xs.take k := by
      unfold cutV
      rw [HT.sIx_nat, HT.sIx_none, List.drop_zero]
      have : min k xs.length - 0 = k := by omega
      rw [this]
    rw [e]
    exact q p _ (Ex.new hp) (sqT upd_same)
theorem w_catRow {H : Hp} {Q : VK} {v u : V} {ns ms : List Int} (hv : Dp K H v (row ns)) (hu : Dp K H u (row ms)) (hz : ns.length + ms.length ≤ 1000000) (q : ∀ r H', Ex H H' → Dp K H' r (row (ns ++ ms)) → Q r H') : rCatA K v u H Q := by
  obtain ⟨a, rfl, ha⟩ := dp_row hv
  obtain ⟨b, rfl, hb⟩ := dp_row hu
  refine ⟨a, b, _, _, rfl, rfl, ha, hb, by rw [List.length_map, List.length_map]; exact small2 hz, fun h => ?_, fun h1 h2 => ?_, fun h1 h2 p hp => ?_⟩
  · have : ns = [] := by simpa using h
    subst this
    exact q _ H (Ex.refl _) hu
  · have : ms = [] := by simpa using h2
    subst this
    rw [List.append_nil] at q
    exact q _ H (Ex.refl _) hv
  · refine q _ _ (Ex.new hp) (dp_row_of ?_)
    rw [List.map_append]
    exact sqT upd_same
theorem put_len {f : Str} {v : V} {fs : List (Str × V)} {n : Nat} (h : fs.length ≤ n) : (putF f v fs).length ≤ n + 1 := Nat.le_trans (length_putF _ _ _) (Nat.add_le_add_right h 1)
theorem nil_len : ([] : List (Str × V)).length ≤ 0 := Nat.le_refl _
/-! Sheet.__init__ -/
def sp_sheet_init (K : PySem.W.Frag) (C CT : Addr) : Sp := fun vs H Q _ => ∃ (s dx : Addr) (t h w : V) (S : Spc), vs = [.ref s, .int S.p, t, h, w] ∧ H s = some (.ins C dx []) ∧ TreeAt K CT H t S.posts S.ts ∧ Dp K H h (row (nz S.hs)) ∧ Dp K H w (wantsT S.ws) ∧ SpcOk S ∧
  ∀ H', (∀ a, a ≠ s → ∀ o, H a = some o → H' a = some o) → H' s = some (.ins C dx (shf S.p t h w S.hs.sum)) → TreeAt K CT H' t S.posts S.ts → Dp K H' h (row (nz S.hs)) → Dp K H' w (wantsT S.ws) → Q .non H'
theorem ok_sheet_init {C CT f : Addr} {fd : FuncData} (M : Mk K C f) (hm : mg "Sheet" = some (.ref C)) (F : C8.Fun K "__init__" "Sheet.__init__" s_Sheet_init f fd) (b : Binds K fd ["self", "p", "tree", "holds", "wants"] []) (T : Txt mg) (SC : ShC K C) (TC : TrC K CT) (IC : IsC K CT) (g_Tree : ∃ u, mg "Tree" = some u ∧ RelV (.ref CT) u)
    (c_is_clock : C8.Cal P w K mg base 3 "is_clock" (sp_is_clock K) []) (c_are_holds : C8.Cal P w K mg base 3 "are_holds" (sp_are_holds K) []) (c_are_lists : C8.Cal P w K mg base 1 "are_lists" (sp_are_lists K) [])
    (c_first_no_row : C8.Cal P w K mg base 4 "first_no_row" (sp_first_no_row K) []) : C8.Mak P w K mg base 5 "Sheet" C (sp_sheet_init K C CT) [] := by
  refine C8.mak0 M hm F b .nil sc_Sheet_init (fun vs H Q E h => ?_) (fun cdv A outer s H vs Q E hr h => ?_)
  · obtain ⟨s, dx, t, h, w, S, rfl, _⟩ := h
    rfl
  · obtain ⟨s, dx, t, h, w, S, rfl, hs, ⟨ta, tdx, tt, rfl, hta, htt⟩, hh, hw, ok, q⟩ := h
    have o1 := ok.tree.1.few
    have o2 := ok.h60
    refine ⟨_, (pss_cons (ps_if (pt_not (pt_val (C8.pe_c c_is_clock hr (by first | decide | exact Nat.le_refl _) (by rfl) (pa_cons (pv 1) pa_nil)))) (pss_one ps_never) pss_nil)
      (pss_cons (ps_if (pt_not (pt_val (pe_callB (TH.kcall_isi (K := K)) (by rfl) T.b_isinstance (by decide +kernel) (pa_cons (pv 2) (pa_cons (C8.pe_gc (by rfl) g_Tree) pa_nil))))) (pss_one ps_never) pss_nil)
      (pss_cons (ps_if (pt_not (pt_val (C8.pe_c c_are_holds hr (by first | decide | exact Nat.le_refl _) (by rfl) (pa_cons (TH.kpe_fld (K := K) (pv 2) rfl) (pa_cons (pv 3) pa_nil))))) (pss_one ps_never) pss_nil)
      (pss_cons (ps_if (pt_not (pt_val (C8.pe_c c_are_lists hr (by first | decide | exact Nat.le_refl _) (by rfl) (pa_cons (TH.kpe_fld (K := K) (pv 2) rfl) (pa_cons (pv 4) pa_nil))))) (pss_one ps_never) pss_nil)
      (pss_cons (ps_set (i := 5) sc_Sheet_init.nd rfl (Or.inl rfl) (C8.pe_c c_first_no_row hr (by first | decide | exact Nat.le_refl _) (by rfl) (pa_cons (pv 1) (pa_cons (pe_callB (TH.kcr_sumT (K := K) rfl) (by rfl) T.b_sum (by decide +kernel) (pa_cons (pv 3) pa_nil)) (pa_cons (pv 4) pa_nil)))))
      (pss_cons (ps_if (pt_cmpR op_notN (pv 5) pe_non (nomark _)) (pss_one ps_never) pss_nil)
      (pss_cons (ps_if (pt_cmpR op_gt (pe_callB (TH.kcr_sum (K := K) rfl) (by rfl) T.b_sum (by decide +kernel) (pa_cons (pe_lc (own := [("some", 6)]) (g := gName 6) (tt := tYes) rfl sc_Sheet_init.nd (TH.kpi_tup (K := K) (pv 4)) (blkOk_by (own := [("some", 6)]) (N := N_Sheet_init) (sc := C8.fnScope s_Sheet_init) (by decide +kernel)) (fun _ _ _ _ _ => (pg_name (i := 6) sc_Sheet_init.nd rfl (Or.inl rfl) (Or.inr rfl))) (fun _ _ _ _ _ => pts_nil) (fun _ _ _ _ _ => (pe_callB (TH.kcall_len (K := K)) (by rfl) T.b_len (by decide +kernel) (pa_cons (pv 6) pa_nil)))) pa_nil)) (C8.pe_gc (by rfl) T.g_MOST_NUMBERS) (nomark _)) (pss_one ps_never) pss_nil)
      (pss_cons (ps_fld (pv 0) (pv 1) rfl)
      (pss_cons (ps_fld (pv 0) (pv 2) rfl)
      (pss_cons (ps_fld (pv 0) (pv 3) rfl)
      (pss_cons (ps_fld (pv 0) (pv 4) rfl)
      (pss_one (ps_fld (pv 0) (pe_callB (TH.kcr_sumT (K := K) rfl) (by rfl) T.b_sum (by decide +kernel) (pa_cons (pv 3) pa_nil)) rfl))))))))))))), ?_⟩
    refine w_start (σ' := [some (.ref s), some (.int S.p), some (.ref ta), some h, some w, none, none]) rfl ?_
    walk_at "rd"
    refine ⟨_, _, rfl, .int _, ?_⟩
    rw [ok.clk]
    walk_at "rd"
    refine w_isOwn IC hta ?_
    walk_at "rd"
    refine ⟨ta, CT, tdx, _, _, rfl, hta, TC.cl, TC.nP, tf_posts, ?_⟩
    walk_at "rd"
    refine ⟨S.posts, h, S.hs, rfl, hh, ok.hl, by omega, ok.h8, ok.h60, fun H1 e1 => ?_⟩
    walk_at "rd"
    refine ⟨ta, CT, tdx, _, _, rfl, e1 _ _ hta, TC.cl, TC.nP, tf_posts, ?_⟩
    walk_at "rd"
    refine ⟨S.posts, w, S.ws, rfl, e1.dp hw, ok.wl, by omega, ok.w8, fun H2 e2 => ?_⟩
    have e12 := e1.trans e2
    walk_at "rd"
    obtain ⟨ha, rfl, hha⟩ := dp_row hh
    refine w_sumT (e12.t hha) ?_
    walk_at "rd"
    rw [nz_sum]
    refine ⟨S.p, S.hs.sum, w, S.ws, rfl, e12.dp hw, by omega, ok.rin, fun H3 e3 => ?_⟩
    have e13 := e12.trans e3
    walk_at "rd"
    obtain ⟨wa, us, rfl, hwa, hus⟩ := dp_tup hw
    have hul : us.length = S.ws.length := by rw [dpa_len hus, List.length_map]
    have hwl := ok.wl
    rw [decide_eq_true (show V.non = V.non from rfl)]
    walk_at "rd"
    refine ⟨wa, rfl, ⟨_, e13.t hwa⟩, fun Dl hD => ?_⟩
    refine lc_data (K := K) walk_tup (fun _ => true) (fun i => .int ((S.ws.getD i []).length : Nat)) (fun _ => rfl) (fun H' e => e.t (e13.t hwa)) hD (by omega) (fun i x H' H'' hi e y R R0 k _ => ?_) (fun H4 ws e4 hws hda => ?_)
    · obtain ⟨rfl, hx⟩ := y
      obtain ⟨rs, b, vs, g1, rfl, g2, g3⟩ := dpa_wants ((e13.trans e).dpa hus) hx
      walk_at "rd"
      refine ⟨rfl, ?_⟩
      walk_at "rd"
      refine ⟨b, _, rfl, .inr g2, ?_⟩
      refine k rfl _ _ (Ex.refl _) ?_
      rw [getD_of g1, dpa_len g3, List.length_map]
      exact .int _
    · walk_at "rd"
      rw [made_all, hul, range_map [] (fun r : List (List Int) => PyData.int (r.length : Nat))] at hda
      have e5 : S.ws.map (fun r : List (List Int) => PyData.int (r.length : Nat)) = (nz (S.ws.map List.length)).map PyData.int := by
        unfold nz
        rw [List.map_map, List.map_map]
        rfl
      rw [e5] at hda
      have e6 := dpa_ints_inv hda
      subst e6
      refine ⟨Dl, _, rfl, sqL hws, ?_⟩
      have o3 := ok.w60
      walk_at "rd"
      rw [nz_sum, decide_eq_false (show ¬ (((S.ws.map List.length).sum : Nat) : Int) > 60 by omega)]
      walk_at "rd"
      have e14 := e13.trans e4
      refine ⟨s, C, dx, [], rfl, e14 _ _ hs, SC.cl, SC.nP, by decide, ?_⟩
      walk_at "rd"
      refine ⟨s, C, dx, _, rfl, upd_same, SC.cl, SC.nT, Nat.lt_of_le_of_lt (length_putF _ _ _) (by decide), ?_⟩
      walk_at "rd"
      rw [upd_upd]
      refine ⟨s, C, dx, _, rfl, upd_same, SC.cl, SC.nH, Nat.lt_of_le_of_lt (put_len (put_len nil_len)) (by decide), ?_⟩
      walk_at "rd"
      rw [upd_upd]
      refine ⟨s, C, dx, _, rfl, upd_same, SC.cl, SC.nW, Nat.lt_of_le_of_lt (put_len (put_len (put_len nil_len))) (by decide), ?_⟩
      walk_at "rd"
      rw [upd_upd]
      have tx : ∀ o, Tx H4 (upd H4 s o) := fun o => Tx.wr (e14 _ _ hs) (fun _ z => nomatch z) (fun _ _ z => nomatch z)
      refine w_sumT ((tx _).t (e14.t hha)) ?_
      walk_at "rd"
      rw [nz_sum]
      refine ⟨s, C, dx, _, rfl, upd_same, SC.cl, SC.nN, Nat.lt_of_le_of_lt (put_len (put_len (put_len (put_len nil_len)))) (by decide), ?_⟩
      rw [upd_upd]
      have hne : ta ≠ s := fun z => by
        rw [z, hs] at hta
        injection hta with z2
        injection z2 with _ _ z3
        have := tf_posts (t := tt) (n := S.posts)
        rw [← z3] at this
        cases this
      refine q _ (fun a ha o ho => ?_) upd_same ⟨ta, tdx, tt, rfl, ?_, (tx _).dp (by unfold tiesT imm; exact imm_ties _) (e14.dp htt)⟩ ((tx _).dp (imm_row _) (e14.dp hh)) ((tx _).dp (imm_wants _) (e14.dp hw))
      · rw [upd_ne ha]
        exact e14 _ _ ho
      · rw [upd_ne hne]
        exact e14 _ _ hta
/-! held_by(sheet, post), held(sheet, post) -/
def lotZ (hs : List Nat) (y : Nat) : List Int := rgZ ((hs.take y).sum : Nat) ((hs.take (y + 1)).sum : Nat)
theorem take_sum {hs : List Nat} {y h : Nat} (e : hs[y]? = some h) : (hs.take (y + 1)).sum = (hs.take y).sum + h := by
  rw [List.take_add_one, e, List.sum_append]
  simp
theorem take_sum_le : ∀ (hs : List Nat) (k : Nat), (hs.take k).sum ≤ hs.sum
  | [], k => by simp
  | h :: hs, 0 => by simp
  | h :: hs, k + 1 => by
    have := take_sum_le hs k
    simp only [List.take_succ_cons, List.sum_cons]
    omega
def sp_held (K : PySem.W.Frag) (C CT : Addr) : Sp := fun vs H Q _ => ∃ (v : V) (S : Spc) (x : Nat), vs = [v, .int (x : Nat)] ∧ SheetAt K C CT H v S ∧ SpcOk S ∧ x < S.posts ∧ ∀ r H', Ex H H' → Dp K H' r (row (lotZ S.hs x)) → Q r H'
theorem ok_held_by {C CT f : Addr} {fd : FuncData} (F : C8.Def K mg "held_by" s_held_by f fd) (b : Binds K fd ["sheet", "post"] []) (T : Txt mg) (SC : ShC K C) : C8.Cal P w K mg base 1 "held_by" (sp_held K C CT) [] := by
  refine C8.cal0 F b .nil sc_held_by (fun vs H Q E h => ?_) (fun cdv A outer s H vs Q E hr h => ?_)
  · obtain ⟨v, S, x, rfl, _⟩ := h
    rfl
  · obtain ⟨v, S, x, rfl, ⟨a, dx, t, h, w, rfl, ha, htr, hh, hw⟩, ok, hx, q⟩ := h
    obtain ⟨ha', rfl, hha⟩ := dp_row hh
    have o1 := ok.hl
    have o2 := ok.h60
    refine ⟨_, (pss_cons (ps_set (i := 2) sc_held_by.nd rfl (Or.inl rfl) (pe_callB (TH.kcr_sumT (K := K) rfl) (by rfl) T.b_sum (by decide +kernel) (pa_cons (pe_slice (TH.ksl_tup (K := K)) (TH.kpe_fld (K := K) (pv 0) rfl) po_none (po_some (pv 1))) pa_nil)))
      (pss_one (ps_ret (pe_tupRg rfl (by rfl) T.b_tuple (prg_2 (by rfl) T.b_range (pv 2) (pe_op op_add (pv 2) (pe_ix (TH.kix_tup (K := K)) (TH.kpe_fld (K := K) (pv 0) rfl) (pv 1) (fun _ _ => rfl)))))))), ?_⟩
    refine w_start (σ' := [some (.ref a), some (.int x), none]) rfl ?_
    walk_at "rd"
    refine ⟨a, C, dx, _, _, rfl, ha, SC.cl, SC.nH, shf_holds, ?_⟩
    walk_at "rd"
    refine w_cutT hha (by rw [List.length_map, nz_len]; omega) fun c H1 e1 hc => ?_
    rw [← List.map_take, nz_take] at hc
    walk_at "rd"
    refine w_sumT hc ?_
    walk_at "rd"
    rw [nz_sum]
    refine ⟨a, C, dx, _, _, rfl, e1 _ _ ha, SC.cl, SC.nH, shf_holds, ?_⟩
    have g : S.hs[x]? = some (S.hs.getD x 0) := getD_at (by omega)
    walk_at "rd"
    refine w_ixT (e1.t hha) (atI_int (nz_at g)) ?_
    walk_at "rd"
    have e2 := take_sum g
    have e3 := take_sum_le S.hs (x + 1)
    refine ⟨_, _, rfl, rfl, .of_le (by omega) (by omega) (by omega) (by omega), fun p hp => ?_⟩
    rw [rgV_eq]
    refine q _ _ (e1.trans (Ex.new hp)) (dp_row_of (sqT ?_))
    unfold lotZ
    rw [e2, Int.natCast_add]
    exact upd_same
theorem ok_held {C CT f : Addr} {fd : FuncData} (F : C8.Def K mg "held" s_held f fd) (b : Binds K fd ["sheet", "post"] []) (T : Txt mg) (SC : ShC K C)
    (c_check_post : C8.Cal P w K mg base 3 "check_post" (sp_check_post K CT) []) (c_held_by : C8.Cal P w K mg base 1 "held_by" (sp_held K C CT) []) : C8.Cal P w K mg base 4 "held" (sp_held K C CT) [] := by
  refine C8.cal0 F b .nil sc_held (fun vs H Q E h => ?_) (fun cdv A outer s H vs Q E hr h => ?_)
  · obtain ⟨v, S, x, rfl, _⟩ := h
    rfl
  · obtain ⟨v, S, x, rfl, hs, ok, hx, q⟩ := h
    obtain ⟨a, dx, t, h, w, rfl, ha, htr, hh, hw⟩ := id hs
    refine ⟨_, (pss_cons (ps_expr (C8.pe_c c_check_post hr (by first | decide | exact Nat.le_refl _) (by rfl) (pa_cons (TH.kpe_fld (K := K) (pv 0) rfl) (pa_cons (pv 1) pa_nil))))
      (pss_one (ps_ret (C8.pe_c c_held_by hr (by first | decide | exact Nat.le_refl _) (by rfl) (pa_cons (pv 0) (pa_cons (pv 1) pa_nil)))))), ?_⟩
    refine w_start (σ' := [some (.ref a), some (.int x)]) rfl ?_
    walk_at "rd"
    refine ⟨a, C, dx, _, _, rfl, ha, SC.cl, SC.nT, shf_tree, ?_⟩
    walk_at "rd"
    refine ⟨t, S.posts, S.ts, x, rfl, htr, hx, ?_⟩
    walk_at "rd"
    exact ⟨.ref a, S, x, rfl, hs, ok, hx, q⟩
end TK

namespace TK
open PySem PySem.Spec PyProof.Rows L2 TH
local macro_rules | `(tactic| walk_at "rd1") => `(tactic| first
  | (with_reducible refine TH.w_seq ?_)
  | (with_reducible refine TH.w_asg ?_)
  | (with_reducible refine TH.w_ret ?_)
  | (with_reducible refine TH.w_drop ?_)
  | (with_reducible refine TH.w_ifS ?_)
  | (with_reducible refine TH.w_next ?_)
  | ((with_reducible refine TH.w_var (v := ?vv) ?hv ?_); (case hv => rfl))
  | (with_reducible refine TH.w_c ?_)
  | ((with_reducible refine TH.w_gname (σ' := ?ss) ?hs ?_); (case hs => (dsimp only [List.set]; rfl)))
  | (with_reducible refine TH.w_op ?_)
  | (with_reducible refine TH.w_un ?_)
  | (with_reducible refine TH.w_chain ?_)
  | (with_reducible refine TH.w_I0 ?_)
  | ((with_reducible refine TH.w_I ?hm ?_); (case hm => first | (exact TH.CMul.l (by omega) (by omega)) | (exact TH.CMul.r (by omega) (by omega)) | (exact TH.CDiv.mk (by omega) (by omega)) | (show (0 : Int) < _; omega) | (exact TH.CPow.mk (by omega) (by omega) (by decide))))
  | (with_reducible refine TH.w_U ?_)
  | (with_reducible refine TH.w_eqI ?_)
  | (with_reducible refine TH.w_neI ?_)
  | (with_reducible refine TH.w_eqB ?_)
  | (with_reducible refine TH.w_isN ?_)
  | (with_reducible refine TH.w_nil ?_)
  | (with_reducible refine TH.w_cons ?_)
  | (with_reducible refine TH.w_test ?_)
  | (with_reducible refine TH.w_B ?_)
  | (with_reducible refine TH.w_bl ?_)
  | (with_reducible refine TH.w_and ?_)
  | (with_reducible refine TH.w_or ?_)
  | (with_reducible refine TH.w_not ?_)
  | (with_reducible refine TH.w_andV ?_)
  | (with_reducible refine TH.w_orV ?_)
  | (with_reducible refine TH.w_notV ?_)
  | (with_reducible refine TH.w_if ?_)
  | (with_reducible refine TH.w_parT ?_)
  | (with_reducible refine TH.w_par ?_)
  | (with_reducible refine TH.w_parT3 ?_)
  | (with_reducible refine TH.w_par3 ?_)
  | (with_reducible refine TH.w_cb ?_)
  | (with_reducible refine TH.w_call ?_)
  | ((with_reducible refine TH.w_aug (v := ?vv) ?hv ?_); (case hv => rfl))
  | (with_reducible refine TH.w_ip ?_)
  | (with_reducible refine TH.w_bm ?_)
  | (with_reducible refine TH.w_sl ?_)
  | (with_reducible refine TH.w_np ?_)
  | (with_reducible refine TH.w_pt ?_)
  | (with_reducible refine TH.w_pti ?_)
  | (with_reducible refine TH.w_gsub ?_)
  | (with_reducible refine TH.w_int ?_)
  | (with_reducible refine TH.w_tupT ?_)
  | (with_reducible refine TH.w_lstT ?_)
  | ((with_reducible show L2.rIxL _ _ _ _ _); (first | (refine TH.w_ixL (TH.sqL upd_same) rfl ?_) | (refine TH.w_ixL (TH.sqL (by assumption)) rfl ?_)))
  | ((with_reducible show L2.rSetL _ _ _ _ _); (first | (refine TH.w_set1 upd_same ?_) | (refine TH.w_set2 upd_same ?_) | (refine TH.w_set3 upd_same ?_) | (refine TH.w_set4 upd_same ?_) | (refine TH.w_set1 (by assumption) ?_) | (refine TH.w_set2 (by assumption) ?_) | (refine TH.w_set3 (by assumption) ?_) | (refine TH.w_set4 (by assumption) ?_)))
  | (with_reducible refine TH.w_lc ?_)
  | (with_reducible refine TH.w_dc ?_)
  | (with_reducible refine TH.w_itup ?_)
  | (with_reducible refine TH.w_ilist ?_)
  | (with_reducible refine TH.w_ienum ?_)
  | (with_reducible refine TH.w_izip ?_)
  | (with_reducible refine TH.w_irng1 ?_)
  | (with_reducible refine TH.w_irng2 ?_)
  | (with_reducible refine TH.w_for ?_)
  | (with_reducible refine TH.w_gcons ?_)
  | (with_reducible refine TH.w_gnil ?_)
  | (with_reducible refine TH.w_yes ?_)
  | (with_reducible refine TH.w_gtup2 upd_same ?_)
  | (with_reducible refine TH.w_gtup3 upd_same ?_)
  | (with_reducible refine TH.w_dput ?_)
  | (with_reducible refine TH.w_bm0 ?_)
  | (with_reducible refine TH.w_din ?_)
  | (with_reducible refine TH.w_dnotin ?_)
  | (with_reducible refine TH.w_dispK ?_)
  | (with_reducible refine TH.w_lock ?_)
  | (with_reducible refine TH.w_ikeys ?_)
  | (with_reducible refine TH.w_iitems ?_)
  | (with_reducible refine TH.w_dispT1 ?_)
  | (with_reducible refine TH.w_dnewT ?_)
  | (with_reducible refine TH.w_dnewK ?_)
  | (with_reducible refine TH.w_fld ?_)
  | (with_reducible refine TH.w_sfld ?_)
  | (with_reducible refine TH.w_meth ?_)
  | (with_reducible refine TH.w_make ?_)
  | (with_reducible refine TH.w_dget2 ?_)
  | (with_reducible refine TH.w_revL ?_)
  | (with_reducible refine TH.w_revT ?_)
  | (with_reducible refine TH.w_lstRg ?_)
  | (with_reducible refine TH.w_tupRg ?_)
  | (with_reducible refine TH.w_rg1 ?_)
  | (with_reducible refine TH.w_rg2 ?_)
  | (with_reducible refine TH.w_T ?_)
  | (with_reducible refine TH.w_F ?_))
local macro_rules | `(tactic| walk_at "rd") => `(tactic| repeat (first | walk_at "rd1" | (dsimp only [List.set, L2.wipe, List.map, TH.isInt, TH.isBool, TH.isTup, TH.isLst, TH.bo_f, TH.bo_t, TH.ba_f, TH.ba_t, TH.bn_t, TH.bn_f, List.append_nil, List.cons_append, List.nil_append])))

variable {P : Program} {w : World} {K : PySem.W.Frag} {mg : Str → Option Value} {base : Heap}
/-! held_this_side(sheet, way) -/
/-- the ascending list of the posts on the side of c.1 -/
structure SideZ (S : Spc) (c : Nat × Nat) (ys : List Int) : Prop where
  pw : ys.Pairwise (· ≤ ·)
  nd : ys.Nodup
  mem : ∀ y, y ∈ ys ↔ Rch (nbZ S.posts S.ts) (some (c.2 : Int)) (c.1 : Int) y
theorem SideZ.rng {S : Spc} {c : Nat × Nat} {ys : List Int} (h : SideZ S c ys) (ok : TiesOk S.posts S.ts) (hc : c.1 < S.posts) {y : Int} (hy : y ∈ ys) : 0 ≤ y ∧ y < S.posts := by
  have h := (h.mem y).mp hy
  induction h with
  | base => omega
  | @step x y g1 g2 g3 ih =>
    have k := ih ((h.mem x).mpr g1)
    have : nbZ S.posts S.ts ≠ [] := fun e => by
      have := nbZ_len (posts := S.posts) (ts := S.ts)
      rw [e] at this
      simp at this
      omega
    have hm : (nbZ S.posts S.ts).getD x.toNat [] ∈ nbZ S.posts S.ts := List.mem_of_getElem? (getD_at (by rw [nbZ_len]; omega))
    have := (nb_rng ok _ hm).2 y g2
    rw [nbZ_len] at this
    exact this
theorem SideZ.few {S : Spc} {c : Nat × Nat} {ys : List Int} (h : SideZ S c ys) (ok : TiesOk S.posts S.ts) (hc : c.1 < S.posts) : ys.length ≤ S.posts := few_of h.nd fun x hx => h.rng ok hc hx
def lotsZ (hs : List Nat) (ys : List Int) : List Int := ys.flatMap fun y => lotZ hs y.toNat
theorem lotZ_len (hs : List Nat) (y : Nat) : (lotZ hs y).length ≤ hs.sum := by
  unfold lotZ
  rw [rgZ_len]
  have := take_sum_le hs (y + 1)
  omega
theorem lotsZ_len (hs : List Nat) : ∀ ys : List Int, (lotsZ hs ys).length ≤ ys.length * hs.sum
  | [] => by simp [lotsZ]
  | y :: ys => by
    have h1 := lotZ_len hs y.toNat
    have h2 := lotsZ_len hs ys
    have e : (lotsZ hs (y :: ys)).length = (lotZ hs y.toNat).length + (lotsZ hs ys).length := by
      unfold lotsZ
      rw [List.flatMap_cons, List.length_append]
    rw [e, List.length_cons, Nat.succ_mul]
    omega
theorem lotsZ_snoc {hs : List Nat} {ys : List Int} {i : Nat} {y : Int} (h : ys[i]? = some y) : lotsZ hs (ys.take (i + 1)) = lotsZ hs (ys.take i) ++ lotZ hs y.toNat := by
  unfold lotsZ
  rw [List.take_add_one, h, List.flatMap_append]
  simp
def sp_held_this_side (K : PySem.W.Frag) (C CT : Addr) : Sp := fun vs H Q _ => ∃ (v u : V) (S : Spc) (c : Nat × Nat), vs = [v, u] ∧ SheetAt K C CT H v S ∧ SpcOk S ∧ Dp K H u (tieD c) ∧ c.1 < S.posts ∧
  ∀ r H' ys, Ex H H' → SideZ S c ys → Dp K H' r (row (lotsZ S.hs ys)) → Q r H'
theorem ok_held_this_side {C CT f : Addr} {fd : FuncData} (F : C8.Def K mg "held_this_side" s_held_this_side f fd) (b : Binds K fd ["sheet", "way"] []) (T : Txt mg) (SC : ShC K C)
    (c_this_side : C8.Cal P w K mg base 2 "this_side" (sp_this_side K CT) []) (c_held_by : C8.Cal P w K mg base 1 "held_by" (sp_held K C CT) []) : C8.Cal P w K mg base 3 "held_this_side" (sp_held_this_side K C CT) [] := by
  refine C8.cal0 F b .nil sc_held_this_side (fun vs H Q E h => ?_) (fun cdv A outer s H vs Q E hr h => ?_)
  · obtain ⟨v, u, S, c, rfl, _⟩ := h
    rfl
  · obtain ⟨v, u, S, c, rfl, hs, ok, hc, hx, q⟩ := h
    obtain ⟨a, dx, t, h, w, rfl, ha, htr, hh, hw⟩ := id hs
    have o1 := ok.tree.1.few
    have o2 := ok.h60
    refine ⟨_, (pss_cons (ps_set (i := 2) sc_held_this_side.nd rfl (Or.inl rfl) (pe_tup pa_nil))
      (pss_cons (ps_for PassesOwn.never rfl (TH.kpi_tup (K := K) (C8.pe_c c_this_side hr (by first | decide | exact Nat.le_refl _) (by rfl) (pa_cons (TH.kpe_fld (K := K) (pv 0) rfl) (pa_cons (pv 1) pa_nil)))) (pg_name (i := 3) sc_held_this_side.nd rfl (Or.inl rfl) (Or.inr rfl)) (pss_one (ps_set (i := 2) sc_held_this_side.nd rfl (Or.inl rfl) (pe_op (TH.kop_catA (K := K)) (pv 2) (C8.pe_c c_held_by hr (by first | decide | exact Nat.le_refl _) (by rfl) (pa_cons (pv 0) (pa_cons (pv 3) pa_nil)))))))
      (pss_one (ps_ret (pv 2))))), ?_⟩
    refine w_start (σ' := [some (.ref a), some u, none, none]) rfl ?_
    walk_at "rd"
    refine w_dispT (by simp) fun p hp => ?_
    walk_at "rd"
    have e0 : Ex H (upd H p (.tup [])) := Ex.new hp
    have u0 : Dp K (upd H p (.tup [])) (.ref p) (row []) := dp_row_of (sqT upd_same)
    generalize upd H p (.tup []) = H0 at e0 u0 ⊢
    refine ⟨a, C, dx, _, _, rfl, e0 _ _ ha, SC.cl, SC.nT, shf_tree, ?_⟩
    walk_at "rd"
    refine ⟨t, u, S.posts, S.ts, c, rfl, htr.ex e0, ok.tree.1, e0.dp hc, hx, fun r ys H1 e1 hr1 p1 p2 p3 => ?_⟩
    have hz : SideZ S c ys := ⟨p1, p2, p3⟩
    have hfew := hz.few ok.tree.1 hx
    obtain ⟨ra, rfl, hra⟩ := dp_row hr1
    have e01 := e0.trans e1
    refine ⟨ra, rfl, ⟨_, hra⟩, ?_⟩
    refine for_go walk_tup (fun i σ H2 => Ex H1 H2 ∧ ∃ f y3, σ = [some (.ref a), some u, some f, y3] ∧ Dp K H2 f (row (lotsZ S.hs (ys.take i)))) ⟨Ex.refl _, _, _, rfl, e1.dp u0⟩ (fun i σ H2 _ p => p.1.t hra) (fun i x σ H2 H3 hi p y => ?_) (fun σ H2 p => ?_)
    · obtain ⟨e, f, y3, rfl, hf⟩ := p
      obtain ⟨rfl, hx'⟩ := y
      obtain ⟨z, hz', rfl⟩ := ints_at hx'
      have zr := hz.rng ok.tree.1 hx (List.mem_of_getElem? hz')
      obtain ⟨n, rfl⟩ : ∃ n : Nat, z = n := ⟨z.toNat, by omega⟩
      walk_at "rd"
      refine ⟨.ref a, S, n, rfl, hs.ex (e01.trans e), ok, by omega, fun r H4 e4 hr4 => ?_⟩
      have hsn := lotsZ_snoc (hs := S.hs) hz'
      rw [Int.toNat_natCast] at hsn
      have l1 := lotsZ_len S.hs (ys.take i)
      have l2 := lotZ_len S.hs n
      have l3 : (ys.take i).length * S.hs.sum ≤ 24 * 60 := Nat.mul_le_mul (by rw [List.length_take]; omega) o2
      refine w_catRow (e4.dp hf) hr4 (by omega) fun r5 H5 e5 hr5 => ?_
      walk_at "rd"
      refine ⟨e.trans (e4.trans e5), _, _, rfl, ?_⟩
      rw [hsn]
      exact hr5
    · obtain ⟨e, f, y3, rfl, hf⟩ := p
      walk_at "rd"
      rw [List.length_map, List.take_length] at hf
      exact q f H2 ys (e01.trans e) hz hf
/-! wants_beyond(sheet, way) -/
def pairD (y w : Nat) : D := tieD (y, w)
def pairsOf (ws : List (List (List Int))) (y : Int) : List (Nat × Nat) := (List.range (ws.getD y.toNat []).length).map fun w => (y.toNat, w)
def pairsZ (ws : List (List (List Int))) (ys : List Int) : List (Nat × Nat) := ys.flatMap (pairsOf ws)
theorem pairsZ_snoc {ws : List (List (List Int))} {ys : List Int} {i : Nat} {y : Int} (h : ys[i]? = some y) : pairsZ ws (ys.take (i + 1)) = pairsZ ws (ys.take i) ++ pairsOf ws y := by
  unfold pairsZ
  rw [List.take_add_one, h, List.flatMap_append]
  simp
theorem pairsOf_len {ws : List (List (List Int))} (h8 : ∀ rs ∈ ws, rs.length ≤ 8) (y : Int) : (pairsOf ws y).length ≤ 8 := by
  unfold pairsOf
  rw [List.length_map, List.length_range, List.getD_eq_getElem?_getD]
  cases e : ws[y.toNat]? with
  | none => simp
  | some rs => exact h8 rs (List.mem_of_getElem? e)
theorem pairsZ_len {ws : List (List (List Int))} (h8 : ∀ rs ∈ ws, rs.length ≤ 8) : ∀ ys : List Int, (pairsZ ws ys).length ≤ ys.length * 8
  | [] => by simp [pairsZ]
  | y :: ys => by
    have h1 := pairsOf_len h8 y
    have h2 := pairsZ_len h8 ys
    have e : (pairsZ ws (y :: ys)).length = (pairsOf ws y).length + (pairsZ ws ys).length := by
      unfold pairsZ
      rw [List.flatMap_cons, List.length_append]
    rw [e, List.length_cons]
    omega
def sp_wants_beyond (K : PySem.W.Frag) (C CT : Addr) : Sp := fun vs H Q _ => ∃ (v u : V) (S : Spc) (c : Nat × Nat), vs = [v, u] ∧ SheetAt K C CT H v S ∧ SpcOk S ∧ Dp K H u (tieD c) ∧ c.2 < S.posts ∧
  ∀ l ws H' ys, Ex H H' → SideZ S (swapP c) ys → H' l = some (.lst ws) → DpAll K H' ws ((pairsZ S.ws ys).map tieD) → Q (.ref l) H'
theorem ok_wants_beyond {C CT f : Addr} {fd : FuncData} (F : C8.Def K mg "wants_beyond" s_wants_beyond f fd) (b : Binds K fd ["sheet", "way"] []) (T : Txt mg) (SC : ShC K C)
    (c_beyond_of : C8.Cal P w K mg base 3 "beyond_of" (sp_beyond_of K CT) []) : C8.Cal P w K mg base 4 "wants_beyond" (sp_wants_beyond K C CT) [] := by
  refine C8.cal0 F b .nil sc_wants_beyond (fun vs H Q E h => ?_) (fun cdv A outer s H vs Q E hr h => ?_)
  · obtain ⟨v, u, S, c, rfl, _⟩ := h
    rfl
  · obtain ⟨v, u, S, c, rfl, hs, ok, hc, hx, q⟩ := h
    obtain ⟨a, dx, t, h, w, rfl, ha, htr, hh, hw⟩ := id hs
    obtain ⟨wa, us, rfl, hwa, hus⟩ := dp_tup hw
    have o1 := ok.tree.1.few
    have o2 := ok.w8
    refine ⟨_, (pss_cons (ps_set (i := 2) sc_wants_beyond.nd rfl (Or.inl rfl) (pe_lst pa_nil))
      (pss_cons (ps_for PassesOwn.never rfl (TH.kpi_tup (K := K) (C8.pe_c c_beyond_of hr (by first | decide | exact Nat.le_refl _) (by rfl) (pa_cons (TH.kpe_fld (K := K) (pv 0) rfl) (pa_cons (pv 1) pa_nil)))) (pg_name (i := 3) sc_wants_beyond.nd rfl (Or.inr rfl) (Or.inl rfl)) (pss_one (ps_expr (TH.kpe_bm (K := K) PySem.F.plainAttrs_list PySem.F.slot_list_extend PySem.F.type_list_extend mt_extend (pv 2) (pa_cons (pe_lc (own := [("want", 4)]) (g := gName 4) (tt := tYes) rfl sc_wants_beyond.nd (pi_range1 (by rfl) T.b_range (pa_cons (pe_callB (TH.kcall_len (K := K)) (by rfl) T.b_len (by decide +kernel) (pa_cons (pe_ix (TH.kix_tup (K := K)) (TH.kpe_fld (K := K) (pv 0) rfl) (pv 3) (fun _ _ => rfl)) pa_nil)) pa_nil)) (blkOk_by (own := [("want", 4)]) (N := N_wants_beyond) (sc := C8.fnScope s_wants_beyond) (by decide +kernel)) (fun _ _ _ _ _ => (pg_name (i := 4) sc_wants_beyond.nd rfl (Or.inl rfl) (Or.inr rfl))) (fun _ _ _ _ _ => pts_nil) (fun _ _ _ _ _ => (pe_tup (pa_cons (pv 3) (pa_cons (pv 4) pa_nil))))) pa_nil)))))
      (pss_one (ps_ret (pv 2))))), ?_⟩
    refine w_start (σ' := [some (.ref a), some u, none, none, none]) rfl ?_
    walk_at "rd"
    refine w_dispT (by simp) fun fl hfl => ?_
    walk_at "rd"
    have e0 : Ex H (upd H fl (.lst [])) := Ex.new hfl
    have u0 : upd H fl (.lst []) fl = some (.lst []) := upd_same
    generalize upd H fl (.lst []) = H0 at e0 u0 ⊢
    refine ⟨a, C, dx, _, _, rfl, e0 _ _ ha, SC.cl, SC.nT, shf_tree, ?_⟩
    walk_at "rd"
    refine ⟨t, u, S.posts, S.ts, c, rfl, htr.ex e0, ok.tree.1, e0.dp hc, hx, fun r ys H1 e1 hr1 p1 p2 p3 => ?_⟩
    have hz : SideZ S (swapP c) ys := ⟨p1, p2, p3⟩
    have hfew := hz.few ok.tree.1 hx
    obtain ⟨ra, rfl, hra⟩ := dp_row hr1
    have e01 := e0.trans e1
    refine ⟨ra, rfl, ⟨_, hra⟩, ?_⟩
    have hraf : ∀ {H2 : Hp}, Ex H1 H2 → SqT K H2 ra (ys.map V.int) := fun e => e.t hra
    refine for_go walk_tup (fun i σ H2 => Ex H H2 ∧ SqT K H2 ra (ys.map V.int) ∧ ∃ ws y3 y4, σ = [some (.ref a), some u, some (.ref fl), y3, y4] ∧ H2 fl = some (.lst ws) ∧ DpAll K H2 ws ((pairsZ S.ws (ys.take i)).map tieD)) ⟨e01, hra, [], _, _, rfl, e1 _ _ u0, .nil⟩ (fun i σ H2 _ p => p.2.1) (fun i x σ H2 H3 hi p y => ?_) (fun σ H2 p => ?_)
    · obtain ⟨e, hra2, ws, y3, y4, rfl, hf, hwd⟩ := p
      obtain ⟨rfl, hx'⟩ := y
      obtain ⟨z, hz', rfl⟩ := ints_at hx'
      have zr := hz.rng ok.tree.1 hx (List.mem_of_getElem? hz')
      obtain ⟨n, rfl⟩ : ∃ n : Nat, z = n := ⟨z.toNat, by omega⟩
      have hwn : n < S.ws.length := by rw [ok.wl]; omega
      obtain ⟨rv, hrv⟩ : ∃ rv, us[n]? = some rv := ⟨_, List.getElem?_eq_getElem (by rw [dpa_len hus, List.length_map]; exact hwn)⟩
      have hsn := pairsZ_snoc (ws := S.ws) hz'
      have hl8 := pairsZ_len o2 (ys.take i)
      have hl9 := pairsOf_len o2 (n : Int)
      have hl10 : (ys.take i).length ≤ 24 := by rw [List.length_take]; omega
      walk_at "rd"
      refine ⟨tyL hf, ?_⟩
      walk_at "rd"
      refine ⟨a, C, dx, _, _, rfl, e _ _ ha, SC.cl, SC.nW, shf_wants, ?_⟩
      walk_at "rd"
      refine w_ixT (e.t hwa) (atI_at hrv) ?_
      obtain ⟨rs, b, vs, g1, rfl, g2, g3⟩ := dpa_wants (e.dpa hus) hrv
      walk_at "rd"
      refine ⟨b, _, rfl, .inr g2, ?_⟩
      have hrs8 := o2 rs (List.mem_of_getElem? g1)
      have hvl : vs.length = rs.length := by rw [dpa_len g3, List.length_map]
      walk_at "rd"
      refine w_isrng (by omega) (by omega) fun Dl hD => ?_
      refine lc_data (K := K) walk_rng (fun _ => true) (fun j => tieD (n, j)) (fun _ => rfl) (fun _ _ => trivial) hD (by omega) (fun j x H4 H5 hj e4 y R R0 k _ => ?_) (fun H4 ws4 e4 hws4 hda4 => ?_)
      · obtain ⟨rfl, rfl⟩ := y
        walk_at "rd"
        refine ⟨rfl, ?_⟩
        walk_at "rd"
        refine w_dispT (by simp) fun p hp => ?_
        exact k rfl _ _ (Ex.new hp) (dp_tie_of (sqT upd_same))
      · walk_at "rd"
        rw [made_all] at hda4
        have e5 : (List.range ((vs.length : Int)).toNat).map (fun j => tieD (n, j)) = (pairsOf S.ws (n : Int)).map tieD := by
          unfold pairsOf
          rw [Int.toNat_natCast, Int.toNat_natCast, getD_of g1, hvl, List.map_map]
          rfl
        rw [e5] at hda4
        have hl11 : ws.length ≤ 24 * 8 := by rw [dpa_len hwd, List.length_map]; omega
        have hl12 : ws4.length ≤ 8 := by rw [dpa_len hda4, List.length_map]; omega
        refine ⟨fl, Dl, ws, ws4, rfl, rfl, e4 _ _ hf, hws4, small2 (by omega), ?_⟩
        walk_at "rd"
        have tx : Tx H4 (upd H4 fl (.lst (ws ++ ws4))) := Tx.updL (e4 _ _ hf)
        refine ⟨(e.trans e4).mut hfl, tx.t (e4.t hra2), _, _, _, rfl, upd_same, ?_⟩
        rw [hsn, List.map_append]
        exact dpa_append (tx.dpa (imm_ties _) (e4.dpa hwd)) (tx.dpa (imm_ties _) hda4)
    · obtain ⟨e, hra2, ws, y3, y4, rfl, hf, hwd⟩ := p
      walk_at "rd"
      rw [List.length_map, List.take_length] at hwd
      exact q fl ws H2 ys e hz hf hwd
/-! cut_to(row, numbers) -/
def cutZ (ns : List Int) (r : List Int) : List Int := ns.map fun n => r.getD n.toNat 0
def sp_cut_to (K : PySem.W.Frag) : Sp := fun vs H Q _ => ∃ (v u : V) (r ns : List Int), vs = [v, u] ∧ Dp K H v (row r) ∧ Dp K H u (row ns) ∧ ns.length ≤ 100000 ∧ (∀ n ∈ ns, 0 ≤ n ∧ n < r.length) ∧ ∀ x H', Ex H H' → Dp K H' x (row (cutZ ns r)) → Q x H'
theorem ok_cut_to {f : Addr} {fd : FuncData} (F : C8.Def K mg "cut_to" s_cut_to f fd) (b : Binds K fd ["row", "numbers"] []) (T : Txt mg) : C8.Cal P w K mg base 1 "cut_to" (sp_cut_to K) [] := by
  refine C8.cal0 F b .nil sc_cut_to (fun vs H Q E h => ?_) (fun cdv A outer s H vs Q E hr h => ?_)
  · obtain ⟨v, u, r, ns, rfl, _⟩ := h
    rfl
  · obtain ⟨v, u, r, ns, rfl, hr, hn, hl, hin, q⟩ := h
    obtain ⟨ra, rfl, hra⟩ := dp_row hr
    obtain ⟨na, rfl, hna⟩ := dp_row hn
    refine ⟨_, (pss_one (ps_ret (pe_callTy (TH.kcall_tuple (K := K)) (by rfl) T.b_tuple (by decide +kernel) (pa_cons (pe_lc (own := [("number", 2)]) (g := gName 2) (tt := tYes) rfl sc_cut_to.nd (TH.kpi_tup (K := K) (pv 1)) (blkOk_by (own := [("number", 2)]) (N := N_cut_to) (sc := C8.fnScope s_cut_to) (by decide +kernel)) (fun _ _ _ _ _ => (pg_name (i := 2) sc_cut_to.nd rfl (Or.inl rfl) (Or.inr rfl))) (fun _ _ _ _ _ => pts_nil) (fun _ _ _ _ _ => (pe_ix (TH.kix_tup (K := K)) (pv 0) (pv 2) (fun _ _ => rfl)))) pa_nil)))), ?_⟩
    refine w_start (σ' := [some (.ref ra), some (.ref na), none]) rfl ?_
    walk_at "rd"
    refine ⟨na, rfl, ⟨_, hna⟩, fun Dl hD => ?_⟩
    refine lc_data (K := K) walk_tup (fun _ => true) (fun i => .int (r.getD (ns.getD i 0).toNat 0)) (fun _ => rfl) (fun H' e => e.t hna) hD (by rw [List.length_map]; omega) (fun i x H' H'' hi e y R R0 k _ => ?_) (fun H4 ws e4 hws hda => ?_)
    · obtain ⟨rfl, hx⟩ := y
      obtain ⟨z, hz, rfl⟩ := ints_at hx
      have zr := hin z (List.mem_of_getElem? hz)
      obtain ⟨n, rfl⟩ : ∃ n : Nat, z = n := ⟨z.toNat, by omega⟩
      walk_at "rd"
      refine ⟨rfl, ?_⟩
      walk_at "rd"
      refine w_ixT (e.t hra) (atI_int (getD_at (d := 0) (by omega))) ?_
      refine k rfl _ _ (Ex.refl _) ?_
      rw [getD_of hz, Int.toNat_natCast]
      exact .int _
    · walk_at "rd"
      rw [made_all, List.length_map, range_map 0 (fun n : Int => PyData.int (r.getD n.toNat 0))] at hda
      have e5 : ns.map (fun n : Int => PyData.int (r.getD n.toNat 0)) = (cutZ ns r).map PyData.int := by
        unfold cutZ
        rw [List.map_map]
        rfl
      rw [e5] at hda
      have e6 := dpa_ints_inv hda
      subst e6
      refine ⟨Dl, _, rfl, .inl ⟨sqL hws, fun l hl => ?_⟩⟩
      exact q _ _ (e4.trans (Ex.new hl)) (dp_row_of (sqT upd_same))
end TK

namespace TK
open PySem PySem.Spec PyProof.Rows L2 TH
local macro_rules | `(tactic| walk_at "rd1") => `(tactic| first
  | (with_reducible refine TH.w_seq ?_)
  | (with_reducible refine TH.w_asg ?_)
  | (with_reducible refine TH.w_ret ?_)
  | (with_reducible refine TH.w_drop ?_)
  | (with_reducible refine TH.w_ifS ?_)
  | (with_reducible refine TH.w_next ?_)
  | ((with_reducible refine TH.w_var (v := ?vv) ?hv ?_); (case hv => rfl))
  | (with_reducible refine TH.w_c ?_)
  | ((with_reducible refine TH.w_gname (σ' := ?ss) ?hs ?_); (case hs => (dsimp only [List.set]; rfl)))
  | (with_reducible refine TH.w_op ?_)
  | (with_reducible refine TH.w_un ?_)
  | (with_reducible refine TH.w_chain ?_)
  | (with_reducible refine TH.w_I0 ?_)
  | ((with_reducible refine TH.w_I ?hm ?_); (case hm => first | (exact TH.CMul.l (by omega) (by omega)) | (exact TH.CMul.r (by omega) (by omega)) | (exact TH.CDiv.mk (by omega) (by omega)) | (show (0 : Int) < _; omega) | (exact TH.CPow.mk (by omega) (by omega) (by decide))))
  | (with_reducible refine TH.w_U ?_)
  | (with_reducible refine TH.w_eqI ?_)
  | (with_reducible refine TH.w_neI ?_)
  | (with_reducible refine TH.w_eqB ?_)
  | (with_reducible refine TH.w_isN ?_)
  | (with_reducible refine TH.w_nil ?_)
  | (with_reducible refine TH.w_cons ?_)
  | (with_reducible refine TH.w_test ?_)
  | (with_reducible refine TH.w_B ?_)
  | (with_reducible refine TH.w_bl ?_)
  | (with_reducible refine TH.w_and ?_)
  | (with_reducible refine TH.w_or ?_)
  | (with_reducible refine TH.w_not ?_)
  | (with_reducible refine TH.w_andV ?_)
  | (with_reducible refine TH.w_orV ?_)
  | (with_reducible refine TH.w_notV ?_)
  | (with_reducible refine TH.w_if ?_)
  | (with_reducible refine TH.w_parT ?_)
  | (with_reducible refine TH.w_par ?_)
  | (with_reducible refine TH.w_parT3 ?_)
  | (with_reducible refine TH.w_par3 ?_)
  | (with_reducible refine TH.w_cb ?_)
  | (with_reducible refine TH.w_call ?_)
  | ((with_reducible refine TH.w_aug (v := ?vv) ?hv ?_); (case hv => rfl))
  | (with_reducible refine TH.w_ip ?_)
  | (with_reducible refine TH.w_bm ?_)
  | (with_reducible refine TH.w_sl ?_)
  | (with_reducible refine TH.w_np ?_)
  | (with_reducible refine TH.w_pt ?_)
  | (with_reducible refine TH.w_pti ?_)
  | (with_reducible refine TH.w_gsub ?_)
  | (with_reducible refine TH.w_int ?_)
  | (with_reducible refine TH.w_tupT ?_)
  | (with_reducible refine TH.w_lstT ?_)
  | ((with_reducible show L2.rIxL _ _ _ _ _); (first | (refine TH.w_ixL (TH.sqL upd_same) rfl ?_) | (refine TH.w_ixL (TH.sqL (by assumption)) rfl ?_)))
  | ((with_reducible show L2.rSetL _ _ _ _ _); (first | (refine TH.w_set1 upd_same ?_) | (refine TH.w_set2 upd_same ?_) | (refine TH.w_set3 upd_same ?_) | (refine TH.w_set4 upd_same ?_) | (refine TH.w_set1 (by assumption) ?_) | (refine TH.w_set2 (by assumption) ?_) | (refine TH.w_set3 (by assumption) ?_) | (refine TH.w_set4 (by assumption) ?_)))
  | (with_reducible refine TH.w_lc ?_)
  | (with_reducible refine TH.w_dc ?_)
  | (with_reducible refine TH.w_itup ?_)
  | (with_reducible refine TH.w_ilist ?_)
  | (with_reducible refine TH.w_ienum ?_)
  | (with_reducible refine TH.w_izip ?_)
  | (with_reducible refine TH.w_irng1 ?_)
  | (with_reducible refine TH.w_irng2 ?_)
  | (with_reducible refine TH.w_for ?_)
  | (with_reducible refine TH.w_gcons ?_)
  | (with_reducible refine TH.w_gnil ?_)
  | (with_reducible refine TH.w_yes ?_)
  | (with_reducible refine TH.w_gtup2 upd_same ?_)
  | (with_reducible refine TH.w_gtup3 upd_same ?_)
  | (with_reducible refine TH.w_dput ?_)
  | (with_reducible refine TH.w_bm0 ?_)
  | (with_reducible refine TH.w_din ?_)
  | (with_reducible refine TH.w_dnotin ?_)
  | (with_reducible refine TH.w_dispK ?_)
  | (with_reducible refine TH.w_lock ?_)
  | (with_reducible refine TH.w_ikeys ?_)
  | (with_reducible refine TH.w_iitems ?_)
  | (with_reducible refine TH.w_dispT1 ?_)
  | (with_reducible refine TH.w_dnewT ?_)
  | (with_reducible refine TH.w_dnewK ?_)
  | (with_reducible refine TH.w_fld ?_)
  | (with_reducible refine TH.w_sfld ?_)
  | (with_reducible refine TH.w_meth ?_)
  | (with_reducible refine TH.w_make ?_)
  | (with_reducible refine TH.w_dget2 ?_)
  | (with_reducible refine TH.w_revL ?_)
  | (with_reducible refine TH.w_revT ?_)
  | (with_reducible refine TH.w_lstRg ?_)
  | (with_reducible refine TH.w_tupRg ?_)
  | (with_reducible refine TH.w_rg1 ?_)
  | (with_reducible refine TH.w_rg2 ?_)
  | (with_reducible refine TH.w_T ?_)
  | (with_reducible refine TH.w_F ?_))
local macro_rules | `(tactic| walk_at "rd") => `(tactic| repeat (first | walk_at "rd1" | (dsimp only [List.set, L2.wipe, List.map, TH.isInt, TH.isBool, TH.isTup, TH.isLst, TH.bo_f, TH.bo_t, TH.ba_f, TH.ba_t, TH.bn_t, TH.bn_f, List.append_nil, List.cons_append, List.nil_append])))

variable {P : Program} {w : World} {K : PySem.W.Frag} {mg : Str → Option Value} {base : Heap}
/-! block_of(sheet, way), block(sheet, way) -/
theorem lotsZ_rng {hs : List Nat} {ys : List Int} {n : Int} (h : n ∈ lotsZ hs ys) : 0 ≤ n ∧ n < (hs.sum : Nat) := by
  obtain ⟨y, _, hn⟩ := List.mem_flatMap.mp h
  have := mem_rgZ.mp hn
  have := take_sum_le hs (y.toNat + 1)
  omega
theorem pairsZ_mem {ws : List (List (List Int))} {ys : List Int} {c : Nat × Nat} (h : c ∈ pairsZ ws ys) : ∃ rs r, ws[c.1]? = some rs ∧ rs[c.2]? = some r := by
  obtain ⟨y, _, hc⟩ := List.mem_flatMap.mp h
  obtain ⟨j, hj, rfl⟩ := List.mem_map.mp hc
  have hj := List.mem_range.mp hj
  show ∃ rs r, ws[y.toNat]? = some rs ∧ rs[j]? = some r
  rw [List.getD_eq_getElem?_getD] at hj
  cases e : ws[y.toNat]? with
  | none =>
    rw [e] at hj
    simp at hj
  | some rs =>
    rw [e] at hj
    exact ⟨rs, _, rfl, List.getElem?_eq_getElem hj⟩
def blockZ (S : Spc) (xs ys : List Int) : List (List Int) := (pairsZ S.ws ys).map fun c => cutZ (lotsZ S.hs xs) ((S.ws.getD c.1 []).getD c.2 [])
def sp_block (K : PySem.W.Frag) (C CT : Addr) : Sp := fun vs H Q _ => ∃ (v u : V) (S : Spc) (c : Nat × Nat), vs = [v, u] ∧ SheetAt K C CT H v S ∧ SpcOk S ∧ Dp K H u (tieD c) ∧ WayOk S.ts c ∧
  ∀ r H' xs ys, Ex H H' → SideZ S c xs → SideZ S (swapP c) ys → Dp K H' r (rowsT (blockZ S xs ys)) → Q r H'
theorem ok_block_of {C CT f : Addr} {fd : FuncData} (F : C8.Def K mg "block_of" s_block_of f fd) (b : Binds K fd ["sheet", "way"] []) (T : Txt mg) (SC : ShC K C)
    (c_held_this_side : C8.Cal P w K mg base 3 "held_this_side" (sp_held_this_side K C CT) []) (c_wants_beyond : C8.Cal P w K mg base 4 "wants_beyond" (sp_wants_beyond K C CT) []) (c_cut_to : C8.Cal P w K mg base 1 "cut_to" (sp_cut_to K) []) : C8.Cal P w K mg base 5 "block_of" (sp_block K C CT) [] := by
  refine C8.cal0 F b .nil sc_block_of (fun vs H Q E h => ?_) (fun cdv A outer s H vs Q E hr h => ?_)
  · obtain ⟨v, u, S, c, rfl, _⟩ := h
    rfl
  · obtain ⟨v, u, S, c, rfl, hs, ok, hc, hwy, q⟩ := h
    have hwr := hwy.rng ok.tree.1
    have o1 := ok.tree.1.few
    have o2 := ok.w8
    have o3 := ok.h60
    refine ⟨_, (pss_cons (ps_set (i := 2) sc_block_of.nd rfl (Or.inr rfl) (C8.pe_c c_held_this_side hr (by first | decide | exact Nat.le_refl _) (by rfl) (pa_cons (pv 0) (pa_cons (pv 1) pa_nil))))
      (pss_one (ps_ret (pe_callTy (TH.kcall_tuple (K := K)) (by rfl) T.b_tuple (by decide +kernel) (pa_cons (pe_lc (own := [("post", 3), ("want", 4)]) (g := gTup K 2 (gCons (gName 3) (gCons (gName 4) gNil))) (tt := tYes) rfl sc_block_of.nd (TH.kpi_list (K := K) (C8.pe_c c_wants_beyond hr (by first | decide | exact Nat.le_refl _) (by rfl) (pa_cons (pv 0) (pa_cons (pv 1) pa_nil)))) (blkOk_by (own := [("post", 3), ("want", 4)]) (N := N_block_of) (sc := C8.fnScope s_block_of) (by decide +kernel)) (fun _ _ _ _ _ => (TH.kpg_tup (K := K) (n := 2) rfl (pgs_cons (pg_name (i := 3) sc_block_of.nd rfl (Or.inl rfl) (Or.inr rfl)) (pgs_cons (pg_name (i := 4) sc_block_of.nd rfl (Or.inl rfl) (Or.inr rfl)) pgs_nil)))) (fun _ _ _ _ _ => pts_nil) (fun _ _ _ _ _ => (C8.pe_c c_cut_to hr (by first | decide | exact Nat.le_refl _) (by rfl) (pa_cons (pe_ix (TH.kix_tup (K := K)) (pe_ix (TH.kix_tup (K := K)) (TH.kpe_fld (K := K) (pv 0) rfl) (pv 3) (fun _ _ => rfl)) (pv 4) (fun _ _ => rfl)) (pa_cons (pv 2) pa_nil))))) pa_nil))))), ?_⟩
    refine w_start (σ' := [some v, some u, none, none, none]) rfl ?_
    walk_at "rd"
    refine ⟨v, u, S, c, rfl, hs, ok, hc, hwr.1, fun nv H1 xs e1 hxs hn => ?_⟩
    walk_at "rd"
    refine ⟨v, u, S, c, rfl, hs.ex e1, ok, e1.dp hc, hwr.2.1, fun l ws H2 ys e2 hys hl hda => ?_⟩
    have e12 := e1.trans e2
    have hfx := hxs.few ok.tree.1 hwr.1
    have hfy := hys.few ok.tree.1 hwr.2.1
    have l1 := lotsZ_len S.hs xs
    have l2 : xs.length * S.hs.sum ≤ 24 * 60 := Nat.mul_le_mul (by omega) o3
    have l3 := pairsZ_len o2 ys
    have hwl : ws.length = (pairsZ S.ws ys).length := by rw [dpa_len hda, List.length_map]
    obtain ⟨a, dx, t, h, w, rfl, ha, htr, hh, hw⟩ := hs.ex e12
    obtain ⟨wa, us, rfl, hwa, hus⟩ := dp_tup hw
    refine ⟨l, rfl, ⟨_, sqL hl⟩, fun Dl hD => ?_⟩
    refine lc_data (K := K) walk_list (fun _ => true) (fun i => row (cutZ (lotsZ S.hs xs) ((S.ws.getD ((pairsZ S.ws ys).getD i (0, 0)).1 []).getD ((pairsZ S.ws ys).getD i (0, 0)).2 []))) (fun _ => imm_row _) (fun H' e => e.l (sqL hl)) hD (by omega) (fun i x H' H'' hi e y R R0 k _ => ?_) (fun H4 ws4 e4 hws hda4 => ?_)
    · obtain ⟨rfl, hx⟩ := y
      obtain ⟨d, hd1, hd2⟩ := dpa_ties (e.dpa hda) hx
      obtain ⟨tt, rfl, htt⟩ := dp_tie hd2
      obtain ⟨rs, r, g1, g2⟩ := pairsZ_mem (List.mem_of_getElem? hd1)
      refine w_gtup htt rfl ?_
      walk_at "rd"
      refine ⟨rfl, ?_⟩
      walk_at "rd"
      refine ⟨a, C, dx, _, _, rfl, e _ _ ha, SC.cl, SC.nW, shf_wants, ?_⟩
      walk_at "rd"
      obtain ⟨rv, hrv, hrd⟩ := dpa_getD (i := d.1) (d := rowsT rs) (e.dpa hus) (by rw [List.getElem?_map, g1]; rfl)
      refine w_ixT (e.t hwa) (atI_at hrv) ?_
      obtain ⟨ra, vs, rfl, k1, k2⟩ := dp_tup hrd
      obtain ⟨xv, hxv, hxd⟩ := dpa_getD (i := d.2) (d := row r) k2 (by rw [List.getElem?_map, g2]; rfl)
      walk_at "rd"
      refine w_ixT k1 (atI_at hxv) ?_
      walk_at "rd"
      have hrin := ok.rin rs (List.mem_of_getElem? g1) r (List.mem_of_getElem? g2)
      refine ⟨xv, nv, r, lotsZ S.hs xs, rfl, hxd, (e2.trans e).dp hn, by omega, fun n hn => ?_, fun x H5 e5 hx5 => ?_⟩
      · have := lotsZ_rng hn
        rw [hrin.1]
        exact this
      · refine k rfl _ _ e5 ?_
        rw [getD_of hd1, getD_of g1, getD_of g2]
        exact hx5
    · walk_at "rd"
      rw [made_all, hwl, range_map (0, 0) (fun c : Nat × Nat => row (cutZ (lotsZ S.hs xs) ((S.ws.getD c.1 []).getD c.2 [])))] at hda4
      have e5 : (pairsZ S.ws ys).map (fun c : Nat × Nat => row (cutZ (lotsZ S.hs xs) ((S.ws.getD c.1 []).getD c.2 []))) = (blockZ S xs ys).map row := by
        unfold blockZ
        rw [List.map_map]
        rfl
      rw [e5] at hda4
      refine ⟨Dl, _, rfl, .inl ⟨sqL hws, fun p hp => ?_⟩⟩
      exact q _ _ xs ys (e12.trans (e4.trans (Ex.new hp))) hxs hys (.tup (sqT upd_same) ((Ex.new hp).dpa hda4))
theorem ok_block {C CT f : Addr} {fd : FuncData} (F : C8.Def K mg "block" s_block f fd) (b : Binds K fd ["sheet", "way"] []) (T : Txt mg) (SC : ShC K C)
    (c_check_way : C8.Cal P w K mg base 4 "check_way" (sp_check_way K CT) []) (c_block_of : C8.Cal P w K mg base 5 "block_of" (sp_block K C CT) []) : C8.Cal P w K mg base 6 "block" (sp_block K C CT) [] := by
  refine C8.cal0 F b .nil sc_block (fun vs H Q E h => ?_) (fun cdv A outer s H vs Q E hr h => ?_)
  · obtain ⟨v, u, S, c, rfl, _⟩ := h
    rfl
  · obtain ⟨v, u, S, c, rfl, hs, ok, hc, hwy, q⟩ := h
    obtain ⟨a, dx, t, h, w, rfl, ha, htr, hh, hw⟩ := id hs
    refine ⟨_, (pss_cons (ps_expr (C8.pe_c c_check_way hr (by first | decide | exact Nat.le_refl _) (by rfl) (pa_cons (TH.kpe_fld (K := K) (pv 0) rfl) (pa_cons (pv 1) pa_nil))))
      (pss_one (ps_ret (C8.pe_c c_block_of hr (by first | decide | exact Nat.le_refl _) (by rfl) (pa_cons (pv 0) (pa_cons (pv 1) pa_nil)))))), ?_⟩
    refine w_start (σ' := [some (.ref a), some u]) rfl ?_
    walk_at "rd"
    refine ⟨a, C, dx, _, _, rfl, ha, SC.cl, SC.nT, shf_tree, ?_⟩
    walk_at "rd"
    refine ⟨t, u, S.posts, S.ts, c, rfl, htr, ok.tree.1, hc, hwy, fun H1 e1 => ?_⟩
    walk_at "rd"
    exact ⟨.ref a, u, S, c, rfl, hs.ex e1, ok, e1.dp hc, hwy, fun r H' xs ys e' => q r H' xs ys (e1.trans e')⟩
/-! _law_near(ties, post) -/
def sp_law_near (K : PySem.W.Frag) : Sp := fun vs H Q _ => ∃ (v : V) (ts : List (Nat × Nat)) (x : Nat), vs = [v, .int (x : Nat)] ∧ Dp K H v (tiesT ts) ∧ ts.length ≤ 1000 ∧ ∀ l H', Ex H H' → H l = none → H' l = some (.lst ((nearZ ts x).map V.int)) → Q (.ref l) H'
theorem map_filter_flat {α β : Type} (p : α → Bool) (f : α → β) : ∀ xs : List α, (xs.filter p).map f = xs.flatMap fun a => if p a = true then [f a] else []
  | [] => rfl
  | x :: xs => by
    rw [List.flatMap_cons, ← map_filter_flat p f xs, List.filter_cons]
    split <;> rfl
theorem flat_perm {α β : Type} (f g : α → List β) : ∀ xs : List α, (xs.flatMap f ++ xs.flatMap g).Perm (xs.flatMap fun a => f a ++ g a)
  | [] => .refl _
  | x :: xs => by
    rw [List.flatMap_cons, List.flatMap_cons, List.flatMap_cons]
    have ih := flat_perm f g xs
    refine .trans ?_ (List.Perm.append_left (f x ++ g x) ih)
    rw [List.append_assoc, List.append_assoc]
    refine List.Perm.append_left (f x) ?_
    rw [← List.append_assoc, ← List.append_assoc]
    exact List.Perm.append_right _ List.perm_append_comm
theorem near_perm (ts : List (Nat × Nat)) (x : Nat) : (((ts.filter fun a => decide (a.2 = x)).map fun a => (a.1 : Int)) ++ ((ts.filter fun a => decide (a.1 = x)).map fun a => (a.2 : Int))).Perm (adjZ ts x) := by
  rw [map_filter_flat, map_filter_flat]
  refine List.perm_append_comm.trans ((flat_perm _ _ ts).trans ?_)
  unfold adjZ
  have e : ∀ a : Nat × Nat, ((if decide (a.1 = x) = true then [(a.2 : Int)] else []) ++ (if decide (a.2 = x) = true then [(a.1 : Int)] else [])) = ((if a.1 = x then [(a.2 : Int)] else []) ++ (if a.2 = x then [(a.1 : Int)] else [])) := fun a => by simp
  exact List.Perm.of_eq (congrArg (fun f => ts.flatMap f) (funext e))
theorem made_filter {α : Type} (d : α) (p : α → Bool) (f : α → D) : ∀ xs : List α, made xs.length (fun i => p (xs.getD i d)) (fun i => f (xs.getD i d)) = (xs.filter p).map f := fun xs => by
  unfold made
  have h1 : ((List.range xs.length).map fun i => xs.getD i d) = xs := by
    have := range_map d (fun x : α => x) xs
    rwa [List.map_id'] at this
  have h2 : xs.filter p = (((List.range xs.length).filter fun i => p (xs.getD i d)).map fun i => xs.getD i d) := by
    conv => lhs; rw [← h1]
    rw [List.filter_map]
    rfl
  rw [h2, List.map_map]
  rfl
theorem ok_law_near {f : Addr} {fd : FuncData} (F : C8.Def K mg "_law_near" s_law_near f fd) (b : Binds K fd ["ties", "post"] []) (T : Txt mg) : C8.Cal P w K mg base 1 "_law_near" (sp_law_near K) [] := by
  refine C8.cal0 F b .nil sc_law_near (fun vs H Q E h => ?_) (fun cdv A outer s H vs Q E hr h => ?_)
  · obtain ⟨v, ts, x, rfl, _⟩ := h
    rfl
  · obtain ⟨v, ts, x, rfl, ht, hl, q⟩ := h
    have hu64 := hu64_of hr
    obtain ⟨ta, tv, rfl, hta, htv⟩ := dp_tup ht
    have htl : tv.length = ts.length := by rw [dpa_len htv, List.length_map]
    refine ⟨_, (pss_one (ps_ret (pe_callB (TH.call_sortedD (K := K) hu64) (by rfl) T.b_sorted (by decide +kernel) (pa_cons (pe_op op_cat (pe_lc (own := [("one", 2), ("other", 3)]) (g := gTup K 2 (gCons (gName 2) (gCons (gName 3) gNil))) rfl sc_law_near.nd (TH.kpi_tup (K := K) (pv 0)) (blkOk_by (own := [("one", 2), ("other", 3)]) (N := N_law_near) (sc := C8.fnScope s_law_near) (by decide +kernel)) (fun _ _ _ _ _ => (TH.kpg_tup (K := K) (n := 2) rfl (pgs_cons (pg_name (i := 2) sc_law_near.nd rfl (Or.inl rfl) (Or.inr rfl)) (pgs_cons (pg_name (i := 3) sc_law_near.nd rfl (Or.inl rfl) (Or.inr rfl)) pgs_nil)))) (fun _ _ _ _ _ => (pts_one (pt_cmpR op_eq (pv 3) (pv 1) (nomark _)))) (fun _ _ _ _ _ => (pv 2))) (pe_lc (own := [("one", 2), ("other", 3)]) (g := gTup K 2 (gCons (gName 2) (gCons (gName 3) gNil))) rfl sc_law_near.nd (TH.kpi_tup (K := K) (pv 0)) (blkOk_by (own := [("one", 2), ("other", 3)]) (N := N_law_near) (sc := C8.fnScope s_law_near) (by decide +kernel)) (fun _ _ _ _ _ => (TH.kpg_tup (K := K) (n := 2) rfl (pgs_cons (pg_name (i := 2) sc_law_near.nd rfl (Or.inl rfl) (Or.inr rfl)) (pgs_cons (pg_name (i := 3) sc_law_near.nd rfl (Or.inl rfl) (Or.inr rfl)) pgs_nil)))) (fun _ _ _ _ _ => (pts_one (pt_cmpR op_eq (pv 2) (pv 1) (nomark _)))) (fun _ _ _ _ _ => (pv 3)))) pa_nil)))), ?_⟩
    refine w_start (σ' := [some (.ref ta), some (.int x), none, none]) rfl ?_
    walk_at "rd"
    refine ⟨ta, rfl, ⟨_, hta⟩, fun D1 hD1 => ?_⟩
    refine lc_data (K := K) walk_tup (fun i => decide ((ts.getD i (0, 0)).2 = x)) (fun i => .int ((ts.getD i (0, 0)).1 : Nat)) (fun _ => rfl) (fun H' e => e.t hta) hD1 (by omega) (fun i z H' H'' hi e y R R0 k k0 => ?_) (fun H1 ws e1 hws hda => ?_)
    · obtain ⟨rfl, hx⟩ := y
      obtain ⟨c, hc1, hc2⟩ := dpa_ties (e.dpa htv) hx
      obtain ⟨tt, rfl, htt⟩ := dp_tie hc2
      refine w_gtup htt rfl ?_
      walk_at "rd"
      refine ⟨rfl, ?_⟩
      walk_at "rd"
      have eg := getD_of (d := (0, 0)) hc1
      refine w_dec (fun hh => ?_) (fun hh => ?_)
      · walk_at "rd"
        refine k ?_ _ _ (Ex.refl _) ?_
        · rw [eg]
          exact decide_eq_true (by omega)
        · rw [eg]
          exact .int _
      · refine k0 ?_ _ (Ex.refl _)
        rw [eg]
        exact decide_eq_false (by omega)
    · rw [htl, made_filter (0, 0) (fun a : Nat × Nat => decide (a.2 = x)) (fun a => PyData.int (a.1 : Nat))] at hda
      walk_at "rd"
      refine ⟨ta, rfl, ⟨_, e1.t hta⟩, fun D2 hD2 => ?_⟩
      refine lc_data (K := K) walk_tup (fun i => decide ((ts.getD i (0, 0)).1 = x)) (fun i => .int ((ts.getD i (0, 0)).2 : Nat)) (fun _ => rfl) (fun H' e => e.t (e1.t hta)) hD2 (by omega) (fun i z H' H'' hi e y R R0 k k0 => ?_) (fun H2 ws2 e2 hws2 hda2 => ?_)
      · obtain ⟨rfl, hx⟩ := y
        obtain ⟨c, hc1, hc2⟩ := dpa_ties ((e1.trans e).dpa htv) hx
        obtain ⟨tt, rfl, htt⟩ := dp_tie hc2
        refine w_gtup htt rfl ?_
        walk_at "rd"
        refine ⟨rfl, ?_⟩
        walk_at "rd"
        have eg := getD_of (d := (0, 0)) hc1
        refine w_dec (fun hh => ?_) (fun hh => ?_)
        · walk_at "rd"
          refine k ?_ _ _ (Ex.refl _) ?_
          · rw [eg]
            exact decide_eq_true (by omega)
          · rw [eg]
            exact .int _
        · refine k0 ?_ _ (Ex.refl _)
          rw [eg]
          exact decide_eq_false (by omega)
      · rw [htl, made_filter (0, 0) (fun a : Nat × Nat => decide (a.1 = x)) (fun a => PyData.int (a.2 : Nat))] at hda2
        have m1 : ∀ (p : Nat × Nat → Bool) (f : Nat × Nat → Nat), (ts.filter p).map (fun a => PyData.int (f a : Nat)) = ((ts.filter p).map fun a => ((f a : Nat) : Int)).map PyData.int := fun p f => by
          rw [List.map_map]
          rfl
        rw [m1 _ (fun a => a.1)] at hda
        rw [m1 _ (fun a => a.2)] at hda2
        have e6 := dpa_ints_inv hda
        have e7 := dpa_ints_inv hda2
        have len : ∀ (p : Nat × Nat → Bool), (ts.filter p).length ≤ 1000 := fun p => Nat.le_trans (List.length_filter_le _ _) hl
        subst e6 e7
        refine ⟨D1, D2, _, _, rfl, rfl, e2 _ _ hws, hws2, small2 (by
          have l1 := len fun a => decide (a.2 = x)
          have l2 := len fun a => decide (a.1 = x)
          simp only [List.length_map]
          omega), fun l3 hl3 => ?_⟩
        walk_at "rd"
        refine w_sortI (ns := ((ts.filter fun a => decide (a.2 = x)).map fun a => (a.1 : Int)) ++ ((ts.filter fun a => decide (a.1 = x)).map fun a => (a.2 : Int))) (sqL ?_) fun p hp => ?_
        · rw [List.map_append]
          exact upd_same
        · have e3 := e1.trans (e2.trans (Ex.new (o := .lst (List.map V.int ((ts.filter fun a => decide (a.2 = x)).map fun a => (a.1 : Int)) ++ List.map V.int ((ts.filter fun a => decide (a.1 = x)).map fun a => (a.2 : Int)))) hl3))
          refine q p _ (e3.trans (Ex.new hp)) (e3.fresh hp) ?_
          rw [upd_same, sortZ_of_perm (near_perm ts x)]
          rfl
end TK

namespace TK
open PySem PySem.Spec PyProof.Rows L2 TH
local macro_rules | `(tactic| walk_at "rd1") => `(tactic| first
  | (with_reducible refine TH.w_seq ?_)
  | (with_reducible refine TH.w_asg ?_)
  | (with_reducible refine TH.w_ret ?_)
  | (with_reducible refine TH.w_drop ?_)
  | (with_reducible refine TH.w_ifS ?_)
  | (with_reducible refine TH.w_next ?_)
  | ((with_reducible refine TH.w_var (v := ?vv) ?hv ?_); (case hv => rfl))
  | (with_reducible refine TH.w_c ?_)
  | ((with_reducible refine TH.w_gname (σ' := ?ss) ?hs ?_); (case hs => (dsimp only [List.set]; rfl)))
  | (with_reducible refine TH.w_op ?_)
  | (with_reducible refine TH.w_un ?_)
  | (with_reducible refine TH.w_chain ?_)
  | (with_reducible refine TH.w_I0 ?_)
  | ((with_reducible refine TH.w_I ?hm ?_); (case hm => first | (exact TH.CMul.l (by omega) (by omega)) | (exact TH.CMul.r (by omega) (by omega)) | (exact TH.CDiv.mk (by omega) (by omega)) | (show (0 : Int) < _; omega) | (exact TH.CPow.mk (by omega) (by omega) (by decide))))
  | (with_reducible refine TH.w_U ?_)
  | (with_reducible refine TH.w_eqI ?_)
  | (with_reducible refine TH.w_neI ?_)
  | (with_reducible refine TH.w_eqB ?_)
  | (with_reducible refine TH.w_isN ?_)
  | (with_reducible refine TH.w_nil ?_)
  | (with_reducible refine TH.w_cons ?_)
  | (with_reducible refine TH.w_test ?_)
  | (with_reducible refine TH.w_B ?_)
  | (with_reducible refine TH.w_bl ?_)
  | (with_reducible refine TH.w_and ?_)
  | (with_reducible refine TH.w_or ?_)
  | (with_reducible refine TH.w_not ?_)
  | (with_reducible refine TH.w_andV ?_)
  | (with_reducible refine TH.w_orV ?_)
  | (with_reducible refine TH.w_notV ?_)
  | (with_reducible refine TH.w_if ?_)
  | (with_reducible refine TH.w_parT ?_)
  | (with_reducible refine TH.w_par ?_)
  | (with_reducible refine TH.w_parT3 ?_)
  | (with_reducible refine TH.w_par3 ?_)
  | (with_reducible refine TH.w_cb ?_)
  | (with_reducible refine TH.w_call ?_)
  | ((with_reducible refine TH.w_aug (v := ?vv) ?hv ?_); (case hv => rfl))
  | (with_reducible refine TH.w_ip ?_)
  | (with_reducible refine TH.w_bm ?_)
  | (with_reducible refine TH.w_sl ?_)
  | (with_reducible refine TH.w_np ?_)
  | (with_reducible refine TH.w_pt ?_)
  | (with_reducible refine TH.w_pti ?_)
  | (with_reducible refine TH.w_gsub ?_)
  | (with_reducible refine TH.w_int ?_)
  | (with_reducible refine TH.w_tupT ?_)
  | (with_reducible refine TH.w_lstT ?_)
  | ((with_reducible show L2.rIxL _ _ _ _ _); (first | (refine TH.w_ixL (TH.sqL upd_same) rfl ?_) | (refine TH.w_ixL (TH.sqL (by assumption)) rfl ?_)))
  | ((with_reducible show L2.rSetL _ _ _ _ _); (first | (refine TH.w_set1 upd_same ?_) | (refine TH.w_set2 upd_same ?_) | (refine TH.w_set3 upd_same ?_) | (refine TH.w_set4 upd_same ?_) | (refine TH.w_set1 (by assumption) ?_) | (refine TH.w_set2 (by assumption) ?_) | (refine TH.w_set3 (by assumption) ?_) | (refine TH.w_set4 (by assumption) ?_)))
  | (with_reducible refine TH.w_lc ?_)
  | (with_reducible refine TH.w_dc ?_)
  | (with_reducible refine TH.w_itup ?_)
  | (with_reducible refine TH.w_ilist ?_)
  | (with_reducible refine TH.w_ienum ?_)
  | (with_reducible refine TH.w_izip ?_)
  | (with_reducible refine TH.w_irng1 ?_)
  | (with_reducible refine TH.w_irng2 ?_)
  | (with_reducible refine TH.w_for ?_)
  | (with_reducible refine TH.w_gcons ?_)
  | (with_reducible refine TH.w_gnil ?_)
  | (with_reducible refine TH.w_yes ?_)
  | (with_reducible refine TH.w_gtup2 upd_same ?_)
  | (with_reducible refine TH.w_gtup3 upd_same ?_)
  | (with_reducible refine TH.w_dput ?_)
  | (with_reducible refine TH.w_bm0 ?_)
  | (with_reducible refine TH.w_din ?_)
  | (with_reducible refine TH.w_dnotin ?_)
  | (with_reducible refine TH.w_dispK ?_)
  | (with_reducible refine TH.w_lock ?_)
  | (with_reducible refine TH.w_ikeys ?_)
  | (with_reducible refine TH.w_iitems ?_)
  | (with_reducible refine TH.w_dispT1 ?_)
  | (with_reducible refine TH.w_dnewT ?_)
  | (with_reducible refine TH.w_dnewK ?_)
  | (with_reducible refine TH.w_fld ?_)
  | (with_reducible refine TH.w_sfld ?_)
  | (with_reducible refine TH.w_meth ?_)
  | (with_reducible refine TH.w_make ?_)
  | (with_reducible refine TH.w_dget2 ?_)
  | (with_reducible refine TH.w_revL ?_)
  | (with_reducible refine TH.w_revT ?_)
  | (with_reducible refine TH.w_lstRg ?_)
  | (with_reducible refine TH.w_tupRg ?_)
  | (with_reducible refine TH.w_rg1 ?_)
  | (with_reducible refine TH.w_rg2 ?_)
  | (with_reducible refine TH.w_T ?_)
  | (with_reducible refine TH.w_F ?_))
local macro_rules | `(tactic| walk_at "rd") => `(tactic| repeat (first | walk_at "rd1" | (dsimp only [List.set, L2.wipe, List.map, TH.isInt, TH.isBool, TH.isTup, TH.isLst, TH.bo_f, TH.bo_t, TH.ba_f, TH.ba_t, TH.bn_t, TH.bn_f, List.append_nil, List.cons_append, List.nil_append])))

variable {P : Program} {w : World} {K : PySem.W.Frag} {mg : Str → Option Value} {base : Heap}
/-! _law_all_ways(ties) -/
def sp_law_all_ways (K : PySem.W.Frag) : Sp := fun vs H Q _ => ∃ (v : V) (ts : List (Nat × Nat)), vs = [v] ∧ Dp K H v (tiesT ts) ∧ ts.length ≤ 1000 ∧ ∀ l ws H', Ex H H' → H l = none → H' l = some (.lst ws) → DpAll K H' ws ((waysP ts).map tieD) → Q (.ref l) H'
theorem ok_law_all_ways {f : Addr} {fd : FuncData} (F : C8.Def K mg "_law_all_ways" s_law_all_ways f fd) (b : Binds K fd ["ties"] []) (T : Txt mg) : C8.Cal P w K mg base 1 "_law_all_ways" (sp_law_all_ways K) [] := by
  refine C8.cal0 F b .nil sc_law_all_ways (fun vs H Q E h => ?_) (fun cdv A outer s H vs Q E hr h => ?_)
  · obtain ⟨v, ts, rfl, _⟩ := h
    rfl
  · obtain ⟨v, ts, rfl, ht, hl, q⟩ := h
    have hu64 := hu64_of hr
    obtain ⟨ta, tv, rfl, hta, htv⟩ := dp_tup ht
    have htl : tv.length = ts.length := by rw [dpa_len htv, List.length_map]
    refine ⟨_, (pss_one (ps_ret (pe_callB (TH.call_sortedD (K := K) hu64) (by rfl) T.b_sorted (by decide +kernel) (pa_cons (pe_op op_cat (pe_callTy (TH.kcall_list (K := K)) (by rfl) T.b_list (by decide +kernel) (pa_cons (pv 0) pa_nil)) (pe_lc (own := [("one", 1), ("other", 2)]) (g := gTup K 2 (gCons (gName 1) (gCons (gName 2) gNil))) (tt := tYes) rfl sc_law_all_ways.nd (TH.kpi_tup (K := K) (pv 0)) (blkOk_by (own := [("one", 1), ("other", 2)]) (N := N_law_all_ways) (sc := C8.fnScope s_law_all_ways) (by decide +kernel)) (fun _ _ _ _ _ => (TH.kpg_tup (K := K) (n := 2) rfl (pgs_cons (pg_name (i := 1) sc_law_all_ways.nd rfl (Or.inl rfl) (Or.inr rfl)) (pgs_cons (pg_name (i := 2) sc_law_all_ways.nd rfl (Or.inl rfl) (Or.inr rfl)) pgs_nil)))) (fun _ _ _ _ _ => pts_nil) (fun _ _ _ _ _ => (pe_tup (pa_cons (pv 2) (pa_cons (pv 1) pa_nil)))))) pa_nil)))), ?_⟩
    refine w_start (σ' := [some (.ref ta), none, none]) rfl ?_
    walk_at "rd"
    refine ⟨ta, tv, rfl, .inr hta, fun l1 hl1 => ?_⟩
    have e1 : Ex H (upd H l1 (.lst tv)) := Ex.new hl1
    have u1 : upd H l1 (.lst tv) l1 = some (.lst tv) := upd_same
    generalize upd H l1 (.lst tv) = H1 at e1 u1 ⊢
    walk_at "rd"
    refine ⟨ta, rfl, ⟨_, e1.t hta⟩, fun Dl hD => ?_⟩
    refine lc_data (K := K) walk_tup (fun _ => true) (fun i => tieD (swapP (ts.getD i (0, 0)))) (fun _ => rfl) (fun H' e => e.t (e1.t hta)) hD (by omega) (fun i x H' H'' hi e y R R0 k _ => ?_) (fun H2 ws e2 hws hdw => ?_)
    · obtain ⟨rfl, hx⟩ := y
      obtain ⟨c, hc1, hc2⟩ := dpa_ties ((e1.trans e).dpa htv) hx
      obtain ⟨tt, rfl, htt⟩ := dp_tie hc2
      refine w_gtup htt rfl ?_
      walk_at "rd"
      refine ⟨rfl, ?_⟩
      walk_at "rd"
      refine w_dispT (by simp) fun p hp => ?_
      refine k rfl _ _ (Ex.new hp) ?_
      rw [getD_of hc1]
      exact dp_tie_of (sqT upd_same)
    · have e3 : (List.range tv.length).map (fun i => tieD (swapP (ts.getD i (0, 0)))) = (ts.map swapP).map tieD := by
        rw [htl, List.map_map]
        exact range_map (0, 0) (fun c => tieD (swapP c)) ts
      rw [made_all, e3] at hdw
      have hwl : ws.length = ts.length := by rw [dpa_len hdw, List.length_map, List.length_map]
      refine ⟨l1, Dl, _, _, rfl, rfl, e2 _ _ u1, hws, small2 (by omega), fun l3 hl3 => ?_⟩
      have e13 := e1.trans (e2.trans (Ex.new (o := .lst (tv ++ ws)) hl3))
      have hd3 : DpAll K (upd H2 l3 (.lst (tv ++ ws))) (tv ++ ws) ((ts ++ ts.map swapP).map tieD) := by
        rw [List.map_append]
        exact (Ex.new hl3).dpa (dpa_append ((e1.trans e2).dpa htv) hdw)
      have u3 : upd H2 l3 (.lst (tv ++ ws)) l3 = some (.lst (tv ++ ws)) := upd_same
      generalize upd H2 l3 (.lst (tv ++ ws)) = H3 at e13 hd3 u3 ⊢
      walk_at "rd"
      refine w_sortP (sqL u3) hd3 fun p ws' hp hw' => ?_
      exact q p ws' _ (e13.trans (Ex.new hp)) (e13.fresh hp) upd_same ((Ex.new hp).dpa hw')
/-! _law_this(ties, way) -/
theorem inV_ints (z : Int) : ∀ xs : List Int, inV (.int z) (xs.map V.int) = decide (z ∈ xs)
  | [] => rfl
  | x :: xs => by
    have e : inV (.int z) ((x :: xs).map V.int) = (eqV (.int x) (.int z) || inV (.int z) (xs.map V.int)) := rfl
    have e2 : eqV (.int x) (.int z) = decide (x = z) := by
      by_cases h : x = z <;> simp [eqV, h]
    rw [e, e2, inV_ints z xs]
    by_cases h : x = z
    · subst h
      simp
    · have h' : z ≠ x := fun e => h e.symm
      simp [h, h']
theorem flat_ints (xs : List Int) : (xs.map V.int).all flatV = true := by
  rw [List.all_eq_true]
  intro v hv
  obtain ⟨x, _, rfl⟩ := List.mem_map.mp hv
  rfl
theorem w_notInI {H : Hp} {Q : VK} {a : Addr} {z : Int} {xs : List Int} (h : SqL K H a (xs.map V.int) ∨ SqT K H a (xs.map V.int)) (q : Q (.bl (!decide (z ∈ xs))) H) : rIn K true (.int z) (.ref a) H Q :=
  ⟨a, _, rfl, h, rfl, flat_ints xs, by rw [if_pos rfl, inV_ints]; exact q⟩
theorem w_inI {H : Hp} {Q : VK} {a : Addr} {z : Int} {xs : List Int} (h : SqL K H a (xs.map V.int) ∨ SqT K H a (xs.map V.int)) (q : Q (.bl (decide (z ∈ xs))) H) : rIn K false (.int z) (.ref a) H Q :=
  ⟨a, _, rfl, h, rfl, flat_ints xs, by rw [if_neg Bool.false_ne_true, inV_ints]; exact q⟩
theorem adjZ_nodup : ∀ {ts : List (Nat × Nat)}, ts.Nodup → (∀ a ∈ ts, a.1 < a.2) → ∀ v : Nat, (adjZ ts v).Nodup
  | [], _, _, v => by simp [adjZ]
  | t :: ts, nd, h, v => by
    obtain ⟨n1, n2⟩ := List.nodup_cons.mp nd
    have ih := adjZ_nodup n2 (fun a ha => h a (List.mem_cons_of_mem _ ha)) v
    have ht := h t List.mem_cons_self
    have e : adjZ (t :: ts) v = ((if t.1 = v then [(t.2 : Int)] else []) ++ (if t.2 = v then [(t.1 : Int)] else [])) ++ adjZ ts v := by
      unfold adjZ
      rw [List.flatMap_cons]
    rw [e]
    have no : ∀ y : Nat, (y : Int) ∈ adjZ ts v → ¬ (t = (v, y)) ∧ ¬ (t = (y, v)) := fun y hy => by
      obtain ⟨a, ha, hh⟩ := mem_adjZ.mp hy
      have hlt := h a (List.mem_cons_of_mem _ ha)
      rcases hh with ⟨h1, h2⟩ | ⟨h1, h2⟩
      · have ea : a = (v, y) := Prod.ext (by omega) (by omega)
        subst ea
        exact ⟨fun e => n1 (e ▸ ha), fun e => by rw [e] at ht; simp at ht hlt; omega⟩
      · have ea : a = (y, v) := Prod.ext (by omega) (by omega)
        subst ea
        exact ⟨fun e => by rw [e] at ht; simp at ht hlt; omega, fun e => n1 (e ▸ ha)⟩
    by_cases h1 : t.1 = v
    · have h2 : ¬ t.2 = v := by omega
      rw [if_pos h1, if_neg h2]
      refine List.nodup_cons.mpr ⟨fun hm => ?_, ih⟩
      exact (no t.2 hm).1 (Prod.ext h1 rfl)
    · by_cases h2 : t.2 = v
      · rw [if_neg h1, if_pos h2]
        refine List.nodup_cons.mpr ⟨fun hm => ?_, ih⟩
        exact (no t.1 hm).2 (Prod.ext rfl h2)
      · rw [if_neg h1, if_neg h2]
        exact ih
theorem ties_nodup {posts : Nat} {ts : List (Nat × Nat)} (ok : TiesOk posts ts) : ts.Nodup := ok.ord.imp fun h e => by
  subst e
  omega
theorem nearZ_nodup {posts : Nat} {ts : List (Nat × Nat)} (ok : TiesOk posts ts) (v : Nat) : (nearZ ts v).Nodup := (sortZ_perm _).nodup_iff.mpr (adjZ_nodup (ties_nodup ok) (fun a ha => (ok.rng a ha).1) v)
def sp_law_this (K : PySem.W.Frag) : Sp := fun vs H Q _ => ∃ (v u : V) (posts : Nat) (ts : List (Nat × Nat)) (c : Nat × Nat), vs = [v, u] ∧ Dp K H v (tiesT ts) ∧ TreeOk posts ts ∧ Dp K H u (tieD c) ∧ c.1 < posts ∧
  ∀ (l : Addr) (ys : List Int) (H' : Hp), Ex H H' → H l = none → H' l = some (.lst (ys.map V.int)) → ys.Pairwise (· ≤ ·) → ys.Nodup → (∀ y, y ∈ ys ↔ Rch (nbZ posts ts) (some (c.2 : Int)) (c.1 : Int) y) → Q (.ref l) H'
theorem ok_law_this {f : Addr} {fd : FuncData} (F : C8.Def K mg "_law_this" s_law_this f fd) (b : Binds K fd ["ties", "way"] []) (T : Txt mg)
    (c_law_near : C8.Cal P w K mg base 1 "_law_near" (sp_law_near K) []) : C8.Cal P w K mg base 2 "_law_this" (sp_law_this K) [] := by
  refine C8.cal0 F b .nil sc_law_this (fun vs H Q E h => ?_) (fun cdv A outer s H vs Q E hr h => ?_)
  · obtain ⟨v, u, posts, ts, c, rfl, _⟩ := h
    rfl
  · obtain ⟨v, u, posts, ts, c, rfl, ht, ok, hc, hx, q⟩ := h
    have hu64 := hu64_of hr
    obtain ⟨ca, rfl, hca⟩ := dp_tie hc
    obtain ⟨o, pa, rk, r, R⟩ := id ok
    have o1 := o.len
    have o2 := o.few
    refine ⟨_, (pss_cons (ps_asg (pe_tup (pa_cons (pe_lst pa_nil) (pa_cons (pe_lst (pa_cons (pe_ix (TH.kix_tup (K := K)) (pv 1) pe_int (fun _ _ => rfl)) pa_nil)) pa_nil))) (TH.kpg_tup (K := K) (n := 2) rfl (pgs_cons (pg_name (i := 2) sc_law_this.nd rfl (Or.inr rfl) (Or.inl rfl)) (pgs_cons (pg_name (i := 3) sc_law_this.nd rfl (Or.inl rfl) (Or.inr rfl)) pgs_nil))))
      (pss_cons (ps_while PassesOwn.never (pt_cmpR op_gt (pe_callB (TH.kcall_len (K := K)) (by rfl) T.b_len (by decide +kernel) (pa_cons (pv 3) pa_nil)) pe_int (nomark _)) (pss_cons (ps_set (i := 4) sc_law_this.nd rfl (Or.inl rfl) (TH.kpe_bm0 (K := K) PySem.F.plainAttrs_list PySem.F.slot_list_pop PySem.F.type_list_pop mt_pop (pv 3)))
      (pss_cons (ps_expr (TH.kpe_bm (K := K) PySem.F.plainAttrs_list PySem.F.slot_list_append PySem.F.type_list_append mt_append (pv 2) (pa_cons (pv 4) pa_nil)))
      (pss_one (ps_expr (TH.kpe_bm (K := K) PySem.F.plainAttrs_list PySem.F.slot_list_extend PySem.F.type_list_extend mt_extend (pv 3) (pa_cons (pe_lc (own := [("other", 5)]) (g := gName 5) rfl sc_law_this.nd (TH.kpi_list (K := K) (C8.pe_c c_law_near hr (by first | decide | exact Nat.le_refl _) (by rfl) (pa_cons (pv 0) (pa_cons (pv 4) pa_nil)))) (blkOk_by (own := [("other", 5)]) (N := N_law_this) (sc := C8.fnScope s_law_this) (by decide +kernel)) (fun _ _ _ _ _ => (pg_name (i := 5) sc_law_this.nd rfl (Or.inl rfl) (Or.inr rfl))) (fun _ _ _ _ _ => (pts_one (PW.pt (pw_and (pt_cmpR (TH.kop_notIn (K := K)) (pv 5) (pv 2) (by rfl)) (pw_and1 (pt_cmpR op_ne (pv 5) (pe_ix (TH.kix_tup (K := K)) (pv 1) pe_int (fun _ _ => rfl)) (nomark _))))))) (fun _ _ _ _ _ => (pv 5))) pa_nil)))))))
      (pss_one (ps_ret (pe_callB (TH.call_sortedD (K := K) hu64) (by rfl) T.b_sorted (by decide +kernel) (pa_cons (pv 2) pa_nil)))))), ?_⟩
    refine w_start (σ' := [some v, some (.ref ca), none, none, none, none]) rfl ?_
    walk_at "rd"
    refine w_dispT (by simp) fun fl hfl => ?_
    have hca1 : SqT K (upd H fl (.lst [])) ca [.int (c.1 : Nat), .int (c.2 : Nat)] := (Ex.new hfl).t hca
    walk_at "rd"
    refine w_ixT hca1 (atI_at (j := 0) rfl) ?_
    walk_at "rd"
    refine w_dispT (by simp) fun wl hwl => ?_
    walk_at "rd"
    have hfw : fl ≠ wl := fun z => by rw [z, upd_same] at hwl; cases hwl
    have hwl0 : H wl = none := by rw [upd_ne (Ne.symm hfw)] at hwl; exact hwl
    refine w_dispT (by simp) fun tp htp => ?_
    have i1 : Ex H (upd (upd (upd H fl (.lst [])) wl (.lst [V.int (c.1 : Nat)])) tp (.tup [.ref fl, .ref wl])) := (Ex.new hfl).trans ((Ex.new hwl).trans (Ex.new htp))
    have i2 : upd (upd (upd H fl (.lst [])) wl (.lst [V.int (c.1 : Nat)])) tp (.tup [.ref fl, .ref wl]) fl = some (.lst []) := (Ex.new htp) _ _ (by rw [upd_ne hfw]; exact upd_same)
    have i3 : upd (upd (upd H fl (.lst [])) wl (.lst [V.int (c.1 : Nat)])) tp (.tup [.ref fl, .ref wl]) wl = some (.lst [V.int (c.1 : Nat)]) := (Ex.new htp) _ _ upd_same
    have i4 : upd (upd (upd H fl (.lst [])) wl (.lst [V.int (c.1 : Nat)])) tp (.tup [.ref fl, .ref wl]) tp = some (.tup [.ref fl, .ref wl]) := upd_same
    generalize upd (upd (upd H fl (.lst [])) wl (.lst [V.int (c.1 : Nat)])) tp (.tup [.ref fl, .ref wl]) = H0 at i1 i2 i3 i4 ⊢
    refine w_gtup2 i4 ?_
    walk_at "rd"
    refine ⟨fun m σ H' => Ex H H' ∧ ∃ (y4 y5 : Option V) (fd wt : List Int), σ = [some v, some (.ref ca), some (.ref fl), some (.ref wl), y4, y5] ∧ H' fl = some (.lst (fd.map V.int)) ∧ H' wl = some (.lst (wt.map V.int)) ∧ LT.Dfs posts ts pa r (some (c.2 : Int)) (c.1 : Int) fd wt ∧ m = posts - fd.length,
      ⟨_, i1, _, _, [], [(c.1 : Int)], rfl, i2, i3, LT.Dfs.start R (by omega) (by omega), rfl⟩, fun m σ H' hw => ?_⟩
    obtain ⟨e, y4, y5, fd, wt, rfl, h1, h2, h3, hm⟩ := hw
    have hfew : fd.length + wt.length ≤ posts := by
      rw [← List.length_append]
      obtain ⟨t, ht⟩ := h3.rs
      exact few_of h3.nd fun x hx => ht.rng x hx
    walk_at "rd"
    refine ⟨wl, _, rfl, .inl (sqL h2), ?_⟩
    walk_at "rd"
    refine w_dec (fun hpos => ?_) (fun hpos => ?_)
    · rw [List.length_map] at hpos
      obtain ⟨wr, x, rfl⟩ : ∃ wr x, wt = wr ++ [x] := by
        have hne : wt ≠ [] := fun z => by rw [z] at hpos; simp at hpos
        exact ⟨wt.dropLast, wt.getLast hne, (List.dropLast_concat_getLast hne).symm⟩
      rw [List.length_append, List.length_singleton] at hfew
      have hxr : 0 ≤ x ∧ x < posts := by
        obtain ⟨t, ht⟩ := h3.rs
        exact ht.rng x (List.mem_append_right _ (List.mem_append_right _ (List.mem_singleton.mpr rfl)))
      obtain ⟨n, rfl⟩ : ∃ n : Nat, x = n := ⟨x.toNat, by omega⟩
      refine ⟨fun σ' H'' => Ex H H'' ∧ ∃ (y4 y5 : Option V) (fd wt : List Int), σ' = [some v, some (.ref ca), some (.ref fl), some (.ref wl), y4, y5] ∧ H'' fl = some (.lst (fd.map V.int)) ∧ H'' wl = some (.lst (wt.map V.int)) ∧ LT.Dfs posts ts pa r (some (c.2 : Int)) (c.1 : Int) fd wt ∧ posts - fd.length < m, fun σ' H'' hh => ?_, ?_⟩
      · obtain ⟨a1, y4', y5', fd', wt', a2, a3, a4, a5, a6⟩ := hh
        exact ⟨_, a6, a1, y4', y5', fd', wt', a2, a3, a4, a5, rfl⟩
      · walk_at "rd"
        refine ⟨tyL h2, ?_⟩
        rw [List.map_append] at h2
        refine w_pop h2 ?_
        walk_at "rd"
        have h1' : upd H' wl (.lst (wr.map V.int)) fl = some (.lst (fd.map V.int)) := by rw [upd_ne hfw]; exact h1
        have e1 : Ex H (upd H' wl (.lst (wr.map V.int))) := e.mut hwl0
        have h2' : upd H' wl (.lst (wr.map V.int)) wl = some (.lst (wr.map V.int)) := upd_same
        generalize upd H' wl (.lst (wr.map V.int)) = H1 at h1' h2' e1 ⊢
        refine ⟨tyL h1', ?_⟩
        walk_at "rd"
        refine w_app h1' (by rw [List.length_map]; omega) ?_
        walk_at "rd"
        have e2 : Ex H (upd H1 fl (.lst (fd.map V.int ++ [V.int n]))) := e1.mut hfl
        have h2'' : upd H1 fl (.lst (fd.map V.int ++ [V.int n])) wl = some (.lst (wr.map V.int)) := by rw [upd_ne (Ne.symm hfw)]; exact h2'
        have h1'' : upd H1 fl (.lst (fd.map V.int ++ [V.int n])) fl = some (.lst ((fd ++ [(n : Int)]).map V.int)) := by rw [upd_same, List.map_append]; rfl
        generalize upd H1 fl (.lst (fd.map V.int ++ [V.int n])) = H2 at h1'' h2'' e2 ⊢
        refine ⟨tyL h2'', ?_⟩
        walk_at "rd"
        refine ⟨v, ts, n, rfl, e2.dp ht, by omega, fun l H3 e3 hl0 hl3 => ?_⟩
        have e23 := e2.trans e3
        refine ⟨l, rfl, ⟨_, sqL hl3⟩, fun Dl hD => ?_⟩
        have hnear := nearZ_nodup o n
        have hnm : ∀ y, y ∈ nearZ ts n ↔ LT.Adj ts (n : Int) y := fun y => mem_nearZ
        generalize nearZ ts n = nr at hl3 hnear hnm
        have hnl : nr.length ≤ posts := few_of hnear fun y hy => R.rng _ _ ((hnm y).mp hy).symm
        refine lc_data (K := K) walk_list (fun i => decide (nr.getD i 0 ∉ fd ++ [(n : Int)]) && decide (some (c.2 : Int) ≠ some (nr.getD i 0))) (fun i => .int (nr.getD i 0)) (fun _ => rfl) (fun H' e => e.l (sqL hl3)) hD (by rw [List.length_map]; omega) (fun i z H4 H5 hi e4 y R0 R1 k k0 => ?_) (fun H4 ws e4 hws hda => ?_)
        · obtain ⟨rfl, hz⟩ := y
          obtain ⟨zz, hzz, rfl⟩ := ints_at hz
          have eg := getD_of (d := 0) hzz
          walk_at "rd"
          refine ⟨rfl, ?_⟩
          walk_at "rd"
          refine w_notInI (xs := fd ++ [(n : Int)]) (.inl (sqL ((e3.trans e4) _ _ h1''))) ?_
          walk_at "rd"
          refine w_decN (fun hnin => ?_) (fun hin => ?_)
          · walk_at "rd"
            refine w_ixT ((e23.trans e4).t hca) (atI_at (j := 1) rfl) ?_
            walk_at "rd"
            refine w_decN (fun hne => ?_) (fun heq => ?_)
            · walk_at "rd"
              refine k ?_ _ _ (Ex.refl _) ?_
              · rw [eg, Bool.and_eq_true]
                exact ⟨decide_eq_true hnin, decide_eq_true fun z => hne (Option.some.inj z).symm⟩
              · rw [eg]
                exact .int _
            · refine k0 ?_ _ (Ex.refl _)
              rw [eg, heq, Bool.and_eq_false_iff]
              exact .inr (decide_eq_false fun z => z rfl)
          · refine k0 ?_ _ (Ex.refl _)
            rw [eg, Bool.and_eq_false_iff]
            exact .inl (decide_eq_false fun z => z hin)
        · walk_at "rd"
          rw [List.length_map, made_filter 0 (fun y : Int => decide (y ∉ fd ++ [(n : Int)]) && decide (some (c.2 : Int) ≠ some y)) (fun y => PyData.int y)] at hda
          have e5 := dpa_ints_inv hda
          subst e5
          have e34 := e3.trans e4
          have hst := h3.step R hnear hnm (fun y => decide (y ∉ fd ++ [(n : Int)]) && decide (some (c.2 : Int) ≠ some y)) fun y => by
            rw [Bool.and_eq_true, decide_eq_true_iff, decide_eq_true_iff]
          refine ⟨wl, Dl, _, _, rfl, rfl, e34 _ _ h2'', hws, small2 (by
            have := List.length_filter_le (fun y : Int => decide (y ∉ fd ++ [(n : Int)]) && decide (some (c.2 : Int) ≠ some y)) nr
            simp only [List.length_map]
            omega), ?_⟩
          walk_at "rd"
          refine ⟨(e2.trans e34).mut hwl0, _, _, _, _, rfl, by rw [upd_ne hfw]; exact e34 _ _ h1'', by rw [upd_same, ← List.map_append], hst, by rw [List.length_append, List.length_singleton]; omega⟩
    · have hwt : wt = [] := List.length_eq_zero_iff.mp (by rw [List.length_map] at hpos; omega)
      subst hwt
      obtain ⟨f1, f2⟩ := h3.fin
      walk_at "rd"
      refine w_sortI (sqL h1) fun p hp => ?_
      refine q p _ _ (e.trans (Ex.new hp)) (e.fresh hp) upd_same (sortZ_pw fd) ((sortZ_perm fd).nodup_iff.mpr f1) fun y => ?_
      rw [(sortZ_perm fd).mem_iff, f2, rch_rc ok (by omega) (by omega)]
end TK

namespace TK
open PySem PySem.Spec PyProof.Rows L2 TH
local macro_rules | `(tactic| walk_at "rd1") => `(tactic| first
  | (with_reducible refine TH.w_seq ?_)
  | (with_reducible refine TH.w_asg ?_)
  | (with_reducible refine TH.w_ret ?_)
  | (with_reducible refine TH.w_drop ?_)
  | (with_reducible refine TH.w_ifS ?_)
  | (with_reducible refine TH.w_next ?_)
  | ((with_reducible refine TH.w_var (v := ?vv) ?hv ?_); (case hv => rfl))
  | (with_reducible refine TH.w_c ?_)
  | ((with_reducible refine TH.w_gname (σ' := ?ss) ?hs ?_); (case hs => (dsimp only [List.set]; rfl)))
  | (with_reducible refine TH.w_op ?_)
  | (with_reducible refine TH.w_un ?_)
  | (with_reducible refine TH.w_chain ?_)
  | (with_reducible refine TH.w_I0 ?_)
  | ((with_reducible refine TH.w_I ?hm ?_); (case hm => first | (exact TH.CMul.l (by omega) (by omega)) | (exact TH.CMul.r (by omega) (by omega)) | (exact TH.CDiv.mk (by omega) (by omega)) | (show (0 : Int) < _; omega) | (exact TH.CPow.mk (by omega) (by omega) (by decide))))
  | (with_reducible refine TH.w_U ?_)
  | (with_reducible refine TH.w_eqI ?_)
  | (with_reducible refine TH.w_neI ?_)
  | (with_reducible refine TH.w_eqB ?_)
  | (with_reducible refine TH.w_isN ?_)
  | (with_reducible refine TH.w_nil ?_)
  | (with_reducible refine TH.w_cons ?_)
  | (with_reducible refine TH.w_test ?_)
  | (with_reducible refine TH.w_B ?_)
  | (with_reducible refine TH.w_bl ?_)
  | (with_reducible refine TH.w_and ?_)
  | (with_reducible refine TH.w_or ?_)
  | (with_reducible refine TH.w_not ?_)
  | (with_reducible refine TH.w_andV ?_)
  | (with_reducible refine TH.w_orV ?_)
  | (with_reducible refine TH.w_notV ?_)
  | (with_reducible refine TH.w_if ?_)
  | (with_reducible refine TH.w_parT ?_)
  | (with_reducible refine TH.w_par ?_)
  | (with_reducible refine TH.w_parT3 ?_)
  | (with_reducible refine TH.w_par3 ?_)
  | (with_reducible refine TH.w_cb ?_)
  | (with_reducible refine TH.w_call ?_)
  | ((with_reducible refine TH.w_aug (v := ?vv) ?hv ?_); (case hv => rfl))
  | (with_reducible refine TH.w_ip ?_)
  | (with_reducible refine TH.w_bm ?_)
  | (with_reducible refine TH.w_sl ?_)
  | (with_reducible refine TH.w_np ?_)
  | (with_reducible refine TH.w_pt ?_)
  | (with_reducible refine TH.w_pti ?_)
  | (with_reducible refine TH.w_gsub ?_)
  | (with_reducible refine TH.w_int ?_)
  | (with_reducible refine TH.w_tupT ?_)
  | (with_reducible refine TH.w_lstT ?_)
  | ((with_reducible show L2.rIxL _ _ _ _ _); (first | (refine TH.w_ixL (TH.sqL upd_same) rfl ?_) | (refine TH.w_ixL (TH.sqL (by assumption)) rfl ?_)))
  | ((with_reducible show L2.rSetL _ _ _ _ _); (first | (refine TH.w_set1 upd_same ?_) | (refine TH.w_set2 upd_same ?_) | (refine TH.w_set3 upd_same ?_) | (refine TH.w_set4 upd_same ?_) | (refine TH.w_set1 (by assumption) ?_) | (refine TH.w_set2 (by assumption) ?_) | (refine TH.w_set3 (by assumption) ?_) | (refine TH.w_set4 (by assumption) ?_)))
  | (with_reducible refine TH.w_lc ?_)
  | (with_reducible refine TH.w_dc ?_)
  | (with_reducible refine TH.w_itup ?_)
  | (with_reducible refine TH.w_ilist ?_)
  | (with_reducible refine TH.w_ienum ?_)
  | (with_reducible refine TH.w_izip ?_)
  | (with_reducible refine TH.w_irng1 ?_)
  | (with_reducible refine TH.w_irng2 ?_)
  | (with_reducible refine TH.w_for ?_)
  | (with_reducible refine TH.w_gcons ?_)
  | (with_reducible refine TH.w_gnil ?_)
  | (with_reducible refine TH.w_yes ?_)
  | (with_reducible refine TH.w_gtup2 upd_same ?_)
  | (with_reducible refine TH.w_gtup3 upd_same ?_)
  | (with_reducible refine TH.w_dput ?_)
  | (with_reducible refine TH.w_bm0 ?_)
  | (with_reducible refine TH.w_din ?_)
  | (with_reducible refine TH.w_dnotin ?_)
  | (with_reducible refine TH.w_dispK ?_)
  | (with_reducible refine TH.w_lock ?_)
  | (with_reducible refine TH.w_ikeys ?_)
  | (with_reducible refine TH.w_iitems ?_)
  | (with_reducible refine TH.w_dispT1 ?_)
  | (with_reducible refine TH.w_dnewT ?_)
  | (with_reducible refine TH.w_dnewK ?_)
  | (with_reducible refine TH.w_fld ?_)
  | (with_reducible refine TH.w_sfld ?_)
  | (with_reducible refine TH.w_meth ?_)
  | (with_reducible refine TH.w_make ?_)
  | (with_reducible refine TH.w_dget2 ?_)
  | (with_reducible refine TH.w_revL ?_)
  | (with_reducible refine TH.w_revT ?_)
  | (with_reducible refine TH.w_lstRg ?_)
  | (with_reducible refine TH.w_tupRg ?_)
  | (with_reducible refine TH.w_rg1 ?_)
  | (with_reducible refine TH.w_rg2 ?_)
  | (with_reducible refine TH.w_T ?_)
  | (with_reducible refine TH.w_F ?_))
local macro_rules | `(tactic| walk_at "rd") => `(tactic| repeat (first | walk_at "rd1" | (dsimp only [List.set, L2.wipe, List.map, TH.isInt, TH.isBool, TH.isTup, TH.isLst, TH.bo_f, TH.bo_t, TH.ba_f, TH.ba_t, TH.bn_t, TH.bn_f, List.append_nil, List.cons_append, List.nil_append])))

variable {P : Program} {w : World} {K : PySem.W.Frag} {mg : Str → Option Value} {base : Heap}
/-! _law_numbers(holds, posts) -/
def sp_law_numbers (K : PySem.W.Frag) : Sp := fun vs H Q _ => ∃ (h : V) (hs : List Nat) (a : Addr) (ys : List Int), vs = [h, .ref a] ∧ Dp K H h (row (nz hs)) ∧ SqL K H a (ys.map V.int) ∧ hs.sum ≤ 1000 ∧ ys.length ≤ 100 ∧ (∀ y ∈ ys, 0 ≤ y ∧ y < hs.length) ∧ ys.Pairwise (· ≤ ·) ∧
  ∀ (l : Addr) (H' : Hp), Ex H H' → H l = none → H' l = some (.lst ((lotsZ hs ys).map V.int)) → Q (.ref l) H'
theorem ok_law_numbers {f : Addr} {fd : FuncData} (F : C8.Def K mg "_law_numbers" s_law_numbers f fd) (b : Binds K fd ["holds", "posts"] []) (T : Txt mg) : C8.Cal P w K mg base 1 "_law_numbers" (sp_law_numbers K) [] := by
  refine C8.cal0 F b .nil sc_law_numbers (fun vs H Q E h => ?_) (fun cdv A outer s H vs Q E hr h => ?_)
  · obtain ⟨h, hs, a, ys, rfl, _⟩ := h
    rfl
  · obtain ⟨h, hs, a, ys, rfl, hh, ha, hsum, hyl, hyr, hpw, q⟩ := h
    have hu64 := hu64_of hr
    obtain ⟨ha', rfl, hha⟩ := dp_row hh
    refine ⟨_, (pss_cons (ps_set (i := 2) sc_law_numbers.nd rfl (Or.inl rfl) (pe_lst pa_nil))
      (pss_cons (ps_for PassesOwn.never rfl (TH.kpi_list (K := K) (pe_callB (TH.call_sortedD (K := K) hu64) (by rfl) T.b_sorted (by decide +kernel) (pa_cons (pv 1) pa_nil))) (pg_name (i := 3) sc_law_numbers.nd rfl (Or.inl rfl) (Or.inr rfl)) (pss_one (ps_expr (TH.kpe_bm (K := K) PySem.F.plainAttrs_list PySem.F.slot_list_extend PySem.F.type_list_extend mt_extend (pv 2) (pa_cons (pe_listRg rfl (by rfl) T.b_list (prg_2 (by rfl) T.b_range (pe_callB (TH.kcr_sumT (K := K) rfl) (by rfl) T.b_sum (by decide +kernel) (pa_cons (pe_slice (TH.ksl_tup (K := K)) (pv 0) po_none (po_some (pv 3))) pa_nil)) (pe_callB (TH.kcr_sumT (K := K) rfl) (by rfl) T.b_sum (by decide +kernel) (pa_cons (pe_slice (TH.ksl_tup (K := K)) (pv 0) po_none (po_some (pe_op op_add (pv 3) pe_int))) pa_nil)))) pa_nil)))))
      (pss_one (ps_ret (pv 2))))), ?_⟩
    refine w_start (σ' := [some (.ref ha'), some (.ref a), none, none]) rfl ?_
    walk_at "rd"
    refine w_dispT (by simp) fun fl hfl => ?_
    have e0 : Ex H (upd H fl (.lst [])) := Ex.new hfl
    have u0 : upd H fl (.lst []) fl = some (.lst []) := upd_same
    generalize upd H fl (.lst []) = H0 at e0 u0 ⊢
    walk_at "rd"
    refine w_sortI (e0.l ha) fun sl hsl => ?_
    have e1 : Ex H0 (upd H0 sl (.lst ((sortZ ys).map V.int))) := Ex.new hsl
    have u1 : upd H0 sl (.lst ((sortZ ys).map V.int)) sl = some (.lst ((sortZ ys).map V.int)) := upd_same
    generalize upd H0 sl (.lst ((sortZ ys).map V.int)) = H1 at e1 u1 ⊢
    rw [sortZ_self hpw] at u1
    have e01 := e0.trans e1
    have hsf : sl ≠ fl := fun z => by rw [z, u0] at hsl; cases hsl
    refine ⟨sl, rfl, ⟨_, sqL u1⟩, ?_⟩
    refine for_go walk_list (fun i σ H2 => Ex H H2 ∧ H2 sl = some (.lst (ys.map V.int)) ∧ H2 fl = some (.lst ((lotsZ hs (ys.take i)).map V.int)) ∧ ∃ y3, σ = [some (.ref ha'), some (.ref a), some (.ref fl), y3]) ⟨e01, u1, e1 _ _ u0, _, rfl⟩ (fun i σ H2 _ p => sqL p.2.1) (fun i x σ H2 H3 hi p y => ?_) (fun σ H2 p => ?_)
    · obtain ⟨e, g1, g2, y3, rfl⟩ := p
      obtain ⟨rfl, hx⟩ := y
      obtain ⟨z, hz, rfl⟩ := ints_at hx
      have zr := hyr z (List.mem_of_getElem? hz)
      obtain ⟨n, rfl⟩ : ∃ n : Nat, z = n := ⟨z.toNat, by omega⟩
      have hsn := lotsZ_snoc (hs := hs) hz
      have l1 := lotsZ_len hs (ys.take i)
      have l2 := lotZ_len hs n
      have l3 : (ys.take i).length * hs.sum ≤ 100 * 1000 := Nat.mul_le_mul (by rw [List.length_take]; omega) hsum
      have t1 := take_sum_le hs n
      have t2 := take_sum_le hs (n + 1)
      rw [Int.toNat_natCast] at hsn
      walk_at "rd"
      refine ⟨tyL g2, ?_⟩
      walk_at "rd"
      refine w_cutT (e.t hha) (by rw [List.length_map, nz_len]; omega) fun c H4 e4 hc => ?_
      rw [← List.map_take, nz_take] at hc
      walk_at "rd"
      refine w_sumT hc ?_
      walk_at "rd"
      rw [nz_sum]
      have en : (n : Int) + 1 = ((n + 1 : Nat) : Int) := by omega
      rw [en]
      refine w_cutT ((e.trans e4).t hha) (by rw [List.length_map, nz_len]; omega) fun c2 H5 e5 hc2 => ?_
      rw [← List.map_take, nz_take] at hc2
      walk_at "rd"
      refine w_sumT hc2 ?_
      rw [nz_sum]
      refine ⟨_, _, rfl, rfl, .of_le (by omega) (by omega) (by omega) (by omega), fun p hp => ?_⟩
      have e6 : Ex H5 (upd H5 p (.lst (rgV ((hs.take n).sum : Nat) ((hs.take (n + 1)).sum : Nat)))) := Ex.new hp
      have u6 : upd H5 p (.lst (rgV ((hs.take n).sum : Nat) ((hs.take (n + 1)).sum : Nat))) p = some (.lst (rgV ((hs.take n).sum : Nat) ((hs.take (n + 1)).sum : Nat))) := upd_same
      generalize upd H5 p (.lst (rgV ((hs.take n).sum : Nat) ((hs.take (n + 1)).sum : Nat))) = H6 at e6 u6 ⊢
      have e36 := e4.trans (e5.trans e6)
      rw [rgV_eq] at u6
      have u6' : H6 p = some (.lst ((lotZ hs n).map V.int)) := u6
      refine ⟨fl, p, _, _, rfl, rfl, e36 _ _ g2, u6', small2 (by rw [List.length_map, List.length_map]; omega), ?_⟩
      walk_at "rd"
      refine ⟨(e.trans e36).mut hfl, by rw [upd_ne hsf]; exact e36 _ _ g1, ?_, _, rfl⟩
      rw [upd_same, hsn, List.map_append]
    · obtain ⟨e, g1, g2, y3, rfl⟩ := p
      walk_at "rd"
      rw [List.length_map, List.take_length] at g2
      exact q fl H2 e hfl g2
/-! _law_full(spec, way) -/
def specD (S : Spc) : D := .tuple [.int S.p, tiesT S.ts, row (nz S.hs), wantsT S.ws]
theorem dp_spec {H : Hp} {v : V} {S : Spc} (h : Dp K H v (specD S)) : ∃ (a : Addr) (t hv w : V), v = .ref a ∧ SqT K H a [.int S.p, t, hv, w] ∧ Dp K H t (tiesT S.ts) ∧ Dp K H hv (row (nz S.hs)) ∧ Dp K H w (wantsT S.ws) := by
  obtain ⟨a, vs, rfl, h1, h2⟩ := dp_tup h
  cases h2 with
  | cons d1 t1 => cases t1 with
    | cons d2 t2 => cases t2 with
      | cons d3 t3 => cases t3 with
        | cons d4 t4 =>
          cases t4
          cases d1
          exact ⟨a, _, _, _, rfl, h1, d2, d3, d4⟩
theorem sorted_eq {as bs : List Int} (h1 : as.Pairwise (· ≤ ·)) (n1 : as.Nodup) (h2 : bs.Pairwise (· ≤ ·)) (n2 : bs.Nodup) (h : ∀ y, y ∈ as ↔ y ∈ bs) : as = bs :=
  List.Perm.eq_of_pairwise (le := fun a b : Int => a ≤ b) (fun a b _ _ h1 h2 => Int.le_antisymm h1 h2) h1 h2 ((List.perm_ext_iff_of_nodup n1 n2).mpr h)
theorem SideZ.uniq {S : Spc} {c : Nat × Nat} {xs ys : List Int} (h1 : SideZ S c xs) (h2 : SideZ S c ys) : xs = ys := sorted_eq h1.pw h1.nd h2.pw h2.nd fun y => (h1.mem y).trans (h2.mem y).symm
def maskZ (ns r : List Int) : List Int := (List.range r.length).map fun i : Nat => if (i : Int) ∈ ns then r.getD i 0 else 0
def fullZ (S : Spc) (xs ys : List Int) : List (List Int) := ys.flatMap fun y => (S.ws.getD y.toNat []).map (maskZ (lotsZ S.hs xs))
theorem fullZ_snoc {S : Spc} {xs ys : List Int} {i : Nat} {y : Int} (h : ys[i]? = some y) : fullZ S xs (ys.take (i + 1)) = fullZ S xs (ys.take i) ++ (S.ws.getD y.toNat []).map (maskZ (lotsZ S.hs xs)) := by
  unfold fullZ
  rw [List.take_add_one, h, List.flatMap_append]
  simp
theorem fullZ_len {S : Spc} (h8 : ∀ rs ∈ S.ws, rs.length ≤ 8) (xs : List Int) : ∀ ys : List Int, (fullZ S xs ys).length ≤ ys.length * 8
  | [] => by simp [fullZ]
  | y :: ys => by
    have h1 : (S.ws.getD y.toNat []).length ≤ 8 := by
      rw [List.getD_eq_getElem?_getD]
      cases e : S.ws[y.toNat]? with
      | none => simp
      | some rs => exact h8 rs (List.mem_of_getElem? e)
    have h2 := fullZ_len h8 xs ys
    have e : (fullZ S xs (y :: ys)).length = (S.ws.getD y.toNat []).length + (fullZ S xs ys).length := by
      unfold fullZ
      rw [List.flatMap_cons, List.length_append, List.length_map]
    rw [e, List.length_cons]
    omega
def sp_law_full (K : PySem.W.Frag) : Sp := fun vs H Q _ => ∃ (v u : V) (S : Spc) (c : Nat × Nat), vs = [v, u] ∧ Dp K H v (specD S) ∧ SpcOk S ∧ Dp K H u (tieD c) ∧ WayOk S.ts c ∧
  ∀ l ws H' xs ys, Ex H H' → SideZ S c xs → SideZ S (swapP c) ys → H l = none → H' l = some (.lst ws) → DpAll K H' ws ((fullZ S xs ys).map row) → Q (.ref l) H'
theorem ok_law_full {f : Addr} {fd : FuncData} (F : C8.Def K mg "_law_full" s_law_full f fd) (b : Binds K fd ["spec", "way"] []) (T : Txt mg)
    (c_law_this : C8.Cal P w K mg base 2 "_law_this" (sp_law_this K) []) (c_law_numbers : C8.Cal P w K mg base 1 "_law_numbers" (sp_law_numbers K) []) : C8.Cal P w K mg base 3 "_law_full" (sp_law_full K) [] := by
  refine C8.cal0 F b .nil sc_law_full (fun vs H Q E h => ?_) (fun cdv A outer s H vs Q E hr h => ?_)
  · obtain ⟨v, u, S, c, rfl, _⟩ := h
    rfl
  · obtain ⟨v, u, S, c, rfl, hv, ok, hc, hwy, q⟩ := h
    obtain ⟨a, t, hv', w, rfl, ha, ht, hh, hw⟩ := dp_spec hv
    obtain ⟨ca, rfl, hca⟩ := dp_tie hc
    obtain ⟨wa, us, rfl, hwa, hus⟩ := dp_tup hw
    have hwr := hwy.rng ok.tree.1
    have o1 := ok.tree.1.few
    have o2 := ok.h60
    have o3 := ok.hl
    have o4 := ok.wl
    have o5 := ok.w8
    refine ⟨_, (pss_cons (ps_asg (pv 0) (TH.kpg_tup (K := K) (n := 4) rfl (pgs_cons (pg_name (i := 3) sc_law_full.nd rfl (Or.inl rfl) (Or.inr rfl)) (pgs_cons (pg_name (i := 4) sc_law_full.nd rfl (Or.inl rfl) (Or.inr rfl)) (pgs_cons (pg_name (i := 5) sc_law_full.nd rfl (Or.inl rfl) (Or.inr rfl)) (pgs_cons (pg_name (i := 6) sc_law_full.nd rfl (Or.inl rfl) (Or.inr rfl)) pgs_nil))))))
      (pss_cons (ps_asg (pe_tup (pa_cons (C8.pe_c c_law_numbers hr (by first | decide | exact Nat.le_refl _) (by rfl) (pa_cons (pv 5) (pa_cons (C8.pe_c c_law_this hr (by first | decide | exact Nat.le_refl _) (by rfl) (pa_cons (pv 4) (pa_cons (pv 1) pa_nil))) pa_nil))) (pa_cons (pe_lst pa_nil) pa_nil))) (TH.kpg_tup (K := K) (n := 2) rfl (pgs_cons (pg_name (i := 7) sc_law_full.nd rfl (Or.inr rfl) (Or.inl rfl)) (pgs_cons (pg_name (i := 8) sc_law_full.nd rfl (Or.inl rfl) (Or.inr rfl)) pgs_nil))))
      (pss_cons (ps_for PassesOwn.never rfl (TH.kpi_list (K := K) (C8.pe_c c_law_this hr (by first | decide | exact Nat.le_refl _) (by rfl) (pa_cons (pv 4) (pa_cons (TH.kpe_revT (K := K) (pv 1)) pa_nil)))) (pg_name (i := 2) sc_law_full.nd rfl (Or.inl rfl) (Or.inr rfl)) (pss_one (ps_for PassesOwn.never rfl (TH.kpi_tup (K := K) (pe_ix (TH.kix_tup (K := K)) (pv 6) (pv 2) (fun _ _ => rfl))) (pg_name (i := 9) sc_law_full.nd rfl (Or.inl rfl) (Or.inr rfl)) (pss_one (ps_expr (TH.kpe_bm (K := K) PySem.F.plainAttrs_list PySem.F.slot_list_append PySem.F.type_list_append mt_append (pv 8) (pa_cons (pe_callTy (TH.kcall_tuple (K := K)) (by rfl) T.b_tuple (by decide +kernel) (pa_cons (pe_lc (own := [("at", 10), ("value", 11)]) (g := gTup K 2 (gCons (gName 10) (gCons (gName 11) gNil))) (tt := tYes) rfl sc_law_full.nd (TH.kpi_enum (K := K) (by rfl) T.b_enumerate (pa_cons (pv 9) pa_nil)) (blkOk_by (own := [("at", 10), ("value", 11)]) (N := N_law_full) (sc := C8.fnScope s_law_full) (by decide +kernel)) (fun _ _ _ _ _ => (TH.kpg_tup (K := K) (n := 2) rfl (pgs_cons (pg_name (i := 10) sc_law_full.nd rfl (Or.inl rfl) (Or.inr rfl)) (pgs_cons (pg_name (i := 11) sc_law_full.nd rfl (Or.inl rfl) (Or.inr rfl)) pgs_nil)))) (fun _ _ _ _ _ => pts_nil) (fun _ _ _ _ _ => (pe_ifExp (pt_cmpR (TH.kop_in (K := K)) (pv 10) (pv 7) (by rfl)) (pv 11) pe_int))) pa_nil)) pa_nil)))))))
      (pss_one (ps_ret (pv 8)))))), ?_⟩
    refine w_start (σ' := [some (.ref a), some (.ref ca), none, none, none, none, none, none, none, none, none, none]) rfl ?_
    walk_at "rd"
    refine w_gtup ha rfl ?_
    walk_at "rd"
    refine ⟨t, .ref ca, S.posts, S.ts, c, rfl, ht, ok.tree, hc, hwr.1, fun l1 xs H1 e1 hl10 hl1 p1 p2 p3 => ?_⟩
    have hxs : SideZ S c xs := ⟨p1, p2, p3⟩
    have fx := hxs.few ok.tree.1 hwr.1
    walk_at "rd"
    refine ⟨hv', S.hs, l1, xs, rfl, e1.dp hh, sqL hl1, by omega, by omega, fun y hy => ?_, p1, fun ml H2 e2 hml0 hml => ?_⟩
    · have := hxs.rng ok.tree.1 hwr.1 hy
      omega
    have e12 := e1.trans e2
    walk_at "rd"
    refine w_dispT (by simp) fun fl hfl => ?_
    walk_at "rd"
    refine w_dispT (by simp) fun tp htp => ?_
    have hmf : ml ≠ fl := fun z => by rw [← z, hml] at hfl; cases hfl
    have i1 : Ex H2 (upd (upd H2 fl (.lst [])) tp (.tup [.ref ml, .ref fl])) := (Ex.new hfl).trans (Ex.new htp)
    have i2 : upd (upd H2 fl (.lst [])) tp (.tup [.ref ml, .ref fl]) fl = some (.lst []) := (Ex.new htp) _ _ upd_same
    have i4 : upd (upd H2 fl (.lst [])) tp (.tup [.ref ml, .ref fl]) tp = some (.tup [.ref ml, .ref fl]) := upd_same
    generalize upd (upd H2 fl (.lst [])) tp (.tup [.ref ml, .ref fl]) = H3 at i1 i2 i4 ⊢
    have e13 := e12.trans i1
    refine w_gtup2 i4 ?_
    walk_at "rd"
    refine ⟨ca, _, rfl, e13.t hca, fun p hp => ?_⟩
    have e4 : Ex H3 (upd H3 p (.tup [V.int (c.1 : Nat), V.int (c.2 : Nat)].reverse)) := Ex.new hp
    have u4 : upd H3 p (.tup [V.int (c.1 : Nat), V.int (c.2 : Nat)].reverse) p = some (.tup [V.int (c.2 : Nat), V.int (c.1 : Nat)]) := upd_same
    generalize upd H3 p (.tup [V.int (c.1 : Nat), V.int (c.2 : Nat)].reverse) = H4 at e4 u4 ⊢
    have e14 := e13.trans e4
    walk_at "rd"
    refine ⟨t, .ref p, S.posts, S.ts, swapP c, rfl, e14.dp ht, ok.tree, dp_tie_of (a := swapP c) (sqT u4), hwr.2.1, fun l2 ys H5 e5 hl20 hl2 p4 p5 p6 => ?_⟩
    have hys : SideZ S (swapP c) ys := ⟨p4, p5, p6⟩
    have fy := hys.few ok.tree.1 hwr.2.1
    have hlf : l2 ≠ fl := fun z => by rw [z, e4 _ _ i2] at hl20; cases hl20
    have e15 := e14.trans e5
    have hfl0 := e12.fresh hfl
    refine ⟨l2, rfl, ⟨_, sqL hl2⟩, ?_⟩
    refine for_go walk_list (fun i σ H6 => Ex H H6 ∧ H6 l2 = some (.lst (ys.map V.int)) ∧ H6 ml = some (.lst ((lotsZ S.hs xs).map V.int)) ∧ ∃ ws y2 y9 y10 y11, σ = [some (.ref a), some (.ref ca), y2, some (.int S.p), some t, some hv', some (.ref wa), some (.ref ml), some (.ref fl), y9, y10, y11] ∧ H6 fl = some (.lst ws) ∧ DpAll K H6 ws ((fullZ S xs (ys.take i)).map row))
      ⟨e15, hl2, e5 _ _ (e4 _ _ (i1 _ _ hml)), [], _, _, _, _, rfl, e5 _ _ (e4 _ _ i2), .nil⟩ (fun i σ H6 _ p => sqL p.2.1) (fun i x σ H6 H7 hi p y => ?_) (fun σ H6 p => ?_)
    · obtain ⟨e, g1, g2, ws, y2, y9, y10, y11, rfl, g3, g4⟩ := p
      obtain ⟨rfl, hx⟩ := y
      obtain ⟨z, hz, rfl⟩ := ints_at hx
      have zr := hys.rng ok.tree.1 hwr.2.1 (List.mem_of_getElem? hz)
      obtain ⟨n, rfl⟩ : ∃ n : Nat, z = n := ⟨z.toNat, by omega⟩
      obtain ⟨rv, hrv⟩ : ∃ rv, us[n]? = some rv := ⟨_, List.getElem?_eq_getElem (by rw [dpa_len hus, List.length_map]; omega)⟩
      have hsn := fullZ_snoc (S := S) (xs := xs) hz
      rw [Int.toNat_natCast] at hsn
      walk_at "rd"
      refine w_ixT (e.t hwa) (atI_at hrv) ?_
      obtain ⟨rs, b, vs, k1, rfl, k2, k3⟩ := dpa_wants (e.dpa hus) hrv
      rw [getD_of k1] at hsn
      have hrs8 := o5 rs (List.mem_of_getElem? k1)
      have hrin := ok.rin rs (List.mem_of_getElem? k1)
      have hvl : vs.length = rs.length := by rw [dpa_len k3, List.length_map]
      have lf := fullZ_len o5 xs (ys.take i)
      have lf2 : (ys.take i).length ≤ 24 := by rw [List.length_take]; omega
      refine ⟨b, rfl, ⟨_, k2⟩, ?_⟩
      refine for_go walk_tup (fun j σ H8 => Ex H H8 ∧ SqT K H8 b vs ∧ DpAll K H8 vs (rs.map row) ∧ H8 l2 = some (.lst (ys.map V.int)) ∧ H8 ml = some (.lst ((lotsZ S.hs xs).map V.int)) ∧ ∃ ws y9 y10 y11, σ = [some (.ref a), some (.ref ca), some (.int n), some (.int S.p), some t, some hv', some (.ref wa), some (.ref ml), some (.ref fl), y9, y10, y11] ∧ H8 fl = some (.lst ws) ∧ DpAll K H8 ws ((fullZ S xs (ys.take i) ++ (rs.take j).map (maskZ (lotsZ S.hs xs))).map row))
        ⟨e, k2, k3, g1, g2, ws, _, _, _, rfl, g3, by simpa using g4⟩ (fun j σ H8 _ p => p.2.1) (fun j x σ H8 H9 hj p y => ?_) (fun σ H8 p => ?_)
      · obtain ⟨e8, k2, k3, g1, g2, ws, y9, y10, y11, rfl, g3, g4⟩ := p
        obtain ⟨rfl, hx2⟩ := y
        obtain ⟨r, hr1, hr2⟩ := rowsAt_get k3 hx2
        obtain ⟨ra, rfl, hra⟩ := dp_row hr2
        have hrl := (hrin r (List.mem_of_getElem? hr1)).1
        have hwl : ws.length ≤ 24 * 8 + 8 := by
          rw [dpa_len g4, List.length_map, List.length_append, List.length_map, List.length_take]
          omega
        walk_at "rd"
        refine ⟨tyL g3, ?_⟩
        walk_at "rd"
        refine ⟨ra, _, rfl, .inr ⟨hra, fun Dl hD => ?_⟩⟩
        refine lc_data (K := K) walk_enumT (fun _ => true) (fun i : Nat => .int (if (i : Int) ∈ lotsZ S.hs xs then r.getD i 0 else 0)) (fun _ => rfl) (fun H' e => e.t hra) hD (by rw [List.length_map]; omega) (fun k x H10 H11 hk e10 y R0 R1 kk _ => ?_) (fun H10 ws2 e10 hws hda => ?_)
        · obtain ⟨tp', x1, x2, rfl, htp', rfl, m1, m2⟩ := y
          cases m1
          obtain ⟨zz, hzz, rfl⟩ := ints_at m2
          have e11 : Ex H10 (upd H10 tp' (.tup [.int (k : Nat), .int zz])) := Ex.new htp'
          refine w_gtup2 upd_same ?_
          walk_at "rd"
          refine ⟨rfl, ?_⟩
          walk_at "rd"
          refine w_inI (xs := lotsZ S.hs xs) (.inl (sqL (e11 _ _ (e10 _ _ g2)))) ?_
          walk_at "rd"
          refine w_dec (fun hin => ?_) (fun hnin => ?_)
          · walk_at "rd"
            refine kk rfl _ _ e11 ?_
            rw [if_pos hin, getD_of hzz]
            exact .int _
          · walk_at "rd"
            refine kk rfl _ _ e11 ?_
            rw [if_neg hnin]
            exact .int _
        · walk_at "rd"
          rw [made_all, List.length_map] at hda
          have e12 : (List.range r.length).map (fun i : Nat => PyData.int (if (i : Int) ∈ lotsZ S.hs xs then r.getD i 0 else 0)) = (maskZ (lotsZ S.hs xs) r).map PyData.int := by
            unfold maskZ
            rw [List.map_map]
            rfl
          rw [e12] at hda
          have e16 := dpa_ints_inv hda
          subst e16
          refine ⟨Dl, _, rfl, .inl ⟨sqL hws, fun q1 hq1 => ?_⟩⟩
          have e17 : Ex H9 (upd H10 q1 (.tup ((maskZ (lotsZ S.hs xs) r).map V.int))) := e10.trans (Ex.new hq1)
          have u17 : upd H10 q1 (.tup ((maskZ (lotsZ S.hs xs) r).map V.int)) q1 = some (.tup ((maskZ (lotsZ S.hs xs) r).map V.int)) := upd_same
          generalize upd H10 q1 (.tup ((maskZ (lotsZ S.hs xs) r).map V.int)) = H11 at e17 u17 ⊢
          walk_at "rd"
          refine w_app (e17 _ _ g3) (by omega) ?_
          walk_at "rd"
          have tx : Tx H11 (upd H11 fl (.lst (ws ++ [.ref q1]))) := Tx.updL (e17 _ _ g3)
          refine ⟨(e8.trans e17).mut hfl0, tx.t (e17.t k2), tx.dpa (imm_rows _) (e17.dpa k3), by rw [upd_ne hlf]; exact e17 _ _ g1, by rw [upd_ne hmf]; exact e17 _ _ g2, _, _, _, _, rfl, upd_same, ?_⟩
          have e18 : (fullZ S xs (ys.take i) ++ (rs.take (j + 1)).map (maskZ (lotsZ S.hs xs))).map row = (fullZ S xs (ys.take i) ++ (rs.take j).map (maskZ (lotsZ S.hs xs))).map row ++ [maskZ (lotsZ S.hs xs) r].map row := by
            rw [List.take_add_one, hr1, ← List.map_append, List.append_assoc]
            simp
          rw [e18]
          exact dpa_append (tx.dpa (imm_rows _) (e17.dpa g4)) (tx.dpa (imm_rows [maskZ (lotsZ S.hs xs) r]) (dpa_one (dp_row_of (sqT u17))))
      · obtain ⟨e8, k2, k3, g1, g2, ws, y9, y10, y11, rfl, g3, g4⟩ := p
        rw [hvl, List.take_length] at g4
        rw [hsn]
        exact ⟨e8, g1, g2, ws, _, _, _, _, rfl, g3, g4⟩
    · obtain ⟨e, g1, g2, ws, y2, y9, y10, y11, rfl, g3, g4⟩ := p
      walk_at "rd"
      rw [List.length_map, List.take_length] at g4
      exact q fl ws H6 xs ys e hxs hys hfl0 g3 g4
/-! _law_cut(spec, way) -/
theorem mask_at {ns r : List Int} {n : Int} (h0 : 0 ≤ n) (h1 : n < r.length) (hm : n ∈ ns) : (maskZ ns r).getD n.toNat 0 = r.getD n.toNat 0 := by
  unfold maskZ
  rw [List.getD_eq_getElem?_getD, List.getElem?_map, List.getElem?_range (by omega)]
  show (if ((n.toNat : Nat) : Int) ∈ ns then r.getD n.toNat 0 else 0) = _
  have e : ((n.toNat : Nat) : Int) = n := by omega
  rw [e, if_pos hm]
theorem cut_mask {ns r : List Int} (h : ∀ n ∈ ns, 0 ≤ n ∧ n < r.length) : cutZ ns (maskZ ns r) = cutZ ns r := List.map_congr_left fun n hn => mask_at (h n hn).1 (h n hn).2 hn
theorem block_full {S : Spc} (ok : SpcOk S) (xs ys : List Int) : (fullZ S xs ys).map (cutZ (lotsZ S.hs xs)) = blockZ S xs ys := by
  unfold fullZ blockZ pairsZ
  rw [List.map_flatMap, List.map_flatMap]
  refine congrArg (fun f => ys.flatMap f) (funext fun y => ?_)
  unfold pairsOf
  rw [List.map_map, List.map_map]
  have e := range_map ([] : List Int) (cutZ (lotsZ S.hs xs)) (S.ws.getD y.toNat [])
  refine Eq.trans ?_ e.symm
  refine List.map_congr_left fun r hr => ?_
  show cutZ _ (maskZ _ r) = cutZ _ r
  refine cut_mask fun n hn => ?_
  have hm : ∃ rs ∈ S.ws, r ∈ rs := by
    rw [List.getD_eq_getElem?_getD] at hr
    cases e : S.ws[y.toNat]? with
    | none => rw [e] at hr; cases hr
    | some rs => rw [e] at hr; exact ⟨rs, List.mem_of_getElem? e, hr⟩
  obtain ⟨rs, h1, h2⟩ := hm
  rw [(ok.rin rs h1 r h2).1]
  exact lotsZ_rng hn
def sp_law_cut (K : PySem.W.Frag) : Sp := fun vs H Q _ => ∃ (v u : V) (S : Spc) (c : Nat × Nat), vs = [v, u] ∧ Dp K H v (specD S) ∧ SpcOk S ∧ Dp K H u (tieD c) ∧ WayOk S.ts c ∧
  ∀ l ws H' xs ys, Ex H H' → SideZ S c xs → SideZ S (swapP c) ys → H' l = some (.lst ws) → DpAll K H' ws ((blockZ S xs ys).map row) → Q (.ref l) H'
theorem ok_law_cut {f : Addr} {fd : FuncData} (F : C8.Def K mg "_law_cut" s_law_cut f fd) (b : Binds K fd ["spec", "way"] []) (T : Txt mg)
    (c_law_this : C8.Cal P w K mg base 2 "_law_this" (sp_law_this K) []) (c_law_numbers : C8.Cal P w K mg base 1 "_law_numbers" (sp_law_numbers K) []) (c_law_full : C8.Cal P w K mg base 3 "_law_full" (sp_law_full K) []) : C8.Cal P w K mg base 4 "_law_cut" (sp_law_cut K) [] := by
  refine C8.cal0 F b .nil sc_law_cut (fun vs H Q E h => ?_) (fun cdv A outer s H vs Q E hr h => ?_)
  · obtain ⟨v, u, S, c, rfl, _⟩ := h
    rfl
  · obtain ⟨v, u, S, c, rfl, hv, ok, hc, hwy, q⟩ := h
    obtain ⟨a, t, hv', w, rfl, ha, ht, hh, hw⟩ := dp_spec hv
    have hwr := hwy.rng ok.tree.1
    have o1 := ok.tree.1.few
    have o2 := ok.h60
    have o3 := ok.hl
    have o5 := ok.w8
    refine ⟨_, (pss_cons (ps_asg (pv 0) (TH.kpg_tup (K := K) (n := 4) rfl (pgs_cons (pg_name (i := 3) sc_law_cut.nd rfl (Or.inl rfl) (Or.inr rfl)) (pgs_cons (pg_name (i := 4) sc_law_cut.nd rfl (Or.inl rfl) (Or.inr rfl)) (pgs_cons (pg_name (i := 5) sc_law_cut.nd rfl (Or.inl rfl) (Or.inr rfl)) (pgs_cons (pg_name (i := 6) sc_law_cut.nd rfl (Or.inl rfl) (Or.inr rfl)) pgs_nil))))))
      (pss_cons (ps_set (i := 2) sc_law_cut.nd rfl (Or.inr rfl) (C8.pe_c c_law_numbers hr (by first | decide | exact Nat.le_refl _) (by rfl) (pa_cons (pv 5) (pa_cons (C8.pe_c c_law_this hr (by first | decide | exact Nat.le_refl _) (by rfl) (pa_cons (pv 4) (pa_cons (pv 1) pa_nil))) pa_nil))))
      (pss_one (ps_ret (pe_lc (own := [("row", 7)]) (g := gName 7) (tt := tYes) rfl sc_law_cut.nd (TH.kpi_list (K := K) (C8.pe_c c_law_full hr (by first | decide | exact Nat.le_refl _) (by rfl) (pa_cons (pv 0) (pa_cons (pv 1) pa_nil)))) (blkOk_by (own := [("row", 7)]) (N := N_law_cut) (sc := C8.fnScope s_law_cut) (by decide +kernel)) (fun _ _ _ _ _ => (pg_name (i := 7) sc_law_cut.nd rfl (Or.inr rfl) (Or.inl rfl))) (fun _ _ _ _ _ => pts_nil) (fun _ _ _ _ _ => (pe_callTy (TH.kcall_tuple (K := K)) (by rfl) T.b_tuple (by decide +kernel) (pa_cons (pe_lc (own := [("at", 8)]) (g := gName 8) (tt := tYes) rfl sc_law_cut.nd (TH.kpi_list (K := K) (pv 2)) (TH.blkOk_blk (own := [("at", 8)]) (N := N_law_cut) rfl (by decide +kernel)) (fun _ _ _ _ _ => (pg_name (i := 8) sc_law_cut.nd rfl (Or.inl rfl) (Or.inr rfl))) (fun _ _ _ _ _ => pts_nil) (fun _ _ _ _ _ => (pe_ix (TH.kix_tup (K := K)) (pv 7) (pv 8) (fun _ _ => rfl)))) pa_nil)))))))), ?_⟩
    refine w_start (σ' := [some (.ref a), some u, none, none, none, none, none, none, none]) rfl ?_
    walk_at "rd"
    refine w_gtup ha rfl ?_
    walk_at "rd"
    refine ⟨t, u, S.posts, S.ts, c, rfl, ht, ok.tree, hc, hwr.1, fun l1 xs H1 e1 hl10 hl1 p1 p2 p3 => ?_⟩
    have hxs : SideZ S c xs := ⟨p1, p2, p3⟩
    have fx := hxs.few ok.tree.1 hwr.1
    walk_at "rd"
    refine ⟨hv', S.hs, l1, xs, rfl, e1.dp hh, sqL hl1, by omega, by omega, fun y hy => ?_, p1, fun ml H2 e2 hml0 hml => ?_⟩
    · have := hxs.rng ok.tree.1 hwr.1 hy
      omega
    have e12 := e1.trans e2
    walk_at "rd"
    refine ⟨.ref a, u, S, c, rfl, e12.dp hv, ok, e12.dp hc, hwy, fun l ws H3 xs' ys e3 hxs' hys hl0 hl hda => ?_⟩
    have exx := hxs'.uniq hxs
    subst exx
    have fy := hys.few ok.tree.1 hwr.2.1
    have l1 := lotsZ_len S.hs xs'
    have l2 : xs'.length * S.hs.sum ≤ 24 * 60 := Nat.mul_le_mul (by omega) o2
    have lf := fullZ_len o5 xs' ys
    have hwl : ws.length = (fullZ S xs' ys).length := by rw [dpa_len hda, List.length_map]
    have hml3 := e3 _ _ hml
    refine ⟨l, rfl, ⟨_, sqL hl⟩, fun Dl hD => ?_⟩
    refine lc_data (K := K) walk_list (fun _ => true) (fun i => row (cutZ (lotsZ S.hs xs') ((fullZ S xs' ys).getD i []))) (fun _ => imm_row _) (fun H' e => e.l (sqL hl)) hD (by omega) (fun i x H' H'' hi e y R R0 k _ => ?_) (fun H4 ws4 e4 hws hda4 => ?_)
    · obtain ⟨rfl, hx⟩ := y
      obtain ⟨r, hr1, hr2⟩ := rowsAt_get (e.dpa hda) hx
      obtain ⟨ra, rfl, hra⟩ := dp_row hr2
      have hrl : r.length = S.hs.sum := by
        obtain ⟨y, _, hy2⟩ := List.mem_flatMap.mp (List.mem_of_getElem? hr1)
        obtain ⟨r0, hr0, rfl⟩ := List.mem_map.mp hy2
        rw [List.getD_eq_getElem?_getD] at hr0
        cases e : S.ws[y.toNat]? with
        | none => rw [e] at hr0; cases hr0
        | some rs =>
          rw [e] at hr0
          have := (ok.rin rs (List.mem_of_getElem? e) r0 hr0).1
          rw [← this]
          simp [maskZ]
      walk_at "rd"
      refine ⟨rfl, ?_⟩
      walk_at "rd"
      refine ⟨ml, rfl, ⟨_, sqL (e _ _ hml3)⟩, fun D2 hD2 => ?_⟩
      refine lc_data (K := K) walk_list (fun _ => true) (fun j => .int (r.getD ((lotsZ S.hs xs').getD j 0).toNat 0)) (fun _ => rfl) (fun H' e' => e'.l (sqL (e _ _ hml3))) hD2 (by rw [List.length_map]; omega) (fun j x H6 H7 hj e6 y R2 R3 k2 _ => ?_) (fun H6 ws6 e6 hws6 hda6 => ?_)
      · obtain ⟨rfl, hx2⟩ := y
        obtain ⟨z, hz, rfl⟩ := ints_at hx2
        have zr := lotsZ_rng (List.mem_of_getElem? hz)
        obtain ⟨n, rfl⟩ : ∃ n : Nat, z = n := ⟨z.toNat, by omega⟩
        walk_at "rd"
        refine ⟨rfl, ?_⟩
        walk_at "rd"
        refine w_ixT (e6.t hra) (atI_int (getD_at (d := 0) (by omega))) ?_
        refine k2 rfl _ _ (Ex.refl _) ?_
        rw [getD_of hz, Int.toNat_natCast]
        exact .int _
      · walk_at "rd"
        rw [made_all, List.length_map, range_map 0 (fun n : Int => PyData.int (r.getD n.toNat 0))] at hda6
        have e5 : (lotsZ S.hs xs').map (fun n : Int => PyData.int (r.getD n.toNat 0)) = (cutZ (lotsZ S.hs xs') r).map PyData.int := by
          unfold cutZ
          rw [List.map_map]
          rfl
        rw [e5] at hda6
        have e7 := dpa_ints_inv hda6
        subst e7
        refine ⟨D2, _, rfl, .inl ⟨sqL hws6, fun p hp => ?_⟩⟩
        refine k rfl _ _ (e6.trans (Ex.new hp)) ?_
        rw [getD_of hr1]
        exact dp_row_of (sqT upd_same)
    · rw [made_all, hwl, range_map ([] : List Int) (fun r : List Int => row (cutZ (lotsZ S.hs xs') r))] at hda4
      have e5 : (fullZ S xs' ys).map (fun r : List Int => row (cutZ (lotsZ S.hs xs') r)) = (blockZ S xs' ys).map row := by
        rw [← block_full ok, List.map_map]
        rfl
      rw [e5] at hda4
      exact q Dl _ H4 xs' ys (e12.trans (e3.trans e4)) hxs' hys hws hda4
end TK

namespace TK
open PySem PySem.Spec PyProof.Rows L2 TH
local macro_rules | `(tactic| walk_at "rd1") => `(tactic| first
  | (with_reducible refine TH.w_seq ?_)
  | (with_reducible refine TH.w_asg ?_)
  | (with_reducible refine TH.w_ret ?_)
  | (with_reducible refine TH.w_drop ?_)
  | (with_reducible refine TH.w_ifS ?_)
  | (with_reducible refine TH.w_next ?_)
  | ((with_reducible refine TH.w_var (v := ?vv) ?hv ?_); (case hv => rfl))
  | (with_reducible refine TH.w_c ?_)
  | ((with_reducible refine TH.w_gname (σ' := ?ss) ?hs ?_); (case hs => (dsimp only [List.set]; rfl)))
  | (with_reducible refine TH.w_op ?_)
  | (with_reducible refine TH.w_un ?_)
  | (with_reducible refine TH.w_chain ?_)
  | (with_reducible refine TH.w_I0 ?_)
  | ((with_reducible refine TH.w_I ?hm ?_); (case hm => first | (exact TH.CMul.l (by omega) (by omega)) | (exact TH.CMul.r (by omega) (by omega)) | (exact TH.CDiv.mk (by omega) (by omega)) | (show (0 : Int) < _; omega) | (exact TH.CPow.mk (by omega) (by omega) (by decide))))
  | (with_reducible refine TH.w_U ?_)
  | (with_reducible refine TH.w_eqI ?_)
  | (with_reducible refine TH.w_neI ?_)
  | (with_reducible refine TH.w_eqB ?_)
  | (with_reducible refine TH.w_isN ?_)
  | (with_reducible refine TH.w_nil ?_)
  | (with_reducible refine TH.w_cons ?_)
  | (with_reducible refine TH.w_test ?_)
  | (with_reducible refine TH.w_B ?_)
  | (with_reducible refine TH.w_bl ?_)
  | (with_reducible refine TH.w_and ?_)
  | (with_reducible refine TH.w_or ?_)
  | (with_reducible refine TH.w_not ?_)
  | (with_reducible refine TH.w_andV ?_)
  | (with_reducible refine TH.w_orV ?_)
  | (with_reducible refine TH.w_notV ?_)
  | (with_reducible refine TH.w_if ?_)
  | (with_reducible refine TH.w_parT ?_)
  | (with_reducible refine TH.w_par ?_)
  | (with_reducible refine TH.w_parT3 ?_)
  | (with_reducible refine TH.w_par3 ?_)
  | (with_reducible refine TH.w_cb ?_)
  | (with_reducible refine TH.w_call ?_)
  | ((with_reducible refine TH.w_aug (v := ?vv) ?hv ?_); (case hv => rfl))
  | (with_reducible refine TH.w_ip ?_)
  | (with_reducible refine TH.w_bm ?_)
  | (with_reducible refine TH.w_sl ?_)
  | (with_reducible refine TH.w_np ?_)
  | (with_reducible refine TH.w_pt ?_)
  | (with_reducible refine TH.w_pti ?_)
  | (with_reducible refine TH.w_gsub ?_)
  | (with_reducible refine TH.w_int ?_)
  | (with_reducible refine TH.w_tupT ?_)
  | (with_reducible refine TH.w_lstT ?_)
  | ((with_reducible show L2.rIxL _ _ _ _ _); (first | (refine TH.w_ixL (TH.sqL upd_same) rfl ?_) | (refine TH.w_ixL (TH.sqL (by assumption)) rfl ?_)))
  | ((with_reducible show L2.rSetL _ _ _ _ _); (first | (refine TH.w_set1 upd_same ?_) | (refine TH.w_set2 upd_same ?_) | (refine TH.w_set3 upd_same ?_) | (refine TH.w_set4 upd_same ?_) | (refine TH.w_set1 (by assumption) ?_) | (refine TH.w_set2 (by assumption) ?_) | (refine TH.w_set3 (by assumption) ?_) | (refine TH.w_set4 (by assumption) ?_)))
  | (with_reducible refine TH.w_lc ?_)
  | (with_reducible refine TH.w_dc ?_)
  | (with_reducible refine TH.w_itup ?_)
  | (with_reducible refine TH.w_ilist ?_)
  | (with_reducible refine TH.w_ienum ?_)
  | (with_reducible refine TH.w_izip ?_)
  | (with_reducible refine TH.w_irng1 ?_)
  | (with_reducible refine TH.w_irng2 ?_)
  | (with_reducible refine TH.w_for ?_)
  | (with_reducible refine TH.w_gcons ?_)
  | (with_reducible refine TH.w_gnil ?_)
  | (with_reducible refine TH.w_yes ?_)
  | (with_reducible refine TH.w_gtup2 upd_same ?_)
  | (with_reducible refine TH.w_gtup3 upd_same ?_)
  | (with_reducible refine TH.w_dput ?_)
  | (with_reducible refine TH.w_bm0 ?_)
  | (with_reducible refine TH.w_din ?_)
  | (with_reducible refine TH.w_dnotin ?_)
  | (with_reducible refine TH.w_dispK ?_)
  | (with_reducible refine TH.w_lock ?_)
  | (with_reducible refine TH.w_ikeys ?_)
  | (with_reducible refine TH.w_iitems ?_)
  | (with_reducible refine TH.w_dispT1 ?_)
  | (with_reducible refine TH.w_dnewT ?_)
  | (with_reducible refine TH.w_dnewK ?_)
  | (with_reducible refine TH.w_fld ?_)
  | (with_reducible refine TH.w_sfld ?_)
  | (with_reducible refine TH.w_meth ?_)
  | (with_reducible refine TH.w_make ?_)
  | (with_reducible refine TH.w_dget2 ?_)
  | (with_reducible refine TH.w_revL ?_)
  | (with_reducible refine TH.w_revT ?_)
  | (with_reducible refine TH.w_lstRg ?_)
  | (with_reducible refine TH.w_tupRg ?_)
  | (with_reducible refine TH.w_rg1 ?_)
  | (with_reducible refine TH.w_rg2 ?_)
  | (with_reducible refine TH.w_T ?_)
  | (with_reducible refine TH.w_F ?_))
local macro_rules | `(tactic| walk_at "rd") => `(tactic| repeat (first | walk_at "rd1" | (dsimp only [List.set, L2.wipe, List.map, TH.isInt, TH.isBool, TH.isTup, TH.isLst, TH.bo_f, TH.bo_t, TH.ba_f, TH.ba_t, TH.bn_t, TH.bn_f, List.append_nil, List.cons_append, List.nil_append])))

variable {P : Program} {w : World} {K : PySem.W.Frag} {mg : Str → Option Value} {base : Heap}
/-! _law_ties(hand, posts) -/
theorem perm_of_map {α β : Type} (f : α → β) {ys zs : List β} (p : ys.Perm zs) : ∀ {xs : List α}, zs = xs.map f → ∃ ws : List α, ws.Perm xs ∧ ys = ws.map f := by
  induction p with
  | nil =>
    intro xs h
    refine ⟨[], ?_, rfl⟩
    cases xs with
    | nil => exact .nil
    | cons x xs => cases h
  | cons x _ ih =>
    intro xs h
    cases xs with
    | nil => cases h
    | cons a xs =>
      rw [List.map_cons] at h
      injection h with h1 h2
      obtain ⟨ws, p1, p2⟩ := ih h2
      exact ⟨a :: ws, .cons _ p1, by rw [List.map_cons, p2, h1]⟩
  | swap x y l =>
    intro xs h
    match xs, h with
    | [], h => cases h
    | [a], h => cases h
    | a :: b :: xs, h =>
      rw [List.map_cons, List.map_cons] at h
      injection h with h1 h2
      injection h2 with h2 h3
      exact ⟨b :: a :: xs, .swap _ _ _, by rw [List.map_cons, List.map_cons, h1, h2, h3]⟩
  | trans _ _ ih1 ih2 =>
    intro xs h
    obtain ⟨ws, p1, p2⟩ := ih2 h
    obtain ⟨vs, p3, p4⟩ := ih1 p2
    exact ⟨vs, p3.trans p1, p4⟩
theorem sortP_pw (xs : List (Nat × Nat)) : (sortP xs).Pairwise fun a b => a.1 < b.1 ∨ (a.1 = b.1 ∧ a.2 ≤ b.2) :=
  (List.pairwise_mergeSort (le := leP) (fun a b c h1 h2 => by
    have h1 := of_decide_eq_true h1
    have h2 := of_decide_eq_true h2
    exact decide_eq_true (by omega)) (fun a b => by
    rw [Bool.or_eq_true]
    by_cases h : (a.1 : Int) < b.1 ∨ ((a.1 : Int) = b.1 ∧ (a.2 : Int) ≤ b.2)
    · exact .inl (decide_eq_true h)
    · exact .inr (decide_eq_true (by omega))) xs).imp fun h => by
    have := of_decide_eq_true h
    omega
theorem treeOk_made {n : Nat} {nm : List Nat} (hp : nm.Perm (List.range n)) {ps : List (Nat × Nat)} (hl : ps.length + 1 = n) (h : ∀ j a, ps[j]? = some a → ∃ o, o ≤ j ∧ a = LT.srt (nm.getD (j + 1) 0) (nm.getD o 0)) (hn : n ≤ 24) : TreeOk n (sortP ps) := by
  obtain ⟨h1, h2, pa, rk, r, R⟩ := LT.ties_made hp hl h
  have p := sortP_perm ps
  refine ⟨⟨by rw [p.length_eq]; exact hl, hn, fun a ha => h1 a (p.mem_iff.mp ha), ?_⟩, pa, rk, r, R.perm p⟩
  have nd : (sortP ps).Nodup := p.nodup_iff.mpr h2
  refine ((sortP_pw ps).and nd).imp fun {a b} h => ?_
  obtain ⟨h3, h4⟩ := h
  by_cases e : a.1 = b.1
  · refine .inr ⟨e, ?_⟩
    have : a.2 ≠ b.2 := fun e2 => h4 (Prod.ext e e2)
    omega
  · exact .inl (by omega)
theorem pick4 {a b c d k : Int} {m : Int} (h0 : 0 ≤ k) (h1 : k < 4) (ha : 0 ≤ a ∧ a < m) (hb : 0 ≤ b ∧ b < m) (hc : 0 ≤ c ∧ c < m) (hd : 0 ≤ d ∧ d < m) : ∃ o : Nat, (o : Int) < m ∧ atI [V.int a, V.int b, V.int c, V.int d] k = some (.int (o : Nat)) := by
  have e : ∀ x : Int, 0 ≤ x → V.int x = V.int (x.toNat : Nat) := fun x hx => by rw [Int.toNat_of_nonneg hx]
  have hk : k = 0 ∨ k = 1 ∨ k = 2 ∨ k = 3 := by omega
  rcases hk with rfl | rfl | rfl | rfl
  · exact ⟨a.toNat, by omega, by rw [← e a ha.1]; rfl⟩
  · exact ⟨b.toNat, by omega, by rw [← e b hb.1]; rfl⟩
  · exact ⟨c.toNat, by omega, by rw [← e c hc.1]; rfl⟩
  · exact ⟨d.toNat, by omega, by rw [← e d hd.1]; rfl⟩
def sp_law_ties (K : PySem.W.Frag) : Sp := fun vs H Q _ => ∃ (v : V) (posts : Nat), vs = [v, .int (posts : Nat)] ∧ HandAt H v ∧ 1 ≤ posts ∧ posts ≤ 24 ∧ ∀ (u : V) (ts : List (Nat × Nat)) (H' : Hp), Ex H H' → Dp K H' u (tiesT ts) → TreeOk posts ts → Q u H'
theorem ok_law_ties {f : Addr} {fd : FuncData} (F : C8.Def K mg "_law_ties" s_law_ties f fd) (b : Binds K fd ["hand", "posts"] []) (T : Txt mg)
    (c_law_mixed : C8.Cal P w K mg base 2 "_law_mixed" (sp_mixed K) []) (c_law_draw : C8.Cal P w K mg base 1 "_law_draw" (sp_draw K) []) : C8.Cal P w K mg base 3 "_law_ties" (sp_law_ties K) [] := by
  refine C8.cal0 F b .nil sc_law_ties (fun vs H Q E h => ?_) (fun cdv A outer s H vs Q E hr h => ?_)
  · obtain ⟨v, posts, rfl, _⟩ := h
    rfl
  · obtain ⟨v, posts, rfl, hv, hp1, hp2, q⟩ := h
    have hu64 := hu64_of hr
    refine ⟨_, (pss_cons (ps_par3 (i := 3) (j := 4) (l := 5) rfl sc_law_ties.nd rfl rfl rfl (by decide) (by decide) (by decide) rfl rfl rfl (pa_cons (C8.pe_c c_law_mixed hr (by first | decide | exact Nat.le_refl _) (by rfl) (pa_cons (pv 0) (pa_cons (pe_listRg rfl (by rfl) T.b_list (prg_1 (by rfl) T.b_range (pv 1))) pa_nil))) (pa_cons (C8.pe_c c_law_draw hr (by first | decide | exact Nat.le_refl _) (by rfl) (pa_cons (pv 0) (pa_cons pe_int pa_nil))) (pa_cons (pe_lst pa_nil) pa_nil))) (by rfl))
      (pss_cons (ps_for PassesOwn.never rfl (pi_range2 (by rfl) T.b_range (pa_cons pe_int (pa_cons (pv 1) pa_nil))) (pg_name (i := 2) sc_law_ties.nd rfl (Or.inl rfl) (Or.inr rfl)) (pss_cons (ps_set (i := 6) sc_law_ties.nd rfl (Or.inl rfl) (pe_ix (TH.kix_list (K := K)) (pe_lst (pa_cons (pe_op op_sub (pv 2) pe_int) (pa_cons pe_int (pa_cons (C8.pe_c c_law_draw hr (by first | decide | exact Nat.le_refl _) (by rfl) (pa_cons (pv 0) (pa_cons (pv 2) pa_nil))) (pa_cons (pe_callB (call_max2 rfl) (by rfl) T.b_max (by decide +kernel) (pa_cons pe_int (pa_cons (pe_op op_sub (pe_op op_sub (pv 2) pe_int) (C8.pe_c c_law_draw hr (by first | decide | exact Nat.le_refl _) (by rfl) (pa_cons (pv 0) (pa_cons pe_int pa_nil)))) pa_nil))) pa_nil))))) (pv 4) (fun _ _ => rfl)))
      (pss_one (ps_expr (TH.kpe_bm (K := K) PySem.F.plainAttrs_list PySem.F.slot_list_append PySem.F.type_list_append mt_append (pv 5) (pa_cons (pe_callTy (TH.kcall_tuple (K := K)) (by rfl) T.b_tuple (by decide +kernel) (pa_cons (pe_callB (TH.call_sortedTD (K := K) hu64) (by rfl) T.b_sorted (by decide +kernel) (pa_cons (pe_tup (pa_cons (pe_ix (TH.kix_list (K := K)) (pv 3) (pv 2) (fun _ _ => rfl)) (pa_cons (pe_ix (TH.kix_list (K := K)) (pv 3) (pv 6) (fun _ _ => rfl)) pa_nil))) pa_nil)) pa_nil)) pa_nil))))))
      (pss_one (ps_ret (pe_callTy (TH.kcall_tuple (K := K)) (by rfl) T.b_tuple (by decide +kernel) (pa_cons (pe_callB (TH.call_sortedD (K := K) hu64) (by rfl) T.b_sorted (by decide +kernel) (pa_cons (pv 5) pa_nil)) pa_nil)))))), ?_⟩
    refine w_start (σ' := [some v, some (.int posts), none, none, none, none, none]) rfl ?_
    walk_at "rd"
    refine ⟨.of_le (by omega) (by omega) (by omega) (by omega), fun p0 hp0 => ?_⟩
    have e0 : Ex H (upd H p0 (.lst (rgV 0 (posts : Nat)))) := Ex.new hp0
    have u0 : upd H p0 (.lst (rgV 0 (posts : Nat))) p0 = some (.lst (rgV 0 (posts : Nat))) := upd_same
    generalize upd H p0 (.lst (rgV 0 (posts : Nat))) = H0 at e0 u0 ⊢
    walk_at "rd"
    refine ⟨v, p0, _, rfl, hv.ex e0, sqL u0, by rw [rgV_length]; omega, fun nl H1 ys e1 hnl0 hnl hperm => ?_⟩
    obtain ⟨nm, hnm, rfl⟩ := perm_of_map (fun i : Nat => V.int (i : Nat)) hperm (xs := List.range posts) (by
      unfold rgV
      simp)
    have hnml : nm.length = posts := by rw [hnm.length_eq, List.length_range]
    have e01 := e0.trans e1
    walk_at "rd"
    refine ⟨v, _, rfl, hv.ex e01, by omega, by omega, fun kind k0 k1 => ?_⟩
    walk_at "rd"
    refine w_dispT (by simp) fun fl hfl => ?_
    walk_at "rd"
    have hnf : nl ≠ fl := fun z => by rw [z] at hnl; rw [hnl] at hfl; cases hfl
    have hfl0 := e01.fresh hfl
    refine ⟨1, posts, rfl, ⟨by omega, by omega, by omega, by omega⟩, ?_⟩
    refine for_go walk_range (fun i σ H2 => Ex H H2 ∧ H2 nl = some (.lst (nm.map fun i : Nat => V.int (i : Nat))) ∧ ∃ ws ps y2 y6, σ = [some v, some (.int posts), y2, some (.ref nl), some (.int kind), some (.ref fl), y6] ∧ H2 fl = some (.lst ws) ∧ DpAll K H2 ws (ps.map tieD) ∧ ps.length = i ∧ ∀ j a, ps[j]? = some a → ∃ o, o ≤ j ∧ a = LT.srt (nm.getD (j + 1) 0) (nm.getD o 0))
      ⟨e01.trans (Ex.new hfl), (Ex.new hfl) _ _ hnl, [], [], _, _, rfl, upd_same, .nil, rfl, fun j a h => by simp at h⟩ (fun _ _ _ _ _ => trivial) (fun i x σ H2 H3 hi p y => ?_) (fun σ H2 p => ?_)
    · obtain ⟨e, g1, ws, ps, y2, y6, rfl, g2, g3, g4, g5⟩ := p
      obtain ⟨rfl, rfl⟩ := y
      have hwl : ws.length = ps.length := by rw [dpa_len g3, List.length_map]
      walk_at "rd"
      refine ⟨v, _, rfl, hv.ex e, by omega, by omega, fun d1 d10 d11 => ?_⟩
      walk_at "rd"
      refine ⟨v, _, rfl, hv.ex e, by omega, by omega, fun d2 d20 d21 => ?_⟩
      walk_at "rd"
      refine ⟨_, _, rfl, ?_⟩
      walk_at "rd"
      refine w_dispT (by simp) fun ll hll => ?_
      walk_at "rd"
      have hmx : 0 ≤ (if (1 + (i : Int)) - 1 - d2 > 0 then (1 + (i : Int)) - 1 - d2 else 0) ∧ (if (1 + (i : Int)) - 1 - d2 > 0 then (1 + (i : Int)) - 1 - d2 else 0) < 1 + (i : Int) := by
        split <;> omega
      obtain ⟨o, ho1, ho2⟩ := pick4 (a := 1 + (i : Int) - 1) (b := 0) (c := d1) (d := (if (1 + (i : Int)) - 1 - d2 > 0 then (1 + (i : Int)) - 1 - d2 else 0)) (m := 1 + (i : Int)) k0 k1 (by omega) (by omega) (by omega) hmx
      refine w_ixL (sqL upd_same) ho2 ?_
      have e3 : Ex H3 (upd H3 ll (.lst [V.int (1 + (i : Int) - 1), V.int 0, V.int d1, V.int (if (1 + (i : Int)) - 1 - d2 > 0 then (1 + (i : Int)) - 1 - d2 else 0)])) := Ex.new hll
      generalize upd H3 ll (.lst [V.int (1 + (i : Int) - 1), V.int 0, V.int d1, V.int (if (1 + (i : Int)) - 1 - d2 > 0 then (1 + (i : Int)) - 1 - d2 else 0)]) = H4 at e3 ⊢
      walk_at "rd"
      refine ⟨tyL (e3 _ _ g2), ?_⟩
      walk_at "rd"
      have en : 1 + (i : Int) = ((i + 1 : Nat) : Int) := by omega
      rw [en]
      have m1 : (nm.map fun i : Nat => V.int (i : Nat))[i + 1]? = some (.int (nm.getD (i + 1) 0 : Nat)) := by
        rw [List.getElem?_map, getD_at (d := 0) (show i + 1 < nm.length by omega)]
        rfl
      have m2 : (nm.map fun i : Nat => V.int (i : Nat))[o]? = some (.int (nm.getD o 0 : Nat)) := by
        rw [List.getElem?_map, getD_at (d := 0) (show o < nm.length by omega)]
        rfl
      refine w_ixL (sqL (e3 _ _ g1)) (atI_at m1) ?_
      walk_at "rd"
      refine w_ixL (sqL (e3 _ _ g1)) (atI_at m2) ?_
      walk_at "rd"
      refine w_dispT (by simp) fun tp htp => ?_
      walk_at "rd"
      have e4 : Ex H4 (upd H4 tp (.tup [V.int (nm.getD (i + 1) 0 : Nat), V.int (nm.getD o 0 : Nat)])) := Ex.new htp
      have u4 : SqT K (upd H4 tp (.tup [V.int (nm.getD (i + 1) 0 : Nat), V.int (nm.getD o 0 : Nat)])) tp ([((nm.getD (i + 1) 0 : Nat) : Int), ((nm.getD o 0 : Nat) : Int)].map V.int) := sqT upd_same
      generalize upd H4 tp (.tup [V.int (nm.getD (i + 1) 0 : Nat), V.int (nm.getD o 0 : Nat)]) = H5 at e4 u4 ⊢
      refine w_sortTI u4 fun sl hsl => ?_
      rw [sortZ_pair]
      walk_at "rd"
      refine ⟨sl, _, rfl, .inl ⟨sqL upd_same, fun tt htt => ?_⟩⟩
      have e6 : Ex H5 (upd (upd H5 sl (.lst [V.int ((LT.srt (nm.getD (i + 1) 0) (nm.getD o 0)).1 : Nat), V.int ((LT.srt (nm.getD (i + 1) 0) (nm.getD o 0)).2 : Nat)])) tt (.tup [V.int ((LT.srt (nm.getD (i + 1) 0) (nm.getD o 0)).1 : Nat), V.int ((LT.srt (nm.getD (i + 1) 0) (nm.getD o 0)).2 : Nat)])) := (Ex.new hsl).trans (Ex.new htt)
      have u6 : Dp K (upd (upd H5 sl (.lst [V.int ((LT.srt (nm.getD (i + 1) 0) (nm.getD o 0)).1 : Nat), V.int ((LT.srt (nm.getD (i + 1) 0) (nm.getD o 0)).2 : Nat)])) tt (.tup [V.int ((LT.srt (nm.getD (i + 1) 0) (nm.getD o 0)).1 : Nat), V.int ((LT.srt (nm.getD (i + 1) 0) (nm.getD o 0)).2 : Nat)])) (.ref tt) (tieD (LT.srt (nm.getD (i + 1) 0) (nm.getD o 0))) := dp_tie_of (sqT upd_same)
      generalize upd (upd H5 sl (.lst [V.int ((LT.srt (nm.getD (i + 1) 0) (nm.getD o 0)).1 : Nat), V.int ((LT.srt (nm.getD (i + 1) 0) (nm.getD o 0)).2 : Nat)])) tt (.tup [V.int ((LT.srt (nm.getD (i + 1) 0) (nm.getD o 0)).1 : Nat), V.int ((LT.srt (nm.getD (i + 1) 0) (nm.getD o 0)).2 : Nat)]) = H6 at e6 u6 ⊢
      have e36 := e3.trans (e4.trans e6)
      walk_at "rd"
      refine w_app (e36 _ _ g2) (by omega) ?_
      walk_at "rd"
      have tx : Tx H6 (upd H6 fl (.lst (ws ++ [.ref tt]))) := Tx.updL (e36 _ _ g2)
      refine ⟨(e.trans e36).mut hfl0, by rw [upd_ne hnf]; exact e36 _ _ g1, ws ++ [.ref tt], ps ++ [LT.srt (nm.getD (i + 1) 0) (nm.getD o 0)], _, _, rfl, upd_same, ?_, by rw [List.length_append, g4]; rfl, fun j a hj => ?_⟩
      · rw [List.map_append]
        exact dpa_snoc (tx.dpa (imm_ties ps) (e36.dpa g3)) (tx.dp rfl u6)
      · rcases Nat.lt_or_ge j ps.length with z | z
        · rw [List.getElem?_append_left z] at hj
          exact g5 j a hj
        · rw [List.getElem?_append_right z] at hj
          have z2 : j - ps.length = 0 := by
            refine Decidable.byContradiction fun z3 => ?_
            rw [List.getElem?_eq_none (by simp; omega)] at hj
            cases hj
          rw [z2] at hj
          have hji : j = i := by omega
          subst hji
          exact ⟨o, by omega, (Option.some.inj hj).symm⟩
    · obtain ⟨e, g1, ws, ps, y2, y6, rfl, g2, g3, g4, g5⟩ := p
      walk_at "rd"
      refine w_sortP (sqL g2) g3 fun p ws' hp hw' => ?_
      walk_at "rd"
      refine ⟨p, _, rfl, .inl ⟨sqL upd_same, fun t ht => ?_⟩⟩
      refine q _ (sortP ps) _ (e.trans ((Ex.new hp).trans (Ex.new ht))) (.tup (sqT upd_same) (((Ex.new hp).trans (Ex.new ht)).dpa hw')) (treeOk_made hnm (by omega) g5 hp2)
end TK

namespace TK
open PySem PySem.Spec PyProof.Rows L2 TH
local macro_rules | `(tactic| walk_at "rd1") => `(tactic| first
  | (with_reducible refine TH.w_seq ?_)
  | (with_reducible refine TH.w_asg ?_)
  | (with_reducible refine TH.w_ret ?_)
  | (with_reducible refine TH.w_drop ?_)
  | (with_reducible refine TH.w_ifS ?_)
  | (with_reducible refine TH.w_next ?_)
  | ((with_reducible refine TH.w_var (v := ?vv) ?hv ?_); (case hv => rfl))
  | (with_reducible refine TH.w_c ?_)
  | ((with_reducible refine TH.w_gname (σ' := ?ss) ?hs ?_); (case hs => (dsimp only [List.set]; rfl)))
  | (with_reducible refine TH.w_op ?_)
  | (with_reducible refine TH.w_un ?_)
  | (with_reducible refine TH.w_chain ?_)
  | (with_reducible refine TH.w_I0 ?_)
  | ((with_reducible refine TH.w_I ?hm ?_); (case hm => first | (exact TH.CMul.l (by omega) (by omega)) | (exact TH.CMul.r (by omega) (by omega)) | (exact TH.CDiv.mk (by omega) (by omega)) | (show (0 : Int) < _; omega) | (exact TH.CPow.mk (by omega) (by omega) (by decide))))
  | (with_reducible refine TH.w_U ?_)
  | (with_reducible refine TH.w_eqI ?_)
  | (with_reducible refine TH.w_neI ?_)
  | (with_reducible refine TH.w_eqB ?_)
  | (with_reducible refine TH.w_isN ?_)
  | (with_reducible refine TH.w_nil ?_)
  | (with_reducible refine TH.w_cons ?_)
  | (with_reducible refine TH.w_test ?_)
  | (with_reducible refine TH.w_B ?_)
  | (with_reducible refine TH.w_bl ?_)
  | (with_reducible refine TH.w_and ?_)
  | (with_reducible refine TH.w_or ?_)
  | (with_reducible refine TH.w_not ?_)
  | (with_reducible refine TH.w_andV ?_)
  | (with_reducible refine TH.w_orV ?_)
  | (with_reducible refine TH.w_notV ?_)
  | (with_reducible refine TH.w_if ?_)
  | (with_reducible refine TH.w_parT ?_)
  | (with_reducible refine TH.w_par ?_)
  | (with_reducible refine TH.w_parT3 ?_)
  | (with_reducible refine TH.w_par3 ?_)
  | (with_reducible refine TH.w_cb ?_)
  | (with_reducible refine TH.w_call ?_)
  | ((with_reducible refine TH.w_aug (v := ?vv) ?hv ?_); (case hv => rfl))
  | (with_reducible refine TH.w_ip ?_)
  | (with_reducible refine TH.w_bm ?_)
  | (with_reducible refine TH.w_sl ?_)
  | (with_reducible refine TH.w_np ?_)
  | (with_reducible refine TH.w_pt ?_)
  | (with_reducible refine TH.w_pti ?_)
  | (with_reducible refine TH.w_gsub ?_)
  | (with_reducible refine TH.w_int ?_)
  | (with_reducible refine TH.w_tupT ?_)
  | (with_reducible refine TH.w_lstT ?_)
  | ((with_reducible show L2.rIxL _ _ _ _ _); (first | (refine TH.w_ixL (TH.sqL upd_same) rfl ?_) | (refine TH.w_ixL (TH.sqL (by assumption)) rfl ?_)))
  | ((with_reducible show L2.rSetL _ _ _ _ _); (first | (refine TH.w_set1 upd_same ?_) | (refine TH.w_set2 upd_same ?_) | (refine TH.w_set3 upd_same ?_) | (refine TH.w_set4 upd_same ?_) | (refine TH.w_set1 (by assumption) ?_) | (refine TH.w_set2 (by assumption) ?_) | (refine TH.w_set3 (by assumption) ?_) | (refine TH.w_set4 (by assumption) ?_)))
  | (with_reducible refine TH.w_lc ?_)
  | (with_reducible refine TH.w_dc ?_)
  | (with_reducible refine TH.w_itup ?_)
  | (with_reducible refine TH.w_ilist ?_)
  | (with_reducible refine TH.w_ienum ?_)
  | (with_reducible refine TH.w_izip ?_)
  | (with_reducible refine TH.w_irng1 ?_)
  | (with_reducible refine TH.w_irng2 ?_)
  | (with_reducible refine TH.w_for ?_)
  | (with_reducible refine TH.w_gcons ?_)
  | (with_reducible refine TH.w_gnil ?_)
  | (with_reducible refine TH.w_yes ?_)
  | (with_reducible refine TH.w_gtup2 upd_same ?_)
  | (with_reducible refine TH.w_gtup3 upd_same ?_)
  | (with_reducible refine TH.w_dput ?_)
  | (with_reducible refine TH.w_bm0 ?_)
  | (with_reducible refine TH.w_din ?_)
  | (with_reducible refine TH.w_dnotin ?_)
  | (with_reducible refine TH.w_dispK ?_)
  | (with_reducible refine TH.w_lock ?_)
  | (with_reducible refine TH.w_ikeys ?_)
  | (with_reducible refine TH.w_iitems ?_)
  | (with_reducible refine TH.w_dispT1 ?_)
  | (with_reducible refine TH.w_dnewT ?_)
  | (with_reducible refine TH.w_dnewK ?_)
  | (with_reducible refine TH.w_fld ?_)
  | (with_reducible refine TH.w_sfld ?_)
  | (with_reducible refine TH.w_meth ?_)
  | (with_reducible refine TH.w_make ?_)
  | (with_reducible refine TH.w_dget2 ?_)
  | (with_reducible refine TH.w_revL ?_)
  | (with_reducible refine TH.w_revT ?_)
  | (with_reducible refine TH.w_lstRg ?_)
  | (with_reducible refine TH.w_tupRg ?_)
  | (with_reducible refine TH.w_rg1 ?_)
  | (with_reducible refine TH.w_rg2 ?_)
  | (with_reducible refine TH.w_T ?_)
  | (with_reducible refine TH.w_F ?_))
local macro_rules | `(tactic| walk_at "rd") => `(tactic| repeat (first | walk_at "rd1" | (dsimp only [List.set, L2.wipe, List.map, TH.isInt, TH.isBool, TH.isTup, TH.isLst, TH.bo_f, TH.bo_t, TH.ba_f, TH.ba_t, TH.bn_t, TH.bn_f, List.append_nil, List.cons_append, List.nil_append])))

variable {P : Program} {w : World} {K : PySem.W.Frag} {mg : Str → Option Value} {base : Heap}
/-! _law_spec(hand, posts, most) -/
theorem nz_toNat : ∀ {ns : List Int}, (∀ x ∈ ns, 0 ≤ x) → nz (ns.map Int.toNat) = ns
  | [], _ => rfl
  | x :: ns, h => by
    show ((x.toNat : Nat) : Int) :: nz (ns.map Int.toNat) = x :: ns
    rw [nz_toNat fun y hy => h y (List.mem_cons_of_mem _ hy), Int.toNat_of_nonneg (h x List.mem_cons_self)]
theorem sum_le_mul {m : Nat} : ∀ {hs : List Nat}, (∀ x ∈ hs, x ≤ m) → hs.sum ≤ m * hs.length
  | [], _ => by simp
  | x :: hs, h => by
    have h1 := h x List.mem_cons_self
    have h2 := sum_le_mul fun y hy => h y (List.mem_cons_of_mem _ hy)
    rw [List.sum_cons, List.length_cons, Nat.mul_succ]
    omega
theorem atI_last {xs : List V} {u : V} : atI (xs ++ [u]) (-1) = some u := by
  unfold atI ixN
  rw [if_neg (by decide), if_pos (by rw [List.length_append, List.length_singleton]; omega)]
  have e : (-1 + ((xs ++ [u]).length : Int)).toNat = xs.length := by rw [List.length_append, List.length_singleton]; omega
  rw [e]
  show (xs ++ [u])[xs.length]? = some u
  rw [List.getElem?_append_right (Nat.le_refl _), Nat.sub_self]
  rfl
theorem dpa_cut {H : Hp} {vs : List V} {rs : List (List Int)} (h : DpAll K H vs (rs.map row)) (lo hi : Option Int) : ∃ qs : List (List Int), DpAll K H (cutV vs lo hi) (qs.map row) ∧ (∀ r ∈ qs, r ∈ rs) ∧ qs.length ≤ rs.length := by
  refine ⟨(rs.drop (HT.sIx vs.length 0 lo)).take (HT.sIx vs.length vs.length hi - HT.sIx vs.length 0 lo), ?_, fun r hr => List.mem_of_mem_drop (List.mem_of_mem_take hr), ?_⟩
  · rw [List.map_take, List.map_drop]
    exact dpa_take _ (dpa_drop _ h)
  · rw [List.length_take, List.length_drop]
    omega
theorem any5 {v : V} {l : Addr} {H : Hp} {r : Int} {Q : VK} (hv : HandAt H v) (hl : H l = some (.lst [V.int 0, V.int 1, V.int 1, V.int 2, V.int (1 + r)])) (r0 : 0 ≤ r) (r1 : r < 4) (q : ∀ n : Nat, n ≤ 4 → Q (.int (n : Nat)) H) : sp_any K [v, .ref l] H Q C8.E0 := by
  refine ⟨v, l, _, rfl, hv, sqL hl, by simp, by simp, fun x hx => ?_⟩
  simp only [List.mem_cons, List.not_mem_nil, or_false] at hx
  have e : 1 + r = ((1 + r.toNat : Nat) : Int) := by omega
  rcases hx with rfl | rfl | rfl | rfl | rfl
  · exact q 0 (by omega)
  · exact q 1 (by omega)
  · exact q 1 (by omega)
  · exact q 2 (by omega)
  · rw [e]
    exact q _ (by omega)
def sp_law_spec (K : PySem.W.Frag) : Sp := fun vs H Q _ => ∃ (v : V) (posts : Nat), vs = [v, .int (posts : Nat), .int 4] ∧ HandAt H v ∧ 1 ≤ posts ∧ posts ≤ 6 ∧ ∀ (u : V) (S : Spc) (H' : Hp), Ex H H' → Dp K H' u (specD S) → SpcOk S → S.posts = posts → Q u H'
theorem ok_law_spec {f : Addr} {fd : FuncData} (F : C8.Def K mg "_law_spec" s_law_spec f fd) (b : Binds K fd ["hand", "posts", "most"] []) (T : Txt mg)
    (c_law_clock : C8.Cal P w K mg base 3 "_law_clock" (sp_clock K) []) (c_law_ties : C8.Cal P w K mg base 3 "_law_ties" (sp_law_ties K) []) (c_law_any : C8.Cal P w K mg base 2 "_law_any" (sp_any K) []) (c_law_draw : C8.Cal P w K mg base 1 "_law_draw" (sp_draw K) [])
    (c_law_some_row : C8.Cal P w K mg base 3 "_law_some_row" (sp_some_row K) []) : C8.Cal P w K mg base 4 "_law_spec" (sp_law_spec K) [] := by
  refine C8.cal0 F b .nil sc_law_spec (fun vs H Q E h => ?_) (fun cdv A outer s H vs Q E hr h => ?_)
  · obtain ⟨v, posts, rfl, _⟩ := h
    rfl
  · obtain ⟨v, posts, rfl, hv, hp1, hp2, q⟩ := h
    refine ⟨_, (pss_cons (ps_par (i := 5) (j := 6) rfl sc_law_spec.nd rfl rfl (by decide) rfl rfl (pa_cons (C8.pe_c c_law_clock hr (by first | decide | exact Nat.le_refl _) (by rfl) (pa_cons (pv 0) pa_nil)) (pa_cons (C8.pe_c c_law_ties hr (by first | decide | exact Nat.le_refl _) (by rfl) (pa_cons (pv 0) (pa_cons (pv 1) pa_nil))) pa_nil)) (by rfl))
      (pss_cons (ps_set (i := 3) sc_law_spec.nd rfl (Or.inl rfl) (pe_callTy (TH.kcall_tuple (K := K)) (by rfl) T.b_tuple (by decide +kernel) (pa_cons (pe_lc (own := [("post", 4)]) (g := gName 4) (tt := tYes) rfl sc_law_spec.nd (pi_range1 (by rfl) T.b_range (pa_cons (pv 1) pa_nil)) (blkOk_by (own := [("post", 4)]) (N := N_law_spec) (sc := C8.fnScope s_law_spec) (by decide +kernel)) (fun _ _ _ _ _ => (pg_name (i := 4) sc_law_spec.nd rfl (Or.inl rfl) (Or.inr rfl))) (fun _ _ _ _ _ => pts_nil) (fun _ _ _ _ _ => (C8.pe_c c_law_any hr (by first | decide | exact Nat.le_refl _) (by rfl) (pa_cons (pv 0) (pa_cons (pe_lst (pa_cons pe_int (pa_cons pe_int (pa_cons pe_int (pa_cons pe_int (pa_cons (pe_op op_add pe_int (C8.pe_c c_law_draw hr (by first | decide | exact Nat.le_refl _) (by rfl) (pa_cons (pv 0) (pa_cons (pv 2) pa_nil)))) pa_nil)))))) pa_nil))))) pa_nil)))
      (pss_cons (ps_par3 (i := 7) (j := 8) (l := 9) rfl sc_law_spec.nd rfl rfl rfl (by decide) (by decide) (by decide) rfl rfl rfl (pa_cons (pe_callB (TH.kcr_sumT (K := K) rfl) (by rfl) T.b_sum (by decide +kernel) (pa_cons (pv 3) pa_nil)) (pa_cons (pe_lst pa_nil) (pa_cons (pe_lst pa_nil) pa_nil))) (by rfl))
      (pss_cons (ps_for PassesOwn.never rfl (pi_range1 (by rfl) T.b_range (pa_cons (pv 1) pa_nil)) (pg_name (i := 4) sc_law_spec.nd rfl (Or.inl rfl) (Or.inr rfl)) (pss_cons (ps_set (i := 10) sc_law_spec.nd rfl (Or.inl rfl) (pe_lst pa_nil))
      (pss_cons (ps_for PassesOwn.never rfl (pi_range1 (by rfl) T.b_range (pa_cons (C8.pe_c c_law_any hr (by first | decide | exact Nat.le_refl _) (by rfl) (pa_cons (pv 0) (pa_cons (pe_lst (pa_cons pe_int (pa_cons pe_int (pa_cons pe_int (pa_cons pe_int (pa_cons (pe_op op_add pe_int (C8.pe_c c_law_draw hr (by first | decide | exact Nat.le_refl _) (by rfl) (pa_cons (pv 0) (pa_cons (pv 2) pa_nil)))) pa_nil)))))) pa_nil))) pa_nil)) (pg_name (i := 11) sc_law_spec.nd rfl (Or.inl rfl) (Or.inr rfl)) (pss_cons (ps_expr (TH.kpe_bm (K := K) PySem.F.plainAttrs_list PySem.F.slot_list_append PySem.F.type_list_append mt_append (pv 10) (pa_cons (C8.pe_c c_law_some_row hr (by first | decide | exact Nat.le_refl _) (by rfl) (pa_cons (pv 0) (pa_cons (pv 5) (pa_cons (pv 7) (pa_cons (pe_slice (TH.ksl_list (K := K)) (pv 8) po_none (po_some pe_int)) pa_nil))))) pa_nil)))
      (pss_one (ps_set (i := 8) sc_law_spec.nd rfl (Or.inl rfl) (pe_op op_cat (pe_lst (pa_cons (pe_ix (TH.kix_list (K := K)) (pv 10) (pe_un un_neg pe_int) (fun _ _ => rfl)) pa_nil)) (pv 8))))))
      (pss_one (ps_expr (TH.kpe_bm (K := K) PySem.F.plainAttrs_list PySem.F.slot_list_append PySem.F.type_list_append mt_append (pv 9) (pa_cons (pe_callTy (TH.kcall_tuple (K := K)) (by rfl) T.b_tuple (by decide +kernel) (pa_cons (pv 10) pa_nil)) pa_nil)))))))
      (pss_one (ps_ret (pe_tup (pa_cons (pv 5) (pa_cons (pv 6) (pa_cons (pv 3) (pa_cons (pe_callTy (TH.kcall_tuple (K := K)) (by rfl) T.b_tuple (by decide +kernel) (pa_cons (pv 9) pa_nil)) pa_nil))))))))))), ?_⟩
    refine w_start (σ' := [some v, some (.int posts), some (.int 4), none, none, none, none, none, none, none, none, none]) rfl ?_
    walk_at "rd"
    refine ⟨v, rfl, hv, fun p H1 e1 hp => ?_⟩
    obtain ⟨pn, rfl, hclk, hpm⟩ := clock_ok hp
    have hp2' : (2 : Int) ≤ pn := by
      simp only [clocks, List.mem_cons, List.not_mem_nil, or_false] at hp
      omega
    walk_at "rd"
    refine ⟨v, posts, rfl, hv.ex e1, hp1, by omega, fun tv ts H2 e2 htv hts => ?_⟩
    have e12 := e1.trans e2
    walk_at "rd"
    refine w_isrng (by omega) (by omega) fun Dl hD => ?_
    refine lc_some (K := K) walk_rng (fun _ d => ∃ x, d = PyData.int x ∧ 0 ≤ x ∧ x ≤ 4) (fun i d hd => by obtain ⟨x, rfl, _⟩ := hd; rfl) (fun _ _ => trivial) hD (by omega) (fun i x H' H'' hi e y R k => ?_) (fun H3 hws ds e3 hws1 hdl hφ hda => ?_)
    · obtain ⟨rfl, rfl⟩ := y
      walk_at "rd"
      refine ⟨rfl, ?_⟩
      walk_at "rd"
      refine ⟨v, _, rfl, (hv.ex e12).ex e, by omega, by omega, fun r r0 r1 => ?_⟩
      walk_at "rd"
      refine w_dispT (by simp) fun l hl => ?_
      exact any5 (((hv.ex e12).ex e).ex (Ex.new hl)) upd_same r0 r1 fun n hn => k _ _ _ (Ex.new hl) ⟨_, rfl, by omega, by omega⟩ (.int _)
    · obtain ⟨ns, rfl, hns⟩ := ints_of (P := fun _ x => 0 ≤ x ∧ x ≤ 4) ds hφ
      have hns' : ∀ x ∈ ns, 0 ≤ x ∧ x ≤ 4 := fun x hx => by
        obtain ⟨i, hi⟩ := List.mem_iff_getElem?.mp hx
        exact hns i x hi
      obtain ⟨hs, rfl⟩ : ∃ hs, ns = nz hs := ⟨_, (nz_toNat fun x hx => (hns' x hx).1).symm⟩
      have hh4 : ∀ x ∈ hs, x ≤ 4 := fun x hx => by
        have := (hns' (x : Int) (List.mem_map.mpr ⟨x, hx, rfl⟩)).2
        omega
      rw [List.length_map, nz_len] at hdl
      have hsum := sum_le_mul hh4
      have e5 := dpa_ints_inv hda
      subst e5
      have e13 := e12.trans e3
      walk_at "rd"
      refine ⟨Dl, _, rfl, .inl ⟨sqL hws1, fun hl hhl => ?_⟩⟩
      have e4 : Ex H3 (upd H3 hl (.tup ((nz hs).map V.int))) := Ex.new hhl
      have u4 : SqT K (upd H3 hl (.tup ((nz hs).map V.int))) hl ((nz hs).map V.int) := sqT upd_same
      generalize upd H3 hl (.tup ((nz hs).map V.int)) = H4 at e4 u4 ⊢
      have e14 := e13.trans e4
      walk_at "rd"
      refine w_sumT u4 ?_
      rw [nz_sum]
      walk_at "rd"
      refine w_dispT (by simp) fun sl hsl => ?_
      walk_at "rd"
      refine w_dispT (by simp) fun wl hwl => ?_
      walk_at "rd"
      have hsw : sl ≠ wl := fun z => by rw [z, upd_same] at hwl; cases hwl
      have hwl4 : H4 wl = none := by rw [upd_ne (Ne.symm hsw)] at hwl; exact hwl
      have hwl0 := e14.fresh hwl4
      refine w_isrng (by omega) (by omega) ?_
      refine for_go walk_rng (fun i σ H5 => Ex H4 H5 ∧ ∃ sl sv srs wv ws y4 y10 y11, σ = [some v, some (.int posts), some (.int 4), some (.ref hl), y4, some (.int pn), some tv, some (.int hs.sum), some (.ref sl), some (.ref wl), y10, y11] ∧ sl ≠ wl ∧ H5 sl = some (.lst sv) ∧ DpAll K H5 sv (srs.map row) ∧ (∀ r ∈ srs, Rin pn hs.sum r) ∧ srs.length ≤ 4 * i ∧
          H5 wl = some (.lst wv) ∧ DpAll K H5 wv (ws.map rowsT) ∧ ws.length = i ∧ ∀ rs ∈ ws, rs.length ≤ 4 ∧ ∀ r ∈ rs, Rin pn hs.sum r)
        ⟨(Ex.new hsl).trans (Ex.new hwl), sl, [], [], [], [], _, _, _, rfl, hsw, (Ex.new hwl) _ _ upd_same, .nil, fun r hr => (nomatch hr), by simp, upd_same, .nil, rfl, fun rs hr => (nomatch hr)⟩ (fun _ _ _ _ _ => trivial) (fun i x σ H5 H6 hi p y => ?_) (fun σ H5 p => ?_)
      · obtain ⟨e, sl, sv, srs, wv, ws, y4, y10, y11, rfl, hsw, g1, g2, g3, g4, g5, g6, g7, g8⟩ := p
        obtain ⟨rfl, rfl⟩ := y
        have hvl : wv.length = ws.length := by rw [dpa_len g6, List.length_map]
        walk_at "rd"
        refine w_dispT (by simp) fun rl hrl => ?_
        walk_at "rd"
        have hrw : rl ≠ wl := fun z => by rw [z, g5] at hrl; cases hrl
        have hrs : sl ≠ rl := fun z => by rw [← z, g1] at hrl; cases hrl
        have hrl4 := e.fresh hrl
        have e6 : Ex H6 (upd H6 rl (.lst [])) := Ex.new hrl
        have u6 : upd H6 rl (.lst []) rl = some (.lst []) := upd_same
        generalize upd H6 rl (.lst []) = H7 at e6 u6 ⊢
        have e46 := e.trans e6
        refine ⟨v, _, rfl, hv.ex (e14.trans e46), by omega, by omega, fun r r0 r1 => ?_⟩
        walk_at "rd"
        refine w_dispT (by simp) fun l5 hl5 => ?_
        have e7 : Ex H7 (upd H7 l5 (.lst [V.int 0, V.int 1, V.int 1, V.int 2, V.int (1 + r)])) := Ex.new hl5
        have u7 : upd H7 l5 (.lst [V.int 0, V.int 1, V.int 1, V.int 2, V.int (1 + r)]) l5 = some (.lst [V.int 0, V.int 1, V.int 1, V.int 2, V.int (1 + r)]) := upd_same
        generalize upd H7 l5 (.lst [V.int 0, V.int 1, V.int 1, V.int 2, V.int (1 + r)]) = H8 at e7 u7 ⊢
        have e67 := e6.trans e7
        have e47 := e.trans e67
        walk_at "rd"
        refine any5 (hv.ex (e14.trans e47)) u7 r0 r1 fun n hn => ?_
        walk_at "rd"
        refine w_isrng (by omega) (by omega) ?_
        refine for_go walk_rng (fun j σ H9 => Ex H4 H9 ∧ ∃ sl sv srs wv rv rs y11, σ = [some v, some (.int posts), some (.int 4), some (.ref hl), some (.int i), some (.int pn), some tv, some (.int hs.sum), some (.ref sl), some (.ref wl), some (.ref rl), y11] ∧ sl ≠ wl ∧ sl ≠ rl ∧ H9 sl = some (.lst sv) ∧ DpAll K H9 sv (srs.map row) ∧ (∀ r ∈ srs, Rin pn hs.sum r) ∧ srs.length ≤ 4 * i + j ∧
            H9 wl = some (.lst wv) ∧ wv.length = i ∧ DpAll K H9 wv (ws.map rowsT) ∧ H9 rl = some (.lst rv) ∧ DpAll K H9 rv (rs.map row) ∧ rs.length = j ∧ ∀ r ∈ rs, Rin pn hs.sum r)
          ⟨e47, sl, sv, srs, wv, [], [], _, rfl, hsw, hrs, e67 _ _ g1, e67.dpa g2, g3, by omega, e67 _ _ g5, by omega, e67.dpa g6, e7 _ _ u6, .nil, rfl, fun r hr => (nomatch hr)⟩ (fun _ _ _ _ _ => trivial) (fun j x σ H9 H10 hj p y => ?_) (fun σ H9 p => ?_)
        · obtain ⟨e, sl, sv, srs, wv, rv, rs, y11, rfl, hsw, hrs, g1, g2, g3, g4, g5, g5', g6, g9, g10, g11, g12⟩ := p
          obtain ⟨rfl, rfl⟩ := y
          have hrvl : rv.length = rs.length := by rw [dpa_len g10, List.length_map]
          have hsvl : sv.length = srs.length := by rw [dpa_len g2, List.length_map]
          walk_at "rd"
          refine ⟨tyL g9, ?_⟩
          walk_at "rd"
          refine ⟨sl, _, rfl, sqL g1, fun cl hcl => ?_⟩
          obtain ⟨qs, hq1, hq2, hq3⟩ := dpa_cut (K := K) g2 none (some 3)
          have e8 : Ex H10 (upd H10 cl (.lst (cutV sv none (some 3)))) := Ex.new hcl
          have u8 : upd H10 cl (.lst (cutV sv none (some 3))) cl = some (.lst (cutV sv none (some 3))) := upd_same
          generalize upd H10 cl (.lst (cutV sv none (some 3))) = H11 at e8 u8 ⊢
          walk_at "rd"
          refine ⟨v, pn, hs.sum, cl, _, qs, rfl, hv.ex (e14.trans (e.trans e8)), sqL u8, e8.dpa hq1, by omega, by omega, by omega, by omega, fun r hr => g3 r (hq2 r hr), fun u H12 r e9 hu hr => ?_⟩
          have e89 := e8.trans e9
          walk_at "rd"
          refine w_app (e89 _ _ g9) (by omega) ?_
          have e10 : Ex H4 (upd H12 rl (.lst (rv ++ [u]))) := (e.trans e89).mut hrl4
          have tx : Tx H12 (upd H12 rl (.lst (rv ++ [u]))) := Tx.updL (e89 _ _ g9)
          have u10 : upd H12 rl (.lst (rv ++ [u])) rl = some (.lst (rv ++ [u])) := upd_same
          have u11 : upd H12 rl (.lst (rv ++ [u])) sl = some (.lst sv) := by rw [upd_ne hrs]; exact e89 _ _ g1
          have u12 : upd H12 rl (.lst (rv ++ [u])) wl = some (.lst wv) := by rw [upd_ne (Ne.symm hrw)]; exact e89 _ _ g5
          have d1 := tx.dpa (imm_rows _) (e89.dpa g2)
          have d2 := tx.dpa (by rw [immAll_iff]; intro d hd; obtain ⟨x, _, rfl⟩ := List.mem_map.mp hd; exact imm_rows x) (e89.dpa g6)
          have d3 : DpAll K (upd H12 rl (.lst (rv ++ [u]))) (rv ++ [u]) ((rs ++ [r]).map row) := by
            rw [List.map_append]
            exact dpa_snoc (tx.dpa (imm_rows _) (e89.dpa g10)) (tx.dp (imm_row _) hu)
          have d4 := tx.dp (imm_row _) hu
          generalize upd H12 rl (.lst (rv ++ [u])) = H13 at e10 u10 u11 u12 d1 d2 d3 d4 ⊢
          walk_at "rd"
          refine w_ixL (sqL u10) atI_last ?_
          walk_at "rd"
          refine w_dispT (by simp) fun ol hol => ?_
          have e11 : Ex H13 (upd H13 ol (.lst [u])) := Ex.new hol
          have u13 : upd H13 ol (.lst [u]) ol = some (.lst [u]) := upd_same
          generalize upd H13 ol (.lst [u]) = H14 at e11 u13 ⊢
          walk_at "rd"
          refine ⟨ol, sl, [u], sv, rfl, rfl, u13, e11 _ _ u11, small2 (by rw [List.length_singleton]; omega), fun nl hnl => ?_⟩
          have e12' : Ex H14 (upd H14 nl (.lst ([u] ++ sv))) := Ex.new hnl
          have u14 : upd H14 nl (.lst ([u] ++ sv)) nl = some (.lst ([u] ++ sv)) := upd_same
          have hnw : nl ≠ wl := fun z => by rw [z, e11 _ _ u12] at hnl; cases hnl
          have hnr : nl ≠ rl := fun z => by rw [z, e11 _ _ u10] at hnl; cases hnl
          generalize upd H14 nl (.lst ([u] ++ sv)) = H15 at e12' u14 ⊢
          have e112 := e11.trans e12'
          walk_at "rd"
          refine ⟨e10.trans e112, nl, [u] ++ sv, [r] ++ srs, wv, rv ++ [u], rs ++ [r], _, rfl, hnw, hnr, u14, ?_, fun r' hr' => ?_, by rw [List.length_append, List.length_singleton]; omega, e112 _ _ u12, g5', e112.dpa d2, e112 _ _ u10, e112.dpa d3, by rw [List.length_append, List.length_singleton, g11], fun r' hr' => ?_⟩
          · rw [List.map_append]
            exact dpa_append (dpa_one (e112.dp d4)) (e112.dpa d1)
          · rcases List.mem_append.mp hr' with m | m
            · rw [List.mem_singleton.mp m]; exact hr
            · exact g3 r' m
          · rcases List.mem_append.mp hr' with m | m
            · exact g12 r' m
            · rw [List.mem_singleton.mp m]; exact hr
        · obtain ⟨e, sl, sv, srs, wv, rv, rs, y11, rfl, hsw, hrs, g1, g2, g3, g4, g5, g5', g6, g9, g10, g11, g12⟩ := p
          rw [Int.toNat_natCast] at g4 g11
          walk_at "rd"
          refine ⟨tyL g5, ?_⟩
          walk_at "rd"
          refine ⟨rl, _, rfl, .inl ⟨sqL g9, fun tl htl => ?_⟩⟩
          have e8 : Ex H9 (upd H9 tl (.tup rv)) := Ex.new htl
          have u8 : Dp K (upd H9 tl (.tup rv)) (.ref tl) (rowsT rs) := .tup (sqT upd_same) (e8.dpa g10)
          generalize upd H9 tl (.tup rv) = H10 at e8 u8 ⊢
          walk_at "rd"
          refine w_app (e8 _ _ g5) (by omega) ?_
          walk_at "rd"
          have tx : Tx H10 (upd H10 wl (.lst (wv ++ [.ref tl]))) := Tx.updL (e8 _ _ g5)
          refine ⟨(e.trans e8).mut hwl4, sl, sv, srs, wv ++ [.ref tl], ws ++ [rs], _, _, _, rfl, hsw, by rw [upd_ne hsw]; exact e8 _ _ g1, tx.dpa (imm_rows _) (e8.dpa g2), g3, by omega, upd_same, ?_, by rw [List.length_append, List.length_singleton]; omega, fun rs' hr' => ?_⟩
          · rw [List.map_append]
            exact dpa_snoc (tx.dpa (by rw [immAll_iff]; intro d hd; obtain ⟨x, _, rfl⟩ := List.mem_map.mp hd; exact imm_rows x) (e8.dpa g6)) (tx.dp (imm_rows rs) u8)
          · rcases List.mem_append.mp hr' with m | m
            · exact g8 rs' m
            · rw [List.mem_singleton.mp m]
              exact ⟨by omega, g12⟩
      · obtain ⟨e, sl, sv, srs, wv, ws, y4, y10, y11, rfl, hsw, g1, g2, g3, g4, g5, g6, g7, g8⟩ := p
        rw [Int.toNat_natCast] at g7
        walk_at "rd"
        refine ⟨wl, _, rfl, .inl ⟨sqL g5, fun tl htl => ?_⟩⟩
        have e8 : Ex H5 (upd H5 tl (.tup wv)) := Ex.new htl
        have u8 : Dp K (upd H5 tl (.tup wv)) (.ref tl) (wantsT ws) := .tup (sqT upd_same) (e8.dpa g6)
        generalize upd H5 tl (.tup wv) = H6 at e8 u8 ⊢
        walk_at "rd"
        refine w_dispT (by simp) fun rl hrl => ?_
        have e9 : Ex H6 (upd H6 rl (.tup [V.int pn, tv, V.ref hl, V.ref tl])) := Ex.new hrl
        have e49 := e.trans (e8.trans e9)
        have hlw : ws.length = posts := by omega
        have hw4 : ∀ x ∈ ws.map List.length, x ≤ 4 := fun x hx => by
          obtain ⟨rs, h1, rfl⟩ := List.mem_map.mp hx
          exact (g8 rs h1).1
        have hwsum := sum_le_mul hw4
        rw [List.length_map, hlw] at hwsum
        refine q _ ⟨pn, posts, ts, hs, ws⟩ _ (e14.trans e49) (.tup (sqT upd_same) (.cons (.int _) (.cons ((e3.trans (e4.trans e49)).dp htv) (.cons (dp_row_of (e49.t u4)) (.cons (e9.dp u8) .nil))))) ⟨hclk, hts, (show hs.length = posts by omega), fun x hx => ?_, by show hs.sum ≤ 60; omega, hlw, fun rs h1 => ?_, by show (ws.map List.length).sum ≤ 60; omega, fun rs h1 => (g8 rs h1).2⟩ rfl
        · have := hh4 x hx
          omega
        · have := (g8 rs h1).1
          omega
/-! _law_sheet(spec) -/
def sp_law_sheet (K : PySem.W.Frag) (C CT : Addr) : Sp := fun vs H Q _ => ∃ (v : V) (S : Spc), vs = [v] ∧ Dp K H v (specD S) ∧ SpcOk S ∧ ∀ r H', Ex H H' → SheetAt K C CT H' r S → Q r H'
theorem ex_made {H H1 : Hp} {x dx C : Addr} (hx : H x = none) (hdx : H dx = none) (h : ∀ a, a ≠ x → ∀ o, upd (upd H dx (.own x)) x (.ins C dx []) a = some o → H1 a = some o) : Ex H H1 := fun a o ha => h a (fun z => by rw [z, hx] at ha; cases ha) o (by
  rw [upd_ne (ne_of_none ha hx), upd_ne (ne_of_none ha hdx)]
  exact ha)
theorem ex_two {H : Hp} {x dx C : Addr} (hx : H x = none) (hdx : H dx = none) : Ex H (upd (upd H dx (.own x)) x (.ins C dx [])) := ex_made hx hdx fun a ha o ho => ho
theorem ok_law_sheet {C CT f : Addr} {fd : FuncData} (F : C8.Def K mg "_law_sheet" s_law_sheet f fd) (b : Binds K fd ["spec"] []) (T : Txt mg)
    (c_Tree : C8.Mak P w K mg base 4 "Tree" CT (sp_tree_init K CT) []) (c_Sheet : C8.Mak P w K mg base 5 "Sheet" C (sp_sheet_init K C CT) []) : C8.Cal P w K mg base 7 "_law_sheet" (sp_law_sheet K C CT) [] := by
  refine C8.cal0 F b .nil sc_law_sheet (fun vs H Q E h => ?_) (fun cdv A outer s H vs Q E hr h => ?_)
  · obtain ⟨v, S, rfl, _⟩ := h
    rfl
  · obtain ⟨v, S, rfl, hv, ok, q⟩ := h
    obtain ⟨a, t, hv', w, rfl, ha, ht, hh, hw⟩ := dp_spec hv
    refine ⟨_, (pss_one (ps_ret (C8.pe_mk c_Sheet hr (by first | decide | exact Nat.le_refl _) (by rfl) (pa_cons (pe_ix (TH.kix_tup (K := K)) (pv 0) pe_int (fun _ _ => rfl)) (pa_cons (C8.pe_mk c_Tree hr (by first | decide | exact Nat.le_refl _) (by rfl) (pa_cons (pe_ix (TH.kix_tup (K := K)) (pv 0) pe_int (fun _ _ => rfl)) pa_nil)) (pa_cons (pe_ix (TH.kix_tup (K := K)) (pv 0) pe_int (fun _ _ => rfl)) (pa_cons (pe_ix (TH.kix_tup (K := K)) (pv 0) pe_int (fun _ _ => rfl)) pa_nil))))))), ?_⟩
    refine w_start (σ' := [some (.ref a)]) rfl ?_
    walk_at "rd"
    refine w_ixT ha (atI_at (j := 0) rfl) ?_
    walk_at "rd"
    refine w_ixT ha (atI_at (j := 1) rfl) ?_
    walk_at "rd"
    intro x dx hx hdx hne
    refine ⟨x, dx, t, S.posts, S.ts, rfl, upd_same, (ex_two hx hdx).dp ht, ok.tree, fun H1 h1 h2 h3 => ⟨rfl, ?_⟩⟩
    have e1 := ex_made hx hdx h1
    walk_at "rd"
    refine w_ixT (e1.t ha) (atI_at (j := 2) rfl) ?_
    walk_at "rd"
    refine w_ixT (e1.t ha) (atI_at (j := 3) rfl) ?_
    walk_at "rd"
    intro x2 dx2 hx2 hdx2 hne2
    have ex2 := ex_two (C := C) hx2 hdx2
    have htr : TreeAt K CT H1 (.ref x) S.posts S.ts := ⟨x, dx, t, rfl, h2, h3⟩
    refine ⟨x2, dx2, .ref x, hv', w, S, rfl, upd_same, htr.ex ex2, ex2.dp (e1.dp hh), ex2.dp (e1.dp hw), ok, fun H2 g1 g2 g3 g4 g5 => ⟨rfl, ?_⟩⟩
    exact q _ H2 (e1.trans (ex_made hx2 hdx2 g1)) ⟨x2, dx2, .ref x, hv', w, rfl, g2, g3, g4, g5⟩
end TK

namespace TK
open PySem PySem.Spec PyProof.Rows L2 TH
local macro_rules | `(tactic| walk_at "rd1") => `(tactic| first
  | (with_reducible refine TH.w_seq ?_)
  | (with_reducible refine TH.w_asg ?_)
  | (with_reducible refine TH.w_ret ?_)
  | (with_reducible refine TH.w_drop ?_)
  | (with_reducible refine TH.w_ifS ?_)
  | (with_reducible refine TH.w_next ?_)
  | ((with_reducible refine TH.w_var (v := ?vv) ?hv ?_); (case hv => rfl))
  | (with_reducible refine TH.w_c ?_)
  | ((with_reducible refine TH.w_gname (σ' := ?ss) ?hs ?_); (case hs => (dsimp only [List.set]; rfl)))
  | (with_reducible refine TH.w_op ?_)
  | (with_reducible refine TH.w_un ?_)
  | (with_reducible refine TH.w_chain ?_)
  | (with_reducible refine TH.w_I0 ?_)
  | ((with_reducible refine TH.w_I ?hm ?_); (case hm => first | (exact TH.CMul.l (by omega) (by omega)) | (exact TH.CMul.r (by omega) (by omega)) | (exact TH.CDiv.mk (by omega) (by omega)) | (show (0 : Int) < _; omega) | (exact TH.CPow.mk (by omega) (by omega) (by decide))))
  | (with_reducible refine TH.w_U ?_)
  | (with_reducible refine TH.w_eqI ?_)
  | (with_reducible refine TH.w_neI ?_)
  | (with_reducible refine TH.w_eqB ?_)
  | (with_reducible refine TH.w_isN ?_)
  | (with_reducible refine TH.w_nil ?_)
  | (with_reducible refine TH.w_cons ?_)
  | (with_reducible refine TH.w_test ?_)
  | (with_reducible refine TH.w_B ?_)
  | (with_reducible refine TH.w_bl ?_)
  | (with_reducible refine TH.w_and ?_)
  | (with_reducible refine TH.w_or ?_)
  | (with_reducible refine TH.w_not ?_)
  | (with_reducible refine TH.w_andV ?_)
  | (with_reducible refine TH.w_orV ?_)
  | (with_reducible refine TH.w_notV ?_)
  | (with_reducible refine TH.w_if ?_)
  | (with_reducible refine TH.w_parT ?_)
  | (with_reducible refine TH.w_par ?_)
  | (with_reducible refine TH.w_parT3 ?_)
  | (with_reducible refine TH.w_par3 ?_)
  | (with_reducible refine TH.w_cb ?_)
  | (with_reducible refine TH.w_call ?_)
  | ((with_reducible refine TH.w_aug (v := ?vv) ?hv ?_); (case hv => rfl))
  | (with_reducible refine TH.w_ip ?_)
  | (with_reducible refine TH.w_bm ?_)
  | (with_reducible refine TH.w_sl ?_)
  | (with_reducible refine TH.w_np ?_)
  | (with_reducible refine TH.w_pt ?_)
  | (with_reducible refine TH.w_pti ?_)
  | (with_reducible refine TH.w_gsub ?_)
  | (with_reducible refine TH.w_int ?_)
  | (with_reducible refine TH.w_tupT ?_)
  | (with_reducible refine TH.w_lstT ?_)
  | ((with_reducible show L2.rIxL _ _ _ _ _); (first | (refine TH.w_ixL (TH.sqL upd_same) rfl ?_) | (refine TH.w_ixL (TH.sqL (by assumption)) rfl ?_)))
  | ((with_reducible show L2.rSetL _ _ _ _ _); (first | (refine TH.w_set1 upd_same ?_) | (refine TH.w_set2 upd_same ?_) | (refine TH.w_set3 upd_same ?_) | (refine TH.w_set4 upd_same ?_) | (refine TH.w_set1 (by assumption) ?_) | (refine TH.w_set2 (by assumption) ?_) | (refine TH.w_set3 (by assumption) ?_) | (refine TH.w_set4 (by assumption) ?_)))
  | (with_reducible refine TH.w_lc ?_)
  | (with_reducible refine TH.w_dc ?_)
  | (with_reducible refine TH.w_itup ?_)
  | (with_reducible refine TH.w_ilist ?_)
  | (with_reducible refine TH.w_ienum ?_)
  | (with_reducible refine TH.w_izip ?_)
  | (with_reducible refine TH.w_irng1 ?_)
  | (with_reducible refine TH.w_irng2 ?_)
  | (with_reducible refine TH.w_for ?_)
  | (with_reducible refine TH.w_gcons ?_)
  | (with_reducible refine TH.w_gnil ?_)
  | (with_reducible refine TH.w_yes ?_)
  | (with_reducible refine TH.w_gtup2 upd_same ?_)
  | (with_reducible refine TH.w_gtup3 upd_same ?_)
  | (with_reducible refine TH.w_dput ?_)
  | (with_reducible refine TH.w_bm0 ?_)
  | (with_reducible refine TH.w_din ?_)
  | (with_reducible refine TH.w_dnotin ?_)
  | (with_reducible refine TH.w_dispK ?_)
  | (with_reducible refine TH.w_lock ?_)
  | (with_reducible refine TH.w_ikeys ?_)
  | (with_reducible refine TH.w_iitems ?_)
  | (with_reducible refine TH.w_dispT1 ?_)
  | (with_reducible refine TH.w_dnewT ?_)
  | (with_reducible refine TH.w_dnewK ?_)
  | (with_reducible refine TH.w_fld ?_)
  | (with_reducible refine TH.w_sfld ?_)
  | (with_reducible refine TH.w_meth ?_)
  | (with_reducible refine TH.w_make ?_)
  | (with_reducible refine TH.w_dget2 ?_)
  | (with_reducible refine TH.w_revL ?_)
  | (with_reducible refine TH.w_revT ?_)
  | (with_reducible refine TH.w_lstRg ?_)
  | (with_reducible refine TH.w_tupRg ?_)
  | (with_reducible refine TH.w_rg1 ?_)
  | (with_reducible refine TH.w_rg2 ?_)
  | (with_reducible refine TH.w_T ?_)
  | (with_reducible refine TH.w_F ?_))
local macro_rules | `(tactic| walk_at "rd") => `(tactic| repeat (first | walk_at "rd1" | (dsimp only [List.set, L2.wipe, List.map, TH.isInt, TH.isBool, TH.isTup, TH.isLst, TH.bo_f, TH.bo_t, TH.ba_f, TH.ba_t, TH.bn_t, TH.bn_f, List.append_nil, List.cons_append, List.nil_append])))

variable {P : Program} {w : World} {K : PySem.W.Frag} {mg : Str → Option Value} {base : Heap}
/-! the law -/
theorem ne_ints {H : Hp} {Q : VK} {a b : Addr} {ns : List Int} (hx : SqL K H a (ns.map V.int)) (hy : SqL K H b (ns.map V.int)) (q : Q (.bl false) H) : rNeD K (.ref a) (.ref b) H Q := by
  have hl : PyData.canLay0 (.list (ns.map PyData.int)) = true := lay_ints ns
  have hd : (PyData.list (ns.map PyData.int)).depth ≤ 64 := by
    show PyData.depthAll (ns.map PyData.int) + 1 ≤ 64
    rw [PySem.W.depth_ints]
    omega
  have hs : SeqAt.shaped (.list (ns.map PyData.int)) = true := by
    unfold SeqAt.shaped
    rw [hl, decide_eq_true hd]
    rfl
  refine ⟨_, _, .lst hx (dpa_ints ns), .lst hy (dpa_ints ns), hs, hs, ?_⟩
  rw [SeqAt.eqv_refl _ hl]
  exact q
theorem wee_ints {ns : List Int} (h : ns.length ≤ 1000000) : wee 1 (row ns) := .inr ⟨ns.map PyData.int, .inl rfl, by rw [List.length_map]; exact h, fun d hd => by
  obtain ⟨x, _, rfl⟩ := List.mem_map.mp hd
  exact .inr (.inr ⟨x, rfl⟩)⟩
theorem wee_tie (a : Nat × Nat) : wee 1 (tieD a) := .inr ⟨[.int (a.1 : Nat), .int (a.2 : Nat)], .inl rfl, by simp, fun d hd => by
  simp only [List.mem_cons, List.not_mem_nil, or_false] at hd
  rcases hd with rfl | rfl
  · exact .inr (.inr ⟨_, rfl⟩)
  · exact .inr (.inr ⟨_, rfl⟩)⟩
theorem wee_ties {ts : List (Nat × Nat)} (h : ts.length ≤ 1000000) : wee 2 (tiesT ts) := .inr ⟨ts.map tieD, .inl rfl, by rw [List.length_map]; exact h, fun d hd => by
  obtain ⟨x, _, rfl⟩ := List.mem_map.mp hd
  exact wee_tie x⟩
theorem wee_tiesL {ts : List (Nat × Nat)} (h : ts.length ≤ 1000000) : wee 2 (tiesL ts) := .inr ⟨ts.map tieD, .inr rfl, by rw [List.length_map]; exact h, fun d hd => by
  obtain ⟨x, _, rfl⟩ := List.mem_map.mp hd
  exact wee_tie x⟩
theorem wee_rowsT {n : Nat} {rs : List (List Int)} (h1 : rs.length ≤ 1000000) (h2 : ∀ r ∈ rs, r.length = n) (hn : n ≤ 1000000) : wee 2 (rowsT rs) := .inr ⟨rs.map row, .inl rfl, by rw [List.length_map]; exact h1, fun d hd => by
  obtain ⟨x, hx, rfl⟩ := List.mem_map.mp hd
  exact wee_ints (by rw [h2 x hx]; exact hn)⟩
theorem wee_wants {n : Nat} {ws : List (List (List Int))} (h1 : ws.length ≤ 1000000) (h2 : ∀ rs ∈ ws, rs.length ≤ 8) (h3 : ∀ rs ∈ ws, ∀ r ∈ rs, r.length = n) (hn : n ≤ 1000000) : wee 3 (wantsT ws) := .inr ⟨ws.map rowsT, .inl rfl, by rw [List.length_map]; exact h1, fun d hd => by
  obtain ⟨x, hx, rfl⟩ := List.mem_map.mp hd
  have := h2 x hx
  exact wee_rowsT (by omega) (h3 x hx) hn⟩
theorem waysP_len (ts : List (Nat × Nat)) : (waysP ts).length = 2 * ts.length := by
  unfold waysP
  rw [(sortP_perm _).length_eq, List.length_append, List.length_map]
  omega
theorem waysP_ok {posts : Nat} {ts : List (Nat × Nat)} (ok : TiesOk posts ts) {c : Nat × Nat} (h : c ∈ waysP ts) : WayOk ts c := by
  have h := (sortP_perm _).mem_iff.mp h
  have key : ∀ a ∈ ts, WayOk ts a := fun a ha => by
    have := (ok.rng a ha).1
    unfold WayOk LT.srt
    rw [if_pos (by omega)]
    exact ha
  rcases List.mem_append.mp h with m | m
  · exact key c m
  · obtain ⟨a, ha, rfl⟩ := List.mem_map.mp m
    exact (key a ha).swap
theorem ties_are (ts : List (Nat × Nat)) : ∀ d ∈ ts.map tieD, ∃ r : List Int, d = row r := fun d hd => by
  obtain ⟨a, _, rfl⟩ := List.mem_map.mp hd
  exact ⟨[(a.1 : Int), (a.2 : Int)], rfl⟩
/-- both sides of a way, sorted, are all posts -/
theorem both_sides {posts : Nat} {ts : List (Nat × Nat)} (ok : TreeOk posts ts) {c : Nat × Nat} (hw : WayOk ts c) {ys zs : List Int} (n1 : ys.Nodup) (m1 : ∀ y, y ∈ ys ↔ Rch (nbZ posts ts) (some (c.1 : Int)) (c.2 : Int) y)
    (n2 : zs.Nodup) (m2 : ∀ y, y ∈ zs ↔ Rch (nbZ posts ts) (some (c.2 : Int)) (c.1 : Int) y) : sortZ (ys ++ zs) = rgZ 0 (posts : Nat) := by
  have hr := hw.rng ok.1
  obtain ⟨o, pa, rk, r, R⟩ := id ok
  have k1 : ∀ y, y ∈ ys ↔ LT.Rc ts (some (c.1 : Int)) (c.2 : Int) y := fun y => (m1 y).trans (rch_rc ok (by omega) (by omega))
  have k2 : ∀ y, y ∈ zs ↔ LT.Rc ts (some (c.2 : Int)) (c.1 : Int) y := fun y => (m2 y).trans (rch_rc ok (by omega) (by omega))
  have r1 : ∀ y ∈ ys, 0 ≤ y ∧ y < posts := fun y hy => R.rc_rng ((k1 y).mp hy) (by omega) (by omega)
  have r2 : ∀ y ∈ zs, 0 ≤ y ∧ y < posts := fun y hy => R.rc_rng ((k2 y).mp hy) (by omega) (by omega)
  have nd : (ys ++ zs).Nodup := List.nodup_append.mpr ⟨n1, n2, fun a ha b hb e => by
    subst e
    have rr := r1 a ha
    rcases R.parts hw.adj rr.1 rr.2 with ⟨p, np⟩ | ⟨np, p⟩
    · exact np ((k1 a).mp ha)
    · exact np ((k2 a).mp hb)⟩
  refine sorted_eq (sortZ_pw _) ((sortZ_perm _).nodup_iff.mpr nd) ((rgZ_pw _ _).imp fun h => by omega) ((rgZ_pw _ _).imp fun h => by omega) fun y => ?_
  rw [(sortZ_perm _).mem_iff, List.mem_append, mem_rgZ]
  constructor
  · rintro (m | m)
    · exact r1 y m
    · exact r2 y m
  · rintro ⟨h0, h1⟩
    rcases R.parts hw.adj h0 h1 with ⟨p, _⟩ | ⟨_, p⟩
    · exact .inr ((k2 y).mpr p)
    · exact .inl ((k1 y).mpr p)
def sp_law (K : PySem.W.Frag) : Sp := fun vs H Q _ => ∃ (a : Addr) (ns : List Int), vs = [.ref a] ∧ SqL K H a (ns.map V.int) ∧ ns.length ≤ 1000000 ∧ ∀ H', Q (.bl true) H'
theorem ok_law {C CT : Addr} {f : Addr} {fd : FuncData} (F : C8.Def K mg "law" s_law f fd) (b : Binds K fd ["script"] []) (T : Txt mg) (TC : TrC K CT) (SC : ShC K C)
    (c_law_hand : C8.Cal P w K mg base 1 "_law_hand" (sp_hand K) []) (c_law_draw : C8.Cal P w K mg base 1 "_law_draw" (sp_draw K) []) (c_law_is : C8.Cal P w K mg base 6 "_law_is" (sp_is 4 K) [])
    (c_law_ties : C8.Cal P w K mg base 3 "_law_ties" (sp_law_ties K) []) (c_Tree : C8.Mak P w K mg base 4 "Tree" CT (sp_tree_init K CT) []) (c_law_all_ways : C8.Cal P w K mg base 1 "_law_all_ways" (sp_law_all_ways K) [])
    (c_ways : C8.Cal P w K mg base 2 "ways" (sp_all_ways K CT) []) (c_tied : C8.Cal P w K mg base 4 "tied" (sp_tied K CT) []) (c_law_near : C8.Cal P w K mg base 1 "_law_near" (sp_law_near K) [])
    (c_beyond : C8.Cal P w K mg base 5 "beyond" (sp_beyond K CT) []) (c_law_this : C8.Cal P w K mg base 2 "_law_this" (sp_law_this K) [])
    (c_law_spec : C8.Cal P w K mg base 4 "_law_spec" (sp_law_spec K) []) (c_law_sheet : C8.Cal P w K mg base 7 "_law_sheet" (sp_law_sheet K C CT) []) (c_held : C8.Cal P w K mg base 4 "held" (sp_held K C CT) [])
    (c_law_numbers : C8.Cal P w K mg base 1 "_law_numbers" (sp_law_numbers K) []) (c_block : C8.Cal P w K mg base 6 "block" (sp_block K C CT) []) (c_law_cut : C8.Cal P w K mg base 4 "_law_cut" (sp_law_cut K) []) : FnOk P w K mg base C8.CX0 9 f fd ["script"] (sp_law K) := by
  refine C8.fn0 F.fn sc_law (fun vs H Q E h => ?_) (fun cdv A outer s H vs Q E hr h => ?_)
  · obtain ⟨a, ns, rfl, _⟩ := h
    rfl
  · obtain ⟨a, ns, rfl, ha, hl, q⟩ := h
    have hu64 := hu64_of hr
    refine ⟨_, (pss_cons (ps_set (i := 1) sc_law.nd rfl (Or.inl rfl) (C8.pe_c c_law_hand hr (by first | decide | exact Nat.le_refl _) (by rfl) (pa_cons (pv 0) pa_nil)))
      (pss_cons (ps_for PassesOwn.never rfl (pi_range1 (by rfl) T.b_range (pa_cons pe_int pa_nil)) (pg_name (i := 2) sc_law.nd rfl (Or.inl rfl) (Or.inr rfl)) (C8.pss_cut (ps_set (i := 3) sc_law.nd rfl (Or.inl rfl) (pe_ifExp (pt_cmpR op_eq (C8.pe_c c_law_draw hr (by first | decide | exact Nat.le_refl _) (by rfl) (pa_cons (pv 1) (pa_cons pe_int pa_nil))) pe_int (nomark _)) pe_int (pe_op op_add pe_int (C8.pe_c c_law_draw hr (by first | decide | exact Nat.le_refl _) (by rfl) (pa_cons (pv 1) (pa_cons pe_int pa_nil))))))
      (pss_cons (ps_set (i := 4) sc_law.nd rfl (Or.inl rfl) (C8.pe_c c_law_ties hr (by first | decide | exact Nat.le_refl _) (by rfl) (pa_cons (pv 1) (pa_cons (pv 3) pa_nil))))
      (pss_cons (ps_par (i := 9) (j := 10) rfl sc_law.nd rfl rfl (by decide) rfl rfl (pa_cons (C8.pe_mk c_Tree hr (by first | decide | exact Nat.le_refl _) (by rfl) (pa_cons (pv 4) pa_nil)) (pa_cons (C8.pe_c c_law_all_ways hr (by first | decide | exact Nat.le_refl _) (by rfl) (pa_cons (pv 4) pa_nil)) pa_nil)) (by rfl))
      (pss_cons (ps_if (pt_not (pt_val (C8.pe_c c_law_is hr (by first | decide | exact Nat.le_refl _) (by rfl) (pa_cons (pe_lst (pa_cons (C8.pe_c c_ways hr (by first | decide | exact Nat.le_refl _) (by rfl) (pa_cons (pv 9) pa_nil)) (pa_cons (TH.kpe_fld (K := K) (pv 9) rfl) (pa_cons (TH.kpe_fld (K := K) (pv 9) rfl) pa_nil)))) (pa_cons (pe_lst (pa_cons (pv 10) (pa_cons (pv 3) (pa_cons (pv 4) pa_nil)))) pa_nil))))) (pss_one (ps_ret pe_bl)) pss_nil)
      (pss_cons (ps_for PassesOwn.never rfl (pi_range1 (by rfl) T.b_range (pa_cons (pv 3) pa_nil)) (pg_name (i := 5) sc_law.nd rfl (Or.inl rfl) (Or.inr rfl)) (pss_one (ps_if (pt_not (pt_val (C8.pe_c c_law_is hr (by first | decide | exact Nat.le_refl _) (by rfl) (pa_cons (C8.pe_c c_tied hr (by first | decide | exact Nat.le_refl _) (by rfl) (pa_cons (pv 9) (pa_cons (pv 5) pa_nil))) (pa_cons (pe_callTy (TH.kcall_tuple (K := K)) (by rfl) T.b_tuple (by decide +kernel) (pa_cons (C8.pe_c c_law_near hr (by first | decide | exact Nat.le_refl _) (by rfl) (pa_cons (pv 4) (pa_cons (pv 5) pa_nil))) pa_nil)) pa_nil))))) (pss_one (ps_ret pe_bl)) pss_nil)))
      (pss_cons (ps_for PassesOwn.never rfl (TH.kpi_list (K := K) (pv 10)) (pg_name (i := 6) sc_law.nd rfl (Or.inl rfl) (Or.inr rfl)) (pss_cons (ps_par (i := 11) (j := 12) rfl sc_law.nd rfl rfl (by decide) rfl rfl (pa_cons (C8.pe_c c_beyond hr (by first | decide | exact Nat.le_refl _) (by rfl) (pa_cons (pv 9) (pa_cons (pv 6) pa_nil))) (pa_cons (C8.pe_c c_beyond hr (by first | decide | exact Nat.le_refl _) (by rfl) (pa_cons (pv 9) (pa_cons (TH.kpe_revT (K := K) (pv 6)) pa_nil))) pa_nil)) (by rfl))
      (pss_one (ps_if (PW.pt (pw_or (pt_not (pt_val (C8.pe_c c_law_is hr (by first | decide | exact Nat.le_refl _) (by rfl) (pa_cons (pv 11) (pa_cons (pe_callTy (TH.kcall_tuple (K := K)) (by rfl) T.b_tuple (by decide +kernel) (pa_cons (C8.pe_c c_law_this hr (by first | decide | exact Nat.le_refl _) (by rfl) (pa_cons (pv 4) (pa_cons (TH.kpe_revT (K := K) (pv 6)) pa_nil))) pa_nil)) pa_nil))))) (pw_or1 (pt_cmpR (TH.kop_neD (K := K) hu64) (pe_callB (TH.call_sortedTD (K := K) hu64) (by rfl) T.b_sorted (by decide +kernel) (pa_cons (pe_op (TH.kop_catA (K := K)) (pv 11) (pv 12)) pa_nil)) (pe_listRg rfl (by rfl) T.b_list (prg_1 (by rfl) T.b_range (pv 3))) (nomark _))))) (pss_one (ps_ret pe_bl)) pss_nil))))
      (pss_cons (ps_expr (TH.kpe_bm (K := K) PySem.F.plainAttrs_list PySem.F.slot_list_append PySem.F.type_list_append mt_append (C8.pe_c c_ways hr (by first | decide | exact Nat.le_refl _) (by rfl) (pa_cons (pv 9) pa_nil)) (pa_cons (pe_tup (pa_cons pe_int (pa_cons pe_int pa_nil))) pa_nil)))
      (C8.pss_cut (ps_if (pt_cmpR (TH.kop_neD (K := K) hu64) (C8.pe_c c_ways hr (by first | decide | exact Nat.le_refl _) (by rfl) (pa_cons (pv 9) pa_nil)) (pv 10) (nomark _)) (pss_one (ps_ret pe_bl)) pss_nil)
      (pss_cons (ps_set (i := 7) sc_law.nd rfl (Or.inl rfl) (C8.pe_c c_law_spec hr (by first | decide | exact Nat.le_refl _) (by rfl) (pa_cons (pv 1) (pa_cons (pe_op op_add pe_int (C8.pe_c c_law_draw hr (by first | decide | exact Nat.le_refl _) (by rfl) (pa_cons (pv 1) (pa_cons pe_int pa_nil)))) (pa_cons pe_int pa_nil)))))
      (pss_cons (ps_set (i := 8) sc_law.nd rfl (Or.inl rfl) (C8.pe_c c_law_sheet hr (by first | decide | exact Nat.le_refl _) (by rfl) (pa_cons (pv 7) pa_nil)))
      (pss_cons (ps_for PassesOwn.never rfl (pi_range1 (by rfl) T.b_range (pa_cons (pe_callB (TH.kcall_len (K := K)) (by rfl) T.b_len (by decide +kernel) (pa_cons (pe_ix (TH.kix_tup (K := K)) (pv 7) pe_int (fun _ _ => rfl)) pa_nil)) pa_nil)) (pg_name (i := 5) sc_law.nd rfl (Or.inl rfl) (Or.inr rfl)) (pss_one (ps_if (pt_not (pt_val (C8.pe_c c_law_is hr (by first | decide | exact Nat.le_refl _) (by rfl) (pa_cons (C8.pe_c c_held hr (by first | decide | exact Nat.le_refl _) (by rfl) (pa_cons (pv 8) (pa_cons (pv 5) pa_nil))) (pa_cons (pe_callTy (TH.kcall_tuple (K := K)) (by rfl) T.b_tuple (by decide +kernel) (pa_cons (C8.pe_c c_law_numbers hr (by first | decide | exact Nat.le_refl _) (by rfl) (pa_cons (pe_ix (TH.kix_tup (K := K)) (pv 7) pe_int (fun _ _ => rfl)) (pa_cons (pe_lst (pa_cons (pv 5) pa_nil)) pa_nil))) pa_nil)) pa_nil))))) (pss_one (ps_ret pe_bl)) pss_nil)))
      (pss_cons (ps_for PassesOwn.never rfl (TH.kpi_list (K := K) (C8.pe_c c_law_all_ways hr (by first | decide | exact Nat.le_refl _) (by rfl) (pa_cons (pe_ix (TH.kix_tup (K := K)) (pv 7) pe_int (fun _ _ => rfl)) pa_nil))) (pg_name (i := 6) sc_law.nd rfl (Or.inl rfl) (Or.inr rfl)) (pss_one (ps_if (pt_not (pt_val (C8.pe_c c_law_is hr (by first | decide | exact Nat.le_refl _) (by rfl) (pa_cons (C8.pe_c c_block hr (by first | decide | exact Nat.le_refl _) (by rfl) (pa_cons (pv 8) (pa_cons (pv 6) pa_nil))) (pa_cons (pe_callTy (TH.kcall_tuple (K := K)) (by rfl) T.b_tuple (by decide +kernel) (pa_cons (C8.pe_c c_law_cut hr (by first | decide | exact Nat.le_refl _) (by rfl) (pa_cons (pv 7) (pa_cons (pv 6) pa_nil))) pa_nil)) pa_nil))))) (pss_one (ps_ret pe_bl)) pss_nil)))
      (pss_one (ps_if (pt_not (pt_val (C8.pe_c c_law_is hr (by first | decide | exact Nat.le_refl _) (by rfl) (pa_cons (pe_lst (pa_cons (TH.kpe_fld (K := K) (pv 8) rfl) (pa_cons (TH.kpe_fld (K := K) (pv 8) rfl) (pa_cons (TH.kpe_fld (K := K) (pv 8) rfl) (pa_cons (TH.kpe_fld (K := K) (pv 8) rfl) pa_nil))))) (pa_cons (pe_lst (pa_cons (pe_ix (TH.kix_tup (K := K)) (pv 7) pe_int (fun _ _ => rfl)) (pa_cons (pe_ix (TH.kix_tup (K := K)) (pv 7) pe_int (fun _ _ => rfl)) (pa_cons (pe_ix (TH.kix_tup (K := K)) (pv 7) pe_int (fun _ _ => rfl)) (pa_cons (pe_callB (TH.kcr_sumT (K := K) rfl) (by rfl) T.b_sum (by decide +kernel) (pa_cons (pe_ix (TH.kix_tup (K := K)) (pv 7) pe_int (fun _ _ => rfl)) pa_nil)) pa_nil))))) pa_nil))))) (pss_one (ps_ret pe_bl)) pss_nil)))))))))))))))
      (pss_one (ps_ret pe_bl)))), ?_⟩
    refine w_start (σ' := [some (.ref a), none, none, none, none, none, none, none, none, none, none, none, none]) rfl ?_
    walk_at "rd"
    refine ⟨a, ns, rfl, ha, hl, fun hv H1 e1 hh => ?_⟩
    walk_at "rd"
    refine w_isrng (by omega) (by omega) ?_
    refine for_go walk_rng (fun i σ H2 => HandAt H2 hv ∧ ∃ y2 y3 y4 y5 y6 y7 y8 y9 y10 y11 y12, σ = [some (.ref a), some hv, y2, y3, y4, y5, y6, y7, y8, y9, y10, y11, y12]) ⟨hh, _, _, _, _, _, _, _, _, _, _, _, rfl⟩ (fun _ _ _ _ _ => trivial) (fun i x σ H2 H3 hi p y => ?_) (fun σ H2 p => ?_)
    · obtain ⟨hh, y2, y3, y4, y5, y6, y7, y8, y9, y10, y11, y12, rfl⟩ := p
      obtain ⟨rfl, rfl⟩ := y
      walk_at "rd"
      refine ⟨fun σ' H' => H' = H3 ∧ ∃ posts : Nat, 1 ≤ posts ∧ posts ≤ 24 ∧ σ' = [some (.ref a), some hv, some (.int i), some (.int posts), y4, y5, y6, y7, y8, y9, y10, y11, y12], ?_, ?_⟩
      · walk_at "rd"
        refine ⟨hv, _, rfl, hh, by omega, by omega, fun d0 d1 d2 => ?_⟩
        walk_at "rd"
        refine w_dec (fun _ => ?_) (fun _ => ?_)
        · walk_at "rd"
          exact ⟨rfl, 24, by omega, by omega, rfl⟩
        · walk_at "rd"
          refine ⟨hv, _, rfl, hh, by omega, by omega, fun d3 d4 d5 => ?_⟩
          walk_at "rd"
          exact ⟨rfl, (1 + d3).toNat, by omega, by omega, by rw [Int.toNat_of_nonneg (by omega)]⟩
      rintro σ' H' ⟨rfl, posts, hp1, hp2, rfl⟩
      walk_at "rd"
      refine ⟨hv, posts, rfl, hh, hp1, hp2, fun tv ts H4 e4 htv hts => ?_⟩
      have htl := hts.1.len
      have hh4 := hh.ex e4
      walk_at "rd"
      intro x dx hx hdx hne
      refine ⟨x, dx, tv, posts, ts, rfl, upd_same, (ex_two hx hdx).dp htv, hts, fun H5 h1 h2 h3 => ⟨rfl, ?_⟩⟩
      have e5 := ex_made hx hdx h1
      have htr : TreeAt K CT H5 (.ref x) posts ts := ⟨x, dx, tv, rfl, h2, h3⟩
      walk_at "rd"
      refine ⟨tv, ts, rfl, h3, by omega, fun el ws H6 e6 hel0 hel hed => ?_⟩
      have hh6 := (hh4.ex e5).ex e6
      have htr6 := htr.ex e6
      have htv6 := e6.dp h3
      have hx6 := e6 _ _ h2
      clear h1 h2 h3 hh4
      walk_at "rd"
      refine ⟨.ref x, posts, ts, rfl, htr6, by omega, fun l1 ws1 H7 e7 hl10 hl1 hd1 => ?_⟩
      walk_at "rd"
      refine ⟨x, CT, dx, _, _, rfl, e7 _ _ hx6, TC.cl, TC.nP, tf_posts, ?_⟩
      walk_at "rd"
      refine ⟨x, CT, dx, _, _, rfl, e7 _ _ hx6, TC.cl, TC.nT, tf_ties, ?_⟩
      walk_at "rd"
      refine w_dispT (by simp) fun la hla => ?_
      have e8 : Ex H7 (upd H7 la (.lst [.ref l1, .int posts, tv])) := Ex.new hla
      have u8 : upd H7 la (.lst [.ref l1, .int posts, tv]) la = some (.lst [.ref l1, .int posts, tv]) := upd_same
      generalize upd H7 la (.lst [.ref l1, .int posts, tv]) = H8 at e8 u8 ⊢
      walk_at "rd"
      refine w_dispT (by simp) fun lb hlb => ?_
      have e9 : Ex H8 (upd H8 lb (.lst [.ref el, .int posts, tv])) := Ex.new hlb
      have u9 : upd H8 lb (.lst [.ref el, .int posts, tv]) lb = some (.lst [.ref el, .int posts, tv]) := upd_same
      generalize upd H8 lb (.lst [.ref el, .int posts, tv]) = H9 at e9 u9 ⊢
      have e69 := e7.trans (e8.trans e9)
      have hwl := waysP_len ts
      refine ⟨.ref la, .ref lb, .list [tiesL (waysP ts), .int posts, tiesT ts], rfl, .lst (sqL (e9 _ _ u8)) (.cons (.lst (sqL ((e8.trans e9) _ _ hl1)) ((e8.trans e9).dpa hd1)) (.cons (.int _) (.cons (e69.dp htv6) .nil))),
        .lst (sqL u9) (.cons (.lst (sqL (e69 _ _ hel)) (e69.dpa hed)) (.cons (.int _) (.cons (e69.dp htv6) .nil))), .inr ⟨_, .inr rfl, by simp, fun d hd => ?_⟩, fun H10 e10 => ?_⟩
      · simp only [List.mem_cons, List.not_mem_nil, or_false] at hd
        rcases hd with rfl | rfl | rfl
        · exact wee_up (wee_tiesL (by omega))
        · exact .inl (.inr (.inr ⟨_, rfl⟩))
        · exact wee_up (wee_ties (by omega))
      walk_at "rd"
      have E := e69.trans e10
      have hh10 := hh6.ex E
      have htr10 := htr6.ex E
      have htv10 := E.dp htv6
      have hel10 := E _ _ hel
      have hed10 := E.dpa hed
      clear e69 hed hel htv6 htr6 hh6 hx6 e7 e8 e9 e10 u8 u9 hd1 hl1 E
      have hfin : ∀ ns : List Int, ns.Nodup → (∀ y ∈ ns, 0 ≤ y ∧ y < posts) → wee 4 (row ns) := fun ns n1 n2 => wee_up (wee_up (wee_up (wee_ints (by
        have := few_of n1 n2
        omega))))
      refine w_isrng (by omega) (by omega) ?_
      refine for_go walk_rng (fun j σ H' => Ex H10 H' ∧ ∃ y5, σ = [some (.ref a), some hv, some (.int i), some (.int posts), some tv, y5, y6, y7, y8, some (.ref x), some (.ref el), y11, y12]) ⟨Ex.refl _, _, rfl⟩ (fun _ _ _ _ _ => trivial) (fun j x' σ H' H'' hj p y => ?_) (fun σ H' p => ?_)
      · obtain ⟨e, y5, rfl⟩ := p
        obtain ⟨rfl, rfl⟩ := y
        walk_at "rd"
        refine ⟨.ref x, posts, ts, j, rfl, htr10.ex e, hts.1, by omega, fun u H11 e11 hu => ?_⟩
        walk_at "rd"
        refine ⟨tv, ts, j, rfl, (e.trans e11).dp htv10, by omega, fun l H12 e12 hl0 hl => ?_⟩
        walk_at "rd"
        refine ⟨l, _, rfl, .inl ⟨sqL hl, fun t ht => ?_⟩⟩
        walk_at "rd"
        have e13 := e12.trans (Ex.new (o := .tup ((nearZ ts j).map V.int)) ht)
        refine ⟨u, .ref t, row (nearZ ts j), rfl, e13.dp hu, dp_row_of (sqT upd_same), hfin _ (nearZ_nodup hts.1 j) (fun y hy => ?_), fun H13 e14 => ?_⟩
        · obtain ⟨o, pa, rk, r, R⟩ := hts
          exact R.rng _ _ (mem_nearZ.mp hy).symm
        · walk_at "rd"
          exact ⟨e.trans (e11.trans (e13.trans e14)), _, rfl⟩
      obtain ⟨e, y5, rfl⟩ := p
      walk_at "rd"
      refine ⟨el, rfl, ⟨_, sqL (e _ _ hel10)⟩, ?_⟩
      refine for_go walk_list (fun j σ H' => Ex H10 H' ∧ ∃ y6 y11 y12, σ = [some (.ref a), some hv, some (.int i), some (.int posts), some tv, y5, y6, y7, y8, some (.ref x), some (.ref el), y11, y12]) ⟨e, _, _, _, rfl⟩ (fun j σ H' _ p => sqL (p.1 _ _ hel10)) (fun j x' σ H' H'' hj p y => ?_) (fun σ H' p => ?_)
      · obtain ⟨e, y6, y11, y12, rfl⟩ := p
        obtain ⟨rfl, hxw⟩ := y
        obtain ⟨c, hc1, hc2⟩ := dpa_ties (e.dpa hed10) hxw
        obtain ⟨ct, rfl, hct⟩ := dp_tie hc2
        have hwy := waysP_ok hts.1 (List.mem_of_getElem? hc1)
        have hwr := hwy.rng hts.1
        walk_at "rd"
        refine ⟨.ref x, .ref ct, posts, ts, c, rfl, htr10.ex e, hts.1, hc2, hwy, fun r1 ys1 H11 e11 hr1 p1 p2 p3 => ?_⟩
        walk_at "rd"
        refine ⟨ct, _, rfl, e11.t hct, fun p hp => ?_⟩
        have e12 : Ex H11 (upd H11 p (.tup [V.int (c.1 : Nat), V.int (c.2 : Nat)].reverse)) := Ex.new hp
        have u12 : upd H11 p (.tup [V.int (c.1 : Nat), V.int (c.2 : Nat)].reverse) p = some (.tup [V.int (c.2 : Nat), V.int (c.1 : Nat)]) := upd_same
        generalize upd H11 p (.tup [V.int (c.1 : Nat), V.int (c.2 : Nat)].reverse) = H12 at e12 u12 ⊢
        walk_at "rd"
        refine ⟨.ref x, .ref p, posts, ts, swapP c, rfl, htr10.ex (e.trans (e11.trans e12)), hts.1, dp_tie_of (a := swapP c) (sqT u12), hwy.swap, fun r2 ys2 H13 e13 hr2 p4 p5 p6 => ?_⟩
        have e23 := e12.trans e13
        have e113 := e11.trans e23
        walk_at "rd"
        refine ⟨ct, _, rfl, e113.t hct, fun p' hp' => ?_⟩
        have e14 : Ex H13 (upd H13 p' (.tup [V.int (c.1 : Nat), V.int (c.2 : Nat)].reverse)) := Ex.new hp'
        have u14 : upd H13 p' (.tup [V.int (c.1 : Nat), V.int (c.2 : Nat)].reverse) p' = some (.tup [V.int (c.2 : Nat), V.int (c.1 : Nat)]) := upd_same
        generalize upd H13 p' (.tup [V.int (c.1 : Nat), V.int (c.2 : Nat)].reverse) = H14 at e14 u14 ⊢
        walk_at "rd"
        refine ⟨tv, .ref p', posts, ts, swapP c, rfl, (e.trans (e113.trans e14)).dp htv10, hts, dp_tie_of (a := swapP c) (sqT u14), hwr.2.1, fun l ys3 H15 e15 hl0 hl p7 p8 p9 => ?_⟩
        have e31 : ys3 = ys1 := sorted_eq p7 p8 p1 p2 fun y => (p9 y).trans (p3 y).symm
        subst e31
        walk_at "rd"
        refine ⟨l, _, rfl, .inl ⟨sqL hl, fun t ht => ?_⟩⟩
        have e16 : Ex H15 (upd H15 t (.tup (ys3.map V.int))) := Ex.new ht
        have u16 : upd H15 t (.tup (ys3.map V.int)) t = some (.tup (ys3.map V.int)) := upd_same
        generalize upd H15 t (.tup (ys3.map V.int)) = H16 at e16 u16 ⊢
        have e46 := e14.trans (e15.trans e16)
        obtain ⟨o, pa, rk, r, R⟩ := id hts
        have rg1 : ∀ y ∈ ys3, 0 ≤ y ∧ y < posts := fun y hy => R.rc_rng ((rch_rc hts (by omega) (by omega)).mp ((p3 y).mp hy)) (by omega) (by omega)
        have rg2 : ∀ y ∈ ys2, 0 ≤ y ∧ y < posts := fun y hy => R.rc_rng ((rch_rc hts (by show (0 : Int) ≤ (c.1 : Nat); omega) (by show ((c.1 : Nat) : Int) < posts; omega)).mp ((p6 y).mp hy)) (by show (0 : Int) ≤ (c.1 : Nat); omega) (by show ((c.1 : Nat) : Int) < posts; omega)
        have f1 := few_of p2 rg1
        have f2 := few_of p5 rg2
        walk_at "rd"
        refine ⟨r1, .ref t, row ys3, rfl, (e23.trans e46).dp hr1, dp_row_of (sqT u16), hfin _ p2 rg1, fun H17 e17 => ?_⟩
        have e47 := e46.trans e17
        walk_at "rd"
        refine w_catRow ((e23.trans e47).dp hr1) (e47.dp hr2) (by omega) fun r5 H18 e18 hr5 => ?_
        obtain ⟨ra, rfl, hra⟩ := dp_row hr5
        walk_at "rd"
        refine w_sortTI hra fun sl hsl => ?_
        rw [both_sides hts hwy p2 p3 p5 p6]
        have e19 : Ex H18 (upd H18 sl (.lst ((rgZ 0 (posts : Nat)).map V.int))) := Ex.new hsl
        have u19 : upd H18 sl (.lst ((rgZ 0 (posts : Nat)).map V.int)) sl = some (.lst ((rgZ 0 (posts : Nat)).map V.int)) := upd_same
        generalize upd H18 sl (.lst ((rgZ 0 (posts : Nat)).map V.int)) = H19 at e19 u19 ⊢
        walk_at "rd"
        refine ⟨.of_le (by omega) (by omega) (by omega) (by omega), fun gl hgl => ?_⟩
        rw [rgV_eq]
        refine ne_ints (sqL ((Ex.new hgl) _ _ u19)) (sqL upd_same) ?_
        walk_at "rd"
        exact ⟨e.trans (e113.trans (e47.trans (e18.trans (e19.trans (Ex.new hgl))))), _, _, _, rfl⟩
      obtain ⟨e, y6, y11, y12, rfl⟩ := p
      walk_at "rd"
      refine ⟨.ref x, posts, ts, rfl, htr10.ex e, by omega, fun l1 ws1 H11 e11 hl10 hl1 hd1 => ?_⟩
      refine ⟨tyL hl1, ?_⟩
      walk_at "rd"
      refine w_dispT (by simp) fun tp htp => ?_
      walk_at "rd"
      have hw1l : ws1.length ≤ 100 := by
        rw [dpa_len hd1, List.length_map, waysP_len]
        omega
      refine w_app ((Ex.new htp) _ _ hl1) (by omega) ?_
      have eA : Ex H10 (upd (upd H11 tp (.tup [V.int 0, V.int 0])) l1 (.lst (ws1 ++ [.ref tp]))) := (e.trans (e11.trans (Ex.new htp))).mut (e.fresh hl10)
      generalize upd (upd H11 tp (.tup [V.int 0, V.int 0])) l1 (.lst (ws1 ++ [.ref tp])) = HA at eA ⊢
      walk_at "rd"
      refine ⟨fun σ' H' => Ex H10 H' ∧ σ' = [some (.ref a), some hv, some (.int i), some (.int posts), some tv, y5, y6, y7, y8, some (.ref x), some (.ref el), y11, y12], ?_, ?_⟩
      · walk_at "rd"
        refine ⟨.ref x, posts, ts, rfl, htr10.ex eA, by omega, fun l2 ws2 H12 e12 hl20 hl2 hd2 => ?_⟩
        walk_at "rd"
        refine ne_list (.lst (sqL hl2) hd2) (.lst (sqL ((eA.trans e12) _ _ hel10)) ((eA.trans e12).dpa hed10)) (ties_are _) ?_
        walk_at "rd"
        exact ⟨eA.trans e12, rfl⟩
      rintro σ' H20 ⟨e20, rfl⟩
      have hh20 := hh10.ex e20
      clear hed10 hel10 htv10 htr10 hh10 eA hd1 hl1 e11 e20 e
      walk_at "rd"
      refine ⟨hv, _, rfl, hh20, by omega, by omega, fun d0 d1 d2 => ?_⟩
      obtain ⟨n, hn⟩ : ∃ n : Nat, 1 + d0 = n := ⟨(1 + d0).toNat, by omega⟩
      walk_at "rd"
      rw [hn]
      refine ⟨hv, n, rfl, hh20, by omega, by omega, fun sv S H21 e21 hsv ok hSp => ?_⟩
      walk_at "rd"
      refine ⟨sv, S, rfl, hsv, ok, fun sh H22 e22 hsh => ?_⟩
      have hh22 := hh20.ex (e21.trans e22)
      have hsv2 := e22.dp hsv
      obtain ⟨sa, st, shv, sw, rfl, hsa, hst, hshv, hsw⟩ := dp_spec hsv2
      obtain ⟨sha, rfl, hsha⟩ := dp_row hshv
      have o1 := ok.hl
      have o2 := ok.h60
      have o3 := ok.tree.1.len
      have o4 := ok.tree.1.few
      walk_at "rd"
      refine w_ixT hsa (atI_at (j := 2) rfl) ?_
      walk_at "rd"
      refine ⟨sha, _, rfl, .inr hsha, ?_⟩
      walk_at "rd"
      refine w_isrng (by rw [List.length_map, nz_len]; omega) (by rw [List.length_map, nz_len]; omega) ?_
      refine for_go walk_rng (fun j σ H' => Ex H22 H' ∧ ∃ y5, σ = [some (.ref a), some hv, some (.int i), some (.int posts), some tv, y5, y6, some (.ref sa), some sh, some (.ref x), some (.ref el), y11, y12]) ⟨Ex.refl _, _, rfl⟩ (fun _ _ _ _ _ => trivial) (fun j x' σ H' H'' hj p y => ?_) (fun σ H' p => ?_)
      · obtain ⟨e, y5, rfl⟩ := p
        obtain ⟨rfl, rfl⟩ := y
        rw [List.length_map, nz_len] at hj
        walk_at "rd"
        refine ⟨sh, S, j, rfl, hsh.ex e, ok, by omega, fun r H23 e23 hr => ?_⟩
        walk_at "rd"
        refine w_ixT ((e.trans e23).t hsa) (atI_at (j := 2) rfl) ?_
        walk_at "rd"
        refine w_dispT (by simp) fun pl hpl => ?_
        have e24 : Ex H23 (upd H23 pl (.lst [V.int (j : Nat)])) := Ex.new hpl
        have u24 : upd H23 pl (.lst [V.int (j : Nat)]) pl = some (.lst [V.int (j : Nat)]) := upd_same
        generalize upd H23 pl (.lst [V.int (j : Nat)]) = H24 at e24 u24 ⊢
        walk_at "rd"
        refine ⟨.ref sha, S.hs, pl, [(j : Int)], rfl, (e.trans (e23.trans e24)).dp hshv, sqL u24, by omega, by simp, fun y hy => ?_, by simp, fun l H25 e25 hl0 hl => ?_⟩
        · rw [List.mem_singleton.mp hy]
          omega
        have elz : lotsZ S.hs [(j : Int)] = lotZ S.hs j := by simp [lotsZ]
        rw [elz] at hl
        walk_at "rd"
        refine ⟨l, _, rfl, .inl ⟨sqL hl, fun t ht => ?_⟩⟩
        have e26 := e24.trans (e25.trans (Ex.new (o := .tup ((lotZ S.hs j).map V.int)) ht))
        have ll := lotZ_len S.hs j
        walk_at "rd"
        refine ⟨r, .ref t, row (lotZ S.hs j), rfl, e26.dp hr, dp_row_of (sqT upd_same), wee_up (wee_up (wee_up (wee_ints (by omega)))), fun H27 e27 => ?_⟩
        walk_at "rd"
        exact ⟨e.trans (e23.trans (e26.trans e27)), _, rfl⟩
      obtain ⟨e, y5, rfl⟩ := p
      walk_at "rd"
      refine w_ixT (e.t hsa) (atI_at (j := 1) rfl) ?_
      walk_at "rd"
      refine ⟨st, S.ts, rfl, e.dp hst, by omega, fun el2 ws2 H23 e23 hel0 hel hed => ?_⟩
      have e0 := e.trans e23
      refine ⟨el2, rfl, ⟨_, sqL hel⟩, ?_⟩
      refine for_go walk_list (fun j σ H' => Ex H23 H' ∧ ∃ y6, σ = [some (.ref a), some hv, some (.int i), some (.int posts), some tv, y5, y6, some (.ref sa), some sh, some (.ref x), some (.ref el), y11, y12]) ⟨Ex.refl _, _, rfl⟩ (fun j σ H' _ p => sqL (p.1 _ _ hel)) (fun j x' σ H' H'' hj p y => ?_) (fun σ H' p => ?_)
      · obtain ⟨e, y6, rfl⟩ := p
        obtain ⟨rfl, hxw⟩ := y
        obtain ⟨c, hc1, hc2⟩ := dpa_ties (e.dpa hed) hxw
        have hwy := waysP_ok ok.tree.1 (List.mem_of_getElem? hc1)
        have hwr := hwy.rng ok.tree.1
        walk_at "rd"
        refine ⟨sh, x', S, c, rfl, hsh.ex (e0.trans e), ok, hc2, hwy, fun r H24 xs ys e24 hxs hys hr => ?_⟩
        walk_at "rd"
        refine ⟨.ref sa, x', S, c, rfl, (e0.trans (e.trans e24)).dp hsv2, ok, e24.dp hc2, hwy, fun l wl H25 xs' ys' e25 hxs' hys' hl hda => ?_⟩
        have ex1 := hxs'.uniq hxs
        have ex2 := hys'.uniq hys
        subst ex1 ex2
        walk_at "rd"
        refine ⟨l, _, rfl, .inl ⟨sqL hl, fun t ht => ?_⟩⟩
        have e26 := e25.trans (Ex.new (o := .tup wl) ht)
        have b1 := pairsZ_len ok.w8 ys'
        have b2 := hys'.few ok.tree.1 hwr.2.1
        have b3 := lotsZ_len S.hs xs'
        have b4 := hxs'.few ok.tree.1 hwr.1
        have b5 : xs'.length * S.hs.sum ≤ 24 * 60 := Nat.mul_le_mul (by omega) o2
        walk_at "rd"
        refine ⟨r, .ref t, rowsT (blockZ S xs' ys'), rfl, e26.dp hr, .tup (sqT upd_same) ((Ex.new ht).dpa hda), wee_up (wee_up (wee_rowsT (n := (lotsZ S.hs xs').length) (by unfold blockZ; rw [List.length_map]; omega) (fun r hr => ?_) (by omega))), fun H27 e27 => ?_⟩
        · obtain ⟨c, _, rfl⟩ := List.mem_map.mp hr
          simp [cutZ]
        · walk_at "rd"
          exact ⟨e.trans (e24.trans (e26.trans e27)), _, rfl⟩
      obtain ⟨e, y6, rfl⟩ := p
      have e02 := e0.trans e
      obtain ⟨oa, odx, ot, oh, ow, rfl, hoa, hot, hoh, how⟩ := hsh.ex e02
      walk_at "rd"
      refine ⟨oa, C, odx, _, _, rfl, hoa, SC.cl, SC.nP, shf_p, ?_⟩
      walk_at "rd"
      refine ⟨oa, C, odx, _, _, rfl, hoa, SC.cl, SC.nH, shf_holds, ?_⟩
      walk_at "rd"
      refine ⟨oa, C, odx, _, _, rfl, hoa, SC.cl, SC.nW, shf_wants, ?_⟩
      walk_at "rd"
      refine ⟨oa, C, odx, _, _, rfl, hoa, SC.cl, SC.nN, shf_numbers, ?_⟩
      walk_at "rd"
      refine w_dispT (by simp) fun la hla => ?_
      have e30 : Ex H' (upd H' la (.lst [.int S.p, oh, ow, .int S.hs.sum])) := Ex.new hla
      have u30 : upd H' la (.lst [.int S.p, oh, ow, .int S.hs.sum]) la = some (.lst [.int S.p, oh, ow, .int S.hs.sum]) := upd_same
      generalize upd H' la (.lst [.int S.p, oh, ow, .int S.hs.sum]) = H30 at e30 u30 ⊢
      have e31 := e02.trans e30
      walk_at "rd"
      refine w_ixT (e31.t hsa) (atI_at (j := 0) rfl) ?_
      walk_at "rd"
      refine w_ixT (e31.t hsa) (atI_at (j := 2) rfl) ?_
      walk_at "rd"
      refine w_ixT (e31.t hsa) (atI_at (j := 3) rfl) ?_
      walk_at "rd"
      refine w_ixT (e31.t hsa) (atI_at (j := 2) rfl) ?_
      walk_at "rd"
      refine w_sumT (e31.t hsha) ?_
      rw [nz_sum]
      walk_at "rd"
      refine w_dispT (by simp) fun lb hlb => ?_
      have e32 : Ex H30 (upd H30 lb (.lst [.int S.p, .ref sha, sw, .int S.hs.sum])) := Ex.new hlb
      have u32 : upd H30 lb (.lst [.int S.p, .ref sha, sw, .int S.hs.sum]) lb = some (.lst [.int S.p, .ref sha, sw, .int S.hs.sum]) := upd_same
      generalize upd H30 lb (.lst [.int S.p, .ref sha, sw, .int S.hs.sum]) = H32 at e32 u32 ⊢
      have e33 := e31.trans e32
      refine ⟨.ref la, .ref lb, .list [.int S.p, row (nz S.hs), wantsT S.ws, .int (S.hs.sum : Nat)], rfl, .lst (sqL (e32 _ _ u30)) (.cons (.int _) (.cons ((e30.trans e32).dp hoh) (.cons ((e30.trans e32).dp how) (.cons (.int _) .nil)))),
        .lst (sqL u32) (.cons (.int _) (.cons (e33.dp hshv) (.cons (e33.dp hsw) (.cons (.int _) .nil)))), .inr ⟨_, .inr rfl, by simp, fun d hd => ?_⟩, fun H34 e34 => ?_⟩
      · simp only [List.mem_cons, List.not_mem_nil, or_false] at hd
        rcases hd with rfl | rfl | rfl | rfl
        · exact .inl (.inr (.inr ⟨_, rfl⟩))
        · exact wee_up (wee_up (wee_ints (by rw [nz_len]; omega)))
        · exact wee_wants (n := S.hs.sum) (by rw [ok.wl]; omega) ok.w8 (fun rs h1 r h2 => (ok.rin rs h1 r h2).1) (by omega)
        · exact .inl (.inr (.inr ⟨_, rfl⟩))
      walk_at "rd"
      exact ⟨hh22.ex (e33.trans e34), _, _, _, _, _, _, _, _, _, _, _, rfl⟩
    · obtain ⟨hh, y2, y3, y4, y5, y6, y7, y8, y9, y10, y11, y12, rfl⟩ := p
      walk_at "rd"
      exact q H2
end TK

namespace TK
open PySem PySem.Spec PyProof.Rows L2 TH
/-! what the top has written, by names -/
theorem all_mk {l : PySem.W.OpenLaw} {w : World} {K : PySem.W.Frag} {h : Heap} {mg : Str → Option Value} {fa CT C : Addr} (X : K.In h) (G : h.Ns mainGlobals mg) (hfa : mg "law" = some (.ref fa))
    {f0 f1 f2 f3 f4 f5 f6 f7 f8 f9 f10 f11 f12 f13 f14 f15 f16 f17 f18 f19 f20 f21 f22 f23 f24 f25 f26 f27 f28 f29 f30 f31 f32 f33 f34 f35 f36 f37 f38 f39 f40 f41 f42 f43 f44 f45 f46 f47 f48 f49 : Addr} {od0 an0 od1 an1 od2 an2 od3 an3 od4 an4 od5 an5 od6 an6 od7 an7 od8 an8 od9 an9 od10 an10 od11 an11 od12 an12 od13 an13 od14 an14 od15 an15 od16 an16 od17 an17 od18 an18 od19 an19 od20 an20 od21 an21 od22 an22 od23 an23 od24 an24 od25 an25 od26 an26 od27 an27 od28 an28 od29 an29 od30 an30 od31 an31 od32 an32 od33 an33 od34 an34 od35 an35 od36 an36 od37 an37 od38 an38 od39 an39 od40 an40 od41 an41 od42 an42 od43 an43 od44 an44 od45 an45 od46 an46 od47 an47 od48 an48 od49 an49 : Option Addr} {sl0 sl1 sl2 sl3 sl4 sl5 sl6 sl7 sl8 sl9 sl10 sl11 sl12 sl13 sl14 sl15 sl16 sl17 sl18 sl19 sl20 sl21 sl22 sl23 sl24 sl25 sl26 sl27 sl28 sl29 sl30 sl31 sl32 sl33 sl34 sl35 sl36 sl37 sl38 sl39 sl40 sl41 sl42 sl43 sl44 sl45 sl46 sl47 sl48 sl49 : Array (Option Value)} {oc0 kV0 dc0 pm0 cd0 ct0 oc1 kV1 dc1 pm1 cd1 ct1 oc2 kV2 dc2 pm2 cd2 ct2 oc3 kV3 dc3 pm3 cd3 ct3 oc4 kV4 dc4 pm4 cd4 ct4 oc5 kV5 dc5 pm5 cd5 ct5 oc6 kV6 dc6 pm6 cd6 ct6 oc7 kV7 dc7 pm7 cd7 ct7 oc8 kV8 dc8 pm8 cd8 ct8 oc9 kV9 dc9 pm9 cd9 ct9 oc10 kV10 dc10 pm10 cd10 ct10 oc11 kV11 dc11 pm11 cd11 ct11 oc12 kV12 dc12 pm12 cd12 ct12 oc13 kV13 dc13 pm13 cd13 ct13 oc14 kV14 dc14 pm14 cd14 ct14 oc15 kV15 dc15 pm15 cd15 ct15 oc16 kV16 dc16 pm16 cd16 ct16 oc17 kV17 dc17 pm17 cd17 ct17 oc18 kV18 dc18 pm18 cd18 ct18 oc19 kV19 dc19 pm19 cd19 ct19 oc20 kV20 dc20 pm20 cd20 ct20 oc21 kV21 dc21 pm21 cd21 ct21 oc22 kV22 dc22 pm22 cd22 ct22 oc23 kV23 dc23 pm23 cd23 ct23 oc24 kV24 dc24 pm24 cd24 ct24 oc25 kV25 dc25 pm25 cd25 ct25 oc26 kV26 dc26 pm26 cd26 ct26 oc27 kV27 dc27 pm27 cd27 ct27 oc28 kV28 dc28 pm28 cd28 ct28 oc29 kV29 dc29 pm29 cd29 ct29 oc30 kV30 dc30 pm30 cd30 ct30 oc31 kV31 dc31 pm31 cd31 ct31 oc32 kV32 dc32 pm32 cd32 ct32 oc33 kV33 dc33 pm33 cd33 ct33 oc34 kV34 dc34 pm34 cd34 ct34 oc35 kV35 dc35 pm35 cd35 ct35 oc36 kV36 dc36 pm36 cd36 ct36 oc37 kV37 dc37 pm37 cd37 ct37 oc38 kV38 dc38 pm38 cd38 ct38 oc39 kV39 dc39 pm39 cd39 ct39 oc40 kV40 dc40 pm40 cd40 ct40 oc41 kV41 dc41 pm41 cd41 ct41 oc42 kV42 dc42 pm42 cd42 ct42 oc43 kV43 dc43 pm43 cd43 ct43 oc44 kV44 dc44 pm44 cd44 ct44 oc45 kV45 dc45 pm45 cd45 ct45 oc46 kV46 dc46 pm46 cd46 ct46 oc47 kV47 dc47 pm47 cd47 ct47 oc48 kV48 dc48 pm48 cd48 ct48 oc49 kV49 dc49 pm49 cd49 ct49 : Value} {t_MOST_HOURS t_MOST_TIES t_MOST_AT t_MOST_NUMBERS : Tok}
    (a0 : PySem.W.nsIn K mainGlobals "is_integer" = some (some (.ref f0)))
    (l0 : K.lookup f0 = some ⟨oc0, od0, .func (PySem.W.fnOf "is_integer" "is_integer" (C8.fnArgs s_is_integer) (C8.fnBody s_is_integer) (C8.fnScope s_is_integer) .none kV0 dc0 pm0 an0 cd0 ct0), sl0⟩)
    (c0 : PySem.W.codeIn K cd0 "is_integer" = true)
    (k0 : PySem.W.keepIn K (.ref f0) = true)
    (a1 : PySem.W.nsIn K mainGlobals "is_within" = some (some (.ref f1)))
    (l1 : K.lookup f1 = some ⟨oc1, od1, .func (PySem.W.fnOf "is_within" "is_within" (C8.fnArgs s_is_within) (C8.fnBody s_is_within) (C8.fnScope s_is_within) .none kV1 dc1 pm1 an1 cd1 ct1), sl1⟩)
    (c1 : PySem.W.codeIn K cd1 "is_within" = true)
    (k1 : PySem.W.keepIn K (.ref f1) = true)
    (a2 : PySem.W.nsIn K mainGlobals "is_pair" = some (some (.ref f2)))
    (l2 : K.lookup f2 = some ⟨oc2, od2, .func (PySem.W.fnOf "is_pair" "is_pair" (C8.fnArgs s_is_pair) (C8.fnBody s_is_pair) (C8.fnScope s_is_pair) .none kV2 dc2 pm2 an2 cd2 ct2), sl2⟩)
    (c2 : PySem.W.codeIn K cd2 "is_pair" = true)
    (k2 : PySem.W.keepIn K (.ref f2) = true)
    (a3 : PySem.W.nsIn K mainGlobals "prime" = some (some (.ref f3)))
    (l3 : K.lookup f3 = some ⟨oc3, od3, .func (PySem.W.fnOf "prime" "prime" (C8.fnArgs s_prime) (C8.fnBody s_prime) (C8.fnScope s_prime) .none kV3 dc3 pm3 an3 cd3 ct3), sl3⟩)
    (c3 : PySem.W.codeIn K cd3 "prime" = true)
    (k3 : PySem.W.keepIn K (.ref f3) = true)
    (a4 : PySem.W.nsIn K mainGlobals "is_clock" = some (some (.ref f4)))
    (l4 : K.lookup f4 = some ⟨oc4, od4, .func (PySem.W.fnOf "is_clock" "is_clock" (C8.fnArgs s_is_clock) (C8.fnBody s_is_clock) (C8.fnScope s_is_clock) .none kV4 dc4 pm4 an4 cd4 ct4), sl4⟩)
    (c4 : PySem.W.codeIn K cd4 "is_clock" = true)
    (k4 : PySem.W.keepIn K (.ref f4) = true)
    (a5 : PySem.W.nsIn K mainGlobals "is_row" = some (some (.ref f5)))
    (l5 : K.lookup f5 = some ⟨oc5, od5, .func (PySem.W.fnOf "is_row" "is_row" (C8.fnArgs s_is_row) (C8.fnBody s_is_row) (C8.fnScope s_is_row) .none kV5 dc5 pm5 an5 cd5 ct5), sl5⟩)
    (c5 : PySem.W.codeIn K cd5 "is_row" = true)
    (k5 : PySem.W.keepIn K (.ref f5) = true)
    (a6 : PySem.W.nsIn K mainGlobals "is_tie" = some (some (.ref f6)))
    (l6 : K.lookup f6 = some ⟨oc6, od6, .func (PySem.W.fnOf "is_tie" "is_tie" (C8.fnArgs s_is_tie) (C8.fnBody s_is_tie) (C8.fnScope s_is_tie) .none kV6 dc6 pm6 an6 cd6 ct6), sl6⟩)
    (c6 : PySem.W.codeIn K cd6 "is_tie" = true)
    (k6 : PySem.W.keepIn K (.ref f6) = true)
    (a7 : PySem.W.nsIn K mainGlobals "reached" = some (some (.ref f7)))
    (l7 : K.lookup f7 = some ⟨oc7, od7, .func (PySem.W.fnOf "reached" "reached" (C8.fnArgs s_reached) (C8.fnBody s_reached) (C8.fnScope s_reached) .none kV7 dc7 pm7 an7 cd7 ct7), sl7⟩)
    (c7 : PySem.W.codeIn K cd7 "reached" = true)
    (k7 : PySem.W.keepIn K (.ref f7) = true)
    (a8 : PySem.W.nsIn K mainGlobals "all_tied" = some (some (.ref f8)))
    (l8 : K.lookup f8 = some ⟨oc8, od8, .func (PySem.W.fnOf "all_tied" "all_tied" (C8.fnArgs s_all_tied) (C8.fnBody s_all_tied) (C8.fnScope s_all_tied) .none kV8 dc8 pm8 an8 cd8 ct8), sl8⟩)
    (c8 : PySem.W.codeIn K cd8 "all_tied" = true)
    (k8 : PySem.W.keepIn K (.ref f8) = true)
    (a9 : PySem.W.nsIn K mainGlobals "tied_to" = some (some (.ref f9)))
    (l9 : K.lookup f9 = some ⟨oc9, od9, .func (PySem.W.fnOf "tied_to" "tied_to" (C8.fnArgs s_tied_to) (C8.fnBody s_tied_to) (C8.fnScope s_tied_to) .none kV9 dc9 pm9 an9 cd9 ct9), sl9⟩)
    (c9 : PySem.W.codeIn K cd9 "tied_to" = true)
    (k9 : PySem.W.keepIn K (.ref f9) = true)
    (a10 : PySem.W.nsIn K mainGlobals "check_post" = some (some (.ref f10)))
    (l10 : K.lookup f10 = some ⟨oc10, od10, .func (PySem.W.fnOf "check_post" "check_post" (C8.fnArgs s_check_post) (C8.fnBody s_check_post) (C8.fnScope s_check_post) .none kV10 dc10 pm10 an10 cd10 ct10), sl10⟩)
    (c10 : PySem.W.codeIn K cd10 "check_post" = true)
    (k10 : PySem.W.keepIn K (.ref f10) = true)
    (a11 : PySem.W.nsIn K mainGlobals "tied" = some (some (.ref f11)))
    (l11 : K.lookup f11 = some ⟨oc11, od11, .func (PySem.W.fnOf "tied" "tied" (C8.fnArgs s_tied) (C8.fnBody s_tied) (C8.fnScope s_tied) .none kV11 dc11 pm11 an11 cd11 ct11), sl11⟩)
    (c11 : PySem.W.codeIn K cd11 "tied" = true)
    (k11 : PySem.W.keepIn K (.ref f11) = true)
    (a12 : PySem.W.nsIn K mainGlobals "all_ways" = some (some (.ref f12)))
    (l12 : K.lookup f12 = some ⟨oc12, od12, .func (PySem.W.fnOf "all_ways" "all_ways" (C8.fnArgs s_all_ways) (C8.fnBody s_all_ways) (C8.fnScope s_all_ways) .none kV12 dc12 pm12 an12 cd12 ct12), sl12⟩)
    (c12 : PySem.W.codeIn K cd12 "all_ways" = true)
    (k12 : PySem.W.keepIn K (.ref f12) = true)
    (a13 : PySem.W.nsIn K mainGlobals "ways" = some (some (.ref f13)))
    (l13 : K.lookup f13 = some ⟨oc13, od13, .func (PySem.W.fnOf "ways" "ways" (C8.fnArgs s_ways) (C8.fnBody s_ways) (C8.fnScope s_ways) .none kV13 dc13 pm13 an13 cd13 ct13), sl13⟩)
    (c13 : PySem.W.codeIn K cd13 "ways" = true)
    (k13 : PySem.W.keepIn K (.ref f13) = true)
    (a14 : PySem.W.nsIn K mainGlobals "is_way" = some (some (.ref f14)))
    (l14 : K.lookup f14 = some ⟨oc14, od14, .func (PySem.W.fnOf "is_way" "is_way" (C8.fnArgs s_is_way) (C8.fnBody s_is_way) (C8.fnScope s_is_way) .none kV14 dc14 pm14 an14 cd14 ct14), sl14⟩)
    (c14 : PySem.W.codeIn K cd14 "is_way" = true)
    (k14 : PySem.W.keepIn K (.ref f14) = true)
    (a15 : PySem.W.nsIn K mainGlobals "check_way" = some (some (.ref f15)))
    (l15 : K.lookup f15 = some ⟨oc15, od15, .func (PySem.W.fnOf "check_way" "check_way" (C8.fnArgs s_check_way) (C8.fnBody s_check_way) (C8.fnScope s_check_way) .none kV15 dc15 pm15 an15 cd15 ct15), sl15⟩)
    (c15 : PySem.W.codeIn K cd15 "check_way" = true)
    (k15 : PySem.W.keepIn K (.ref f15) = true)
    (a16 : PySem.W.nsIn K mainGlobals "this_side" = some (some (.ref f16)))
    (l16 : K.lookup f16 = some ⟨oc16, od16, .func (PySem.W.fnOf "this_side" "this_side" (C8.fnArgs s_this_side) (C8.fnBody s_this_side) (C8.fnScope s_this_side) .none kV16 dc16 pm16 an16 cd16 ct16), sl16⟩)
    (c16 : PySem.W.codeIn K cd16 "this_side" = true)
    (k16 : PySem.W.keepIn K (.ref f16) = true)
    (a17 : PySem.W.nsIn K mainGlobals "beyond_of" = some (some (.ref f17)))
    (l17 : K.lookup f17 = some ⟨oc17, od17, .func (PySem.W.fnOf "beyond_of" "beyond_of" (C8.fnArgs s_beyond_of) (C8.fnBody s_beyond_of) (C8.fnScope s_beyond_of) .none kV17 dc17 pm17 an17 cd17 ct17), sl17⟩)
    (c17 : PySem.W.codeIn K cd17 "beyond_of" = true)
    (k17 : PySem.W.keepIn K (.ref f17) = true)
    (a18 : PySem.W.nsIn K mainGlobals "beyond" = some (some (.ref f18)))
    (l18 : K.lookup f18 = some ⟨oc18, od18, .func (PySem.W.fnOf "beyond" "beyond" (C8.fnArgs s_beyond) (C8.fnBody s_beyond) (C8.fnScope s_beyond) .none kV18 dc18 pm18 an18 cd18 ct18), sl18⟩)
    (c18 : PySem.W.codeIn K cd18 "beyond" = true)
    (k18 : PySem.W.keepIn K (.ref f18) = true)
    (a19 : PySem.W.nsIn K mainGlobals "are_holds" = some (some (.ref f19)))
    (l19 : K.lookup f19 = some ⟨oc19, od19, .func (PySem.W.fnOf "are_holds" "are_holds" (C8.fnArgs s_are_holds) (C8.fnBody s_are_holds) (C8.fnScope s_are_holds) .none kV19 dc19 pm19 an19 cd19 ct19), sl19⟩)
    (c19 : PySem.W.codeIn K cd19 "are_holds" = true)
    (k19 : PySem.W.keepIn K (.ref f19) = true)
    (a20 : PySem.W.nsIn K mainGlobals "are_lists" = some (some (.ref f20)))
    (l20 : K.lookup f20 = some ⟨oc20, od20, .func (PySem.W.fnOf "are_lists" "are_lists" (C8.fnArgs s_are_lists) (C8.fnBody s_are_lists) (C8.fnScope s_are_lists) .none kV20 dc20 pm20 an20 cd20 ct20), sl20⟩)
    (c20 : PySem.W.codeIn K cd20 "are_lists" = true)
    (k20 : PySem.W.keepIn K (.ref f20) = true)
    (a21 : PySem.W.nsIn K mainGlobals "first_no_row" = some (some (.ref f21)))
    (l21 : K.lookup f21 = some ⟨oc21, od21, .func (PySem.W.fnOf "first_no_row" "first_no_row" (C8.fnArgs s_first_no_row) (C8.fnBody s_first_no_row) (C8.fnScope s_first_no_row) .none kV21 dc21 pm21 an21 cd21 ct21), sl21⟩)
    (c21 : PySem.W.codeIn K cd21 "first_no_row" = true)
    (k21 : PySem.W.keepIn K (.ref f21) = true)
    (a22 : PySem.W.nsIn K mainGlobals "held_by" = some (some (.ref f22)))
    (l22 : K.lookup f22 = some ⟨oc22, od22, .func (PySem.W.fnOf "held_by" "held_by" (C8.fnArgs s_held_by) (C8.fnBody s_held_by) (C8.fnScope s_held_by) .none kV22 dc22 pm22 an22 cd22 ct22), sl22⟩)
    (c22 : PySem.W.codeIn K cd22 "held_by" = true)
    (k22 : PySem.W.keepIn K (.ref f22) = true)
    (a23 : PySem.W.nsIn K mainGlobals "held" = some (some (.ref f23)))
    (l23 : K.lookup f23 = some ⟨oc23, od23, .func (PySem.W.fnOf "held" "held" (C8.fnArgs s_held) (C8.fnBody s_held) (C8.fnScope s_held) .none kV23 dc23 pm23 an23 cd23 ct23), sl23⟩)
    (c23 : PySem.W.codeIn K cd23 "held" = true)
    (k23 : PySem.W.keepIn K (.ref f23) = true)
    (a24 : PySem.W.nsIn K mainGlobals "held_this_side" = some (some (.ref f24)))
    (l24 : K.lookup f24 = some ⟨oc24, od24, .func (PySem.W.fnOf "held_this_side" "held_this_side" (C8.fnArgs s_held_this_side) (C8.fnBody s_held_this_side) (C8.fnScope s_held_this_side) .none kV24 dc24 pm24 an24 cd24 ct24), sl24⟩)
    (c24 : PySem.W.codeIn K cd24 "held_this_side" = true)
    (k24 : PySem.W.keepIn K (.ref f24) = true)
    (a25 : PySem.W.nsIn K mainGlobals "wants_beyond" = some (some (.ref f25)))
    (l25 : K.lookup f25 = some ⟨oc25, od25, .func (PySem.W.fnOf "wants_beyond" "wants_beyond" (C8.fnArgs s_wants_beyond) (C8.fnBody s_wants_beyond) (C8.fnScope s_wants_beyond) .none kV25 dc25 pm25 an25 cd25 ct25), sl25⟩)
    (c25 : PySem.W.codeIn K cd25 "wants_beyond" = true)
    (k25 : PySem.W.keepIn K (.ref f25) = true)
    (a26 : PySem.W.nsIn K mainGlobals "cut_to" = some (some (.ref f26)))
    (l26 : K.lookup f26 = some ⟨oc26, od26, .func (PySem.W.fnOf "cut_to" "cut_to" (C8.fnArgs s_cut_to) (C8.fnBody s_cut_to) (C8.fnScope s_cut_to) .none kV26 dc26 pm26 an26 cd26 ct26), sl26⟩)
    (c26 : PySem.W.codeIn K cd26 "cut_to" = true)
    (k26 : PySem.W.keepIn K (.ref f26) = true)
    (a27 : PySem.W.nsIn K mainGlobals "block_of" = some (some (.ref f27)))
    (l27 : K.lookup f27 = some ⟨oc27, od27, .func (PySem.W.fnOf "block_of" "block_of" (C8.fnArgs s_block_of) (C8.fnBody s_block_of) (C8.fnScope s_block_of) .none kV27 dc27 pm27 an27 cd27 ct27), sl27⟩)
    (c27 : PySem.W.codeIn K cd27 "block_of" = true)
    (k27 : PySem.W.keepIn K (.ref f27) = true)
    (a28 : PySem.W.nsIn K mainGlobals "block" = some (some (.ref f28)))
    (l28 : K.lookup f28 = some ⟨oc28, od28, .func (PySem.W.fnOf "block" "block" (C8.fnArgs s_block) (C8.fnBody s_block) (C8.fnScope s_block) .none kV28 dc28 pm28 an28 cd28 ct28), sl28⟩)
    (c28 : PySem.W.codeIn K cd28 "block" = true)
    (k28 : PySem.W.keepIn K (.ref f28) = true)
    (a29 : PySem.W.nsIn K mainGlobals "_law_hand" = some (some (.ref f29)))
    (l29 : K.lookup f29 = some ⟨oc29, od29, .func (PySem.W.fnOf "_law_hand" "_law_hand" (C8.fnArgs s_law_hand) (C8.fnBody s_law_hand) (C8.fnScope s_law_hand) .none kV29 dc29 pm29 an29 cd29 ct29), sl29⟩)
    (c29 : PySem.W.codeIn K cd29 "_law_hand" = true)
    (k29 : PySem.W.keepIn K (.ref f29) = true)
    (a30 : PySem.W.nsIn K mainGlobals "_law_draw" = some (some (.ref f30)))
    (l30 : K.lookup f30 = some ⟨oc30, od30, .func (PySem.W.fnOf "_law_draw" "_law_draw" (C8.fnArgs s_law_draw) (C8.fnBody s_law_draw) (C8.fnScope s_law_draw) .none kV30 dc30 pm30 an30 cd30 ct30), sl30⟩)
    (c30 : PySem.W.codeIn K cd30 "_law_draw" = true)
    (k30 : PySem.W.keepIn K (.ref f30) = true)
    (a31 : PySem.W.nsIn K mainGlobals "_law_any" = some (some (.ref f31)))
    (l31 : K.lookup f31 = some ⟨oc31, od31, .func (PySem.W.fnOf "_law_any" "_law_any" (C8.fnArgs s_law_any) (C8.fnBody s_law_any) (C8.fnScope s_law_any) .none kV31 dc31 pm31 an31 cd31 ct31), sl31⟩)
    (c31 : PySem.W.codeIn K cd31 "_law_any" = true)
    (k31 : PySem.W.keepIn K (.ref f31) = true)
    (a32 : PySem.W.nsIn K mainGlobals "_law_is" = some (some (.ref f32)))
    (l32 : K.lookup f32 = some ⟨oc32, od32, .func (PySem.W.fnOf "_law_is" "_law_is" (C8.fnArgs s_law_is) (C8.fnBody s_law_is) (C8.fnScope s_law_is) .none kV32 dc32 pm32 an32 cd32 ct32), sl32⟩)
    (c32 : PySem.W.codeIn K cd32 "_law_is" = true)
    (k32 : PySem.W.keepIn K (.ref f32) = true)
    (a33 : PySem.W.nsIn K mainGlobals "_law_mixed" = some (some (.ref f33)))
    (l33 : K.lookup f33 = some ⟨oc33, od33, .func (PySem.W.fnOf "_law_mixed" "_law_mixed" (C8.fnArgs s_law_mixed) (C8.fnBody s_law_mixed) (C8.fnScope s_law_mixed) .none kV33 dc33 pm33 an33 cd33 ct33), sl33⟩)
    (c33 : PySem.W.codeIn K cd33 "_law_mixed" = true)
    (k33 : PySem.W.keepIn K (.ref f33) = true)
    (a34 : PySem.W.nsIn K mainGlobals "_law_less" = some (some (.ref f34)))
    (l34 : K.lookup f34 = some ⟨oc34, od34, .func (PySem.W.fnOf "_law_less" "_law_less" (C8.fnArgs s_law_less) (C8.fnBody s_law_less) (C8.fnScope s_law_less) .none kV34 dc34 pm34 an34 cd34 ct34), sl34⟩)
    (c34 : PySem.W.codeIn K cd34 "_law_less" = true)
    (k34 : PySem.W.keepIn K (.ref f34) = true)
    (a35 : PySem.W.nsIn K mainGlobals "_law_summed" = some (some (.ref f35)))
    (l35 : K.lookup f35 = some ⟨oc35, od35, .func (PySem.W.fnOf "_law_summed" "_law_summed" (C8.fnArgs s_law_summed) (C8.fnBody s_law_summed) (C8.fnScope s_law_summed) .none kV35 dc35 pm35 an35 cd35 ct35), sl35⟩)
    (c35 : PySem.W.codeIn K cd35 "_law_summed" = true)
    (k35 : PySem.W.keepIn K (.ref f35) = true)
    (a36 : PySem.W.nsIn K mainGlobals "_law_clock" = some (some (.ref f36)))
    (l36 : K.lookup f36 = some ⟨oc36, od36, .func (PySem.W.fnOf "_law_clock" "_law_clock" (C8.fnArgs s_law_clock) (C8.fnBody s_law_clock) (C8.fnScope s_law_clock) .none kV36 dc36 pm36 an36 cd36 ct36), sl36⟩)
    (c36 : PySem.W.codeIn K cd36 "_law_clock" = true)
    (k36 : PySem.W.keepIn K (.ref f36) = true)
    (a37 : PySem.W.nsIn K mainGlobals "_law_some_row" = some (some (.ref f37)))
    (l37 : K.lookup f37 = some ⟨oc37, od37, .func (PySem.W.fnOf "_law_some_row" "_law_some_row" (C8.fnArgs s_law_some_row) (C8.fnBody s_law_some_row) (C8.fnScope s_law_some_row) .none kV37 dc37 pm37 an37 cd37 ct37), sl37⟩)
    (c37 : PySem.W.codeIn K cd37 "_law_some_row" = true)
    (k37 : PySem.W.keepIn K (.ref f37) = true)
    (a38 : PySem.W.nsIn K mainGlobals "_law_ties" = some (some (.ref f38)))
    (l38 : K.lookup f38 = some ⟨oc38, od38, .func (PySem.W.fnOf "_law_ties" "_law_ties" (C8.fnArgs s_law_ties) (C8.fnBody s_law_ties) (C8.fnScope s_law_ties) .none kV38 dc38 pm38 an38 cd38 ct38), sl38⟩)
    (c38 : PySem.W.codeIn K cd38 "_law_ties" = true)
    (k38 : PySem.W.keepIn K (.ref f38) = true)
    (a39 : PySem.W.nsIn K mainGlobals "_law_near" = some (some (.ref f39)))
    (l39 : K.lookup f39 = some ⟨oc39, od39, .func (PySem.W.fnOf "_law_near" "_law_near" (C8.fnArgs s_law_near) (C8.fnBody s_law_near) (C8.fnScope s_law_near) .none kV39 dc39 pm39 an39 cd39 ct39), sl39⟩)
    (c39 : PySem.W.codeIn K cd39 "_law_near" = true)
    (k39 : PySem.W.keepIn K (.ref f39) = true)
    (a40 : PySem.W.nsIn K mainGlobals "_law_all_ways" = some (some (.ref f40)))
    (l40 : K.lookup f40 = some ⟨oc40, od40, .func (PySem.W.fnOf "_law_all_ways" "_law_all_ways" (C8.fnArgs s_law_all_ways) (C8.fnBody s_law_all_ways) (C8.fnScope s_law_all_ways) .none kV40 dc40 pm40 an40 cd40 ct40), sl40⟩)
    (c40 : PySem.W.codeIn K cd40 "_law_all_ways" = true)
    (k40 : PySem.W.keepIn K (.ref f40) = true)
    (a41 : PySem.W.nsIn K mainGlobals "_law_this" = some (some (.ref f41)))
    (l41 : K.lookup f41 = some ⟨oc41, od41, .func (PySem.W.fnOf "_law_this" "_law_this" (C8.fnArgs s_law_this) (C8.fnBody s_law_this) (C8.fnScope s_law_this) .none kV41 dc41 pm41 an41 cd41 ct41), sl41⟩)
    (c41 : PySem.W.codeIn K cd41 "_law_this" = true)
    (k41 : PySem.W.keepIn K (.ref f41) = true)
    (a42 : PySem.W.nsIn K mainGlobals "_law_numbers" = some (some (.ref f42)))
    (l42 : K.lookup f42 = some ⟨oc42, od42, .func (PySem.W.fnOf "_law_numbers" "_law_numbers" (C8.fnArgs s_law_numbers) (C8.fnBody s_law_numbers) (C8.fnScope s_law_numbers) .none kV42 dc42 pm42 an42 cd42 ct42), sl42⟩)
    (c42 : PySem.W.codeIn K cd42 "_law_numbers" = true)
    (k42 : PySem.W.keepIn K (.ref f42) = true)
    (a43 : PySem.W.nsIn K mainGlobals "_law_full" = some (some (.ref f43)))
    (l43 : K.lookup f43 = some ⟨oc43, od43, .func (PySem.W.fnOf "_law_full" "_law_full" (C8.fnArgs s_law_full) (C8.fnBody s_law_full) (C8.fnScope s_law_full) .none kV43 dc43 pm43 an43 cd43 ct43), sl43⟩)
    (c43 : PySem.W.codeIn K cd43 "_law_full" = true)
    (k43 : PySem.W.keepIn K (.ref f43) = true)
    (a44 : PySem.W.nsIn K mainGlobals "_law_cut" = some (some (.ref f44)))
    (l44 : K.lookup f44 = some ⟨oc44, od44, .func (PySem.W.fnOf "_law_cut" "_law_cut" (C8.fnArgs s_law_cut) (C8.fnBody s_law_cut) (C8.fnScope s_law_cut) .none kV44 dc44 pm44 an44 cd44 ct44), sl44⟩)
    (c44 : PySem.W.codeIn K cd44 "_law_cut" = true)
    (k44 : PySem.W.keepIn K (.ref f44) = true)
    (a45 : PySem.W.nsIn K mainGlobals "_law_spec" = some (some (.ref f45)))
    (l45 : K.lookup f45 = some ⟨oc45, od45, .func (PySem.W.fnOf "_law_spec" "_law_spec" (C8.fnArgs s_law_spec) (C8.fnBody s_law_spec) (C8.fnScope s_law_spec) .none kV45 dc45 pm45 an45 cd45 ct45), sl45⟩)
    (c45 : PySem.W.codeIn K cd45 "_law_spec" = true)
    (k45 : PySem.W.keepIn K (.ref f45) = true)
    (a46 : PySem.W.nsIn K mainGlobals "_law_sheet" = some (some (.ref f46)))
    (l46 : K.lookup f46 = some ⟨oc46, od46, .func (PySem.W.fnOf "_law_sheet" "_law_sheet" (C8.fnArgs s_law_sheet) (C8.fnBody s_law_sheet) (C8.fnScope s_law_sheet) .none kV46 dc46 pm46 an46 cd46 ct46), sl46⟩)
    (c46 : PySem.W.codeIn K cd46 "_law_sheet" = true)
    (k46 : PySem.W.keepIn K (.ref f46) = true)
    (a47 : PySem.W.nsIn K mainGlobals "law" = some (some (.ref f47)))
    (l47 : K.lookup f47 = some ⟨oc47, od47, .func (PySem.W.fnOf "law" "law" (C8.fnArgs s_law) (C8.fnBody s_law) (C8.fnScope s_law) .none kV47 dc47 pm47 an47 cd47 ct47), sl47⟩)
    (c47 : PySem.W.codeIn K cd47 "law" = true)
    (k47 : PySem.W.keepIn K (.ref f47) = true)
    (a_CT : PySem.W.nsIn K mainGlobals "Tree" = some (some (.ref CT)))
    (a_C : PySem.W.nsIn K mainGlobals "Sheet" = some (some (.ref C)))
    (a48 : PySem.W.findIn K (.ref CT) "__init__" = some (some (.ref f48)))
    (i48 : PySem.W.isFn K (.ref f48) = true)
    (l48 : K.lookup f48 = some ⟨oc48, od48, .func (PySem.W.fnOf "__init__" "Tree.__init__" (C8.fnArgs s_Tree_init) (C8.fnBody s_Tree_init) (C8.fnScope s_Tree_init) .none kV48 dc48 pm48 an48 cd48 ct48), sl48⟩)
    (c48 : PySem.W.codeIn K cd48 "Tree.__init__" = true)
    (k48 : PySem.W.keepIn K (.ref f48) = true)
    (a49 : PySem.W.findIn K (.ref C) "__init__" = some (some (.ref f49)))
    (i49 : PySem.W.isFn K (.ref f49) = true)
    (l49 : K.lookup f49 = some ⟨oc49, od49, .func (PySem.W.fnOf "__init__" "Sheet.__init__" (C8.fnArgs s_Sheet_init) (C8.fnBody s_Sheet_init) (C8.fnScope s_Sheet_init) .none kV49 dc49 pm49 an49 cd49 ct49), sl49⟩)
    (c49 : PySem.W.codeIn K cd49 "Sheet.__init__" = true)
    (k49 : PySem.W.keepIn K (.ref f49) = true)
    (pg_CT : PySem.W.plainGet K CT Str.empty = true)
    (hd_CT : PySem.W.hasDictIn K CT = true)
    (po_CT : PySem.W.plainOver K CT = true)
    (sa_CT : PySem.W.findIn K (.ref CT) "__setattr__" = some (some (.builtin "object.__setattr__")))
    (mk_CT : PySem.W.makesIn K CT = true)
    (kc_CT : PySem.W.keepIn K (.ref CT) = true)
    (n_CT_ties : PySem.W.findIn K (.ref CT) "ties" = some none)
    (n_CT_posts : PySem.W.findIn K (.ref CT) "posts" = some none)
    (pg_C : PySem.W.plainGet K C Str.empty = true)
    (hd_C : PySem.W.hasDictIn K C = true)
    (po_C : PySem.W.plainOver K C = true)
    (sa_C : PySem.W.findIn K (.ref C) "__setattr__" = some (some (.builtin "object.__setattr__")))
    (mk_C : PySem.W.makesIn K C = true)
    (kc_C : PySem.W.keepIn K (.ref C) = true)
    (n_C_p : PySem.W.findIn K (.ref C) "p" = some none)
    (n_C_tree : PySem.W.findIn K (.ref C) "tree" = some none)
    (n_C_holds : PySem.W.findIn K (.ref C) "holds" = some none)
    (n_C_wants : PySem.W.findIn K (.ref C) "wants" = some none)
    (n_C_numbers : PySem.W.findIn K (.ref C) "numbers" = some none)
    (ha_CT : PySem.W.findIn K (.ref CT) "__class__" = some (some (.builtin "object.__class__")))
    (hn_CT : PySem.W.specialIn K (.builtin "object.__class__") "__get__" = some (some (.builtin "getset_descriptor.__get__")))
    (ht_CT : PySem.W.takesIn K (.builtin "object.__class__") = some true)
    (hm_CT : PySem.W.mroIn K CT (.type "object") = some true)
    (b_abs : PySem.W.nsIn K mainGlobals "abs" = some none)
    (b_all : PySem.W.nsIn K mainGlobals "all" = some none)
    (b_bool : PySem.W.nsIn K mainGlobals "bool" = some none)
    (b_enumerate : PySem.W.nsIn K mainGlobals "enumerate" = some none)
    (b_int : PySem.W.nsIn K mainGlobals "int" = some none)
    (b_isinstance : PySem.W.nsIn K mainGlobals "isinstance" = some none)
    (b_len : PySem.W.nsIn K mainGlobals "len" = some none)
    (b_list : PySem.W.nsIn K mainGlobals "list" = some none)
    (b_max : PySem.W.nsIn K mainGlobals "max" = some none)
    (b_range : PySem.W.nsIn K mainGlobals "range" = some none)
    (b_sorted : PySem.W.nsIn K mainGlobals "sorted" = some none)
    (b_sum : PySem.W.nsIn K mainGlobals "sum" = some none)
    (b_tuple : PySem.W.nsIn K mainGlobals "tuple" = some none)
    (b_zip : PySem.W.nsIn K mainGlobals "zip" = some none)
    (g_MOST_HOURS : PySem.W.nsIn K mainGlobals "MOST_HOURS" = some (some (.int 1000000 t_MOST_HOURS)))
    (g_MOST_TIES : PySem.W.nsIn K mainGlobals "MOST_TIES" = some (some (.int 23 t_MOST_TIES)))
    (g_MOST_AT : PySem.W.nsIn K mainGlobals "MOST_AT" = some (some (.int 8 t_MOST_AT)))
    (g_MOST_NUMBERS : PySem.W.nsIn K mainGlobals "MOST_NUMBERS" = some (some (.int 60 t_MOST_NUMBERS)))
    : ∃ fd : FuncData, (∀ (s : Shared) (v : Value), BindsTo s fd ⟨[v], []⟩ [("script", v)]) ∧ ∀ base : Heap, K.In base → base.Ns mainGlobals mg → FnOk l.prog w K mg base C8.CX0 9 fa fd ["script"] (sp_law K) := by
  have e := (PySem.W.mg_of X G a47).symm.trans hfa
  cases e
  have T : Txt mg := ⟨PySem.W.mg_none_of X G b_abs, PySem.W.mg_none_of X G b_all, PySem.W.mg_none_of X G b_bool, PySem.W.mg_none_of X G b_enumerate, PySem.W.mg_none_of X G b_int, PySem.W.mg_none_of X G b_isinstance, PySem.W.mg_none_of X G b_len, PySem.W.mg_none_of X G b_list, PySem.W.mg_none_of X G b_max, PySem.W.mg_none_of X G b_range, PySem.W.mg_none_of X G b_sorted, PySem.W.mg_none_of X G b_sum, PySem.W.mg_none_of X G b_tuple, PySem.W.mg_none_of X G b_zip, ⟨_, PySem.W.mg_of X G g_MOST_HOURS, ⟨t_MOST_HOURS, rfl⟩⟩, ⟨_, PySem.W.mg_of X G g_MOST_TIES, ⟨t_MOST_TIES, rfl⟩⟩, ⟨_, PySem.W.mg_of X G g_MOST_AT, ⟨t_MOST_AT, rfl⟩⟩, ⟨_, PySem.W.mg_of X G g_MOST_NUMBERS, ⟨t_MOST_NUMBERS, rfl⟩⟩⟩
  have cls_CT : Cls K CT := ⟨pg_CT, hd_CT, po_CT, sa_CT⟩
  have TC : TrC K CT := ⟨cls_CT, n_CT_ties, n_CT_posts⟩
  have g_Tree : ∃ u, mg "Tree" = some u ∧ RelV (.ref CT) u := ⟨_, PySem.W.mg_of X G a_CT, rfl⟩
  have cls_C : Cls K C := ⟨pg_C, hd_C, po_C, sa_C⟩
  have SC : ShC K C := ⟨cls_C, n_C_p, n_C_tree, n_C_holds, n_C_wants, n_C_numbers⟩
  have g_Sheet : ∃ u, mg "Sheet" = some u ∧ RelV (.ref C) u := ⟨_, PySem.W.mg_of X G a_C, rfl⟩
  have isc_CT : IsC K CT := ⟨cls_CT, ha_CT, hn_CT, ht_CT, hm_CT⟩
  have F0 : C8.Def K mg "is_integer" s_is_integer f0 _ := ⟨⟨_, _, _, _, _, _, _, _, _, _, rfl, l0, c0⟩, PySem.W.mg_of X G a0, k0⟩
  have B0 : Binds K _ ["thing"] [] := F0.fn.binds rfl fun _ _ _ _ _ _ us hl => match us, hl with | [_], _ => rfl
  have F1 : C8.Def K mg "is_within" s_is_within f1 _ := ⟨⟨_, _, _, _, _, _, _, _, _, _, rfl, l1, c1⟩, PySem.W.mg_of X G a1, k1⟩
  have B1 : Binds K _ ["thing", "least", "most"] [] := F1.fn.binds rfl fun _ _ _ _ _ _ us hl => match us, hl with | [_, _, _], _ => rfl
  have F2 : C8.Def K mg "is_pair" s_is_pair f2 _ := ⟨⟨_, _, _, _, _, _, _, _, _, _, rfl, l2, c2⟩, PySem.W.mg_of X G a2, k2⟩
  have B2 : Binds K _ ["thing"] [] := F2.fn.binds rfl fun _ _ _ _ _ _ us hl => match us, hl with | [_], _ => rfl
  have F3 : C8.Def K mg "prime" s_prime f3 _ := ⟨⟨_, _, _, _, _, _, _, _, _, _, rfl, l3, c3⟩, PySem.W.mg_of X G a3, k3⟩
  have B3 : Binds K _ ["number"] [] := F3.fn.binds rfl fun _ _ _ _ _ _ us hl => match us, hl with | [_], _ => rfl
  have F4 : C8.Def K mg "is_clock" s_is_clock f4 _ := ⟨⟨_, _, _, _, _, _, _, _, _, _, rfl, l4, c4⟩, PySem.W.mg_of X G a4, k4⟩
  have B4 : Binds K _ ["thing"] [] := F4.fn.binds rfl fun _ _ _ _ _ _ us hl => match us, hl with | [_], _ => rfl
  have F5 : C8.Def K mg "is_row" s_is_row f5 _ := ⟨⟨_, _, _, _, _, _, _, _, _, _, rfl, l5, c5⟩, PySem.W.mg_of X G a5, k5⟩
  have B5 : Binds K _ ["p", "wide", "thing"] [] := F5.fn.binds rfl fun _ _ _ _ _ _ us hl => match us, hl with | [_, _, _], _ => rfl
  have F6 : C8.Def K mg "is_tie" s_is_tie f6 _ := ⟨⟨_, _, _, _, _, _, _, _, _, _, rfl, l6, c6⟩, PySem.W.mg_of X G a6, k6⟩
  have B6 : Binds K _ ["posts", "thing"] [] := F6.fn.binds rfl fun _ _ _ _ _ _ us hl => match us, hl with | [_, _], _ => rfl
  have F7 : C8.Def K mg "reached" s_reached f7 _ := ⟨⟨_, _, _, _, _, _, _, _, _, _, rfl, l7, c7⟩, PySem.W.mg_of X G a7, k7⟩
  have B7 : Binds K _ ["tied", "post", "barred"] [] := F7.fn.binds rfl fun _ _ _ _ _ _ us hl => match us, hl with | [_, _, _], _ => rfl
  have F8 : C8.Def K mg "all_tied" s_all_tied f8 _ := ⟨⟨_, _, _, _, _, _, _, _, _, _, rfl, l8, c8⟩, PySem.W.mg_of X G a8, k8⟩
  have B8 : Binds K _ ["posts", "ties"] [] := F8.fn.binds rfl fun _ _ _ _ _ _ us hl => match us, hl with | [_, _], _ => rfl
  have F9 : C8.Def K mg "tied_to" s_tied_to f9 _ := ⟨⟨_, _, _, _, _, _, _, _, _, _, rfl, l9, c9⟩, PySem.W.mg_of X G a9, k9⟩
  have B9 : Binds K _ ["tree", "post"] [] := F9.fn.binds rfl fun _ _ _ _ _ _ us hl => match us, hl with | [_, _], _ => rfl
  have F10 : C8.Def K mg "check_post" s_check_post f10 _ := ⟨⟨_, _, _, _, _, _, _, _, _, _, rfl, l10, c10⟩, PySem.W.mg_of X G a10, k10⟩
  have B10 : Binds K _ ["tree", "thing"] [] := F10.fn.binds rfl fun _ _ _ _ _ _ us hl => match us, hl with | [_, _], _ => rfl
  have F11 : C8.Def K mg "tied" s_tied f11 _ := ⟨⟨_, _, _, _, _, _, _, _, _, _, rfl, l11, c11⟩, PySem.W.mg_of X G a11, k11⟩
  have B11 : Binds K _ ["tree", "post"] [] := F11.fn.binds rfl fun _ _ _ _ _ _ us hl => match us, hl with | [_, _], _ => rfl
  have F12 : C8.Def K mg "all_ways" s_all_ways f12 _ := ⟨⟨_, _, _, _, _, _, _, _, _, _, rfl, l12, c12⟩, PySem.W.mg_of X G a12, k12⟩
  have B12 : Binds K _ ["tree"] [] := F12.fn.binds rfl fun _ _ _ _ _ _ us hl => match us, hl with | [_], _ => rfl
  have F13 : C8.Def K mg "ways" s_ways f13 _ := ⟨⟨_, _, _, _, _, _, _, _, _, _, rfl, l13, c13⟩, PySem.W.mg_of X G a13, k13⟩
  have B13 : Binds K _ ["tree"] [] := F13.fn.binds rfl fun _ _ _ _ _ _ us hl => match us, hl with | [_], _ => rfl
  have F14 : C8.Def K mg "is_way" s_is_way f14 _ := ⟨⟨_, _, _, _, _, _, _, _, _, _, rfl, l14, c14⟩, PySem.W.mg_of X G a14, k14⟩
  have B14 : Binds K _ ["tree", "thing"] [] := F14.fn.binds rfl fun _ _ _ _ _ _ us hl => match us, hl with | [_, _], _ => rfl
  have F15 : C8.Def K mg "check_way" s_check_way f15 _ := ⟨⟨_, _, _, _, _, _, _, _, _, _, rfl, l15, c15⟩, PySem.W.mg_of X G a15, k15⟩
  have B15 : Binds K _ ["tree", "thing"] [] := F15.fn.binds rfl fun _ _ _ _ _ _ us hl => match us, hl with | [_, _], _ => rfl
  have F16 : C8.Def K mg "this_side" s_this_side f16 _ := ⟨⟨_, _, _, _, _, _, _, _, _, _, rfl, l16, c16⟩, PySem.W.mg_of X G a16, k16⟩
  have B16 : Binds K _ ["tree", "way"] [] := F16.fn.binds rfl fun _ _ _ _ _ _ us hl => match us, hl with | [_, _], _ => rfl
  have F17 : C8.Def K mg "beyond_of" s_beyond_of f17 _ := ⟨⟨_, _, _, _, _, _, _, _, _, _, rfl, l17, c17⟩, PySem.W.mg_of X G a17, k17⟩
  have B17 : Binds K _ ["tree", "way"] [] := F17.fn.binds rfl fun _ _ _ _ _ _ us hl => match us, hl with | [_, _], _ => rfl
  have F18 : C8.Def K mg "beyond" s_beyond f18 _ := ⟨⟨_, _, _, _, _, _, _, _, _, _, rfl, l18, c18⟩, PySem.W.mg_of X G a18, k18⟩
  have B18 : Binds K _ ["tree", "way"] [] := F18.fn.binds rfl fun _ _ _ _ _ _ us hl => match us, hl with | [_, _], _ => rfl
  have F19 : C8.Def K mg "are_holds" s_are_holds f19 _ := ⟨⟨_, _, _, _, _, _, _, _, _, _, rfl, l19, c19⟩, PySem.W.mg_of X G a19, k19⟩
  have B19 : Binds K _ ["posts", "thing"] [] := F19.fn.binds rfl fun _ _ _ _ _ _ us hl => match us, hl with | [_, _], _ => rfl
  have F20 : C8.Def K mg "are_lists" s_are_lists f20 _ := ⟨⟨_, _, _, _, _, _, _, _, _, _, rfl, l20, c20⟩, PySem.W.mg_of X G a20, k20⟩
  have B20 : Binds K _ ["posts", "thing"] [] := F20.fn.binds rfl fun _ _ _ _ _ _ us hl => match us, hl with | [_, _], _ => rfl
  have F21 : C8.Def K mg "first_no_row" s_first_no_row f21 _ := ⟨⟨_, _, _, _, _, _, _, _, _, _, rfl, l21, c21⟩, PySem.W.mg_of X G a21, k21⟩
  have B21 : Binds K _ ["p", "numbers", "wants"] [] := F21.fn.binds rfl fun _ _ _ _ _ _ us hl => match us, hl with | [_, _, _], _ => rfl
  have F22 : C8.Def K mg "held_by" s_held_by f22 _ := ⟨⟨_, _, _, _, _, _, _, _, _, _, rfl, l22, c22⟩, PySem.W.mg_of X G a22, k22⟩
  have B22 : Binds K _ ["sheet", "post"] [] := F22.fn.binds rfl fun _ _ _ _ _ _ us hl => match us, hl with | [_, _], _ => rfl
  have F23 : C8.Def K mg "held" s_held f23 _ := ⟨⟨_, _, _, _, _, _, _, _, _, _, rfl, l23, c23⟩, PySem.W.mg_of X G a23, k23⟩
  have B23 : Binds K _ ["sheet", "post"] [] := F23.fn.binds rfl fun _ _ _ _ _ _ us hl => match us, hl with | [_, _], _ => rfl
  have F24 : C8.Def K mg "held_this_side" s_held_this_side f24 _ := ⟨⟨_, _, _, _, _, _, _, _, _, _, rfl, l24, c24⟩, PySem.W.mg_of X G a24, k24⟩
  have B24 : Binds K _ ["sheet", "way"] [] := F24.fn.binds rfl fun _ _ _ _ _ _ us hl => match us, hl with | [_, _], _ => rfl
  have F25 : C8.Def K mg "wants_beyond" s_wants_beyond f25 _ := ⟨⟨_, _, _, _, _, _, _, _, _, _, rfl, l25, c25⟩, PySem.W.mg_of X G a25, k25⟩
  have B25 : Binds K _ ["sheet", "way"] [] := F25.fn.binds rfl fun _ _ _ _ _ _ us hl => match us, hl with | [_, _], _ => rfl
  have F26 : C8.Def K mg "cut_to" s_cut_to f26 _ := ⟨⟨_, _, _, _, _, _, _, _, _, _, rfl, l26, c26⟩, PySem.W.mg_of X G a26, k26⟩
  have B26 : Binds K _ ["row", "numbers"] [] := F26.fn.binds rfl fun _ _ _ _ _ _ us hl => match us, hl with | [_, _], _ => rfl
  have F27 : C8.Def K mg "block_of" s_block_of f27 _ := ⟨⟨_, _, _, _, _, _, _, _, _, _, rfl, l27, c27⟩, PySem.W.mg_of X G a27, k27⟩
  have B27 : Binds K _ ["sheet", "way"] [] := F27.fn.binds rfl fun _ _ _ _ _ _ us hl => match us, hl with | [_, _], _ => rfl
  have F28 : C8.Def K mg "block" s_block f28 _ := ⟨⟨_, _, _, _, _, _, _, _, _, _, rfl, l28, c28⟩, PySem.W.mg_of X G a28, k28⟩
  have B28 : Binds K _ ["sheet", "way"] [] := F28.fn.binds rfl fun _ _ _ _ _ _ us hl => match us, hl with | [_, _], _ => rfl
  have F29 : C8.Def K mg "_law_hand" s_law_hand f29 _ := ⟨⟨_, _, _, _, _, _, _, _, _, _, rfl, l29, c29⟩, PySem.W.mg_of X G a29, k29⟩
  have B29 : Binds K _ ["script"] [] := F29.fn.binds rfl fun _ _ _ _ _ _ us hl => match us, hl with | [_], _ => rfl
  have F30 : C8.Def K mg "_law_draw" s_law_draw f30 _ := ⟨⟨_, _, _, _, _, _, _, _, _, _, rfl, l30, c30⟩, PySem.W.mg_of X G a30, k30⟩
  have B30 : Binds K _ ["hand", "many"] [] := F30.fn.binds rfl fun _ _ _ _ _ _ us hl => match us, hl with | [_, _], _ => rfl
  have F31 : C8.Def K mg "_law_any" s_law_any f31 _ := ⟨⟨_, _, _, _, _, _, _, _, _, _, rfl, l31, c31⟩, PySem.W.mg_of X G a31, k31⟩
  have B31 : Binds K _ ["hand", "items"] [] := F31.fn.binds rfl fun _ _ _ _ _ _ us hl => match us, hl with | [_, _], _ => rfl
  have F32 : C8.Def K mg "_law_is" s_law_is f32 _ := ⟨⟨_, _, _, _, _, _, _, _, _, _, rfl, l32, c32⟩, PySem.W.mg_of X G a32, k32⟩
  have B32 : Binds K _ ["told", "due"] [] := F32.fn.binds rfl fun _ _ _ _ _ _ us hl => match us, hl with | [_, _], _ => rfl
  have F33 : C8.Def K mg "_law_mixed" s_law_mixed f33 _ := ⟨⟨_, _, _, _, _, _, _, _, _, _, rfl, l33, c33⟩, PySem.W.mg_of X G a33, k33⟩
  have B33 : Binds K _ ["hand", "items"] [] := F33.fn.binds rfl fun _ _ _ _ _ _ us hl => match us, hl with | [_, _], _ => rfl
  have F34 : C8.Def K mg "_law_less" s_law_less f34 _ := ⟨⟨_, _, _, _, _, _, _, _, _, _, rfl, l34, c34⟩, PySem.W.mg_of X G a34, k34⟩
  have B34 : Binds K _ ["p", "row", "other", "many"] [] := F34.fn.binds rfl fun _ _ _ _ _ _ us hl => match us, hl with | [_, _, _, _], _ => rfl
  have F35 : C8.Def K mg "_law_summed" s_law_summed f35 _ := ⟨⟨_, _, _, _, _, _, _, _, _, _, rfl, l35, c35⟩, PySem.W.mg_of X G a35, k35⟩
  have B35 : Binds K _ ["p", "wide", "rows", "many"] [] := F35.fn.binds rfl fun _ _ _ _ _ _ us hl => match us, hl with | [_, _, _, _], _ => rfl
  have F36 : C8.Def K mg "_law_clock" s_law_clock f36 _ := ⟨⟨_, _, _, _, _, _, _, _, _, _, rfl, l36, c36⟩, PySem.W.mg_of X G a36, k36⟩
  have B36 : Binds K _ ["hand"] [] := F36.fn.binds rfl fun _ _ _ _ _ _ us hl => match us, hl with | [_], _ => rfl
  have F37 : C8.Def K mg "_law_some_row" s_law_some_row f37 _ := ⟨⟨_, _, _, _, _, _, _, _, _, _, rfl, l37, c37⟩, PySem.W.mg_of X G a37, k37⟩
  have B37 : Binds K _ ["hand", "p", "wide", "rows"] [] := F37.fn.binds rfl fun _ _ _ _ _ _ us hl => match us, hl with | [_, _, _, _], _ => rfl
  have F38 : C8.Def K mg "_law_ties" s_law_ties f38 _ := ⟨⟨_, _, _, _, _, _, _, _, _, _, rfl, l38, c38⟩, PySem.W.mg_of X G a38, k38⟩
  have B38 : Binds K _ ["hand", "posts"] [] := F38.fn.binds rfl fun _ _ _ _ _ _ us hl => match us, hl with | [_, _], _ => rfl
  have F39 : C8.Def K mg "_law_near" s_law_near f39 _ := ⟨⟨_, _, _, _, _, _, _, _, _, _, rfl, l39, c39⟩, PySem.W.mg_of X G a39, k39⟩
  have B39 : Binds K _ ["ties", "post"] [] := F39.fn.binds rfl fun _ _ _ _ _ _ us hl => match us, hl with | [_, _], _ => rfl
  have F40 : C8.Def K mg "_law_all_ways" s_law_all_ways f40 _ := ⟨⟨_, _, _, _, _, _, _, _, _, _, rfl, l40, c40⟩, PySem.W.mg_of X G a40, k40⟩
  have B40 : Binds K _ ["ties"] [] := F40.fn.binds rfl fun _ _ _ _ _ _ us hl => match us, hl with | [_], _ => rfl
  have F41 : C8.Def K mg "_law_this" s_law_this f41 _ := ⟨⟨_, _, _, _, _, _, _, _, _, _, rfl, l41, c41⟩, PySem.W.mg_of X G a41, k41⟩
  have B41 : Binds K _ ["ties", "way"] [] := F41.fn.binds rfl fun _ _ _ _ _ _ us hl => match us, hl with | [_, _], _ => rfl
  have F42 : C8.Def K mg "_law_numbers" s_law_numbers f42 _ := ⟨⟨_, _, _, _, _, _, _, _, _, _, rfl, l42, c42⟩, PySem.W.mg_of X G a42, k42⟩
  have B42 : Binds K _ ["holds", "posts"] [] := F42.fn.binds rfl fun _ _ _ _ _ _ us hl => match us, hl with | [_, _], _ => rfl
  have F43 : C8.Def K mg "_law_full" s_law_full f43 _ := ⟨⟨_, _, _, _, _, _, _, _, _, _, rfl, l43, c43⟩, PySem.W.mg_of X G a43, k43⟩
  have B43 : Binds K _ ["spec", "way"] [] := F43.fn.binds rfl fun _ _ _ _ _ _ us hl => match us, hl with | [_, _], _ => rfl
  have F44 : C8.Def K mg "_law_cut" s_law_cut f44 _ := ⟨⟨_, _, _, _, _, _, _, _, _, _, rfl, l44, c44⟩, PySem.W.mg_of X G a44, k44⟩
  have B44 : Binds K _ ["spec", "way"] [] := F44.fn.binds rfl fun _ _ _ _ _ _ us hl => match us, hl with | [_, _], _ => rfl
  have F45 : C8.Def K mg "_law_spec" s_law_spec f45 _ := ⟨⟨_, _, _, _, _, _, _, _, _, _, rfl, l45, c45⟩, PySem.W.mg_of X G a45, k45⟩
  have B45 : Binds K _ ["hand", "posts", "most"] [] := F45.fn.binds rfl fun _ _ _ _ _ _ us hl => match us, hl with | [_, _, _], _ => rfl
  have F46 : C8.Def K mg "_law_sheet" s_law_sheet f46 _ := ⟨⟨_, _, _, _, _, _, _, _, _, _, rfl, l46, c46⟩, PySem.W.mg_of X G a46, k46⟩
  have B46 : Binds K _ ["spec"] [] := F46.fn.binds rfl fun _ _ _ _ _ _ us hl => match us, hl with | [_], _ => rfl
  have F47 : C8.Def K mg "law" s_law fa _ := ⟨⟨_, _, _, _, _, _, _, _, _, _, rfl, l47, c47⟩, PySem.W.mg_of X G a47, k47⟩
  have B47 : Binds K _ ["script"] [] := F47.fn.binds rfl fun _ _ _ _ _ _ us hl => match us, hl with | [_], _ => rfl
  have F48 : C8.Fun K "__init__" "Tree.__init__" s_Tree_init f48 _ := ⟨_, _, _, _, _, _, _, _, _, _, rfl, l48, c48⟩
  have B48 : Binds K _ ["self", "ties"] [] := F48.binds rfl fun _ _ _ _ _ _ us hl => match us, hl with | [_, _], _ => rfl
  have F49 : C8.Fun K "__init__" "Sheet.__init__" s_Sheet_init f49 _ := ⟨_, _, _, _, _, _, _, _, _, _, rfl, l49, c49⟩
  have B49 : Binds K _ ["self", "p", "tree", "holds", "wants"] [] := F49.binds rfl fun _ _ _ _ _ _ us hl => match us, hl with | [_, _, _, _, _], _ => rfl
  refine ⟨PySem.W.fnOf "law" "law" (C8.fnArgs s_law) (C8.fnBody s_law) (C8.fnScope s_law) .none kV47 dc47 pm47 an47 cd47 ct47, fun s v => .of_eq rfl, fun base KX _ => ?_⟩
  have m_is_integer := ok_is_integer (P := l.prog) (w := w) (base := base) F0 B0 T
  have m_is_within := ok_is_within F1 B1 T m_is_integer
  have m_is_pair := ok_is_pair (P := l.prog) (w := w) (base := base) F2 B2 T
  have m_prime := ok_prime (P := l.prog) (w := w) (base := base) F3 B3 T
  have m_is_clock := ok_is_clock F4 B4 T m_is_within m_prime
  have m_is_row := ok_is_row F5 B5 T m_is_within
  have m_is_tie := ok_is_tie F6 B6 T m_is_pair m_is_within
  have m_reached := ok_reached (P := l.prog) (w := w) (base := base) F7 B7 T
  have m_all_tied := ok_all_tied (P := l.prog) (w := w) (base := base) F8 B8 T
  have m_Tree := ok_tree_init ⟨mk_CT, a48, i48, kc_CT⟩ (PySem.W.mg_of X G a_CT) F48 B48 T TC m_is_tie m_all_tied m_reached
  have m_check_post := ok_check_post F10 B10 T TC m_is_within
  have m_tied_to := ok_tied_to F9 B9 T TC m_all_tied
  have m_tied := ok_tied F11 B11 T TC m_check_post m_tied_to
  have m_all_ways := ok_all_ways (P := l.prog) (w := w) (base := base) F12 B12 T TC
  have m_ways := ok_ways F13 B13 T m_all_ways
  have m_is_way := ok_is_way F14 B14 T TC m_is_pair m_is_within
  have m_check_way := ok_check_way F15 B15 T m_is_way
  have m_this_side := ok_this_side F16 B16 T TC m_all_tied m_reached
  have m_beyond_of := ok_beyond_of F17 B17 T m_this_side
  have m_beyond := ok_beyond F18 B18 T m_check_way m_beyond_of
  have m_are_holds := ok_are_holds F19 B19 T m_is_within
  have m_are_lists := ok_are_lists (P := l.prog) (w := w) (base := base) F20 B20 T
  have m_first_no_row := ok_first_no_row F21 B21 T m_is_row
  have m_Sheet := ok_sheet_init (C := C) (CT := CT) ⟨mk_C, a49, i49, kc_C⟩ (PySem.W.mg_of X G a_C) F49 B49 T SC TC isc_CT g_Tree m_is_clock m_are_holds m_are_lists m_first_no_row
  have m_held_by := ok_held_by (C := C) (CT := CT) (P := l.prog) (w := w) (base := base) F22 B22 T SC
  have m_held := ok_held (C := C) (CT := CT) F23 B23 T SC m_check_post m_held_by
  have m_held_this_side := ok_held_this_side (C := C) (CT := CT) F24 B24 T SC m_this_side m_held_by
  have m_wants_beyond := ok_wants_beyond (C := C) (CT := CT) F25 B25 T SC m_beyond_of
  have m_cut_to := ok_cut_to (P := l.prog) (w := w) (base := base) F26 B26 T
  have m_block_of := ok_block_of (C := C) (CT := CT) F27 B27 T SC m_held_this_side m_wants_beyond m_cut_to
  have m_block := ok_block (C := C) (CT := CT) F28 B28 T SC m_check_way m_block_of
  have m_law_hand := ok_law_hand (P := l.prog) (w := w) (base := base) F29 B29 T
  have m_law_draw := ok_law_draw (P := l.prog) (w := w) (base := base) F30 B30 T
  have m_law_any := ok_law_any F31 B31 T m_law_draw
  have m_is_no := ok_law_is_no (P := l.prog) (w := w) (base := base) F32 B32
  have m_is0 := ok_law_is0 F32 B32 T m_is_no
  have m_is1 := ok_law_isS F32 B32 T m_is0
  have m_is2 := ok_law_isS F32 B32 T m_is1
  have m_is3 := ok_law_isS F32 B32 T m_is2
  have m_law_is := ok_law_isS F32 B32 T m_is3
  have m_law_mixed := ok_law_mixed F33 B33 T m_law_draw
  have m_law_less := ok_law_less (P := l.prog) (w := w) (base := base) F34 B34 T
  have m_law_summed := ok_law_summed F35 B35 T m_law_less
  have m_law_clock := ok_law_clock F36 B36 T m_law_any
  have m_law_some_row := ok_law_some_row F37 B37 T m_law_draw m_law_any m_law_summed
  have m_law_ties := ok_law_ties F38 B38 T m_law_mixed m_law_draw
  have m_law_near := ok_law_near (P := l.prog) (w := w) (base := base) F39 B39 T
  have m_law_all_ways := ok_law_all_ways (P := l.prog) (w := w) (base := base) F40 B40 T
  have m_law_this := ok_law_this F41 B41 T m_law_near
  have m_law_numbers := ok_law_numbers (P := l.prog) (w := w) (base := base) F42 B42 T
  have m_law_full := ok_law_full F43 B43 T m_law_this m_law_numbers
  have m_law_cut := ok_law_cut F44 B44 T m_law_this m_law_numbers m_law_full
  have m_law_spec := ok_law_spec F45 B45 T m_law_clock m_law_ties m_law_any m_law_draw m_law_some_row
  have m_law_sheet := ok_law_sheet (C := C) (CT := CT) F46 B46 T m_Tree m_Sheet
  have m_law := ok_law (C := C) (CT := CT) F47 B47 T TC SC m_law_hand m_law_draw m_law_is m_law_ties m_Tree m_law_all_ways m_ways m_tied m_law_near m_beyond m_law_this m_law_spec m_law_sheet m_held m_law_numbers m_block m_law_cut
  exact m_law
end TK

open PySem PySem.W PyProof.Rows in
set_option maxRecDepth 100000 in
set_option maxHeartbeats 0 in
theorem PySem.Challenge.cw_tollhall_k04_whole_ways_sides_blocks_holds : PySem.Challenge.rw_tollhall_k04_whole_ways_sides_blocks.Holds := by
  w_on; o_law; k_head; (case hw => w_witness2)
  k_fill
  refine L2.walk_of (l := PySem.Challenge.rw_tollhall_k04_whole_ways_sides_blocks) (n := 63) (k := 9) (x := "script") (CX := fun _ => C8.CX0) (sp := fun w => TK.sp_law _) rfl (by decide) rfl ⟨rfl, by decide, by decide⟩ (fun w h Y => PySem.W.kIn_of Y) ?F (fun _ _ a ns hl _ hS => ⟨a, ns, rfl, hS, Nat.le_trans hl (by decide), fun _ => rfl⟩) fun _ _ _ _ _ z => z
  case F =>
    intro w mg fa h KX G hmg
    refine' TK.all_mk KX G hmg ?a0 ?l0 ?c0 ?k0 ?a1 ?l1 ?c1 ?k1 ?a2 ?l2 ?c2 ?k2 ?a3 ?l3 ?c3 ?k3 ?a4 ?l4 ?c4 ?k4 ?a5 ?l5 ?c5 ?k5 ?a6 ?l6 ?c6 ?k6 ?a7 ?l7 ?c7 ?k7 ?a8 ?l8 ?c8 ?k8 ?a9 ?l9 ?c9 ?k9 ?a10 ?l10 ?c10 ?k10 ?a11 ?l11 ?c11 ?k11 ?a12 ?l12 ?c12 ?k12 ?a13 ?l13 ?c13 ?k13 ?a14 ?l14 ?c14 ?k14 ?a15 ?l15 ?c15 ?k15 ?a16 ?l16 ?c16 ?k16 ?a17 ?l17 ?c17 ?k17 ?a18 ?l18 ?c18 ?k18 ?a19 ?l19 ?c19 ?k19 ?a20 ?l20 ?c20 ?k20 ?a21 ?l21 ?c21 ?k21 ?a22 ?l22 ?c22 ?k22 ?a23 ?l23 ?c23 ?k23 ?a24 ?l24 ?c24 ?k24 ?a25 ?l25 ?c25 ?k25 ?a26 ?l26 ?c26 ?k26 ?a27 ?l27 ?c27 ?k27 ?a28 ?l28 ?c28 ?k28 ?a29 ?l29 ?c29 ?k29 ?a30 ?l30 ?c30 ?k30 ?a31 ?l31 ?c31 ?k31 ?a32 ?l32 ?c32 ?k32 ?a33 ?l33 ?c33 ?k33 ?a34 ?l34 ?c34 ?k34 ?a35 ?l35 ?c35 ?k35 ?a36 ?l36 ?c36 ?k36 ?a37 ?l37 ?c37 ?k37 ?a38 ?l38 ?c38 ?k38 ?a39 ?l39 ?c39 ?k39 ?a40 ?l40 ?c40 ?k40 ?a41 ?l41 ?c41 ?k41 ?a42 ?l42 ?c42 ?k42 ?a43 ?l43 ?c43 ?k43 ?a44 ?l44 ?c44 ?k44 ?a45 ?l45 ?c45 ?k45 ?a46 ?l46 ?c46 ?k46 ?a47 ?l47 ?c47 ?k47 ?a_CT ?a_C ?a48 ?i48 ?l48 ?c48 ?k48 ?a49 ?i49 ?l49 ?c49 ?k49 ?pg_CT ?hd_CT ?po_CT ?sa_CT ?mk_CT ?kc_CT ?n_CT_ties ?n_CT_posts ?pg_C ?hd_C ?po_C ?sa_C ?mk_C ?kc_C ?n_C_p ?n_C_tree ?n_C_holds ?n_C_wants ?n_C_numbers ?ha_CT ?hn_CT ?ht_CT ?hm_CT ?b_abs ?b_all ?b_bool ?b_enumerate ?b_int ?b_isinstance ?b_len ?b_list ?b_max ?b_range ?b_sorted ?b_sum ?b_tuple ?b_zip ?g_MOST_HOURS ?g_MOST_TIES ?g_MOST_AT ?g_MOST_NUMBERS
    (case a0 => k_is)
    (case l0 => k_is)
    (case c0 => k_is)
    (case k0 => k_is)
    (case a1 => k_is)
    (case l1 => k_is)
    (case c1 => k_is)
    (case k1 => k_is)
    (case a2 => k_is)
    (case l2 => k_is)
    (case c2 => k_is)
    (case k2 => k_is)
    (case a3 => k_is)
    (case l3 => k_is)
    (case c3 => k_is)
    (case k3 => k_is)
    (case a4 => k_is)
    (case l4 => k_is)
    (case c4 => k_is)
    (case k4 => k_is)
    (case a5 => k_is)
    (case l5 => k_is)
    (case c5 => k_is)
    (case k5 => k_is)
    (case a6 => k_is)
    (case l6 => k_is)
    (case c6 => k_is)
    (case k6 => k_is)
    (case a7 => k_is)
    (case l7 => k_is)
    (case c7 => k_is)
    (case k7 => k_is)
    (case a8 => k_is)
    (case l8 => k_is)
    (case c8 => k_is)
    (case k8 => k_is)
    (case a9 => k_is)
    (case l9 => k_is)
    (case c9 => k_is)
    (case k9 => k_is)
    (case a10 => k_is)
    (case l10 => k_is)
    (case c10 => k_is)
    (case k10 => k_is)
    (case a11 => k_is)
    (case l11 => k_is)
    (case c11 => k_is)
    (case k11 => k_is)
    (case a12 => k_is)
    (case l12 => k_is)
    (case c12 => k_is)
    (case k12 => k_is)
    (case a13 => k_is)
    (case l13 => k_is)
    (case c13 => k_is)
    (case k13 => k_is)
    (case a14 => k_is)
    (case l14 => k_is)
    (case c14 => k_is)
    (case k14 => k_is)
    (case a15 => k_is)
    (case l15 => k_is)
    (case c15 => k_is)
    (case k15 => k_is)
    (case a16 => k_is)
    (case l16 => k_is)
    (case c16 => k_is)
    (case k16 => k_is)
    (case a17 => k_is)
    (case l17 => k_is)
    (case c17 => k_is)
    (case k17 => k_is)
    (case a18 => k_is)
    (case l18 => k_is)
    (case c18 => k_is)
    (case k18 => k_is)
    (case a19 => k_is)
    (case l19 => k_is)
    (case c19 => k_is)
    (case k19 => k_is)
    (case a20 => k_is)
    (case l20 => k_is)
    (case c20 => k_is)
    (case k20 => k_is)
    (case a21 => k_is)
    (case l21 => k_is)
    (case c21 => k_is)
    (case k21 => k_is)
    (case a22 => k_is)
    (case l22 => k_is)
    (case c22 => k_is)
    (case k22 => k_is)
    (case a23 => k_is)
    (case l23 => k_is)
    (case c23 => k_is)
    (case k23 => k_is)
    (case a24 => k_is)
    (case l24 => k_is)
    (case c24 => k_is)
    (case k24 => k_is)
    (case a25 => k_is)
    (case l25 => k_is)
    (case c25 => k_is)
    (case k25 => k_is)
    (case a26 => k_is)
    (case l26 => k_is)
    (case c26 => k_is)
    (case k26 => k_is)
    (case a27 => k_is)
    (case l27 => k_is)
    (case c27 => k_is)
    (case k27 => k_is)
    (case a28 => k_is)
    (case l28 => k_is)
    (case c28 => k_is)
    (case k28 => k_is)
    (case a29 => k_is)
    (case l29 => k_is)
    (case c29 => k_is)
    (case k29 => k_is)
    (case a30 => k_is)
    (case l30 => k_is)
    (case c30 => k_is)
    (case k30 => k_is)
    (case a31 => k_is)
    (case l31 => k_is)
    (case c31 => k_is)
    (case k31 => k_is)
    (case a32 => k_is)
    (case l32 => k_is)
    (case c32 => k_is)
    (case k32 => k_is)
    (case a33 => k_is)
    (case l33 => k_is)
    (case c33 => k_is)
    (case k33 => k_is)
    (case a34 => k_is)
    (case l34 => k_is)
    (case c34 => k_is)
    (case k34 => k_is)
    (case a35 => k_is)
    (case l35 => k_is)
    (case c35 => k_is)
    (case k35 => k_is)
    (case a36 => k_is)
    (case l36 => k_is)
    (case c36 => k_is)
    (case k36 => k_is)
    (case a37 => k_is)
    (case l37 => k_is)
    (case c37 => k_is)
    (case k37 => k_is)
    (case a38 => k_is)
    (case l38 => k_is)
    (case c38 => k_is)
    (case k38 => k_is)
    (case a39 => k_is)
    (case l39 => k_is)
    (case c39 => k_is)
    (case k39 => k_is)
    (case a40 => k_is)
    (case l40 => k_is)
    (case c40 => k_is)
    (case k40 => k_is)
    (case a41 => k_is)
    (case l41 => k_is)
    (case c41 => k_is)
    (case k41 => k_is)
    (case a42 => k_is)
    (case l42 => k_is)
    (case c42 => k_is)
    (case k42 => k_is)
    (case a43 => k_is)
    (case l43 => k_is)
    (case c43 => k_is)
    (case k43 => k_is)
    (case a44 => k_is)
    (case l44 => k_is)
    (case c44 => k_is)
    (case k44 => k_is)
    (case a45 => k_is)
    (case l45 => k_is)
    (case c45 => k_is)
    (case k45 => k_is)
    (case a46 => k_is)
    (case l46 => k_is)
    (case c46 => k_is)
    (case k46 => k_is)
    (case a47 => k_is)
    (case l47 => k_is)
    (case c47 => k_is)
    (case k47 => k_is)
    (case a_CT => k_is)
    (case a_C => k_is)
    (case a48 => k_is)
    (case i48 => k_is)
    (case l48 => k_is)
    (case c48 => k_is)
    (case k48 => k_is)
    (case a49 => k_is)
    (case i49 => k_is)
    (case l49 => k_is)
    (case c49 => k_is)
    (case k49 => k_is)
    (case pg_CT => k_is)
    (case hd_CT => k_is)
    (case po_CT => k_is)
    (case sa_CT => k_is)
    (case mk_CT => k_is)
    (case kc_CT => k_is)
    (case n_CT_ties => k_is)
    (case n_CT_posts => k_is)
    (case pg_C => k_is)
    (case hd_C => k_is)
    (case po_C => k_is)
    (case sa_C => k_is)
    (case mk_C => k_is)
    (case kc_C => k_is)
    (case n_C_p => k_is)
    (case n_C_tree => k_is)
    (case n_C_holds => k_is)
    (case n_C_wants => k_is)
    (case n_C_numbers => k_is)
    (case ha_CT => k_is)
    (case hn_CT => k_is)
    (case ht_CT => k_is)
    (case hm_CT => k_is)
    (case b_abs => k_is)
    (case b_all => k_is)
    (case b_bool => k_is)
    (case b_enumerate => k_is)
    (case b_int => k_is)
    (case b_isinstance => k_is)
    (case b_len => k_is)
    (case b_list => k_is)
    (case b_max => k_is)
    (case b_range => k_is)
    (case b_sorted => k_is)
    (case b_sum => k_is)
    (case b_tuple => k_is)
    (case b_zip => k_is)
    (case g_MOST_HOURS => k_is)
    (case g_MOST_TIES => k_is)
    (case g_MOST_AT => k_is)
    (case g_MOST_NUMBERS => k_is)
