import PyProof.Rows.All
import Wide.All
import OpenK.AllK
import Wide.FinOn
import HandS.ForMost
import HandS.Codes
import HandS.IsInst
import HandS.Zip
import HandS.TupAny
import HandS.TupMul
import HandS.Style
import HandS.DictComp
import HandS.Conv
import HandS.Wide
import HandS.EndBits
import HandS.Walk
import HandS.Deep
import HandS.More
import KE.GoesMore
import KE.GoesEnum
import KE.SortData
import KE.DataEq
import KE.KTupSum
import KE.KDictPairs
import KE.DataFind
import PySem.Challenge.RW_tollhall_k17_whole_small_sheets_counted
set_option Elab.async false
set_option linter.all false
set_option maxRecDepth 100000
set_option maxHeartbeats 8000000
namespace TH
open PySem PySem.Spec PyProof.Rows L2
/-! ### tuple * int, any int -/
theorem tuple_mul1 (l : Addr) (items : Array Value) (n : Nat) (dd : Option Addr) (sl : Array (Option Value)) (x : Int) (u : Tok) (c0 : (decide (x < -(2 ^ 63)) || decide (x ≥ 2 ^ 63)) = false) (c1 : (items.isEmpty || x == 1) = true) :
    Meets (Builtin.«tuple.__mul__» ⟨[.ref l, .int x u], []⟩) (fun _ R s => s.heap.get? l = some { cls := .type "tuple", dict := dd, data := .seq items n, slots := sl } ∧
      R (.ok (.ret (Value.ref l))) s) :=
  .of_wp fun prog w A R s h => by
    obtain ⟨hp, g, d, tk, os⟩ := s
    obtain ⟨hl, h⟩ := h
    have f1 := AutoSeq1.idx_int
    wp_walk using PyProof.Rows.wpAny_loadPart' hl
    repeat (first
      | (refine wpAny_ite_false (decide_eq_false (by rw [c0]; exact Bool.false_ne_true)) ?_; wp_walk using PyProof.Rows.wpAny_loadPart' hl)
      | (refine wpAny_ite_true (decide_eq_true c1) ?_; wp_walk using PyProof.Rows.wpAny_loadPart' hl))
    exact ⟨_, rfl, h⟩
theorem tuple_mul0 (l : Addr) (items : Array Value) (n : Nat) (dd : Option Addr) (sl : Array (Option Value)) (x : Int) (u : Tok) (c0 : (decide (x < -(2 ^ 63)) || decide (x ≥ 2 ^ 63)) = false) (c1 : (items.isEmpty || x == 1) = false) (c2 : (decide (x ≤ 0) || items.isEmpty) = true) :
    Meets (Builtin.«tuple.__mul__» ⟨[.ref l, .int x u], []⟩) (fun _ R s => s.heap.get? l = some { cls := .type "tuple", dict := dd, data := .seq items n, slots := sl } ∧
      R (.ok (.ret (Value.ref s.heap.objs.size))) { s with heap := s.heap.push { cls := Value.type "tuple", data := Data.seq #[] }, toks := s.toks }) :=
  .of_wp fun prog w A R s h => by
    obtain ⟨hp, g, d, tk, os⟩ := s
    obtain ⟨hl, h⟩ := h
    have f1 := AutoSeq1.idx_int
    wp_walk using PyProof.Rows.wpAny_loadPart' hl
    repeat (first
      | (refine wpAny_ite_false (decide_eq_false (by rw [c0]; exact Bool.false_ne_true)) ?_; wp_walk using PyProof.Rows.wpAny_loadPart' hl)
      | (refine wpAny_ite_false (decide_eq_false (by rw [c1]; exact Bool.false_ne_true)) ?_; wp_walk using PyProof.Rows.wpAny_loadPart' hl)
      | (refine wpAny_ite_true (decide_eq_true c2) ?_; wp_walk using PyProof.Rows.wpAny_loadPart' hl))
    exact ⟨_, rfl, h⟩
def rRepA (K : PySem.W.Frag) : R2 := fun x y H Q => ∃ l k xs, x = .ref l ∧ y = .int k ∧ SqT K H l xs ∧ xs ≠ [] ∧ -1000 ≤ k ∧ k ≤ 1000 ∧ xs.length ≤ 1000 ∧
  (k = 1 → Q (.ref l) H) ∧ (k ≠ 1 → ∀ p, H p = none → Q (.ref p) (upd H p (.tup (List.replicate k.toNat xs).flatten)))
section
variable {X : Cx}
theorem op_repA : OpR X (binaryOp .Mult) (rRepA X.K) := by
  intro pins s σ H x y v u Q I rx ry h
  obtain ⟨l, k, xs, rfl, rfl, hT, hne, h0, h1, hz, q1, q2⟩ := h
  by_cases hk2 : 2 ≤ k
  · exact op_repT pins s σ H _ _ v u Q I rx ry ⟨l, k, xs, rfl, rfl, hT, hne, hk2, h1, hz, q2 (by omega)⟩
  cases rx
  obtain ⟨t, rfl⟩ := ry
  obtain ⟨its, r, ⟨⟨cls, dd, data, sl⟩, ho, hc, n, hd⟩, hs⟩ := I.tuple hT
  simp only at hc hd
  subst hc hd
  have hle : its.length = xs.length := r.length.symm
  have hn : its ≠ [] := fun e => hne (by
    rw [e] at hle
    exact List.eq_nil_of_length_eq_zero hle.symm)
  have hi : its.toArray.isEmpty = false := by
    cases its with
    | nil => exact absurd rfl hn
    | cons a b => rfl
  have c0 : (decide (k < -(2 ^ 63)) || decide (k ≥ 2 ^ 63)) = false := by
    rw [decide_eq_false (by omega), decide_eq_false (by omega)] <;> rfl
  by_cases hk1 : k = 1
  · subst hk1
    have c1 : (its.toArray.isEmpty || (1 : Int) == 1) = true := by simp
    refine wpAny_binaryOp_repeat_ref (T := "tuple") (U := "int") (by decide) ⟨_, ho, rfl⟩ (fun s' => typeIs_int s' 1 t) noFill_tuple_mul F.fills_int_mul F.slot_int_rmul repeat_tuple F.slot_int_index.lookup
      (call_meets F.slot_int_rmul (typeIs_int s 1 t) F.entry_int_rmul (F.args_int_rmul_2 _ _) (int_rmul_tuple 1 t l its.toArray n dd sl)
        ⟨ho, rfl, ⟨_, ho, rfl⟩, call_meets F.slot_tuple_mul ⟨_, ho, rfl⟩ F.entry_tuple_mul (F.args_tuple_mul_2 _ _) (tuple_mul1 l its.toArray n dd sl 1 t c0 c1) ⟨ho, ?_⟩⟩)
    exact ⟨.ref l, H, I, rfl, q1 rfl⟩
  · have c1 : (its.toArray.isEmpty || k == 1) = false := by
      rw [hi, Bool.false_or]
      exact beq_eq_false_iff_ne.mpr hk1
    have c2 : (decide (k ≤ 0) || its.toArray.isEmpty) = true := by
      rw [decide_eq_true (by omega)]
      rfl
    refine wpAny_binaryOp_repeat_ref (T := "tuple") (U := "int") (by decide) ⟨_, ho, rfl⟩ (fun s' => typeIs_int s' k t) noFill_tuple_mul F.fills_int_mul F.slot_int_rmul repeat_tuple F.slot_int_index.lookup
      (call_meets F.slot_int_rmul (typeIs_int s k t) F.entry_int_rmul (F.args_int_rmul_2 _ _) (int_rmul_tuple k t l its.toArray n dd sl)
        ⟨ho, rfl, ⟨_, ho, rfl⟩, call_meets F.slot_tuple_mul ⟨_, ho, rfl⟩ F.entry_tuple_mul (F.args_tuple_mul_2 _ _) (tuple_mul0 l its.toArray n dd sl k t c0 c1 c2) ⟨ho, ?_⟩⟩)
    have e0 : (List.replicate k.toNat xs).flatten = [] := by
      have : k.toNat = 0 := by omega
      rw [this]
      rfl
    have q3 := q2 hk1
    rw [e0] at q3
    exact ⟨.ref s.heap.objs.size, _, I.laid (t' := s.toks) (o := .tup []) (fun b ob q => Heap.get?_push_of_some _ q) (Nat.le_refl _) ⟨Nat.zero_le _, [], .nil, IsTup.new _ _⟩, rfl, q3 _ (I.hok.fresh (Nat.le_refl _))⟩
end

/-! ### enumerate(tuple) -/
theorem meets_enumerate_newT (l : Addr) (items : Array Value) (n : Nat) (dct : Option Addr) (sl : Array (Option Value)) :
    Meets (Builtin.«enumerate.__new__» ⟨[.type "enumerate", .ref l], []⟩) (fun _ R s => s.heap.get? l = some { cls := .type "tuple", dict := dct, data := .seq items n, slots := sl } ∧
      R (.ok (.ret (.ref (s.heap.push { cls := .type "tuple_iterator", data := .fields #[.ref l, .int 0 0] }).objs.size)))
        { s with heap := (s.heap.push { cls := .type "tuple_iterator", data := .fields #[.ref l, .int 0 0] }).push { cls := .type "enumerate", data := .fields #[.none, .bool false, .ref s.heap.objs.size, rawInt 0, .none, .none] } }) :=
  .of_wp fun prog w A R s h => by
    obtain ⟨hp, g, d, tk, os⟩ := s; obtain ⟨hl, h⟩ := h
    have hsub := sub_enumerate
    have hL : Heap.IsTuple (Shared.heap ⟨hp, g, d, tk, os⟩) l items := ⟨_, hl, rfl, n, rfl⟩
    wp_walk using PyProof.Rows.wpAny_loadPart' hl
    refine wpAny_stack_any fun st => wpAny_pure ?_
    split
    · rename_i c _ _ _ _ _
      cases (c == Value.type "enumerate")
      · wp_walk using PyProof.Rows.wpAny_loadPart' hl, wpAny_pyIter_tuple hL
        exact ⟨_, rfl, h⟩
      · wp_walk using PyProof.Rows.wpAny_loadPart' hl, wpAny_pyIter_tuple hL
        exact ⟨_, rfl, h⟩
    · wp_walk using PyProof.Rows.wpAny_loadPart' hl, wpAny_pyIter_tuple hL
      exact ⟨_, rfl, h⟩
theorem call_enumerate_tuple {prog : Program} {w : World} {A : Around} {E : Value → Shared → Prop} {s : Shared} {l : Addr} {items : Array Value} {Q : Value → Shared → Prop} (hL : s.heap.IsTuple l items)
    (h : ∀ h', IsEnum h' (s.heap.objs.size + 1) s.heap.objs.size 0 .none → h'.IsTupleIter s.heap.objs.size l 0 → h'.objs.size = s.heap.objs.size + 2 →
      (∀ b o, s.heap.get? b = some o → h'.get? b = some o) → Q (.ref (s.heap.objs.size + 1)) { s with heap := h' }) :
    wpAny (model prog w) A (call (.type "enumerate") [.ref l]) Q E s := by
  obtain ⟨⟨c, dct, dt, sl⟩, hl, hc, n, hd⟩ := hL
  replace hc : c = .type "tuple" := hc
  replace hd : dt = .seq items n := hd
  subst hc hd
  refine callType_new F.called_enumerate (by decide) (F.typeCall_enumerate_1 _) (F.newCall_enumerate_1 _) (fun obj => F.args_object_init_2 obj _) F.entry_enumerate_new
    (meets_enumerate_newT l items n dct sl) ⟨hl, ?_⟩
  have hz : (s.heap.push { cls := .type "tuple_iterator", data := .fields #[.ref l, .int 0 0] }).objs.size = s.heap.objs.size + 1 := Heap.size_push ..
  show _ ∧ _
  rw [hz]
  have he : IsEnum ((s.heap.push { cls := .type "tuple_iterator", data := .fields #[.ref l, .int 0 0] }).push
      { cls := .type "enumerate", data := .fields #[.none, .bool false, .ref s.heap.objs.size, rawInt 0, .none, .none] }) (s.heap.objs.size + 1) s.heap.objs.size 0 .none := by
    have := Heap.get?_push_size (s.heap.push { cls := .type "tuple_iterator", data := .fields #[.ref l, .int 0 0] })
      (o := { cls := .type "enumerate", data := .fields #[.none, .bool false, .ref s.heap.objs.size, rawInt 0, .none, .none] }) rfl
    rw [hz] at this; exact this
  refine ⟨⟨_, he, rfl⟩, h _ he ⟨_, Heap.get?_push_of_some _ (Heap.get?_push_size _ rfl), rfl, rfl⟩ (by rw [Heap.size_push, hz]) fun b o x => Heap.get?_push_of_some _ (Heap.get?_push_of_some _ x)⟩
/-- the tuple at a, each item in a new pair -/
def IteT (K : PySem.W.Frag) (a : Addr) : It :=
  ⟨fun i H => ∃ (xs : List V) (x : V), SqT K H a xs ∧ xs[i]? = some x, fun i H v H' => ∃ T x, v = .ref T ∧ H T = none ∧ H' = upd H T (.tup [.int (i : Nat), x]) ∧ ∀ xs, SqT K H a xs → xs[i]? = some x, fun i H => ∃ xs : List V, SqT K H a xs ∧ xs.length ≤ i⟩
theorem turn_enumT {P : Program} {w : World} {K : PySem.W.Frag} {elts : List Expr} {kk : Nat} {tpos : Pos} (a e it : Addr) :
    Turn P w K (.Tuple elts kk tpos) (IteT K a) [e, it] e (fun i h => (∃ old, IsEnum h e it ((i : Nat) : Int) old) ∧ h.IsTupleIter it a i ∧ e ≠ it ∧ a ≠ it ∧ a ≠ e) where
  mem := by simp
  obj := fun i h st b hb => by
    obtain ⟨⟨old, he⟩, ⟨o, ho, hc, hd⟩, _⟩ := st
    have e' : b = e ∨ b = it := by simpa using hb
    rcases e' with z | z
    · rw [z]; exact ⟨_, he, fun v q => nomatch q⟩
    · rw [z]; exact ⟨o, ho, fun v q => by rw [hd] at q; cases q⟩
  keep := fun i h h' st k => let ⟨⟨old, he⟩, hi, hne⟩ := st; ⟨⟨old, k e (by simp) _ he⟩, hi.at fun o q => k it (by simp) o q, hne⟩
  item := by
    intro X hP hw hK hc i pins s σ H E I hf st hg
    subst hP hw hK
    obtain ⟨⟨old, he⟩, hit, hne, hai, hae⟩ := st
    obtain ⟨xs, x, hq, hx⟩ := hg
    obtain ⟨its, rv, p, hz⟩ := I.tuple hq
    obtain ⟨u, hu, ru⟩ := rv.get hx
    have hel : e < s.heap.objs.size := Heap.lt_size he
    have hil : it < s.heap.objs.size := by obtain ⟨_, q, _⟩ := hit; exact Heap.lt_size q
    have hlt : i < its.toArray.size := by
      have := (List.getElem?_eq_some_iff.mp hu).1
      simpa using this
    refine wpAny_pyNext_enum_itemD (Draws.tuple (prog := X.prog) (w := X.w) (A := X.A.in1) (show X.A.in1.handled = none from I.ok.hd hc) it a hai its.toArray) he ⟨hit, p⟩ hlt hne (by simp; exact ⟨hne, hae.symm⟩) fun u' h' tk hu' ho hst' hT hsz hk => ?_
    have eu : u' = u := by
      have : its.toArray[i]? = some u := by simpa using hu
      rw [this] at hu'
      exact (Option.some.inj hu').symm
    subst eu
    refine ⟨_, rfl, wpAny_letOwnedTupleGo_enum (s := { s with heap := h', toks := tk + 1 }) ho fun h'' he' sb => ?_⟩
    have hT2 : h''.get? s.heap.objs.size = some { cls := .type "tuple", data := .seq #[.int i tk, u'] } := (sb.2 _ (Nat.ne_of_gt hel)).trans hT
    have new : ObjOk X.prog X.w (upd H s.heap.objs.size (.tup [.int (i : Nat), x])) h'' s.heap.objs.size (.tup [.int (i : Nat), x]) :=
      ⟨by show 2 ≤ sizeLine; decide, [.int i tk, u'], .cons ⟨_, rfl⟩ (.cons ru .nil), ⟨_, hT2, rfl, _, rfl⟩⟩
    have I1 : Inv X pins σ (upd H s.heap.objs.size (.tup [.int (i : Nat), x])) { s with heap := h'', toks := tk + 1 } :=
      I.turnedNew (ch := [e, it]) (fun b ob hb q => (sb.2 b (fun z => hb (by simp [z]))).trans (hk b ob (fun z => hb (by simp [z])) (fun z => hb (by simp [z])) q)) hf (Nat.le_refl _) new
    refine ⟨.ref s.heap.objs.size, _, I1, rfl, ⟨_, x, rfl, I.hok.fresh (Nat.le_refl _), rfl, fun ys hy => by rw [I.tuple_inj hy hq]; exact hx⟩, ⟨⟨u', ?_⟩, hst'.1.at fun o q => (sb.2 it (Ne.symm hne)).trans q, hne, hai, hae⟩, fun b hb => ?_⟩
    · have e1 : ((i + 1 : Nat) : Int) = (i : Int) + 1 := by omega
      rw [e1]; exact he'
    · have hb' : b < s.heap.objs.size := by
        have e' : b = e ∨ b = it := by simpa using hb
        rcases e' with z | z
        · rw [z]; exact hel
        · rw [z]; exact hil
      rw [upd_ne (Nat.ne_of_lt hb')]
      exact (hf b hb).1
  done := by
    intro X hP hw hK hc i pins s σ H E I hf st hg
    subst hP hw hK
    obtain ⟨⟨old, he⟩, hit, hne, hai, hae⟩ := st
    obtain ⟨xs, hq, hx⟩ := hg
    obtain ⟨its, rv, p, hz⟩ := I.tuple hq
    obtain ⟨f0, f1, f2, f3, f4, f5⟩ := hf it (by simp)
    have hl := rv.length
    have go : its.toArray[i]? = none := by
      simp
      omega
    have hT : s.TypeIs (.ref e) "enumerate" := ⟨_, he, rfl⟩
    unfold pyNext
    refine wpAny_bind (wpAny_attempt (wpAny_callSpecial?_slot (name := Str.ofString "__next__") hT F.slot_enumerate_next
      (wpAny_call_entry F.slot_enumerate_next hT F.entry_enumerate_next ?_ (F.args_enumerate_next_1 _))))
    show wpAny _ _ (field (.ref e) 2 >>= _) _ _ _
    refine wpAny_bind (wpAny_field he rfl (x := .ref it) rfl ?_)
    refine wpAny_bind (wpAny_nextOf_tuple_end (I.ok.hd hc) hit p go fun h' x he' hx' => ?_)
    obtain ⟨o, ho, hc'⟩ := hx'
    refine wpAny_bind (wpAny_isInstance (T := "StopIteration") (b := true) ⟨o, ho, hc'⟩ isSubtype_stop ?_)
    exact wpAny_pure ⟨rfl, I.turned (t' := s.toks) (fun b o hb q => he' b o hb q) f0 f1 f3 f4 f5⟩
  self := fun A i s Q E st h => let ⟨⟨_, he⟩, _⟩ := st; wpAny_pyIter_enum he h
/-- enumerate of a list or a tuple -/
def iEnumA (K : PySem.W.Frag) (ta : TA) : TI := fun σ H R => ta σ H fun vs H1 => ∃ a xs, vs = [.ref a] ∧ ((SqL K H1 a xs ∧ R (Ite K a) H1) ∨ (SqT K H1 a xs ∧ R (IteT K a) H1))
theorem pi_enumA {X : Cx} {e : Expr} {ta : TA} {p pos tpos : Pos} {elts : List Expr} {kk : Nat} (hg : Gl X "enumerate") (hm : X.mg "enumerate" = none) (ha : PA X [e] ta) (hs : starEach [e] X.env = [(false, eval e X.env)] := by rfl) :
    PI X (.Tuple elts kk tpos) (.Call (.Name "enumerate" p) [e] [] pos) (iEnumA X.K ta) := by
  refine ⟨fun pins s σ H R I h => ?_⟩
  refine Call_ (ld_blt I hg hm boot_enumerate (PyProof.Rows.callWith_type1 (thn (ha.run pos pins s σ H _ I h) fun us s1 ⟨vs, H1, I1, r1, q1⟩ => ?_) hs rfl))
  obtain ⟨a, xs, ex, q1⟩ := q1
  subst ex
  cases r1 with
  | cons r rr =>
    cases rr
    cases r
    have fr : ∀ b, b ∈ [s1.heap.objs.size + 1, s1.heap.objs.size] → FpOk X pins H1 b := fun b hb => by
      have e' : b = s1.heap.objs.size + 1 ∨ b = s1.heap.objs.size := by simpa using hb
      have hle : s1.heap.objs.size ≤ b := by
        rcases e' with z | z
        · rw [z]; exact Nat.le_add_right _ _
        · rw [z]; exact Nat.le_refl _
      exact I1.fpOk hle (I1.hok.fresh hle)
    rcases q1 with ⟨hq, q⟩ | ⟨hq, q⟩
    · obtain ⟨its, rv, p', hz⟩ := I1.list hq
      refine call_enumerate_list p'.isList fun h' he hit hsz hk => wpAny_pyIter_enum he ?_
      have I2 : Inv X pins σ H1 { s1 with heap := h' } := I1.kept (t' := s1.toks) hk
      exact ⟨s1.heap.objs.size + 1, [s1.heap.objs.size + 1, s1.heap.objs.size], _, _, H1, rfl, I2, turn_enum a (s1.heap.objs.size + 1) s1.heap.objs.size, ⟨⟨.none, he⟩, hit, Nat.succ_ne_self _⟩, fr, q⟩
    · obtain ⟨its, rv, p', hz⟩ := I1.tuple hq
      have hal : a < s1.heap.objs.size := p'.lt
      refine call_enumerate_tuple (show s1.heap.IsTuple a its.toArray from p') fun h' he hit hsz hk => wpAny_pyIter_enum he ?_
      have I2 : Inv X pins σ H1 { s1 with heap := h' } := I1.kept (t' := s1.toks) hk
      exact ⟨s1.heap.objs.size + 1, [s1.heap.objs.size + 1, s1.heap.objs.size], _, _, H1, rfl, I2, turn_enumT a (s1.heap.objs.size + 1) s1.heap.objs.size, ⟨⟨.none, he⟩, hit, Nat.succ_ne_self _, Nat.ne_of_lt hal, Nat.ne_of_lt (Nat.lt_succ_of_lt hal)⟩, fr, q⟩
theorem walk_enumT {K : PySem.W.Frag} {a : Addr} {xs : List V} : Walk (IteT K a) xs.length (fun H => SqT K H a xs) (YPair (fun i => some (.int (i : Nat))) (fun i => xs[i]?)) := by
  refine ⟨fun i _ hi q => ⟨xs, xs[i], q, by simp [hi]⟩, fun _ q => ⟨xs, q, Nat.le_refl _⟩, fun i H v H' _ q y => ?_⟩
  obtain ⟨T, x, h1, h2, h3, h4⟩ := y
  exact ⟨T, .int (i : Nat), x, h1, h2, h3, rfl, h4 xs q⟩
end TH

namespace TH
open PySem PySem.Spec PyProof.Rows L2
/-! ### the rules with the written part told (within comprehensions the context is bound) -/
section
variable {X : Cx} {K : PySem.W.Frag} {tg e o l a b : Expr} {es : List Expr} {te tl to ta tb : TE} {t : TA} {pos p cpos apos : Pos} {k : Nat}
theorem kpi_list (hl : PE X l tl) (hK : X.K = K := by rfl) : PI X tg l (iList K tl) := hK ▸ pi_list hl
theorem kpi_tup (hl : PE X l tl) (hK : X.K = K := by rfl) : PI X tg l (iTup K tl) := hK ▸ pi_tup hl
theorem kpi_enum {elts : List Expr} {tpos : Pos} (hg : Gl X "enumerate") (hm : X.mg "enumerate" = none) (ha : PA X [e] t) (hs : starEach [e] X.env = [(false, eval e X.env)] := by rfl) (hK : X.K = K := by rfl) :
    PI X (.Tuple elts k tpos) (.Call (.Name "enumerate" p) [e] [] pos) (iEnumA K t) := hK ▸ pi_enumA hg hm ha hs
theorem kpi_zip {e2 : Expr} {elts : List Expr} {tpos : Pos} (hg : Gl X "zip") (hm : X.mg "zip" = none) (ha : PA X [e, e2] t)
    (hs : starEach [e, e2] X.env = (false, eval e X.env) :: starEach [e2] X.env := by rfl) (hpl : (backTo pos (starEach [e2] X.env)).any (·.1) = false := by rfl) (hK : X.K = K := by rfl) :
    PI X (.Tuple elts k tpos) (.Call (.Name "zip" p) [e, e2] [] pos) (RZ.iZipA K t) := hK ▸ RZ.pi_zipA hg hm ha hs hpl
theorem kpg_tup {es : List Expr} {t : TGs} {n : Nat} (hc : X.calm = true) (h : PGs X es t)
    (hn : (assignEach es X.env).length = n := by rfl) (hst : (assignEach es X.env).findIdx? (·.1) = none := by rfl) (hK : X.K = K := by rfl) : PG X (.Tuple es k pos) (gTup K n t) := hK ▸ pg_tup hc h hn hst
theorem kix_list (hK : X.K = K := by rfl) : IxR X (rIxL K) := hK ▸ ix_list
theorem kix_tup (hK : X.K = K := by rfl) : IxR X (rIxT K) := hK ▸ ix_tup
theorem ksl_list (hK : X.K = K := by rfl) : SlR X (rSlL K) := hK ▸ sl_list
theorem ksl_tup (hK : X.K = K := by rfl) : SlR X (rSlA K) := hK ▸ sl_tupA
theorem kcall_len (hK : X.K = K := by rfl) : CallR X (.builtin "len") (fun xs H Q => ∃ p ys, xs = [.ref p] ∧ (SqL K H p ys ∨ SqT K H p ys) ∧ Q (.int ys.length) H) := hK ▸ call_len_seq
theorem kcall_list (hK : X.K = K := by rfl) : CallR X (.type "list") (fun xs H Q => ∃ p ys, xs = [.ref p] ∧ (SqL K H p ys ∨ SqT K H p ys) ∧ ∀ l, H l = none → Q (.ref l) (upd H l (.lst ys))) := hK ▸ call_list_of
theorem kcall_tuple (hK : X.K = K := by rfl) : CallR X (.type "tuple") (fun xs H Q => ∃ p ys, xs = [.ref p] ∧ ((SqL K H p ys ∧ ∀ l, H l = none → Q (.ref l) (upd H l (.tup ys))) ∨ (SqT K H p ys ∧ Q (.ref p) H))) := hK ▸ call_tuple_of
theorem kcr_all (hc : X.calm = true) (hK : X.K = K := by rfl) : CallR X (.builtin "all") (rAll K) := hK ▸ cr_all hc
theorem kcr_any (hc : X.calm = true) (hK : X.K = K := by rfl) : CallR X (.builtin "any") (rAny K) := hK ▸ cr_any hc
theorem kcr_sum (hc : X.calm = true) (hK : X.K = K := by rfl) : CallR X (.builtin "sum") (rSum K) := hK ▸ cr_sum hc
theorem kcall_isi (hK : X.K = K := by rfl) : CallR X (.builtin "isinstance") (rIsi K) := hK ▸ call_isi
theorem kcall_isiT (hK : X.K = K := by rfl) : CallR X (.builtin "isinstance") (rIsiT K) := hK ▸ call_isiT
theorem kop_catA (hK : X.K = K := by rfl) : OpR X (binaryOp .Add) (rCatA K) := hK ▸ op_catA
theorem kop_repA (hK : X.K = K := by rfl) : OpR X (binaryOp .Mult) (rRepA K) := hK ▸ op_repA
theorem kop_eqD (hu : X.A.units + 64 < cLine) (hK : X.K = K := by rfl) : OpR X (compareOp .Eq) (rEqD K) := hK ▸ op_eqD hu
theorem kop_neD (hu : X.A.units + 64 < cLine) (hK : X.K = K := by rfl) : OpR X (compareOp .NotEq) (rNeD K) := hK ▸ op_neD hu
theorem kop_in (hK : X.K = K := by rfl) : OpR X (compareOp .In) (rIn K false) := hK ▸ op_in_seq
theorem kop_notIn (hK : X.K = K := by rfl) : OpR X (compareOp .NotIn) (rIn K true) := hK ▸ op_notIn_seq
theorem kpe_fld {f : Str} (ha : PE X e ta) (hb : attributeBase e f X.env (eval e X.env) = eval e X.env) (hK : X.K = K := by rfl) : PE X (.Attribute e f pos) (tFld K ta f) := hK ▸ pe_fld ha hb
theorem kpe_bm0 {T id : String} {name : Str} {r : V → List V → Hp → VK → Prop} (pa : PlainAttrs T) (slot : Slot T name id) (hty : typeOf (.builtin id) = pure (.type "method_descriptor")) (hm : MtR X id r) (ho : PE X o to)
    (hbase : attributeBase o name X.env (eval o X.env) = eval o X.env := by rfl) (hline : (apos.endLine == cpos.line) = true := by rfl) (hK : X.K = K := by rfl) : PE X (.Call (.Attribute o name apos) [] [] cpos) (tBM0 K T r to) := hK ▸ pe_bm0 pa slot hty hm ho hbase hline
theorem kpe_bm {T id : String} {name : Str} {r : V → List V → Hp → VK → Prop} (pa : PlainAttrs T) (slot : Slot T name id) (hty : typeOf (.builtin id) = pure (.type "method_descriptor")) (hm : MtR X id r) (ho : PE X o to) (ha : PA X (e :: es) t)
    (hbase : attributeBase o name X.env (eval o X.env) = eval o X.env := by rfl)
    (hfew : ((backTo cpos (starEach (e :: es) X.env)).all (fun x => !x.1) && (backToKw cpos (keywordEach [] X.env)).all (fun x => x.1.isSome)
      && decide ((e :: es).length + ([] : List Keyword).length + (if ([] : List Keyword).isEmpty then 0 else 1) < 30)) = true := by rfl)
    (hline : (apos.endLine == cpos.line) = true := by rfl) (hs : starEach (e :: es) X.env = (false, eval e X.env) :: starEach es X.env := by rfl) (hplain : (backTo cpos (starEach es X.env)).any (·.1) = false := by rfl) (hK : X.K = K := by rfl) :
    PE X (.Call (.Attribute o name apos) (e :: es) [] cpos) (tBM K T r to t) := hK ▸ pe_bm pa slot hty hm ho ha hbase hfew hline hs hplain
theorem kpe_revL {k' : Nat} {p1 p2 p3 pos : Pos} (he : PE X e te) (hK : X.K = K := by rfl) : PE X (.Subscript e (.Slice none none (some (.UnaryOp .USub (.Constant (.int 1) k' p1) p2)) p3) pos) (tRevL K te) := hK ▸ pe_revL he
end
end TH

namespace TH
open PySem PySem.Spec PyProof.Rows L2
abbrev D := PyData
/-- all that was tracked stands -/
def Ex (H H' : Hp) : Prop := ∀ a o, H a = some o → H' a = some o
theorem Ex.refl (H : Hp) : Ex H H := fun _ _ h => h
theorem Ex.trans {H H1 H2 : Hp} (a : Ex H H1) (b : Ex H1 H2) : Ex H H2 := fun x o h => b x o (a x o h)
theorem Ex.new {H : Hp} {p : Addr} {o : HO} (h : H p = none) : Ex H (upd H p o) := fun a u e => by
  rw [upd_ne (ne_of_none e h)]
  exact e
/-- an object that H does not know may change -/
theorem Ex.mut {H H' : Hp} {p : Addr} {o : HO} (e : Ex H H') (h : H p = none) : Ex H (upd H' p o) := fun a u ha => by
  rw [upd_ne (ne_of_none ha h)]
  exact e a u ha
theorem Ex.rd {H H' : Hp} {a : Addr} {u : HO} (e : Ex H H') (h : Rd H a u) : Rd H' a u := by
  rcases h with h | ⟨o, h⟩
  · exact Or.inl (e a _ h)
  · exact Or.inr ⟨o, e a _ h⟩
theorem Ex.l {K : PySem.W.Frag} {H H' : Hp} {a : Addr} {xs : List V} (e : Ex H H') (h : SqL K H a xs) : SqL K H' a xs := by
  rcases h with h | h
  · exact Or.inl (e.rd h)
  · exact Or.inr h
theorem Ex.t {K : PySem.W.Frag} {H H' : Hp} {a : Addr} {xs : List V} (e : Ex H H') (h : SqT K H a xs) : SqT K H' a xs := by
  rcases h with h | h
  · exact Or.inl (e.rd h)
  · exact Or.inr h
theorem sqL {K : PySem.W.Frag} {H : Hp} {a : Addr} {xs : List V} (h : H a = some (.lst xs)) : SqL K H a xs := Or.inl (Or.inl h)
theorem sqT {K : PySem.W.Frag} {H : Hp} {a : Addr} {xs : List V} (h : H a = some (.tup xs)) : SqT K H a xs := Or.inl (Or.inl h)
theorem Ex.fresh {H H' : Hp} {p : Addr} (e : Ex H H') (h : H' p = none) : H p = none := by
  cases h1 : H p with
  | none => rfl
  | some o =>
    rw [e p o h1] at h
    cases h
/-- the tuples stand (lists and dicts may change) -/
def Tx (H H' : Hp) : Prop := ∀ a xs, (H a = some (.tup xs) → H' a = some (.tup xs)) ∧ (∀ o, H a = some (.frz o (.tup xs)) → H' a = some (.frz o (.tup xs)))
theorem Ex.tx {H H' : Hp} (e : Ex H H') : Tx H H' := fun a xs => ⟨fun h => e a _ h, fun o h => e a _ h⟩
theorem Tx.refl (H : Hp) : Tx H H := (Ex.refl H).tx
theorem Tx.trans {H H1 H2 : Hp} (a : Tx H H1) (b : Tx H1 H2) : Tx H H2 := fun x xs => ⟨fun h => (b x xs).1 ((a x xs).1 h), fun o h => (b x xs).2 o ((a x xs).2 o h)⟩
/-- an object that is no tuple is written -/
theorem Tx.wr {H : Hp} {p : Addr} {o u : HO} (h : H p = some u) (hu : ∀ xs, u ≠ .tup xs) (hf : ∀ ob xs, u ≠ .frz ob (.tup xs)) : Tx H (upd H p o) := fun a xs =>
  ⟨fun e => by rw [upd_ne (fun z => by rw [z, h] at e; exact hu xs (Option.some.inj e))]; exact e,
   fun ob e => by rw [upd_ne (fun z => by rw [z, h] at e; exact hf ob xs (Option.some.inj e))]; exact e⟩
theorem Tx.updL {H : Hp} {p : Addr} {o : HO} {xs : List V} (h : H p = some (.lst xs)) : Tx H (upd H p o) := Tx.wr h (fun _ z => by cases z) fun _ _ z => by cases z
theorem Tx.updK {H : Hp} {p : Addr} {o : HO} {xs : List (Key × V)} (h : H p = some (.dK xs)) : Tx H (upd H p o) := Tx.wr h (fun _ z => by cases z) fun _ _ z => by cases z
theorem Tx.updT {H : Hp} {p : Addr} {o : HO} {xs : List (List Key × V)} (h : H p = some (.dT xs)) : Tx H (upd H p o) := Tx.wr h (fun _ z => by cases z) fun _ _ z => by cases z
theorem Tx.new {H : Hp} {p : Addr} {o : HO} (h : H p = none) : Tx H (upd H p o) := (Ex.new h).tx
theorem Tx.t {K : PySem.W.Frag} {H H' : Hp} {a : Addr} {xs : List V} (e : Tx H H') (h : SqT K H a xs) : SqT K H' a xs := by
  rcases h with (h | ⟨o, h⟩) | h
  · exact Or.inl (Or.inl ((e a xs).1 h))
  · exact Or.inl (Or.inr ⟨o, (e a xs).2 o h⟩)
  · exact Or.inr h
section
variable {K : PySem.W.Frag} {H H' : Hp}
mutual
theorem dp_ex (e : Ex H H') : ∀ (d : D) (v : V), Dp K H v d → Dp K H' v d
  | .none, _, h => by cases h; exact .non
  | .bool b, _, h => by cases h; exact .bl b
  | .int i, _, h => by cases h; exact .int i
  | .str x, _, h => by cases h; exact .str x
  | .list ds, _, h => by
    cases h with
    | lst hs ha => exact .lst (e.l hs) (dpa_ex e ds _ ha)
  | .tuple ds, _, h => by
    cases h with
    | tup hs ha => exact .tup (e.t hs) (dpa_ex e ds _ ha)
  | .dict _, _, h => by cases h
theorem dpa_ex (e : Ex H H') : ∀ (ds : List D) (vs : List V), DpAll K H vs ds → DpAll K H' vs ds
  | [], _, h => by cases h; exact .nil
  | d :: ds, _, h => by
    cases h with
    | cons h1 h2 => exact .cons (dp_ex e d _ h1) (dpa_ex e ds _ h2)
end
theorem Ex.dp {d : D} {v : V} (e : Ex H H') (h : Dp K H v d) : Dp K H' v d := dp_ex e d v h
theorem Ex.dpa {ds : List D} {vs : List V} (e : Ex H H') (h : DpAll K H vs ds) : DpAll K H' vs ds := dpa_ex e ds vs h
/-! no list within -/
mutual
def imm : D → Bool
  | .list _ => false
  | .tuple ds => immAll ds
  | .dict _ => false
  | _ => true
def immAll : List D → Bool
  | [] => true
  | d :: ds => imm d && immAll ds
end
mutual
theorem dp_tx (e : Tx H H') : ∀ (d : D) (v : V), imm d = true → Dp K H v d → Dp K H' v d
  | .none, _, _, h => by cases h; exact .non
  | .bool b, _, _, h => by cases h; exact .bl b
  | .int i, _, _, h => by cases h; exact .int i
  | .str x, _, _, h => by cases h; exact .str x
  | .list ds, _, i, h => by simp [imm] at i
  | .tuple ds, _, i, h => by
    cases h with
    | tup hs ha => exact .tup (e.t hs) (dpa_tx e ds _ (by simpa [imm] using i) ha)
  | .dict _, _, _, h => by cases h
theorem dpa_tx (e : Tx H H') : ∀ (ds : List D) (vs : List V), immAll ds = true → DpAll K H vs ds → DpAll K H' vs ds
  | [], _, _, h => by cases h; exact .nil
  | d :: ds, _, i, h => by
    have i' : imm d = true ∧ immAll ds = true := by simpa [immAll] using i
    cases h with
    | cons h1 h2 => exact .cons (dp_tx e d _ i'.1 h1) (dpa_tx e ds _ i'.2 h2)
end
theorem Tx.dp {d : D} {v : V} (e : Tx H H') (i : imm d = true) (h : Dp K H v d) : Dp K H' v d := dp_tx e d v i h
theorem Tx.dpa {ds : List D} {vs : List V} (e : Tx H H') (i : immAll ds = true) (h : DpAll K H vs ds) : DpAll K H' vs ds := dpa_tx e ds vs i h
theorem immAll_iff : ∀ {ds : List D}, immAll ds = true ↔ ∀ d ∈ ds, imm d = true
  | [] => by simp [immAll]
  | d :: ds => by simp [immAll, immAll_iff]
theorem immAll_append {ds es : List D} : immAll (ds ++ es) = true ↔ immAll ds = true ∧ immAll es = true := by
  simp only [immAll_iff, List.mem_append]
  exact ⟨fun h => ⟨fun d hd => h d (.inl hd), fun d hd => h d (.inr hd)⟩, fun h d hd => hd.elim (h.1 d) (h.2 d)⟩
theorem dpa_len : ∀ {vs : List V} {ds : List D}, DpAll K H vs ds → vs.length = ds.length
  | _, _, .nil => rfl
  | _, _, .cons _ t => by simp [dpa_len t]
theorem dpa_get : ∀ {vs : List V} {ds : List D} {i : Nat} {v : V}, DpAll K H vs ds → vs[i]? = some v → ∃ d, ds[i]? = some d ∧ Dp K H v d
  | _, _, _, _, .nil, e => by simp at e
  | _, _, 0, v, .cons h _, e => by
    simp at e
    subst e
    exact ⟨_, rfl, h⟩
  | _, _, i + 1, v, .cons _ t, e => by
    simp at e
    obtain ⟨d, h1, h2⟩ := dpa_get (i := i) t e
    exact ⟨d, by simpa using h1, h2⟩
theorem dpa_getD : ∀ {vs : List V} {ds : List D} {i : Nat} {d : D}, DpAll K H vs ds → ds[i]? = some d → ∃ v, vs[i]? = some v ∧ Dp K H v d
  | _, _, _, _, .nil, e => by simp at e
  | _, _, 0, v, .cons h _, e => by
    simp at e
    subst e
    exact ⟨_, rfl, h⟩
  | _, _, i + 1, v, .cons _ t, e => by
    simp at e
    obtain ⟨d, h1, h2⟩ := dpa_getD (i := i) t e
    exact ⟨d, by simpa using h1, h2⟩
theorem dpa_append : ∀ {vs ws : List V} {ds es : List D}, DpAll K H vs ds → DpAll K H ws es → DpAll K H (vs ++ ws) (ds ++ es)
  | _, _, _, _, .nil, s => s
  | _, _, _, _, .cons h t, s => .cons h (dpa_append t s)
theorem dpa_one {v : V} {d : D} (h : Dp K H v d) : DpAll K H [v] [d] := .cons h .nil
theorem dpa_snoc {vs : List V} {ds : List D} {v : V} {d : D} (t : DpAll K H vs ds) (h : Dp K H v d) : DpAll K H (vs ++ [v]) (ds ++ [d]) := dpa_append t (dpa_one h)
theorem dpa_ints : ∀ ns : List Int, DpAll K H (ns.map V.int) (ns.map PyData.int)
  | [] => .nil
  | n :: ns => .cons (.int n) (dpa_ints ns)
theorem dpa_ints_inv : ∀ {ns : List Int} {vs : List V}, DpAll K H vs (ns.map PyData.int) → vs = ns.map V.int
  | [], _, .nil => rfl
  | n :: ns, _, .cons h t => by
    cases h
    rw [dpa_ints_inv t]
    rfl
theorem dpa_take : ∀ {vs : List V} {ds : List D} (n : Nat), DpAll K H vs ds → DpAll K H (vs.take n) (ds.take n)
  | _, _, 0, _ => .nil
  | _, _, _ + 1, .nil => .nil
  | _, _, n + 1, .cons h t => .cons h (dpa_take n t)
theorem dpa_drop : ∀ {vs : List V} {ds : List D} (n : Nat), DpAll K H vs ds → DpAll K H (vs.drop n) (ds.drop n)
  | _, _, 0, r => r
  | _, _, _ + 1, .nil => .nil
  | _, _, n + 1, .cons _ t => dpa_drop n t
theorem dpa_rev : ∀ {vs : List V} {ds : List D}, DpAll K H vs ds → DpAll K H vs.reverse ds.reverse
  | _, _, .nil => .nil
  | _, _, .cons h t => by
    rw [List.reverse_cons, List.reverse_cons]
    exact dpa_snoc (dpa_rev t) h
theorem dpa_set {v : V} {d : D} (h : Dp K H v d) : ∀ {vs : List V} {ds : List D} (i : Nat), DpAll K H vs ds → DpAll K H (vs.set i v) (ds.set i d)
  | _, _, _, .nil => .nil
  | _, _, 0, .cons _ t => .cons h t
  | _, _, i + 1, .cons q t => .cons q (dpa_set h i t)
theorem dpa_erase : ∀ {vs : List V} {ds : List D} (i : Nat), DpAll K H vs ds → DpAll K H (vs.eraseIdx i) (ds.eraseIdx i)
  | _, _, _, .nil => .nil
  | _, _, 0, .cons _ t => t
  | _, _, i + 1, .cons q t => .cons q (dpa_erase i t)
end
/-- a row of ints | rows -/
def row (ns : List Int) : D := .tuple (ns.map .int)
def rowsT (rs : List (List Int)) : D := .tuple (rs.map row)
def rowsL (rs : List (List Int)) : D := .list (rs.map row)
theorem imm_row (ns : List Int) : imm (row ns) = true := by
  unfold row imm
  rw [immAll_iff]
  intro d hd
  obtain ⟨n, _, rfl⟩ := List.mem_map.mp hd
  rfl
theorem imm_rows (rs : List (List Int)) : immAll (rs.map row) = true := by
  rw [immAll_iff]
  intro d hd
  obtain ⟨n, _, rfl⟩ := List.mem_map.mp hd
  exact imm_row n
section
variable {K : PySem.W.Frag} {H H' : Hp}
theorem dp_row {v : V} {ns : List Int} (h : Dp K H v (row ns)) : ∃ a, v = .ref a ∧ SqT K H a (ns.map V.int) := by
  unfold row at h
  cases h with
  | tup hs ha =>
    rw [dpa_ints_inv ha] at hs
    exact ⟨_, rfl, hs⟩
theorem dp_row_of {a : Addr} {ns : List Int} (h : SqT K H a (ns.map V.int)) : Dp K H (.ref a) (row ns) := .tup h (dpa_ints ns)
end
/-! ### sorted(xs), xs a list of data -/
open PySem.W in
def rSortedD (K : PySem.W.Frag) : List V → Hp → VK → Prop := fun xs H Q => ∃ (a : Addr) (vs : List V) (ds : List D), xs = [.ref a] ∧ SqL K H a vs ∧ DpAll K H vs ds ∧ AllAlike ds ∧ Sortable ds ∧ (∀ d ∈ ds, d.depth ≤ 50) ∧
  ∀ (ws : List V) (p : Addr), H p = none → DpAll K H ws (ds.mergeSort (dataLe false id)) → Q (.ref p) (upd H p (.lst ws))
section
open PySem.W
variable {X : Cx} {K : PySem.W.Frag}
theorem each_of {H : Hp} {R : V → Value → Prop} : ∀ {vs : List V} {us : List Value} {ds : List D}, Paired R vs us → DpAll K H vs ds → EachIs (fun (u : Value) (b : V × D) => R b.1 u ∧ Dp K H b.1 b.2) us (vs.zip ds)
  | _, _, _, .nil, .nil => .nil
  | _, _, _, .cons r t, .cons h q => .cons ⟨r, h⟩ (each_of t q)
theorem each_back {H : Hp} : ∀ {us : List Value} {bs : List (V × D)}, EachIs (fun (u : Value) (b : V × D) => RelV b.1 u ∧ Dp K H b.1 b.2) us bs → Vals (bs.map (·.1)) us ∧ DpAll K H (bs.map (·.1)) (bs.map (·.2))
  | _, _, .nil => ⟨.nil, .nil⟩
  | _, _, .cons h t => ⟨.cons h.1 (each_back t).1, .cons h.2 (each_back t).2⟩
theorem dataLe_map {β : Type} (f : β → D) (a b : β) : dataLe false f a b = dataLe false id (f a) (f b) := rfl
theorem call_sortedD (hu : X.A.units + 64 < cLine) (hK : X.K = K := by rfl) : CallR X (.builtin "sorted") (rSortedD K) := by
  subst hK
  intro pins s σ H xs us Q I r h
  obtain ⟨a, vs, ds, rfl, hs, hd, al, so, dep, q⟩ := h
  obtain ⟨its, rv, hl, hz⟩ := I.list hs
  rw [Vals.ref1 r]
  have e := each_of rv hd
  have hle : vs.length = ds.length := dpa_len hd
  have em : (vs.zip ds).map (·.2) = ds := by
    rw [List.map_snd_zip]
    omega
  have er : EachIs (fun (u : Value) (b : V × D) => ∃ as, Reads s.heap u b.2 as) its (vs.zip ds) := e.mono fun u b hb => Dp.reads I b.2 b.1 u hb.2 hb.1
  have hzl : (vs.zip ds).length = its.length := e.length.symm
  refine sorted_data (enc := fun b : V × D => b.2) hl.isList e er (by rw [em]; exact al) (by rw [em]; exact so) (by rw [hzl, ← rv.length]; exact hz) (fun b hb => ?_) fun out hol heo => ?_
  · have : b.2 ∈ ds := by
      rw [← em]
      exact List.mem_map.mpr ⟨b, hb, rfl⟩
    have := dep b.2 this
    show X.A.units + 2 + b.2.depth < cLine
    omega
  · obtain ⟨ep, he'⟩ := PyProof.Rows.sortedAll_at s.heap its out.toArray
    obtain ⟨hv, hda⟩ := each_back heo
    have e2 : ((vs.zip ds).mergeSort (dataLe false fun b : V × D => b.2)).map (·.2) = ds.mergeSort (dataLe false id) := by
      rw [sort_maps (s := dataLe false id) (fun b : V × D => b.2) (fun a _ b _ => dataLe_map _ a b), em]
    rw [e2] at hda
    refine ⟨.ref _, upd H (s.heap.objs.size + 1) (.lst _), I.laid (t' := s.toks) (fun _ _ => PyProof.Rows.sortedAll_old) (Nat.le_succ _) ⟨?_, out, ep, hv, he'⟩, rfl, q _ _ (I.hok.fresh (Nat.le_succ _)) hda⟩
    rw [hv.length, hol, hzl, ← rv.length]
    exact hz
end
end TH

namespace TH
open PySem PySem.Spec PyProof.Rows L2
/-! ### the readings, one step each -/
section
variable {K : PySem.W.Frag} {σ σ' : L2.St} {H : Hp} {Q : VK} {QB : Bool → Hp → Prop} {QA : List V → Hp → Prop} {D : Ends} {ta tb tc te : TE} {t u : TT} {s1 s2 : TS} {r r' : R2} {v w : V} {i : Nat} {tr : TA} {g : TG}
theorem w_start {s : TS} (h : σ = σ') (k : s D σ' H) : s D σ H := h ▸ k
theorem w_var (h : σ[i]? = some (some v)) (k : Q v H) : tVar i σ H Q := ⟨v, h, k⟩
theorem w_c (k : Q v H) : tC v σ H Q := k
theorem w_op (k : ta σ H fun x H1 => tb σ H1 fun y H2 => r x y H2 Q) : tOp r ta tb σ H Q := k
theorem w_un {r : V → Hp → VK → Prop} (k : ta σ H fun x H1 => r x H1 Q) : tUn r ta σ H Q := k
theorem w_chain (k : ta σ H fun x H1 => tb σ H1 fun y H2 => r x y H2 fun z H3 => ∃ k, z = .bl k ∧ (if k = true then tc σ H3 fun w' H4 => r' y w' H4 Q else Q (.bl false) H3)) : tChain r r' ta tb tc σ H Q := k
theorem w_I0 {f : Int → Int → V} {a b : Int} (k : Q (f a b) H) : rI0 f (.int a) (.int b) H Q := ⟨a, b, rfl, rfl, k⟩
theorem w_I {C : Int → Int → Prop} {f : Int → Int → V} {a b : Int} (hc : C a b) (k : Q (f a b) H) : rI C f (.int a) (.int b) H Q := ⟨a, b, rfl, rfl, hc, k⟩
theorem w_U {f : Int → V} {a : Int} (k : Q (f a) H) : rU f (.int a) H Q := ⟨a, rfl, k⟩
theorem w_eq (h : scal v w = true) (k : Q (.bl (decide (v = w))) H) : rEq v w H Q := ⟨h, k⟩
theorem w_eqI {a b : Int} (k : Q (.bl (decide (a = b))) H) : rEq (.int a) (.int b) H Q := ⟨rfl, by
  have e : decide (V.int a = V.int b) = decide (a = b) := by
    by_cases h : a = b
    · subst h; simp
    · rw [decide_eq_false h, decide_eq_false (fun z => h (V.int.inj z))]
  rw [e]; exact k⟩
theorem w_neI {a b : Int} (k : Q (.bl (!decide (a = b))) H) : rNe (.int a) (.int b) H Q := ⟨rfl, by
  have e : decide (V.int a = V.int b) = decide (a = b) := by
    by_cases h : a = b
    · subst h; simp
    · rw [decide_eq_false h, decide_eq_false (fun z => h (V.int.inj z))]
  rw [e]; exact k⟩
theorem w_eqB {a b : Bool} (k : Q (.bl (decide (a = b))) H) : rEq (.bl a) (.bl b) H Q := ⟨rfl, by
  have e : decide (V.bl a = V.bl b) = decide (a = b) := by cases a <;> cases b <;> rfl
  rw [e]; exact k⟩
theorem w_ne (h : scal v w = true) (k : Q (.bl (!decide (v = w))) H) : rNe v w H Q := ⟨h, k⟩
theorem w_isN {R : Prop} (k : R) : V.non = V.non ∧ R := ⟨rfl, k⟩
theorem w_tup (h : ∀ xs, QA xs H → True) (k : tr σ H fun xs H1 => xs.length ≤ sizeLine ∧ ∀ p, H1 p = none → Q (.ref p) (upd H1 p (.tup xs))) : tTup tr σ H Q := k
theorem w_nil (k : QA [] H) : tNil σ H QA := k
theorem w_cons (k : ta σ H fun x H1 => tr σ H1 fun xs H2 => QA (x :: xs) H2) : tCons ta tr σ H QA := k
theorem w_test (k : te σ H fun x H' => ∃ k, x = .bl k ∧ QB k H') : tTest te σ H QB := k
theorem w_B (k : te σ H fun x H' => ∃ k, x = .bl k ∧ QB k H') : tB te σ H QB := k
theorem w_bl {b : Bool} {R : Bool → Prop} (k : R b) : ∃ k, V.bl b = .bl k ∧ R k := ⟨b, rfl, k⟩
theorem w_and (k : t σ H fun c H1 => if c = true then u σ H1 QB else QB false H1) : tAnd t u σ H QB := k
theorem w_or (k : t σ H fun c H1 => if c = true then QB true H1 else u σ H1 QB) : tOr t u σ H QB := k
theorem w_not (k : t σ H fun c H1 => QB (!c) H1) : tNot t σ H QB := k
theorem w_andV (k : ta σ H fun x H1 => ∃ c, x = .bl c ∧ if c = true then tb σ H1 Q else Q (.bl false) H1) : tAndV ta tb σ H Q := k
theorem w_orV (k : ta σ H fun x H1 => ∃ c, x = .bl c ∧ if c = true then Q (.bl true) H1 else tb σ H1 Q) : tOrV ta tb σ H Q := k
theorem w_notV (k : ta σ H fun x H1 => ∃ c, x = .bl c ∧ Q (.bl (!c)) H1) : tNotV ta σ H Q := k
theorem w_if (k : t σ H fun c H1 => if c = true then ta σ H1 Q else tb σ H1 Q) : tIf t ta tb σ H Q := k
theorem w_seq (k : s1 { D with nx := s2 D } σ H) : tSeq s1 s2 D σ H := k
theorem w_asg (k : te σ H fun x H1 => g x σ H1 D.nx) : tAsg te g D σ H := k
theorem w_gname {QS : L2.St → Hp → Prop} (h : σ.set i (some v) = σ') (k : QS σ' H) : gName i v σ H QS := by
  show QS (σ.set i (some v)) H
  rw [h]
  exact k
theorem w_par {v w : V} {R : V → V → Prop} (k : R v w) : ∃ v' w', [v, w] = [v', w'] ∧ R v' w' := ⟨v, w, rfl, k⟩
theorem w_nx {QS : L2.St → Hp → Prop} (h : σ = σ') (k : QS σ' H) : QS σ H := h ▸ k
theorem w_parT {i j : Nat} (k : tr σ H fun vs H1 => ∃ v w, vs = [v, w] ∧ D.nx ((σ.set i (some v)).set j (some w)) H1) : tPar i j tr D σ H := k
theorem w_ret (k : te σ H D.rt) : tRet te D σ H := k
theorem w_drop (k : te σ H fun _ H1 => D.nx σ H1) : tDrop te D σ H := k
theorem w_ifS (k : t σ H fun b H1 => if b = true then s1 D σ H1 else s2 D σ H1) : tIfS t s1 s2 D σ H := k
theorem w_next (k : D.nx σ H) : tNext D σ H := k
theorem w_cb {r : List V → Hp → VK → Prop} (k : tr σ H fun vs H1 => r vs H1 Q) : tCB r tr σ H Q := k
theorem w_call {sp : Sp} {dvs : List V} {E : XK} (k : tr σ H fun vs H1 => sp (vs ++ dvs) H1 Q E) : tCall sp dvs E tr σ H Q := k
theorem w_aug {ti : TIp} (h : σ[i]? = some (some v)) (k : te σ H fun y H1 => ti v y H1 fun z H2 => D.nx (σ.set i (some z)) H2) : tAug i te ti D σ H := ⟨v, h, k⟩
theorem w_ip {f : Int → Int → Int} {a b : Int} (k : Q (.int (f a b)) H) : ipI f (.int a) (.int b) H Q := ⟨a, b, rfl, rfl, k⟩
theorem w_bm {T : String} {rm : V → List V → Hp → VK → Prop} (k : ta σ H fun x H1 => tyV K T x H1 ∧ tr σ H1 fun xs H2 => rm x xs H2 Q) : tBM K T rm ta tr σ H Q := k
theorem w_sl {rs : V → Option Int → Option Int → Hp → VK → Prop} {tl th : TO} (k : te σ H fun x H1 => tl σ H1 fun l H2 => th σ H2 fun u H3 => rs x l u H3 Q) : tSl rs te tl th σ H Q := k
theorem w_np {QO : Option Int → Hp → Prop} (k : QO none H) : tNoPart σ H QO := k
theorem w_pt {QO : Option Int → Hp → Prop} (k : te σ H fun x H1 => ∃ i, x = .int i ∧ QO (some i) H1) : tPart te σ H QO := k
theorem w_pti {R : Int → Prop} {a : Int} (k : R a) : ∃ i, V.int a = .int i ∧ R i := ⟨a, rfl, k⟩
theorem w_gsub {to ti : TE} {ts : TSet} {QS : L2.St → Hp → Prop} (k : to σ H fun o H1 => ti σ H1 fun i H2 => ts o i v H2 fun H3 => QS σ H3) : gSub to ti ts v σ H QS := k
theorem w_ixL {p : Addr} {xs : List V} {j : Int} (hs : SqL K H p xs) (ha : atI xs j = some v) (k : Q v H) : rIxL K (.ref p) (.int j) H Q := ⟨p, xs, j, v, rfl, rfl, hs, ha, k⟩
theorem w_ixT {p : Addr} {xs : List V} {j : Int} (hs : SqT K H p xs) (ha : atI xs j = some v) (k : Q v H) : rIxT K (.ref p) (.int j) H Q := ⟨p, xs, j, v, rfl, rfl, hs, ha, k⟩
theorem w_int {a : Int} {R : Int → Prop} {S : Bool → Prop} (k : R a) : (∃ i, [V.int a] = [V.int i] ∧ R i) ∨ ∃ k : Bool, [V.int a] = [V.bl k] ∧ S k := .inl ⟨a, rfl, k⟩
theorem w_dec {p : Prop} [Decidable p] {A B : Prop} (h1 : p → A) (h2 : ¬ p → B) : if decide p = true then A else B := by
  by_cases h : p
  · rw [decide_eq_true h, if_pos rfl]; exact h1 h
  · rw [decide_eq_false h, if_neg Bool.false_ne_true]; exact h2 h
theorem w_decN {p : Prop} [Decidable p] {A B : Prop} (h1 : ¬ p → A) (h2 : p → B) : if (!decide p) = true then A else B := by
  by_cases h : p
  · rw [decide_eq_true h]; simp; exact h2 h
  · rw [decide_eq_false h]; simp; exact h1 h
theorem w_bool {b : Bool} {A B : Prop} (h1 : b = true → A) (h2 : b = false → B) : if b = true then A else B := by
  cases b with
  | true => rw [if_pos rfl]; exact h1 rfl
  | false => rw [if_neg Bool.false_ne_true]; exact h2 rfl
theorem w_T {A B : Prop} (h : A) : if true = true then A else B := by rw [if_pos rfl]; exact h
theorem w_F {A B : Prop} (h : B) : if false = true then A else B := by rw [if_neg Bool.false_ne_true]; exact h
end
section
variable {K : PySem.W.Frag} {H : Hp} {Q : VK} {v : V} {d : D}
/-- the type's name of data -/
def tyName : D → String
  | .none => "NoneType"
  | .bool _ => "bool"
  | .int _ => "int"
  | .str _ => "str"
  | .list _ => "list"
  | .tuple _ => "tuple"
  | .dict _ => "dict"
theorem dp_ty (h : Dp K H v d) : TyX K H v (.type (tyName d)) := by
  cases h with
  | non => exact .base .non
  | bl b => exact .base (.bl b)
  | int i => exact .base (.int i)
  | str x => exact .base (.str x)
  | lst hs _ =>
    rcases hs with (hs | ⟨o, hs⟩) | ⟨o, its, n, hk, hc, _⟩
    · exact .base (.lst hs)
    · exact .base (.frz hs)
    · exact .kList hk hc
  | tup hs _ =>
    rcases hs with (hs | ⟨o, hs⟩) | ⟨o, its, n, hk, hc, _⟩
    · exact .base (.tup hs)
    · exact .fTuple hs
    · exact .kTuple hk hc
def isInt : D → Bool
  | .int _ => true
  | _ => false
def isBool : D → Bool
  | .bool _ => true
  | _ => false
def isTup : D → Bool
  | .tuple _ => true
  | _ => false
def isLst : D → Bool
  | .list _ => true
  | _ => false
theorem w_isInt (h : Dp K H v d) (k : Q (.bl (isInt d || isBool d)) H) : rIsi K [v, .ty "int"] H Q := by
  refine ⟨v, .ty "int", .type (tyName d), .type "int", isInt d || isBool d, rfl, .ty "int", dp_ty h, ?_, k⟩
  refine kit_ty ?_
  cases h <;> simp only [tyName, isInt, isBool, isTup, isLst, Bool.or_self, Bool.or_false, Bool.false_or, Bool.or_true, Bool.true_or] <;> decide +kernel
theorem w_isBool (h : Dp K H v d) (k : Q (.bl (isBool d)) H) : rIsi K [v, .ty "bool"] H Q := by
  refine ⟨v, .ty "bool", .type (tyName d), .type "bool", isBool d, rfl, .ty "bool", dp_ty h, ?_, k⟩
  refine kit_ty ?_
  cases h <;> simp only [tyName, isInt, isBool, isTup, isLst, Bool.or_self, Bool.or_false, Bool.false_or, Bool.or_true, Bool.true_or] <;> decide +kernel
theorem w_isTup (h : Dp K H v d) (k : Q (.bl (isTup d)) H) : rIsi K [v, .ty "tuple"] H Q := by
  refine ⟨v, .ty "tuple", .type (tyName d), .type "tuple", isTup d, rfl, .ty "tuple", dp_ty h, ?_, k⟩
  refine kit_ty ?_
  cases h <;> simp only [tyName, isInt, isBool, isTup, isLst, Bool.or_self, Bool.or_false, Bool.false_or, Bool.or_true, Bool.true_or] <;> decide +kernel
theorem kit2 {t a b : String} {x y : Bool} (h1 : kitB t a = some x) (h2 : kitB t b = some y) : PySem.W.kitAny K (.type t) [.type a, .type b] = some (x || y) := by
  refine kitAny_cons (kit_ty h1) (fun e => ?_) (fun e => by rw [e]; rfl)
  rw [e, Bool.false_or]
  exact kitAny_cons (kit_ty h2) (fun e2 => by rw [e2]; rfl) (fun e2 => e2)
theorem w_isTL (h : Dp K H v d) {p : Addr} (hp : H p = some (.tup [.ty "tuple", .ty "list"])) (k : Q (.bl (isTup d || isLst d)) H) : rIsiT K [v, .ref p] H Q := by
  refine ⟨v, p, _, .type (tyName d), [.type "tuple", .type "list"], isTup d || isLst d, rfl, hp, .cons (.ty _) (.cons (.ty _) .nil), dp_ty h, ?_, k⟩
  refine kit2 ?_ ?_ <;> cases h <;> simp only [tyName, isInt, isBool, isTup, isLst, Bool.or_self, Bool.or_false, Bool.false_or, Bool.or_true, Bool.true_or] <;> decide +kernel
theorem w_isLT (h : Dp K H v d) {p : Addr} (hp : H p = some (.tup [.ty "list", .ty "tuple"])) (k : Q (.bl (isLst d || isTup d)) H) : rIsiT K [v, .ref p] H Q := by
  refine ⟨v, p, _, .type (tyName d), [.type "list", .type "tuple"], isLst d || isTup d, rfl, hp, .cons (.ty _) (.cons (.ty _) .nil), dp_ty h, ?_, k⟩
  refine kit2 ?_ ?_ <;> cases h <;> simp only [tyName, isInt, isBool, isTup, isLst, Bool.or_self, Bool.or_false, Bool.false_or, Bool.or_true, Bool.true_or] <;> decide +kernel
end
theorem bo_f (b : Bool) : (false || b) = b := rfl
theorem bo_t (b : Bool) : (true || b) = true := rfl
theorem ba_f (b : Bool) : (false && b) = false := rfl
theorem ba_t (b : Bool) : (true && b) = b := rfl
theorem bn_t : (!true) = false := rfl
theorem bn_f : (!false) = true := rfl
theorem small2 {n : Nat} (h : n ≤ 1000000 := by decide) : n ≤ sizeLine := Nat.le_trans h (by rw [sizeLine_eq]; decide)
section
variable {K : PySem.W.Frag} {σ : L2.St} {H : Hp} {Q : VK} {tr : TA}
/-- a tuple, a list displayed -/
theorem w_disp {vs : List V} {H1 : Hp} {o : List V → HO} (hl : vs.length ≤ 1000000) (k : ∀ p, H1 p = none → Q (.ref p) (upd H1 p (o vs))) : vs.length ≤ sizeLine ∧ ∀ p, H1 p = none → Q (.ref p) (upd H1 p (o vs)) := ⟨small2 hl, k⟩
theorem w_dispT {vs : List V} {H1 : Hp} {R : Addr → Prop} (hl : vs.length ≤ 1000000) (k : ∀ p, H1 p = none → R p) : vs.length ≤ sizeLine ∧ ∀ p, H1 p = none → R p := ⟨small2 hl, k⟩
theorem w_tupT (k : tr σ H fun xs H1 => xs.length ≤ sizeLine ∧ ∀ p, H1 p = none → Q (.ref p) (upd H1 p (.tup xs))) : tTup tr σ H Q := k
theorem w_lstT (k : tr σ H fun xs H1 => xs.length ≤ sizeLine ∧ ∀ p, H1 p = none → Q (.ref p) (upd H1 p (.lst xs))) : tLst tr σ H Q := k
end
end TH

namespace TH
open PySem PySem.Spec PyProof.Rows L2
section
variable {K : PySem.W.Frag} {a b : Addr} {xs ys : List V}
theorem walk_zipT {n : Nat} (hn : n = min xs.length ys.length) : Walk (RZ.ItzT K a b) n (fun H => SqT K H a xs ∧ SqT K H b ys) (YPair (fun i => xs[i]?) (fun i => ys[i]?)) := by
  subst hn
  refine ⟨fun i _ hi q => ?_, fun _ q => ⟨xs, ys, q.1, q.2, by omega⟩, fun i H v H' _ q y => ?_⟩
  · have h1 : i < xs.length := by omega
    have h2 : i < ys.length := by omega
    exact ⟨xs, ys, xs[i], ys[i], q.1, q.2, by simp [h1], by simp [h2]⟩
  · obtain ⟨T, x, z, h1, h2, h3, h4, h5⟩ := y
    exact ⟨T, x, z, h1, h2, h3, h4 xs q.1, h5 ys q.2⟩
end
section
variable {J : It} {n : Nat} {G : Hp → Prop} {Y : Nat → Hp → V → Hp → Prop} {K : PySem.W.Frag} {g : TG} {tt : TT} {te : TE} {vs : List Nat} {σ : L2.St} {H H1 : Hp} {Dl : Addr} {Q : VK} {wi : TI}
theorem w_lc (k : wi σ H fun J H1 => ∀ D, H1 D = none → ∃ W : Nat → Nat → Hp → Prop, (∃ m, W 0 m (upd H1 D (.lst []))) ∧ ∀ i m H, W i m H →
      (J.stop i H ∧ Q (.ref D) H) ∨ (J.go i H ∧ ∃ Nx : Hp → Prop, (∀ H', Nx H' → ∃ m', m' < m ∧ W (i + 1) m' H') ∧ ∀ x H', J.yld i H x H' → g x (wipe σ vs) H' fun σ2 H2 => wipe σ2 vs = wipe σ vs ∧ tt σ2 H2 fun b H3 =>
        if b = true then te σ2 H3 fun y H4 => ∃ acc, H4 D = some (.lst acc) ∧ acc.length < sizeLine ∧ Nx (upd H4 D (.lst (acc ++ [y]))) else Nx H3)) : tLc wi g tt te vs σ H Q := k
/-- the data of the turns that are kept -/
def made (n : Nat) (keep : Nat → Bool) (gd : Nat → D) : List D := ((List.range n).filter keep).map gd
theorem made_yes {n : Nat} {f : Nat → Bool} {v : Nat → D} (h : f n = true) : made (n + 1) f v = made n f v ++ [v n] := by
  unfold made
  rw [List.range_succ, List.filter_append, List.map_append, List.filter_cons, if_pos h] <;> rfl
theorem made_no {n : Nat} {f : Nat → Bool} {v : Nat → D} (h : f n = false) : made (n + 1) f v = made n f v := by
  unfold made
  rw [List.range_succ, List.filter_append, List.map_append, List.filter_cons, if_neg (by rw [h]; decide)]
  show _ ++ [] = _
  rw [List.append_nil]
theorem made_len (n : Nat) (f : Nat → Bool) (v : Nat → D) : (made n f v).length ≤ n := by
  unfold made
  rw [List.length_map]
  have h := List.length_filter_le f (List.range n)
  rw [List.length_range] at h
  exact h
theorem made_all (n : Nat) (v : Nat → D) : made n (fun _ => true) v = (List.range n).map v := by
  unfold made
  rw [List.filter_eq_self.mpr (fun _ _ => rfl)]
theorem made_imm {n : Nat} {f : Nat → Bool} {v : Nat → D} (h : ∀ i, imm (v i) = true) : immAll (made n f v) = true := by
  rw [immAll_iff]
  intro d hd
  obtain ⟨i, _, rfl⟩ := List.mem_map.mp hd
  exact h i
theorem lc_it' {σ0 : L2.St} {C : L2.St → Prop} {Qd : Hp → Prop} (w : Walk J n G Y) (Pv : Nat → Hp → Prop) (h0 : Pv 0 (upd H1 Dl (.lst []))) (hG : ∀ i H, i ≤ n → Pv i H → G H)
    (hs : ∀ i x H H', i < n → Pv i H → Y i H x H' → g x σ0 H' fun σ2 H2 => C σ2 ∧ tt σ2 H2 fun b H3 =>
      if b = true then te σ2 H3 fun y H4 => ∃ acc, H4 Dl = some (.lst acc) ∧ acc.length < sizeLine ∧ Pv (i + 1) (upd H4 Dl (.lst (acc ++ [y]))) else Pv (i + 1) H3) (hd : ∀ H, Pv n H → Qd H) :
    ∃ W : Nat → Nat → Hp → Prop, (∃ m, W 0 m (upd H1 Dl (.lst []))) ∧ ∀ i m H, W i m H →
      (J.stop i H ∧ Qd H) ∨ (J.go i H ∧ ∃ Nx : Hp → Prop, (∀ H', Nx H' → ∃ m', m' < m ∧ W (i + 1) m' H') ∧ ∀ x H', J.yld i H x H' → g x σ0 H' fun σ2 H2 => C σ2 ∧ tt σ2 H2 fun b H3 =>
        if b = true then te σ2 H3 fun y H4 => ∃ acc, H4 Dl = some (.lst acc) ∧ acc.length < sizeLine ∧ Nx (upd H4 Dl (.lst (acc ++ [y]))) else Nx H3) := by
  refine ⟨fun i m H => m = n - i ∧ i ≤ n ∧ Pv i H, ⟨n, by simp, Nat.zero_le _, h0⟩, ?_⟩
  rintro i m H ⟨rfl, hi, p⟩
  have q := hG i H hi p
  by_cases hlt : i < n
  · refine .inr ⟨w.goes i H hlt q, Pv (i + 1), fun H' p' => ⟨n - (i + 1), by omega, rfl, hlt, p'⟩, fun x H' y => hs i x H H' hlt p (w.yields i H x H' hlt q y)⟩
  · have e : i = n := by omega
    subst e
    exact .inl ⟨w.stops H q, hd H p⟩
/-- what a comprehension makes, whose turns keep all that was tracked -/
theorem lc_data {σ0 : L2.St} {C : L2.St → Prop} {Qd : Hp → Prop} (w : Walk J n G Y) (keep : Nat → Bool) (gd : Nat → D) (himm : ∀ i, imm (gd i) = true) (hG : ∀ H', Ex H1 H' → G H') (hD : H1 Dl = none) (hn : n ≤ 1000000)
    (hs : ∀ i x H' H'', i < n → Ex H1 H' → Y i H' x H'' → ∀ (R : VK) (R0 : Hp → Prop), (keep i = true → ∀ v H3, Ex H' H3 → Dp K H3 v (gd i) → R v H3) → (keep i = false → ∀ H3, Ex H' H3 → R0 H3) →
      g x σ0 H'' fun σ2 H2 => C σ2 ∧ tt σ2 H2 fun b H3 => if b = true then te σ2 H3 R else R0 H3)
    (k : ∀ H' ws, Ex H1 H' → H' Dl = some (.lst ws) → DpAll K H' ws (made n keep gd) → Qd H') :
    ∃ W : Nat → Nat → Hp → Prop, (∃ m, W 0 m (upd H1 Dl (.lst []))) ∧ ∀ i m H, W i m H →
      (J.stop i H ∧ Qd H) ∨ (J.go i H ∧ ∃ Nx : Hp → Prop, (∀ H', Nx H' → ∃ m', m' < m ∧ W (i + 1) m' H') ∧ ∀ x H', J.yld i H x H' → g x σ0 H' fun σ2 H2 => C σ2 ∧ tt σ2 H2 fun b H3 =>
        if b = true then te σ2 H3 fun y H4 => ∃ acc, H4 Dl = some (.lst acc) ∧ acc.length < sizeLine ∧ Nx (upd H4 Dl (.lst (acc ++ [y]))) else Nx H3) := by
  refine lc_it' w (fun i H' => Ex H1 H' ∧ ∃ ws, H' Dl = some (.lst ws) ∧ DpAll K H' ws (made i keep gd)) ⟨Ex.new hD, [], upd_same, .nil⟩ (fun i H' _ p => hG H' p.1) (fun i x H' H'' hi p y => ?_) (fun H' p => ?_)
  · obtain ⟨p1, ws, p2, p3⟩ := p
    refine hs i x H' H'' hi p1 y _ _ (fun hk v H3 e3 hv => ?_) (fun hk H3 e3 => ?_)
    · have q2 : H3 Dl = some (.lst ws) := e3 _ _ p2
      refine ⟨ws, q2, Nat.lt_of_le_of_lt (by rw [dpa_len p3]; exact made_len i keep gd) (Nat.lt_of_lt_of_le hi (small2 hn)), (p1.trans e3).mut hD, ws ++ [v], upd_same, ?_⟩
      rw [made_yes hk]
      exact dpa_snoc ((Tx.updL q2).dpa (made_imm himm) (e3.dpa p3)) ((Tx.updL q2).dp (himm i) hv)
    · refine ⟨p1.trans e3, ws, e3 _ _ p2, ?_⟩
      rw [made_no hk]
      exact e3.dpa p3
  · obtain ⟨p1, ws, p2, p3⟩ := p
    exact k H' ws p1 p2 p3
theorem for_go {nxD : L2.St → Hp → Prop} {rtD : VK} {tb : TS} (w : Walk J n G Y) (Pv : Nat → L2.St → Hp → Prop) (h0 : Pv 0 σ H) (hG : ∀ i σ H, i ≤ n → Pv i σ H → G H)
    (hs : ∀ i x σ H H', i < n → Pv i σ H → Y i H x H' → g x σ H' fun σ2 H2 => tb { nx := Pv (i + 1), rt := rtD, bk := nxD, ct := Pv (i + 1) } σ2 H2) (hd : ∀ σ H, Pv n σ H → nxD σ H) :
    ∃ W : Nat → Nat → L2.St → Hp → Prop, (∃ m, W 0 m σ H) ∧ ∀ i m σ H, W i m σ H →
      (J.stop i H ∧ nxD σ H) ∨ (J.go i H ∧ ∃ N : L2.St → Hp → Prop, (∀ σ' H', N σ' H' → ∃ m', m' < m ∧ W (i + 1) m' σ' H') ∧ ∀ x H', J.yld i H x H' → g x σ H' fun σ2 H2 => tb { nx := N, rt := rtD, bk := nxD, ct := N } σ2 H2) :=
  for_it (D := { nx := nxD, rt := rtD }) w Pv h0 hG hs hd
theorem w_gtup {a : Addr} {xs : List V} {m : Nat} {t : TGs} {QS : L2.St → Hp → Prop} (h : SqT K H a xs) (hl : xs.length = m) (k : t xs σ H QS) : gTup K m t (.ref a) σ H QS := ⟨a, xs, rfl, h, hl, k⟩
theorem w_gtup1 {a : Addr} {x : V} {t : TGs} {QS : L2.St → Hp → Prop} (h : H a = some (.tup [x])) (k : t [x] σ H QS) : gTup K 1 t (.ref a) σ H QS := ⟨a, _, rfl, sqT h, rfl, k⟩
theorem w_gtup2 {a : Addr} {x y : V} {t : TGs} {QS : L2.St → Hp → Prop} (h : H a = some (.tup [x, y])) (k : t [x, y] σ H QS) : gTup K 2 t (.ref a) σ H QS := ⟨a, _, rfl, sqT h, rfl, k⟩
theorem w_gtup3 {a : Addr} {x y z : V} {t : TGs} {QS : L2.St → Hp → Prop} (h : H a = some (.tup [x, y, z])) (k : t [x, y, z] σ H QS) : gTup K 3 t (.ref a) σ H QS := ⟨a, _, rfl, sqT h, rfl, k⟩
theorem w_gcons {v : V} {r : List V} {t : TG} {u : TGs} {QS : L2.St → Hp → Prop} (k : t v σ H fun σ' H' => u r σ' H' QS) : gCons t u (v :: r) σ H QS := ⟨v, r, rfl, k⟩
theorem w_gnil {QS : L2.St → Hp → Prop} (k : QS σ H) : gNil [] σ H QS := ⟨rfl, k⟩
theorem w_yes {QB : Bool → Hp → Prop} (k : QB true H) : tYes σ H QB := k
theorem ix5 {n : Nat} (a b c d e : V) : ixN [a, b, c, d, e].length (n : Int) = if n < 5 then some n else none := by
  unfold ixN
  rw [if_pos (by omega)]
  show (if (n : Int) < ((5 : Nat) : Int) then some n else none) = _
  by_cases h : n < 5
  · rw [if_pos h, if_pos (by omega)]
  · rw [if_neg h, if_neg (by omega)]
theorem w_set1 {p : Addr} {a b c d e v : V} {QH : Hp → Prop} (h : H p = some (.lst [a, b, c, d, e])) (k : QH (upd H p (.lst [a, v, c, d, e]))) : rSetL (.ref p) (.int 1) v H QH := ⟨p, _, 1, 1, rfl, rfl, h, ix5 (n := 1) a b c d e, k⟩
theorem w_set2 {p : Addr} {a b c d e v : V} {QH : Hp → Prop} (h : H p = some (.lst [a, b, c, d, e])) (k : QH (upd H p (.lst [a, b, v, d, e]))) : rSetL (.ref p) (.int 2) v H QH := ⟨p, _, 2, 2, rfl, rfl, h, ix5 (n := 2) a b c d e, k⟩
theorem w_set3 {p : Addr} {a b c d e v : V} {QH : Hp → Prop} (h : H p = some (.lst [a, b, c, d, e])) (k : QH (upd H p (.lst [a, b, c, v, e]))) : rSetL (.ref p) (.int 3) v H QH := ⟨p, _, 3, 3, rfl, rfl, h, ix5 (n := 3) a b c d e, k⟩
theorem w_set4 {p : Addr} {a b c d e v : V} {QH : Hp → Prop} (h : H p = some (.lst [a, b, c, d, e])) (k : QH (upd H p (.lst [a, b, c, d, v]))) : rSetL (.ref p) (.int 4) v H QH := ⟨p, _, 4, 4, rfl, rfl, h, ix5 (n := 4) a b c d e, k⟩
/-- tuple(a list) -/
theorem w_tupleL {p : Addr} {ys : List V} (h : SqL K H p ys) (k : ∀ l, H l = none → Q (.ref l) (upd H l (.tup ys))) :
    (fun xs H Q => ∃ p ys, xs = [V.ref p] ∧ ((SqL K H p ys ∧ ∀ l, H l = none → Q (.ref l) (upd H l (.tup ys))) ∨ (SqT K H p ys ∧ Q (.ref p) H))) [V.ref p] H Q := ⟨p, ys, rfl, .inl ⟨h, k⟩⟩
end
section
variable {K : PySem.W.Frag} {σ : L2.St} {H : Hp} {tl : TE} {ta : TA} {R : It → Hp → Prop}
theorem w_itup (k : tl σ H fun x H1 => ∃ a, x = .ref a ∧ (∃ xs, SqT K H1 a xs) ∧ R (Itt K a) H1) : iTup K tl σ H R := k
theorem w_ilist (k : tl σ H fun x H1 => ∃ a, x = .ref a ∧ (∃ xs, SqL K H1 a xs) ∧ R (Itl K a) H1) : iList K tl σ H R := k
theorem w_ienum (k : ta σ H fun vs H1 => ∃ a xs, vs = [.ref a] ∧ ((SqL K H1 a xs ∧ R (Ite K a) H1) ∨ (SqT K H1 a xs ∧ R (IteT K a) H1))) : iEnumA K ta σ H R := k
theorem w_izip (k : ta σ H fun vs H1 => ∃ a b xs ys, vs = [.ref a, .ref b] ∧ ((SqL K H1 a xs ∧ SqL K H1 b ys ∧ R (Itz K a b) H1) ∨ (SqT K H1 a xs ∧ SqT K H1 b ys ∧ R (RZ.ItzT K a b) H1))) : RZ.iZipA K ta σ H R := k
theorem w_irng1 (k : ta σ H fun vs H1 => ∃ j : Int, vs = [.int j] ∧ -(2 ^ 62) ≤ j ∧ j < 2 ^ 62 ∧ R (Itr 0 j.toNat) H1) : iRng1 ta σ H R := k
theorem w_irng2 (k : ta σ H fun vs H1 => ∃ i j : Int, vs = [.int i, .int j] ∧ (-(2 ^ 62) ≤ i ∧ i < 2 ^ 62 ∧ -(2 ^ 62) ≤ j ∧ j < 2 ^ 62) ∧ R (Itr i (j - i).toNat) H1) : iRng2 ta σ H R := k
theorem w_for {g : TG} {tb : TS} {wi : TI} {D : Ends} (k : wi σ H fun J H1 => ∃ W : Nat → Nat → L2.St → Hp → Prop, (∃ m, W 0 m σ H1) ∧ ∀ i m σ H, W i m σ H →
      (J.stop i H ∧ D.nx σ H) ∨ (J.go i H ∧ ∃ N : L2.St → Hp → Prop, (∀ σ' H', N σ' H' → ∃ m', m' < m ∧ W (i + 1) m' σ' H') ∧ ∀ x H', J.yld i H x H' → g x σ H' fun σ2 H2 => tb { D with nx := N, ct := N, bk := D.nx } σ2 H2)) : tFor wi g tb D σ H := k
end
/-- items at places -/
theorem atI_at {xs : List V} {j : Nat} {v : V} (h : xs[j]? = some v) : atI xs (j : Int) = some v := by
  have hj : j < xs.length := (List.getElem?_eq_some_iff.mp h).1
  unfold atI ixN
  rw [if_pos (by omega), if_pos (by omega)]
  simpa using h
theorem atI_int {ns : List Int} {j : Nat} {x : Int} (h : ns[j]? = some x) : atI (ns.map V.int) (j : Int) = some (.int x) := atI_at (by rw [List.getElem?_map, h]; rfl)
theorem ints_at {ns : List Int} {i : Nat} {v : V} (h : (ns.map V.int)[i]? = some v) : ∃ x, ns[i]? = some x ∧ v = .int x := by
  rw [List.getElem?_map] at h
  cases e : ns[i]? with
  | none => rw [e] at h; cases h
  | some x => rw [e] at h; exact ⟨x, rfl, (Option.some.inj h).symm⟩
theorem CDiv.mk {i j : Int} (h1 : 0 < j) (h2 : j < 1073741824) : CDiv i j := ⟨h1, h2⟩
theorem CPow.mk {i j : Int} (h1 : 0 ≤ j) (h2 : j ≤ 1000000) (h3 : i.natAbs < 2 ^ 64) : CPow i j := ⟨h1, h2, h3⟩
theorem CMul.l {a b : Int} (h1 : -18446744073709551616 < a) (h2 : a < 18446744073709551616) : CMul a b := .inl ⟨h1, h2⟩
theorem CMul.r {a b : Int} (h1 : -18446744073709551616 < b) (h2 : b < 18446744073709551616) : CMul a b := .inr ⟨h1, h2⟩
section
variable {K : PySem.W.Frag} {H : Hp}
theorem dpa_bools_inv : ∀ {bs : List Bool} {vs : List V}, DpAll K H vs (bs.map PyData.bool) → vs = bs.map V.bl
  | [], _, .nil => rfl
  | n :: ns, _, .cons h t => by
    cases h
    rw [dpa_bools_inv t]
    rfl
theorem dp_rowT {a : Addr} {ns : List Int} (h : Dp K H (.ref a) (row ns)) : SqT K H a (ns.map V.int) := by
  obtain ⟨b, e, h2⟩ := dp_row h
  cases e
  exact h2
theorem dp_tup {v : V} {ds : List D} (h : Dp K H v (.tuple ds)) : ∃ a vs, v = .ref a ∧ SqT K H a vs ∧ DpAll K H vs ds := by
  cases h with
  | tup hs ha => exact ⟨_, _, rfl, hs, ha⟩
theorem dp_lst {v : V} {ds : List D} (h : Dp K H v (.list ds)) : ∃ a vs, v = .ref a ∧ SqL K H a vs ∧ DpAll K H vs ds := by
  cases h with
  | lst hs ha => exact ⟨_, _, rfl, hs, ha⟩
theorem dp_int {v : V} {i : Int} (h : Dp K H v (.int i)) : v = .int i := by cases h; rfl
end
theorem range_map {α β : Type} (d : α) (f : α → β) : ∀ xs : List α, (List.range xs.length).map (fun i => f (xs.getD i d)) = xs.map f := fun xs => by
  apply List.ext_getElem
  · simp
  · intro i h1 h2
    have hi : i < xs.length := by simpa using h1
    simp [List.getD_eq_getElem?_getD, hi]
theorem range_zip {α β γ : Type} (d : α) (e : β) (f : α → β → γ) (xs : List α) (ys : List β) : (List.range (min xs.length ys.length)).map (fun i => f (xs.getD i d) (ys.getD i e)) = List.zipWith f xs ys := by
  apply List.ext_getElem
  · simp
  · intro i h1 h2
    have hi : i < xs.length ∧ i < ys.length := by
      have h1' : i < min xs.length ys.length := by simpa using h1
      omega
    simp [List.getD_eq_getElem?_getD, hi.1, hi.2]
theorem getD_of {α : Type} {xs : List α} {i : Nat} {x d : α} (h : xs[i]? = some x) : xs.getD i d = x := by rw [List.getD_eq_getElem?_getD, h]; rfl
end TH

namespace TH
open PySem PySem.Spec PyProof.Rows L2
/-! ### a list whose items are told by a word alone -/
def LstP (h : Addr) (ψ : List V → Prop) : HO := .ext fun hp => ∃ xs : List V, ψ xs ∧ xs.length ≤ sizeLine ∧ ∃ (its : List Value) (n : Nat), Vals xs its ∧ hp.get? h = some { cls := .type "list", data := .seq its.toArray n }
section
variable {P : Program} {w : World} {H H' : Hp} {hp hp' : Heap} {h : Addr} {ψ : List V → Prop} {xs : List V} {fs ex : List Addr}
theorem lstP_ok (q : ψ xs) (o : ObjOk P w H hp h (.lst xs)) : ObjOk P w H' hp h (LstP h ψ) := by
  obtain ⟨z, its, n, r, e⟩ := o
  exact ⟨⟨xs, q, z, its, n, r, e⟩, ⟨_, e⟩, fun h1 h2 ⟨ys, q1, z1, its1, n1, r1, e1⟩ k => ⟨ys, q1, z1, its1, n1, r1, k _ e1⟩⟩
theorem lstP_of (o : ObjOk P w H hp h (LstP h ψ)) : ∃ xs, ψ xs ∧ ∀ H', ObjOk P w H' hp h (.lst xs) := by
  obtain ⟨⟨xs, q, z, its, n, r, e⟩, _⟩ := o
  exact ⟨xs, q, fun _ => ⟨z, its, n, r, e⟩⟩
/-- the heap told otherwise at h -/
theorem hok_re {o u : HO} (x : HOk P w H hp) (e : H h = some o) (ho : ∀ y, o ≠ .own y) (ht : ∀ ys, o ≠ .tup ys) (new : ObjOk P w (upd H h u) hp h u) : HOk P w (upd H h u) hp := fun b v q => by
  by_cases hb : b = h
  · subst hb
    rw [upd_same] at q
    cases q
    exact new
  · rw [upd_ne hb] at q
    refine (x b v q).stay (fun _ _ _ r => r) (fun c r => ?_) (fun c ys r => ?_)
    · rw [upd_ne (fun z => by rw [z, e] at r; exact ho _ (Option.some.inj r))]
      exact r
    · rw [upd_ne (fun z => by rw [z, e] at r; exact ht _ (Option.some.inj r))]
      exact r
theorem un_in {xs : List V} {u : HO} (e : H h = some (LstP h ψ)) (x : Un fs ex (upd H h (.lst xs)) H' hp hp') : Un fs ex H (upd H' h u) hp hp' where
  keep := fun b o q n hb hx => x.keep b o q (by rw [upd_ne (fun z => by rw [z, e] at n; cases n)]; exact n) hb hx
  slot := fun b o q n hb hx => x.slot b o q (by rw [upd_ne (fun z => by rw [z, e] at n; cases n)]; exact n) hb hx
  free := fun b o q n hx => by
    have hb : b ≠ h := fun z => by rw [z, e] at n; cases n
    rw [upd_ne hb]
    exact x.free b o q (by rw [upd_ne hb]; exact n) hx
  there := x.there
  tups := fun b ys q => by
    have hb : b ≠ h := fun z => by rw [z, e] at q; cases q
    rw [upd_ne hb]
    exact x.tups b ys (by rw [upd_ne hb]; exact q)
  frzs := fun b o v q => by
    have hb : b ≠ h := fun z => by rw [z, e] at q; cases q
    rw [upd_ne hb]
    exact x.frzs b o v (by rw [upd_ne hb]; exact q)
  tbls := fun b ps q => by
    have hb : b ≠ h := fun z => by rw [z, e] at q; cases q
    rw [upd_ne hb]
    exact x.tbls b ps (by rw [upd_ne hb]; exact q)
theorem un_out {xs : List V} {u : HO} (e : H' h = some (.lst xs)) (hn : H h = none) (x : Un fs [] H H' hp hp') : Un fs [] H (upd H' h u) hp hp' where
  keep := x.keep
  slot := x.slot
  free := fun b o q n hx => by
    have z := x.free b o q n hx
    rw [upd_ne (fun y => by rw [y, e] at z; cases z)]
    exact z
  there := x.there
  tups := fun b ys q => by
    rw [upd_ne (fun z => by rw [z, hn] at q; cases q)]
    exact x.tups b ys q
  frzs := fun b o v q => by
    rw [upd_ne (fun z => by rw [z, hn] at q; cases q)]
    exact x.frzs b o v q
  tbls := fun b ps q => by
    rw [upd_ne (fun z => by rw [z, hn] at q; cases q)]
    exact x.tbls b ps q
end
section
variable {P : Program} {w : World} {K : PySem.W.Frag} {mg : Str → Option Value} {base : Heap} {k : Nat} {f : Addr} {fd : FuncData} {ps : List Str} {sp sp' : Sp}
/-- a def that changes such a list, told from within -/
theorem fn_hide (F : FnOk P w K mg base C8.CX0 k f fd ps sp)
    (hs : ∀ vs H Q E, sp' vs H Q E → ∃ (h : Addr) (ψ : List V → Prop), H h = some (LstP h ψ) ∧ (∃ xs, ψ xs) ∧ ∀ xs, ψ xs → sp vs (upd H h (.lst xs)) (fun v H' => ∃ xs', ψ xs' ∧ H' h = some (.lst xs') ∧ Q v (upd H' h (LstP h ψ))) E) :
    FnOk P w K mg base C8.CX0 k f fd ps sp' := by
  refine ⟨fun vs H Q E q => ?_, fun A outer s H args us vs Q E hr e0 hb hv q => ?_⟩
  · obtain ⟨h, ψ, _, ⟨xs, hx⟩, g⟩ := hs vs H Q E q
    exact F.len _ _ _ _ (g xs hx)
  · obtain ⟨h, ψ, e, _, g⟩ := hs vs H Q E q
    obtain ⟨xs, hx, ob⟩ := lstP_of (e0.hok h _ e)
    have nh : ∀ b, H b = none → b ≠ h := fun b n z => by rw [z, e] at n; cases n
    have e1 : Env0 P w K mg base A outer s (upd H h (.lst xs)) := ⟨e0.frames, e0.mod, fun b o q => ⟨(e0.bs b o q).1, by rw [upd_ne (nh b (e0.bs b o q).2)]; exact (e0.bs b o q).2⟩, e0.bsz, e0.funs, fun b hb => by rw [upd_ne (nh b (e0.frf b hb))]; exact e0.frf b hb,
      hok_re e0.hok e (fun _ z => by cases z) (fun _ z => by cases z) (ob _), e0.bare⟩
    refine codeAny_mono (F.run A outer s _ args us vs _ E hr e1 hb hv (g xs hx)) fun r s' c => ?_
    cases r with
    | error e => exact c
    | ok fl =>
      cases fl with
      | next => exact c
      | brk => exact c
      | cont => exact c
      | ret u =>
        obtain ⟨v, H', os, bare, un, hok, rv, xs', hx', eh, qq⟩ := c
        exact ⟨v, _, os, bare, un_in e un, hok_re hok eh (fun _ z => by cases z) (fun _ z => by cases z) (lstP_ok hx' (hok h _ eh)), rv, qq⟩
/-- a def that hands back such a list -/
theorem fn_seal (F : FnOk P w K mg base C8.CX0 k f fd ps sp)
    (hs : ∀ vs H Q E, sp' vs H Q E → sp vs H (fun v H' => ∃ (h : Addr) (ψ : List V → Prop) (xs : List V), H h = none ∧ ψ xs ∧ H' h = some (.lst xs) ∧ Q v (upd H' h (LstP h ψ))) E) :
    FnOk P w K mg base C8.CX0 k f fd ps sp' := by
  refine ⟨fun vs H Q E q => F.len _ _ _ _ (hs vs H Q E q), fun A outer s H args us vs Q E hr e0 hb hv q => ?_⟩
  refine codeAny_mono (F.run A outer s _ args us vs _ E hr e0 hb hv (hs vs H Q E q)) fun r s' c => ?_
  cases r with
  | error e => exact c
  | ok fl =>
    cases fl with
    | next => exact c
    | brk => exact c
    | cont => exact c
    | ret u =>
      obtain ⟨v, H', os, bare, un, hok, rv, h, ψ, xs, hn, hx, eh, qq⟩ := c
      exact ⟨v, _, os, bare, un_out eh hn un, hok_re hok eh (fun _ z => by cases z) (fun _ z => by cases z) (lstP_ok hx (hok h _ eh)), rv, qq⟩
theorem cal_hide {x : Str} (F : C8.Cal P w K mg base k x sp [])
    (hs : ∀ vs H Q E, sp' vs H Q E → ∃ (h : Addr) (ψ : List V → Prop), H h = some (LstP h ψ) ∧ (∃ xs, ψ xs) ∧ ∀ xs, ψ xs → sp vs (upd H h (.lst xs)) (fun v H' => ∃ xs', ψ xs' ∧ H' h = some (.lst xs') ∧ Q v (upd H' h (LstP h ψ))) E) :
    C8.Cal P w K mg base k x sp' [] := by
  obtain ⟨f, fd, ps, ds, G, a, b, c, d⟩ := F.ex
  exact ⟨f, fd, ps, ds, fn_hide G hs, a, b, c, d⟩
theorem cal_seal {x : Str} (F : C8.Cal P w K mg base k x sp [])
    (hs : ∀ vs H Q E, sp' vs H Q E → sp vs H (fun v H' => ∃ (h : Addr) (ψ : List V → Prop) (xs : List V), H h = none ∧ ψ xs ∧ H' h = some (.lst xs) ∧ Q v (upd H' h (LstP h ψ))) E) :
    C8.Cal P w K mg base k x sp' [] := by
  obtain ⟨f, fd, ps, ds, G, a, b, c, d⟩ := F.ex
  exact ⟨f, fd, ps, ds, fn_seal G hs, a, b, c, d⟩
end
end TH

namespace TH
open PySem PySem.Spec PyProof.Rows L2
section
variable {K : PySem.W.Frag} {σ : L2.St} {H : Hp} {Q : VK} {l : Addr} {xs : List V} {tr : TA}
theorem tyL (h : H l = some (.lst xs)) : tyV K "list" (.ref l) H := .inl ⟨rfl, _, sqL h⟩
theorem w_app {y : V} (h : H l = some (.lst xs)) (hz : xs.length < 1000000) (k : Q .non (upd H l (.lst (xs ++ [y])))) : rAppend (.ref l) [y] H Q := ⟨l, xs, y, rfl, rfl, h, Nat.lt_of_lt_of_le hz (small2 (Nat.le_refl _)), k⟩
theorem w_popAt {j : Nat} {y : V} (h : H l = some (.lst xs)) (hy : xs[j]? = some y) (hz : xs.length ≤ 1000000) (k : Q y (upd H l (.lst (xs.eraseIdx j)))) : rPopAt (.ref l) [.int (j : Nat)] H Q := by
  have hj : j < xs.length := (List.getElem?_eq_some_iff.mp hy).1
  refine ⟨l, xs, j, j, y, rfl, rfl, h, by omega, by omega, ?_, hy, k⟩
  unfold seqIndex?
  have h1 : ¬ ((j : Int) < 0) := by omega
  have h2 : ((0 : Int) ≤ (j : Int) && decide ((j : Int) < (xs.length : Int))) = true := by simp; omega
  simp only [if_neg h1]
  rw [if_pos h2]
  rfl
theorem w_isrng {j : Int} {R : Int → Prop} (h0 : -1000000000 ≤ j) (h1 : j ≤ 1000000000) (k : R j) : ∃ j' : Int, [V.int j] = [.int j'] ∧ -(2 ^ 62) ≤ j' ∧ j' < 2 ^ 62 ∧ R j' := ⟨j, rfl, by omega, by omega, k⟩
theorem w_parT3 {i j m : Nat} {D : Ends} (k : tr σ H fun vs H1 => ∃ u v w, vs = [u, v, w] ∧ D.nx (((σ.set i (some u)).set j (some v)).set m (some w)) H1) : tPar3 i j m tr D σ H := k
theorem w_par3 {u v w : V} {R : V → V → V → Prop} (k : R u v w) : ∃ u' v' w', [u, v, w] = [u', v', w'] ∧ R u' v' w' := ⟨u, v, w, rfl, k⟩
/-- items in another order -/
theorem dpa_perm {xs ys : List V} (p : ys.Perm xs) : ∀ {ds : List D}, DpAll K H xs ds → ∃ es, es.Perm ds ∧ DpAll K H ys es := by
  induction p with
  | nil => intro ds h; cases h; exact ⟨[], .nil, .nil⟩
  | cons x _ ih =>
    intro ds h
    cases h with
    | cons h1 h2 =>
      obtain ⟨es, p1, p2⟩ := ih h2
      exact ⟨_ :: es, .cons _ p1, .cons h1 p2⟩
  | swap x y _ =>
    intro ds h
    cases h with
    | cons h1 h2 => cases h2 with
      | cons h3 h4 => exact ⟨_, .swap _ _ _, .cons h3 (.cons h1 h4)⟩
  | trans _ _ ih1 ih2 =>
    intro ds h
    obtain ⟨es, p1, p2⟩ := ih2 h
    obtain ⟨fs, p3, p4⟩ := ih1 p2
    exact ⟨fs, p3.trans p1, p4⟩
theorem erase_perm {α : Type} : ∀ {xs : List α} {j : Nat} {y : α}, xs[j]? = some y → (y :: xs.eraseIdx j).Perm xs
  | [], _, _, h => by simp at h
  | x :: xs, 0, y, h => by cases h; exact .refl _
  | x :: xs, j + 1, y, h => .trans (.swap _ _ _) (.cons x (erase_perm (xs := xs) (j := j) (y := y) (by simpa using h)))
/-- what is left and what was taken, after one more -/
theorem perm_take {α : Type} {xs fd lf : List α} {j : Nat} {y : α} (p : (fd ++ lf).Perm xs) (h : lf[j]? = some y) : ((fd ++ [y]) ++ lf.eraseIdx j).Perm xs := by
  refine .trans ?_ p
  rw [List.append_assoc]
  refine List.Perm.append_left fd ?_
  exact erase_perm h
end
section
variable {J : It} {n : Nat} {G : Hp → Prop} {Y : Nat → Hp → V → Hp → Prop} {K : PySem.W.Frag} {g : TG} {te : TE} {H1 : Hp} {Dl : Addr}
/-- what a comprehension without if makes, whose items are told by a word alone -/
theorem lc_some {σ0 : L2.St} {C : L2.St → Prop} {Qd : Hp → Prop} (w : Walk J n G Y) (φ : Nat → D → Prop) (himm : ∀ i d, φ i d → imm d = true) (hG : ∀ H', Ex H1 H' → G H') (hD : H1 Dl = none) (hn : n ≤ 1000000)
    (hs : ∀ i x H' H'', i < n → Ex H1 H' → Y i H' x H'' → ∀ (R : VK), (∀ v d H3, Ex H' H3 → φ i d → Dp K H3 v d → R v H3) → g x σ0 H'' fun σ2 H2 => C σ2 ∧ te σ2 H2 R)
    (k : ∀ H' ws ds, Ex H1 H' → H' Dl = some (.lst ws) → ds.length = n → (∀ i d, ds[i]? = some d → φ i d) → DpAll K H' ws ds → Qd H') :
    ∃ W : Nat → Nat → Hp → Prop, (∃ m, W 0 m (upd H1 Dl (.lst []))) ∧ ∀ i m H, W i m H →
      (J.stop i H ∧ Qd H) ∨ (J.go i H ∧ ∃ Nx : Hp → Prop, (∀ H', Nx H' → ∃ m', m' < m ∧ W (i + 1) m' H') ∧ ∀ x H', J.yld i H x H' → g x σ0 H' fun σ2 H2 => C σ2 ∧ tYes σ2 H2 fun b H3 =>
        if b = true then te σ2 H3 fun y H4 => ∃ acc, H4 Dl = some (.lst acc) ∧ acc.length < sizeLine ∧ Nx (upd H4 Dl (.lst (acc ++ [y]))) else Nx H3) := by
  refine lc_it' w (fun i H' => Ex H1 H' ∧ ∃ ws ds, H' Dl = some (.lst ws) ∧ ds.length = i ∧ (∀ j d, ds[j]? = some d → φ j d) ∧ DpAll K H' ws ds) ⟨Ex.new hD, [], [], upd_same, rfl, fun j d h => by simp at h, .nil⟩ (fun i H' _ p => hG H' p.1) (fun i x H' H'' hi p y => ?_) (fun H' p => ?_)
  · obtain ⟨p1, ws, ds, p2, p3, p4, p5⟩ := p
    have := hs i x H' H'' hi p1 y (fun y H4 => ∃ acc, H4 Dl = some (.lst acc) ∧ acc.length < sizeLine ∧ (fun i H' => Ex H1 H' ∧ ∃ ws ds, H' Dl = some (.lst ws) ∧ ds.length = i ∧ (∀ j d, ds[j]? = some d → φ j d) ∧ DpAll K H' ws ds) (i + 1) (upd H4 Dl (.lst (acc ++ [y])))) (fun v d H3 e3 hφ hv => ?_)
    · exact this
    · have q2 : H3 Dl = some (.lst ws) := e3 _ _ p2
      have him : immAll ds = true := immAll_iff.mpr fun d hd => by
        obtain ⟨j, hj⟩ := List.mem_iff_getElem?.mp hd
        exact himm _ _ (p4 j d hj)
      refine ⟨ws, q2, Nat.lt_of_le_of_lt (by rw [dpa_len p5, p3]; exact Nat.le_refl _) (Nat.lt_of_lt_of_le hi (small2 hn)), (p1.trans e3).mut hD, ws ++ [v], ds ++ [d], upd_same, by rw [List.length_append, p3]; rfl, fun j d' hj => ?_, dpa_snoc ((Tx.updL q2).dpa him (e3.dpa p5)) ((Tx.updL q2).dp (himm _ _ hφ) hv)⟩
      rcases Nat.lt_or_ge j ds.length with z | z
      · rw [List.getElem?_append_left z] at hj
        exact p4 j d' hj
      · rw [List.getElem?_append_right z] at hj
        have z2 : j - ds.length = 0 := by
          refine Decidable.byContradiction fun z3 => ?_
          rw [List.getElem?_eq_none (by simp; omega)] at hj
          cases hj
        have z3 : j = i := by omega
        rw [z2] at hj
        subst z3
        cases hj
        exact hφ
  · obtain ⟨p1, ws, ds, p2, p3, p4, p5⟩ := p
    exact k H' ws ds p1 p2 p3 p4 p5
end
theorem walk_rng {n : Nat} : Walk (Itr 0 n) n (fun _ => True) (YFn fun i => .int (i : Nat)) := (walk_range (lo := 0) (n := n)).mono (fun _ h => h) fun i H x H' _ _ y => ⟨y.1, by
  have e := y.2
  simp only [Int.zero_add] at e
  exact e⟩
theorem getD_at {α : Type} {r : List α} {i : Nat} {d : α} (h : i < r.length) : r[i]? = some (r.getD i d) := by rw [List.getD_eq_getElem?_getD, List.getElem?_eq_getElem h]; rfl
theorem atI_zero {x : V} {xs : List V} : atI (x :: xs) 0 = some x := atI_at (xs := x :: xs) (j := 0) rfl
theorem erase_map {α β : Type} (f : α → β) : ∀ (xs : List α) (i : Nat), (xs.eraseIdx i).map f = (xs.map f).eraseIdx i
  | [], _ => rfl
  | _ :: _, 0 => rfl
  | x :: xs, i + 1 => by
    show f x :: (xs.eraseIdx i).map f = f x :: (xs.map f).eraseIdx i
    rw [erase_map f xs i]
theorem w_setN {H : Hp} {p : Addr} {j : Nat} {xs : List V} {v : V} {QH : Hp → Prop} (h : H p = some (.lst xs)) (hj : j < xs.length) (k : QH (upd H p (.lst (xs.set j v)))) : rSetL (.ref p) (.int (j : Nat)) v H QH := ⟨p, xs, j, j, rfl, rfl, h, by
  unfold ixN
  rw [if_pos (by omega), if_pos (by omega)]
  simp, k⟩
theorem rep_one {α : Type} (x : α) : ∀ k : Nat, (List.replicate k [x]).flatten = List.replicate k x
  | 0 => rfl
  | k + 1 => by rw [List.replicate_succ, List.flatten_cons, rep_one x k]; rfl
theorem dpa_rep {K : PySem.W.Frag} {H : Hp} {v : V} {d : D} (h : Dp K H v d) : ∀ k : Nat, DpAll K H (List.replicate k v) (List.replicate k d)
  | 0 => .nil
  | k + 1 => .cons h (dpa_rep h k)
/-- numbers told one by one -/
theorem ints_of {P : Nat → Int → Prop} : ∀ (ds : List D), (∀ i d, ds[i]? = some d → ∃ x, d = .int x ∧ P i x) → ∃ ns : List Int, ds = ns.map PyData.int ∧ ∀ i x, ns[i]? = some x → P i x
  | [], _ => ⟨[], rfl, fun i x h => by simp at h⟩
  | d :: ds, h => by
    obtain ⟨x, rfl, hx⟩ := h 0 d rfl
    obtain ⟨ns, rfl, hns⟩ := ints_of (P := fun i => P (i + 1)) ds fun i d hd => h (i + 1) d hd
    refine ⟨x :: ns, rfl, fun i y hy => ?_⟩
    cases i with
    | zero => cases hy; exact hx
    | succ i => exact hns i y hy
end TH

namespace TH
open PySem PySem.Spec PyProof.Rows L2
section
open PySem.W
variable {prog : Program} {w : World} {A : Around} {s : Shared}
/-- rows of one width can be sorted (the empty row, where it stands alone) -/
theorem sorts_rows {vs : List Value} {rs : List (List Int)} {wd : Nat} (e : EachIs (fun v d => ∃ as, Reads s.heap v d as) vs (rs.map row)) (hl : ∀ r ∈ rs, r.length = wd) (h1 : wd = 0 → rs.length ≤ 1) (hu : A.units + 3 < cLine) :
    SortsAt prog w A s (dataKind s.heap (rs.map row)) vs := by
  have hal : AllAlike (rs.map row) := AllAlike.of fun a b => by
    show alike (.tuple (a.map .int)) (.tuple (b.map .int)) = true
    simpa [alike] using alike_ints a b
  have hdep : ∀ d, d ∈ rs.map row → A.units + d.depth < cLine := fun d hd => by
    obtain ⟨r, _, rfl⟩ := List.mem_map.mp hd
    show A.units + (PyData.depthAll (r.map .int) + 1) < cLine
    rw [depth_ints]
    omega
  by_cases h0 : wd = 0
  · have hlen := h1 h0
    refine ⟨fun v hv => ?_, tuples' true, ?_, fun h2 => ?_⟩
    · obtain ⟨d, hd, as, r⟩ := e.left v hv
      exact ⟨_, dataKind_some hal hd r⟩
    · intro E x y a b Q ha hb hq
      obtain ⟨d, as, hd, ra, rfl⟩ := dataKind_inv ha
      obtain ⟨d', as', hd', rb, rfl⟩ := dataKind_inv hb
      obtain ⟨r1, m1, rfl⟩ := List.mem_map.mp hd
      obtain ⟨r2, m2, rfl⟩ := List.mem_map.mp hd'
      have z1 : r1 = [] := List.length_eq_zero_iff.mp (by rw [hl r1 m1, h0])
      have z2 : r2 = [] := List.length_eq_zero_iff.mp (by rw [hl r2 m2, h0])
      subst z1 z2
      have hq' : Q (dataLt (.tuple []) (.tuple [])) s := hq
      rw [dataLt_tuple] at hq'
      cases ra with
      | @tuple l o xs n _ _ g1 g2 g3 g4 =>
        cases rb with
        | @tuple l' o' xs' n' _ _ k1 k2 k3 k4 =>
          have n1 : xs.size = 0 := by simpa using SeqAt.ReadsAll.length _ _ _ g4
          have n2 : xs'.size = 0 := by simpa using SeqAt.ReadsAll.length _ _ _ k4
          refine kat_lt g1 g3 k1 k3 ?_
          refine katLex_alike [] [] 0 _ _ _ _ g4 k4 (by simp [alikeAll]) ?_ (fun _ _ x r t ex => nomatch ex) (by rw [n1, n2]; rfl) hq'
          show A.units + min (PyData.depthAll []) (PyData.depthAll []) < cLine
          simp [PyData.depthAll]
          omega
    · have := e.length
      rw [List.length_map] at this
      omega
  · refine SortsAt.data e hal (.inl fun d hd => ?_) hdep
    obtain ⟨r, m, rfl⟩ := List.mem_map.mp hd
    cases r with
    | nil => exact absurd (hl [] m).symm h0
    | cons x r => exact ⟨_, _, rfl⟩
end
/-! ### sorted(a dict whose keys are rows) -/
open PySem.W in
theorem sort_rows {prog : Program} {w : World} {A : Around} {E : Value → Shared → Prop} {s : Shared} {h0 : Heap} {a : Addr} {vs : List Value} {bs : List (V × D)} {R : Value → V × D → Prop} {rs : List (List Int)} {wd n : Nat} {Q : Value → Shared → Prop}
    (ho : s.heap.get? a = some (seqObj "list" vs.toArray n)) (old : ∀ b o, h0.get? b = some o → b ≠ a ∧ s.heap.get? b = some o) (hbs : bs.map (·.2) = rs.map row) (e : EachIs R vs bs) (er : EachIs (fun v b => ∃ as, Reads h0 v b.2 as) vs bs)
    (hl : ∀ r ∈ rs, r.length = wd) (h1 : wd = 0 → rs.length ≤ 1) (hL : bs.length ≤ sizeLine) (hu : A.units + 4 < cLine)
    (h : ∀ out, out.length = bs.length → EachIs R out (bs.mergeSort (dataLe false fun b => b.2)) → Q .none { s with heap := PyProof.Rows.sortedHeap s.heap a vs (List.toArray out) }) :
    wpAny (model prog w) A (call (.builtin "list.sort") [.ref a]) Q E s := by
  have er' : EachIs (fun v b => ∃ as, Reads (sortingHeap s.heap a vs) v b.2 as) vs bs := er.mono fun _ _ ⟨as, r⟩ => ⟨as, PyProof.Rows.Reads.keeps (fun b o q => sortingHeap_old (old b o q).1 (old b o q).2) r⟩
  have hal : AllAlike (bs.map fun b => b.2) := by
    rw [hbs]
    exact AllAlike.of fun a b => by
      show alike (.tuple (a.map .int)) (.tuple (b.map .int)) = true
      simpa [alike] using alike_ints a b
  have S : SortsAt prog w A.in1 { s with heap := sortingHeap s.heap a vs } (dataKind (sortingHeap s.heap a vs) (bs.map fun b => b.2)) vs := by
    have em := each_map (R := fun v d => ∃ as, Reads (sortingHeap s.heap a vs) v d as) (fun b : V × D => b.2) er'
    rw [hbs] at em ⊢
    exact sorts_rows (s := { s with heap := sortingHeap s.heap a vs }) em hl h1 (by show A.units + 1 + 3 < cLine; omega)
  refine wpAny_call_entry PyProof.Rows.slot_list_sort ⟨_, ho, rfl⟩ PyProof.Rows.entry_list_sort (list_sort_vals ho S (by rw [e.length]; exact hL) ⟨.none, rfl, ?_⟩) (PyProof.Rows.args_list_sort _)
  refine h _ ?_ (sortVals_data false e er' hal)
  rw [sortVals_length false rfl]
  exact e.length
/-- the dict's keys, told as rows -/
def KeyRows (kvs : List (List Key × V)) (rs : List (List Int)) : Prop := kvs.map (·.1) = rs.map fun r => r.map Sum.inl
theorem kv_row (r : List Int) : (r.map (Sum.inl : Int → Key)).map kV = r.map V.int := by
  rw [List.map_map]
  rfl
theorem keys_dpa {K : PySem.W.Frag} {H : Hp} : ∀ {kvs : List (List Key × V)} {bs : List Addr} {rs : List (List Int)}, IsKeys H kvs bs → KeyRows kvs rs → DpAll K H (bs.map V.ref) (rs.map row)
  | [], _, rs, .nil, e => by
    cases rs with
    | nil => exact .nil
    | cons r rs => cases e
  | p :: kvs, b :: bs, rs, .cons h t, e => by
    cases rs with
    | nil => cases e
    | cons r rs =>
      have e' : p.1 :: kvs.map (·.1) = (r.map Sum.inl) :: rs.map fun r => r.map Sum.inl := e
      injection e' with e1 e2
      rw [e1, kv_row] at h
      exact .cons (dp_row_of (sqT h)) (keys_dpa t e2)
def rSortedDT (K : PySem.W.Frag) : List V → Hp → VK → Prop := fun xs H Q => ∃ (d : Addr) (kvs : List (List Key × V)) (rs : List (List Int)) (wd : Nat), xs = [.ref d] ∧ Rd H d (.dT kvs) ∧ KeyRows kvs rs ∧ (∀ r ∈ rs, r.length = wd) ∧ (wd = 0 → rs.length ≤ 1) ∧
  ∀ (ws : List V) (p : Addr), H p = none → DpAll K H ws ((rs.map row).mergeSort (PySem.W.dataLe false id)) → Q (.ref p) (upd H p (.lst ws))
section
variable {X : Cx} {K : PySem.W.Frag}
theorem call_sortedDT (hc : X.calm = true) (hu : X.A.units + 64 < cLine) (hK : X.K = K := by rfl) : CallR X (.builtin "sorted") (rSortedDT K) := by
  subst hK
  intro pins s σ H xs us Q I r h
  obtain ⟨d, kvs, rs, wd, rfl, hd, hkr, hl, h1, q⟩ := h
  obtain ⟨u, rfl, rx⟩ := r.one
  obtain rfl : u = Value.ref d := rx
  obtain ⟨z, lo, ks, pr, o, es, ep, ho, hx, hdt, he, hn⟩ := (show ObjOk X.prog X.w H s.heap d (.dT kvs) from hd.ok I.hok)
  have l1 : es.size = ks.length := size_of_entries he
  have l2 : kvs.length = ks.length := Paired.length pr
  have l3 : kvs.length = rs.length := by
    have := congrArg List.length hkr
    simpa using this
  refine Calls.call_function_entry PyProof.Rows.kind_sorted PyProof.Rows.plain_sorted PyProof.Rows.entry_sorted (PyProof.Rows.args_sorted1 _) ?_
  unfold Builtin.«sorted»
  refine wpAny_bind (m := checkCount "sorted" 1 1 _) (wpAny_pure ?_)
  refine wpAny_bind (PySem.W.kdu_collect (A := X.A.in1) (kdl_raw lo hx hdt) (I.ok.hd hc) ho (by omega) fun h' tk acc kp it => ?_)
  have hal : acc.toList.length = ks.length := by
    rw [Array.length_toList, it.1]
    exact l1
  have ea : acc.toList = (ks.map fun x => x.2.1).map Value.ref := by
    refine List.ext_getElem (by rw [hal]; simp) fun j j1 j2 => ?_
    have hj : acc[j]? = some (acc.toList[j]) := by
      rw [← Array.getElem?_toList]
      exact List.getElem?_eq_getElem j1
    obtain ⟨en, g1, g2⟩ := it.2 j _ hj
    have qe := entry_at he j
    have jk : j < ks.length := by omega
    rw [g1, List.getElem?_eq_getElem jk] at qe
    have e2 : en = entryOfKey (tupleKind (mixKind X.prog X.w)) ks[j] := Option.some.inj qe
    rw [g2, e2, List.getElem_map, List.getElem_map]
    rfl
  have I1 : Inv X pins σ H { s with heap := h', toks := tk } := I.kept kp
  have rv : Vals ((ks.map fun x => x.2.1).map V.ref) acc.toList := by
    rw [ea]
    exact vals_refs _
  have hda : DpAll X.K H ((ks.map fun x => x.2.1).map V.ref) (rs.map row) := keys_dpa (isKeys_of pr) hkr
  have hL : acc.toList.length ≤ sizeLine := by omega
  refine wpAny_bind (wpAny_newList ?_ hL)
  have hoL : (h'.push (seqObj "list" acc.toList.toArray 0)).get? h'.objs.size = some (seqObj "list" acc.toList.toArray 0) := Heap.get?_push_size _ rfl
  show wpAny _ _ _ _ _ { s with heap := h'.push (seqObj "list" acc.toList.toArray 0), toks := tk }
  have em : (((ks.map fun x => x.2.1).map V.ref).zip (rs.map row)).map (·.2) = rs.map row := by
    rw [List.map_snd_zip]
    simp
    omega
  have e0 := each_of rv hda
  have er0 : PySem.W.EachIs (fun u (b : V × D) => ∃ as, Reads h' u b.2 as) acc.toList (((ks.map fun x => x.2.1).map V.ref).zip (rs.map row)) := e0.mono fun u b hb => Dp.reads I1 b.2 b.1 u hb.2 hb.1
  have hzl : (((ks.map fun x => x.2.1).map V.ref).zip (rs.map row)).length = acc.toList.length := e0.length.symm
  refine wpAny_bind (wpAny_holding (sort_rows (s := { s with heap := h'.push (seqObj "list" acc.toList.toArray 0), toks := tk }) (h0 := h') hoL (fun b ob e => ⟨Nat.ne_of_lt (Heap.lt_size e), Heap.get?_push_of_some _ e⟩) em e0 er0 hl h1 (by omega) (by
    show X.A.units + 1 + 4 < cLine
    omega) fun out hol heo => ?_))
  obtain ⟨e', he'⟩ := PyProof.Rows.sortedHeap_at (vs := acc.toList) (out := List.toArray out) hoL
  obtain ⟨hv, hdo⟩ := each_back heo
  have e2 : ((((ks.map fun x => x.2.1).map V.ref).zip (rs.map row)).mergeSort (PySem.W.dataLe false fun b => b.2)).map (·.2) = (rs.map row).mergeSort (PySem.W.dataLe false id) := by
    rw [PySem.W.sort_maps (s := PySem.W.dataLe false id) (fun b : V × D => b.2) (fun a _ b _ => dataLe_map _ a b), em]
  rw [e2] at hdo
  refine wpAny_pure ⟨_, rfl, .ref h'.objs.size, upd H h'.objs.size (.lst _), I1.laid (t' := tk) (fun b ob e => ?_) (Nat.le_refl _) ⟨?_, out, e', hv, he'⟩, rfl, q _ _ (I1.hok.fresh (Nat.le_refl _)) hdo⟩
  · have hb : b < h'.objs.size := Heap.lt_size e
    rw [PyProof.Rows.sortedHeap_old (Nat.ne_of_lt hb) (by rw [Heap.size_push]; exact Nat.lt_succ_of_lt hb)]
    exact Heap.get?_push_of_some _ e
  · rw [hv.length, hol, hzl]
    exact hL
end
end TH

namespace TH
open PySem PySem.Spec PyProof.Rows L2
/-! ### {k: v}, k a tuple -/
/-- the new dict stands empty while the pair is made -/
def tDispT1 (tk tv : TE) : TE := fun σ H Q => ∀ p, H p = none → tk σ (upd H p (.dT [])) fun x H1 => tv σ H1 fun y H2 => ∃ (b : Addr) (k : List Key), x = .ref b ∧ H2 p = some (.dT []) ∧ H2 b = some (.tup (k.map kV)) ∧ Q (.ref p) (upd H2 p (.dT [(k, y)]))
section
variable {X : Cx} {pos : Pos} {ke ve : Expr} {tk tv : TE}
theorem pe_dispT1 (hu : X.A.units + 1 < cLine) (hk : PE X ke tk) (hv : PE X ve tv) : PE X (.Dict [some ke] [ve] pos) (tDispT1 tk tv) := by
  refine ⟨fun pins s σ H Q I q => ?_⟩
  have hn := I.hok.fresh (Nat.le_refl s.heap.objs.size)
  have I1 : Inv X pins σ (upd H s.heap.objs.size (.dT [])) { s with heap := s.heap.push { cls := .type "dict", data := .dict #[] }, toks := s.toks } :=
    I.laid (fun b ob e => Heap.get?_push_of_some _ e) (Nat.le_refl _) (dt_empty s.heap I.big)
  refine wpAny_Dict_any rfl rfl (by simp) (by simp) ?_
  refine pairTrees_cons_walk (thn (hk.run pins _ σ _ _ I1 (q _ hn)) fun u s1 ⟨x, H1, I2, rx, q1⟩ => thn (hv.run pins s1 σ H1 _ I2 q1) fun y s2 ⟨yv, H2, I3, ry, b, k, ex, ed, eb, q2⟩ => pairTrees_nil_walk ?_)
  subst ex
  obtain rfl : u = Value.ref b := rx
  show wpAny _ _ (forIn _ _ _) _ _ _
  rw [List.forIn_cons]
  obtain ⟨z, lo, xs, rel, dd⟩ := dt_of I3.hok ed
  cases rel
  refine wpAny_bind (wpAny_bind (wpAny_dictSet_heap (hsz := Nat.zero_le _) (show X.A.units < cLine by omega) (key_of I3.hok eb) dd fun h' dd' same => wpAny_pure ?_))
  dsimp only
  rw [List.forIn_nil]
  refine wpAny_pure ?_
  obtain ⟨ob, es, ep, g1, g2, g3, g4, _, g5⟩ := dd'
  refine ⟨.ref s.heap.objs.size, _, d_write I3 (by rw [ed]; exact True.intro) same ⟨ob, g1⟩ (ob := .dT [(k, yv)]) ⟨by rw [sizeLine_eq]; simp, lo, storedH [] k b y, KT.keeps (KT.put (kvs := []) .nil k eb ry) fun c ys ec => ?_, ob, es, ep, g1, g2, g3, g4, g5⟩, rfl, q2⟩
  rw [upd_ne fun z => by rw [z, ed] at ec; cases ec]
  exact ec
end
/-! ### a promise told otherwise -/
section
variable {P : Program} {w : World} {K : PySem.W.Frag} {mg : Str → Option Value} {base : Heap} {k : Nat} {sp sp' : Sp} {x : Str} {C : Addr} {m : Str}
theorem fn_mono {f : Addr} {fd : FuncData} {ps : List Str} (F : FnOk P w K mg base C8.CX0 k f fd ps sp) (hs : ∀ vs H Q E, sp' vs H Q E → sp vs H Q E) : FnOk P w K mg base C8.CX0 k f fd ps sp' :=
  ⟨fun vs H Q E q => F.len _ _ _ _ (hs vs H Q E q), fun A outer s H args us vs Q E hr e0 hb hv q => F.run A outer s _ args us vs _ E hr e0 hb hv (hs vs H Q E q)⟩
theorem cal_mono {dvs : List V} (F : C8.Cal P w K mg base k x sp dvs) (hs : ∀ vs H Q E, sp' vs H Q E → sp vs H Q E) : C8.Cal P w K mg base k x sp' dvs := by
  obtain ⟨f, fd, ps, ds, G, a, b, c, d⟩ := F.ex
  exact ⟨f, fd, ps, ds, fn_mono G hs, a, b, c, d⟩
theorem met_mono {dvs : List V} (F : C8.Met P w K mg base k C m sp dvs) (hs : ∀ vs H Q E, sp' vs H Q E → sp vs H Q E) : C8.Met P w K mg base k C m sp' dvs := by
  obtain ⟨f, fd, ps, ds, c, me, G, b, d⟩ := F.ex
  exact ⟨f, fd, ps, ds, c, me, fn_mono G hs, b, d⟩
end
/-! ### name = {k: v for ..} on one line, the name a local -/
section
variable {X : Cx}
theorem ps_setDc {i : Nat} {y : Str} {py : Pos} {kx vx tg iter : Expr} {ifs : List Expr} {scope : Scope} {own : List (Str × Nat)} {pos spos : Pos} {wi : TI} {g : TG} {tt : TT} {tk tv : TE} (hc : X.calm = true) (hN : X.N.Nodup) (hy : X.N[i]? = some y) (hyl : X.env.scope.names.lookup y = some .local)
    (hsw : swapsWith (.DictComp kx vx [⟨tg, iter, ifs, 0⟩] scope pos) (some (.Name y py)) spos.line X.env = pure true) (hi : PI X tg iter wi) (ok : BlkOk X.N X.env.scope scope own)
    (hg : ∀ (s : Shared) (H : Hp) (C : Addr) (cl : List (Str × Addr)) (fp : List Addr), PG (X.blk s H scope (compEnvC scope cl C X.env) fp) tg g) (ht : ∀ (s : Shared) (H : Hp) (C : Addr) (cl : List (Str × Addr)) (fp : List Addr), PTs (X.blk s H scope (compEnvC scope cl C X.env) fp) ifs tt)
    (hk : ∀ (s : Shared) (H : Hp) (C : Addr) (cl : List (Str × Addr)) (fp : List Addr), PE (X.blk s H scope (compEnvC scope cl C X.env) fp) kx tk)
    (he : ∀ (s : Shared) (H : Hp) (C : Addr) (cl : List (Str × Addr)) (fp : List Addr), PE (X.blk s H scope (compEnvC scope cl C X.env) fp) vx tv) (hs : ∀ x, foldedSetIterable iter X.env x = pure x := by intro _; rfl) :
    PS X (.Assign [.Name y py] (.DictComp kx vx [⟨tg, iter, ifs, 0⟩] scope pos) spos) (tAsg (tDc wi g tt tk tv (own.map (·.2))) (gName i)) := by
  refine ⟨fun pins s σ H D I h => ?_⟩
  rw [exec_Assign_Name_used _ _ _ _ hsw]
  refine wpAny_bind (wpAny_standAt (wpAny_bind ?_))
  show wpAny _ X.A (do let _ ← comprehension (.DictComp kx vx [⟨tg, iter, ifs, 0⟩] scope pos) scope X.env (firstIterPos [⟨tg, iter, ifs, 0⟩] pos) newDict false (eval iter X.env) (some (assign (.Name y py) X.env))) _ _ s
  have h' : tDc wi g tt tk tv (own.map (·.2)) σ H (fun x H1 => gName i x σ H1 D.nx) := h
  refine wpAny_bind (thn (dc_core (Qf := fun _ s' => SP X pins D .next s') hc hN I hi ok hg ht hk he hs h' fun L C s' m H' I' q hn f => ?_) fun _ s' hq => wpAny_pure (wpAny_pure hq))
  show wpAny _ _ (assign (.Name y py) X.env (.ref L)) _ _ _
  refine wpAny_assign_Name (store_ok2 (v := V.ref L) I' hN hy (.inl hyl) rfl (fun s2 I2 ⟨a, sb, ha⟩ => ?_) (.inr hyl))
  obtain ⟨f0, f1, f2, f3, f4, f5⟩ := f
  have haC : C ≠ a := by
    intro e
    rcases ha with z | z
    · exact f1 (e.trans z)
    · exact f4 y a z e.symm
  refine ⟨m, hn.sameBut sb haC, fun h3 sb3 => ⟨_, H', I2.turned (t' := s2.toks) (fun b o hb e => (sb3.2 b hb).trans e) f0 f1 f3 f4 f5, q⟩⟩
theorem sw_trueD {kx vx : Expr} {gs : List Comprehension} {scope : Scope} {pos py : Pos} {y : Str} {l : Nat} {env : Env} (hk : env.scope.kind = .function) (hy : env.scope.names.lookup y = some .local) (hl : (py.line == pos.line) = true)
    (ha : (scope.names.any fun (n, k) => n == y && (k == .local || k == .cell)) = false) : swapsWith (.DictComp kx vx gs scope pos) (some (.Name y py)) l env = pure true := by
  have ky : env.kindOf y = some .local := hy
  have hb : env.blockKind = .function := by
    unfold Env.blockKind
    rw [hk]
    rfl
  unfold swapsWith
  simp only [hb, ky, ha, Expr.pos, hl]
  rfl
end
end TH

namespace TH
open PySem PySem.Spec PyProof.Rows L2
section
variable {K : PySem.W.Frag} {σ : L2.St} {H : Hp} {Q : VK} {D : Ends} {ta tb td ty tv tx tk te : TE} {tr : TA} {t : TS} {R : It → Hp → Prop}
theorem w_dput (k : tv σ H fun v H1 => td σ H1 fun x H2 => ty σ H2 fun y H3 => ∃ a H4, x = .ref a ∧ DPut H3 a y v H4 ∧ D.nx σ H4) : sDPut td ty tv D σ H := k
theorem w_lock (k : ∃ d u, H d = some u ∧ Mut (some u) ∧ ∀ od, t ⟨fun σ' H' => H' d = some (.frz od u) ∧ D.nx σ' (upd H' d u), fun v H' => H' d = some (.frz od u) ∧ D.rt v (upd H' d u), fun σ' H' => H' d = some (.frz od u) ∧ D.bk σ' (upd H' d u), fun σ' H' => H' d = some (.frz od u) ∧ D.ct σ' (upd H' d u)⟩ σ (upd H d (.frz od u))) : tLock t D σ H := k
theorem w_ikeys (k : td σ H fun x H1 => ∃ d o, x = .ref d ∧ ((∃ kvs, H1 d = some (.frz o (.dK kvs)) ∧ R (Itk d o kvs) H1) ∨ ∃ kvs, H1 d = some (.frz o (.dT kvs)) ∧ R (Itkt d o kvs) H1)) : iKeys td σ H R := k
theorem w_iitems (k : td σ H fun x H1 => ∃ d o kvs, x = .ref d ∧ H1 d = some (.frz o (.dK kvs)) ∧ R (Iti d o kvs) H1) : iItems td σ H R := k
theorem w_dispT1 (k : ∀ p, H p = none → tk σ (upd H p (.dT [])) fun x H1 => tv σ H1 fun y H2 => ∃ (b : Addr) (k : List Key), x = .ref b ∧ H2 p = some (.dT []) ∧ H2 b = some (.tup (k.map kV)) ∧ Q (.ref p) (upd H2 p (.dT [(k, y)]))) : tDispT1 tk tv σ H Q := k
theorem w_dnewT (k : ∀ p, H p = none → Q (.ref p) (upd H p (.dT []))) : tDNewT σ H Q := k
theorem w_dnewK (k : ∀ p, H p = none → Q (.ref p) (upd H p (.dK []))) : tDNewK σ H Q := k
theorem w_fld {f : Str} (k : ta σ H fun x H1 => ∃ a C dx fs v, x = .ref a ∧ H1 a = some (.ins C dx fs) ∧ Cls K C ∧ NoAttr K C f ∧ fs.lookup f = some v ∧ Q v H1) : tFld K ta f σ H Q := k
theorem w_sfld {f : Str} (k : tv σ H fun y H1 => ta σ H1 fun x H2 => ∃ a C dx fs, x = .ref a ∧ H2 a = some (.ins C dx fs) ∧ Cls K C ∧ NoAttr K C f ∧ fs.length < 1000 ∧ D.nx σ (upd H2 a (.ins C dx (putF f y fs)))) : sFld K ta tv f D σ H := k
theorem w_meth {C : Addr} {m : Str} {sp : Sp} {dvs : List V} {E : XK} (k : ta σ H fun x H1 => ∃ a dx fs, x = .ref a ∧ H1 a = some (.ins C dx fs) ∧ fs.lookup m = none ∧ tr σ H1 fun vs H2 => sp (x :: (vs ++ dvs)) H2 Q E) : tMeth C m sp dvs E ta tr σ H Q := k
theorem w_make {C : Addr} {sp : Sp} {dvs : List V} {E : XK} (k : tr σ H fun vs H1 => ∀ x dx, H1 x = none → H1 dx = none → dx ≠ x → sp (.ref x :: (vs ++ dvs)) (upd (upd H1 dx (.own x)) x (.ins C dx [])) (fun v H2 => v = .non ∧ Q (.ref x) H2) E) : tMake C sp dvs E tr σ H Q := k
theorem w_dget2 (k : td σ H fun x H1 => ∃ a, x = .ref a ∧ IsD H1 a ∧ ty σ H1 fun y H2 => tx σ H2 fun z H3 => ∃ o, DGet H3 a y o ∧ Q (o.getD z) H3) : tDGet2 td ty tx σ H Q := k
theorem w_revL (k : te σ H fun x H1 => ∃ a xs, x = .ref a ∧ SqL K H1 a xs ∧ ∀ p, H1 p = none → Q (.ref p) (upd H1 p (.lst xs.reverse))) : tRevL K te σ H Q := k
end
theorem hu64_of {A : Around} {k : Nat} (hr : Room k A) : A.units + 64 < cLine := hr.units
theorem Ex.both {H H' : Hp} {d : Addr} {u : HO} (e : Ex H H') : Ex (upd H d u) (upd H' d u) := fun a o h => by
  by_cases ha : a = d
  · subst ha
    rw [upd_same] at h ⊢
    exact h
  · rw [upd_ne ha] at h ⊢
    exact e a o h
theorem upd_comm' {H : Hp} {a b : Addr} {u v : HO} (h : b ≠ a) : upd (upd H a u) b v = upd (upd H b v) a u := by
  funext c
  by_cases h1 : c = a
  · subst h1
    rw [upd_ne (Ne.symm h), upd_same, upd_same]
  · by_cases h2 : c = b
    · subst h2
      rw [upd_same, upd_ne h1, upd_same]
    · rw [upd_ne h2, upd_ne h1, upd_ne h1, upd_ne h2]
/-! rows as keys -/
def insR (ks : List (List Int)) (r : List Int) : List (List Int) := if r ∈ ks then ks else ks ++ [r]
theorem mem_insR {ks : List (List Int)} {r x : List Int} : x ∈ insR ks r ↔ x ∈ ks ∨ x = r := by
  unfold insR
  split
  · next h => exact ⟨.inl, fun z => z.elim id fun e => e ▸ h⟩
  · rw [List.mem_append, List.mem_singleton]
theorem nodup_insR {ks : List (List Int)} {r : List Int} (h : ks.Nodup) : (insR ks r).Nodup := by
  unfold insR
  split
  · exact h
  · next hn => exact List.nodup_append.mpr ⟨h, by simp, fun a ha b hb e => hn (by rw [List.mem_singleton] at hb; rw [← hb, ← e]; exact ha)⟩
theorem inl_inj : ∀ {a b : List Int}, a.map (Sum.inl : Int → Key) = b.map Sum.inl → a = b
  | [], [], _ => rfl
  | [], _ :: _, h => by cases h
  | _ :: _, [], h => by cases h
  | x :: a, y :: b, h => by
    rw [List.map_cons, List.map_cons] at h
    injection h with h1 h2
    rw [Sum.inl.inj h1, inl_inj h2]
theorem keyRows_put {kvs : List (List Key × V)} {ks : List (List Int)} {r : List Int} {v : V} (h : KeyRows kvs ks) : KeyRows (putK kvs (r.map Sum.inl) v) (insR ks r) := by
  have hany : (kvs.any fun kv => decide (kv.1 = r.map Sum.inl)) = true ↔ r ∈ ks := by
    rw [List.any_eq_true]
    constructor
    · intro ⟨p, hp, e⟩
      have e1 := of_decide_eq_true e
      have hm : p.1 ∈ kvs.map (·.1) := List.mem_map.mpr ⟨p, hp, rfl⟩
      rw [h] at hm
      obtain ⟨r', hr', e2⟩ := List.mem_map.mp hm
      rw [e1] at e2
      rw [← inl_inj e2]
      exact hr'
    · intro hr
      have hm : r.map Sum.inl ∈ kvs.map (·.1) := by
        rw [h]
        exact List.mem_map.mpr ⟨r, hr, rfl⟩
      obtain ⟨p, hp, e⟩ := List.mem_map.mp hm
      exact ⟨p, hp, decide_eq_true e⟩
  unfold putK insR KeyRows
  by_cases hr : r ∈ ks
  · rw [if_pos (hany.mpr hr), if_pos hr, List.map_map, ← h]
    refine List.map_congr_left fun p _ => ?_
    show (if p.1 = r.map Sum.inl then (p.1, v) else p).1 = p.1
    split <;> rfl
  · rw [if_neg (fun z => hr (hany.mp z)), if_neg hr, List.map_append, List.map_append, h]
    rfl
theorem keyRows_len {kvs : List (List Key × V)} {ks : List (List Int)} (h : KeyRows kvs ks) : kvs.length = ks.length := by
  have := congrArg List.length h
  simpa using this
theorem keyRows_at {kvs : List (List Key × V)} {ks : List (List Int)} {i : Nat} {k : List Key} {v : V} (h : KeyRows kvs ks) (e : kvs[i]? = some (k, v)) : ∃ r, ks[i]? = some r ∧ k = r.map Sum.inl := by
  have h1 : (kvs.map (·.1))[i]? = some k := by rw [List.getElem?_map, e]; rfl
  rw [h, List.getElem?_map] at h1
  cases g : ks[i]? with
  | none => rw [g] at h1; cases h1
  | some r => rw [g] at h1; exact ⟨r, rfl, (Option.some.inj h1).symm⟩
end TH

namespace TH
open PySem PySem.Spec PyProof.Rows L2
section
variable {J : It} {n : Nat} {G : Hp → Prop} {Y : Nat → Hp → V → Hp → Prop} {g : TG} {tt : TT} {tk tv : TE} {vs : List Nat} {σ : L2.St} {H H1 : Hp} {Dl : Addr} {Q : VK} {wi : TI}
theorem w_dc (k : wi σ H fun J H1 => ∀ D, H1 D = none → ∃ W : Nat → Nat → Hp → Prop, (∃ m, W 0 m (upd H1 D (.dK []))) ∧ ∀ i m H, W i m H →
      (J.stop i H ∧ Q (.ref D) H) ∨ (J.go i H ∧ ∃ Nx : Hp → Prop, (∀ H', Nx H' → ∃ m', m' < m ∧ W (i + 1) m' H') ∧ ∀ x H', J.yld i H x H' → g x (wipe σ vs) H' fun σ2 H2 => wipe σ2 vs = wipe σ vs ∧ tt σ2 H2 fun b H3 =>
        if b = true then tk σ2 H3 fun y H4 => tv σ2 H4 fun z H5 => ∃ kvs k, y = kV k ∧ H5 D = some (.dK kvs) ∧ kvs.length < sizeLine ∧ Nx (upd H5 D (.dK (putK kvs k z))) else Nx H3)) : tDc wi g tt tk tv vs σ H Q := k
theorem dc_go {σ0 : L2.St} {C : L2.St → Prop} {Qd : Hp → Prop} (w : Walk J n G Y) (Pv : Nat → Hp → Prop) (h0 : Pv 0 (upd H1 Dl (.dK []))) (hG : ∀ i H, i ≤ n → Pv i H → G H)
    (hs : ∀ i x H H', i < n → Pv i H → Y i H x H' → g x σ0 H' fun σ2 H2 => C σ2 ∧ tt σ2 H2 fun b H3 =>
      if b = true then tk σ2 H3 fun y H4 => tv σ2 H4 fun z H5 => ∃ kvs k, y = kV k ∧ H5 Dl = some (.dK kvs) ∧ kvs.length < sizeLine ∧ Pv (i + 1) (upd H5 Dl (.dK (putK kvs k z))) else Pv (i + 1) H3) (hd : ∀ H, Pv n H → Qd H) :
    ∃ W : Nat → Nat → Hp → Prop, (∃ m, W 0 m (upd H1 Dl (.dK []))) ∧ ∀ i m H, W i m H →
      (J.stop i H ∧ Qd H) ∨ (J.go i H ∧ ∃ Nx : Hp → Prop, (∀ H', Nx H' → ∃ m', m' < m ∧ W (i + 1) m' H') ∧ ∀ x H', J.yld i H x H' → g x σ0 H' fun σ2 H2 => C σ2 ∧ tt σ2 H2 fun b H3 =>
        if b = true then tk σ2 H3 fun y H4 => tv σ2 H4 fun z H5 => ∃ kvs k, y = kV k ∧ H5 Dl = some (.dK kvs) ∧ kvs.length < sizeLine ∧ Nx (upd H5 Dl (.dK (putK kvs k z))) else Nx H3) := by
  refine ⟨fun i m H => m = n - i ∧ i ≤ n ∧ Pv i H, ⟨n, by simp, Nat.zero_le _, h0⟩, ?_⟩
  rintro i m H ⟨rfl, hi, p⟩
  have hg := hG i H hi p
  by_cases lt : i < n
  · exact .inr ⟨w.goes i H lt hg, Pv (i + 1), fun H' p' => ⟨n - (i + 1), by omega, rfl, lt, p'⟩, fun x H' y => hs i x H H' lt p (w.yields i H x H' lt hg y)⟩
  · obtain rfl : i = n := by omega
    exact .inl ⟨w.stops H hg, hd H p⟩
end
/-- what stood beside a locked object -/
theorem lock_back {H H' : Hp} {d a : Addr} {u o : HO} (g : Ex H (upd H' d u)) (ha : a ≠ d) (h : H a = some o) : H' a = some o := by
  have := g a o h
  rw [upd_ne ha] at this
  exact this
theorem lock_start {H : Hp} {d : Addr} {u o : HO} (h : H d = some u) : Ex H (upd (upd H d o) d u) := fun a x hx => by
  rw [upd_upd]
  by_cases e : a = d
  · rw [e] at hx ⊢
    rw [upd_same, ← h, hx]
  · rw [upd_ne e]
    exact hx
end TH

namespace TH
open PySem PySem.Spec PyProof.Rows L2
section
variable {K : PySem.W.Frag} {σ : L2.St} {H : Hp} {Q : VK} {td ty to : TE} {trs : List (TE × TE)} {rm : V → List V → Hp → VK → Prop} {T : String}
theorem w_din (k : ty σ H fun y H1 => td σ H1 fun x H2 => ∃ a o, x = .ref a ∧ DGet H2 a y o ∧ Q (.bl o.isSome) H2) : tDIn ty td σ H Q := k
theorem w_dnotin (k : ty σ H fun y H1 => td σ H1 fun x H2 => ∃ a o, x = .ref a ∧ DGet H2 a y o ∧ Q (.bl (!o.isSome)) H2) : tDNotIn ty td σ H Q := k
theorem w_dispK (k : ∀ p, H p = none → tPairs trs σ (upd H p (.dK [])) fun ps H2 => H2 p = some (.dK []) ∧ ∃ kvs : List (Key × V), ps = kvs.map (fun kv => (kV kv.1, kv.2)) ∧ kvs.length ≤ 15 ∧ Q (.ref p) (upd H2 p (.dK (mergeK [] kvs)))) : tDisp trs σ H Q := k
end
section
variable {K : PySem.W.Frag} {σ : L2.St} {H : Hp} {Q : VK} {to : TE} {rm : V → List V → Hp → VK → Prop} {T : String}
theorem w_bm0 (k : to σ H fun x H1 => tyV K T x H1 ∧ rm x [] H1 Q) : tBM0 K T rm to σ H Q := k
theorem w_pop {l : Addr} {xs : List V} {y : V} (h : H l = some (.lst (xs ++ [y]))) (k : Q y (upd H l (.lst xs))) : rPop (.ref l) [] H Q := ⟨l, xs ++ [y], y, rfl, rfl, h, by simp, by rw [List.dropLast_concat]; exact k⟩
end
theorem kop_ltT {X : Cx} {K : PySem.W.Frag} (hu : X.A.units + 64 < cLine) (hK : X.K = K := by rfl) : OpR X (compareOp .Lt) (rLtT K) := hK ▸ op_ltT (by omega)
/-! numbers as keys -/
def KeyI (kvs : List (Key × V)) (ks : List Int) : Prop := kvs.map (·.1) = ks.map Sum.inl
theorem keyI_any {kvs : List (Key × V)} {ks : List Int} {k : Int} (h : KeyI kvs ks) : (kvs.any fun kv => decide (kv.1 = Sum.inl k)) = true ↔ k ∈ ks := by
  rw [List.any_eq_true]
  constructor
  · intro ⟨p, hp, e⟩
    have hm : p.1 ∈ kvs.map (·.1) := List.mem_map.mpr ⟨p, hp, rfl⟩
    rw [h, of_decide_eq_true e] at hm
    obtain ⟨k', hk', e2⟩ := List.mem_map.mp hm
    rw [← Sum.inl.inj e2]
    exact hk'
  · intro hk
    have hm : Sum.inl k ∈ kvs.map (·.1) := by
      rw [h]
      exact List.mem_map.mpr ⟨k, hk, rfl⟩
    obtain ⟨p, hp, e1⟩ := List.mem_map.mp hm
    exact ⟨p, hp, decide_eq_true e1⟩
theorem keyI_has {kvs : List (Key × V)} {ks : List Int} {k : Int} (h : KeyI kvs ks) : (valV kvs (Sum.inl k)).isSome = decide (k ∈ ks) := by
  rw [← valV_any]
  by_cases hk : k ∈ ks
  · rw [decide_eq_true hk, (keyI_any h).mpr hk]
  · rw [decide_eq_false hk]
    exact Bool.eq_false_iff.mpr fun z => hk ((keyI_any h).mp z)
theorem keyI_new {kvs : List (Key × V)} {ks : List Int} {k : Int} {v : V} (h : KeyI kvs ks) (hk : k ∉ ks) : KeyI (putK kvs (Sum.inl k) v) (ks ++ [k]) := by
  unfold putK
  rw [if_neg fun z => hk ((keyI_any h).mp z)]
  unfold KeyI
  rw [List.map_append, List.map_append, h]
  rfl
theorem keyI_len {kvs : List (Key × V)} {ks : List Int} (h : KeyI kvs ks) : kvs.length = ks.length := by
  simpa using congrArg List.length h
end TH

namespace TH
open PySem PySem.Spec PyProof.Rows L2
/-! ### sorted(a tuple of data) -/
open PySem.W in
theorem sort_anew {prog : Program} {w : World} {A : Around} {E : Value → Shared → Prop} {s : Shared} {h0 : Heap} {a : Addr} {vs : List Value} {bs : List (V × D)} {R : Value → V × D → Prop} {n : Nat} {Q : Value → Shared → Prop}
    (ho : s.heap.get? a = some (seqObj "list" vs.toArray n)) (old : ∀ b o, h0.get? b = some o → b ≠ a ∧ s.heap.get? b = some o) (e : EachIs R vs bs) (er : EachIs (fun v b => ∃ as, Reads h0 v b.2 as) vs bs)
    (hal : AllAlike (bs.map fun b => b.2)) (so : Sortable (bs.map fun b => b.2)) (hL : bs.length ≤ sizeLine) (hu : ∀ b ∈ bs, A.units + 1 + b.2.depth < cLine)
    (h : ∀ out, out.length = bs.length → EachIs R out (bs.mergeSort (dataLe false fun b => b.2)) → Q .none { s with heap := PyProof.Rows.sortedHeap s.heap a vs (List.toArray out) }) :
    wpAny (model prog w) A (call (.builtin "list.sort") [.ref a]) Q E s := by
  have er' : EachIs (fun v b => ∃ as, Reads (sortingHeap s.heap a vs) v b.2 as) vs bs := er.mono fun _ _ ⟨as, r⟩ => ⟨as, PyProof.Rows.Reads.keeps (fun b o q => sortingHeap_old (old b o q).1 (old b o q).2) r⟩
  have S : SortsAt prog w A.in1 { s with heap := sortingHeap s.heap a vs } (dataKind (sortingHeap s.heap a vs) (bs.map fun b => b.2)) vs :=
    SortsAt.data (s := { s with heap := sortingHeap s.heap a vs }) (each_map (R := fun v d => ∃ as, Reads (sortingHeap s.heap a vs) v d as) (fun b : V × D => b.2) er') hal so (bound_map (A := A.in1) (by show ∀ b, b ∈ bs → A.units + 1 + b.2.depth < cLine; exact hu))
  refine wpAny_call_entry PyProof.Rows.slot_list_sort ⟨_, ho, rfl⟩ PyProof.Rows.entry_list_sort (list_sort_vals ho S (by rw [e.length]; exact hL) ⟨.none, rfl, ?_⟩) (PyProof.Rows.args_list_sort _)
  refine h _ ?_ (sortVals_data false e er' hal)
  rw [sortVals_length false rfl]
  exact e.length
open PySem.W in
def rSortedTD (K : PySem.W.Frag) : List V → Hp → VK → Prop := fun xs H Q => ∃ (a : Addr) (vs : List V) (ds : List D), xs = [.ref a] ∧ SqT K H a vs ∧ DpAll K H vs ds ∧ AllAlike ds ∧ Sortable ds ∧ (∀ d ∈ ds, d.depth ≤ 50) ∧
  ∀ (ws : List V) (p : Addr), H p = none → DpAll K H ws (ds.mergeSort (dataLe false id)) → Q (.ref p) (upd H p (.lst ws))
section
open PySem.W
variable {X : Cx} {K : PySem.W.Frag}
theorem call_sortedTD (hu : X.A.units + 64 < cLine) (hK : X.K = K := by rfl) : CallR X (.builtin "sorted") (rSortedTD K) := by
  subst hK
  intro pins s σ H xs us Q I r h
  obtain ⟨a, vs, ds, rfl, hs, hd, al, so, dep, q⟩ := h
  obtain ⟨its, rv, hl, hz⟩ := I.tuple hs
  rw [Vals.ref1 r]
  have e := each_of rv hd
  have hle : vs.length = ds.length := dpa_len hd
  have em : (vs.zip ds).map (·.2) = ds := by
    rw [List.map_snd_zip]
    omega
  have hzl : (vs.zip ds).length = its.length := e.length.symm
  have hil : its.length ≤ sizeLine := by
    rw [← rv.length]
    exact hz
  refine Calls.call_function_entry PyProof.Rows.kind_sorted PyProof.Rows.plain_sorted PyProof.Rows.entry_sorted (PyProof.Rows.args_sorted1 _) ?_
  unfold Builtin.«sorted»
  refine wpAny_bind (m := checkCount "sorted" 1 1 _) (wpAny_pure ?_)
  obtain ⟨o, g1, g2, n, g3⟩ := hl
  refine wpAny_bind (wpAny_collect_seq a (.inr rfl) g1 g2 g3 (fun h' kp => ?_) (by simpa using hil))
  have I1 : Inv X pins σ H { s with heap := h' } := I.kept (t' := s.toks) kp
  rw [List.toList_toArray]
  refine wpAny_bind (wpAny_newList ?_ hil)
  have hoL : (h'.push (seqObj "list" its.toArray 0)).get? h'.objs.size = some (seqObj "list" its.toArray 0) := Heap.get?_push_size _ rfl
  show wpAny _ _ _ _ _ { s with heap := h'.push (seqObj "list" its.toArray 0) }
  have er0 : EachIs (fun u (b : V × D) => ∃ as, Reads h' u b.2 as) its (vs.zip ds) := e.mono fun u b hb => Dp.reads I1 b.2 b.1 u hb.2 hb.1
  refine wpAny_bind (wpAny_holding (sort_anew (s := { s with heap := h'.push (seqObj "list" its.toArray 0) }) (h0 := h') hoL (fun b ob e => ⟨Nat.ne_of_lt (Heap.lt_size e), Heap.get?_push_of_some _ e⟩) e er0 (by rw [em]; exact al) (by rw [em]; exact so) (by rw [hzl]; exact hil) (fun b hb => by
    have : b.2 ∈ ds := by
      rw [← em]
      exact List.mem_map.mpr ⟨b, hb, rfl⟩
    have := dep b.2 this
    show X.A.units + 1 + 1 + b.2.depth < cLine
    omega) fun out hol heo => ?_))
  obtain ⟨e', he'⟩ := PyProof.Rows.sortedHeap_at (vs := its) (out := List.toArray out) hoL
  obtain ⟨hv, hdo⟩ := each_back heo
  have e2 : ((vs.zip ds).mergeSort (dataLe false fun b => b.2)).map (·.2) = ds.mergeSort (dataLe false id) := by
    rw [sort_maps (s := dataLe false id) (fun b : V × D => b.2) (fun a _ b _ => dataLe_map _ a b), em]
  rw [e2] at hdo
  refine wpAny_pure ⟨_, rfl, .ref h'.objs.size, upd H h'.objs.size (.lst _), I1.laid (t' := s.toks) (fun b ob e => ?_) (Nat.le_refl _) ⟨?_, out, e', hv, he'⟩, rfl, q _ _ (I1.hok.fresh (Nat.le_refl _)) hdo⟩
  · have hb : b < h'.objs.size := Heap.lt_size e
    rw [PyProof.Rows.sortedHeap_old (Nat.ne_of_lt hb) (by rw [Heap.size_push]; exact Nat.lt_succ_of_lt hb)]
    exact Heap.get?_push_of_some _ e
  · rw [hv.length, hol, hzl]
    exact hil
end
/-! ### x in a list or a tuple of data -/
def rInD (K : PySem.W.Frag) (neg : Bool) : R2 := fun x y H Q => ∃ (d : D) (xs : List D), Dp K H x d ∧ (Dp K H y (.list xs) ∨ Dp K H y (.tuple xs)) ∧ PyData.plainAll xs = true ∧ d.plain = true ∧ d.depth ≤ 50 ∧
  Q (.bl (if neg then !(xs.any fun y => PyData.eqv y d) else xs.any fun y => PyData.eqv y d)) H
section
variable {X : Cx} {K : PySem.W.Frag}
theorem kop_inD (hu : X.A.units + 64 < cLine) (hK : X.K = K := by rfl) : OpR X (compareOp .In) (rInD K false) := by
  subst hK
  intro pins s σ H x y v u Q I rx ry h
  obtain ⟨d, xs, hd, hy, hp, hq, hle, q⟩ := h
  obtain ⟨as, r1⟩ := Dp.reads I d x v hd rx
  rcases hy with hy | hy
  · obtain ⟨bs, r2⟩ := Dp.reads I _ y u hy ry
    exact SeqAt.in_list_data r2 r1 hp hq (by omega) ⟨.bl _, H, I, rfl, q⟩
  · obtain ⟨bs, r2⟩ := Dp.reads I _ y u hy ry
    exact SeqAt.in_tuple_data r2 r1 hp hq (by omega) ⟨.bl _, H, I, rfl, q⟩
theorem kop_notInD (hu : X.A.units + 64 < cLine) (hK : X.K = K := by rfl) : OpR X (compareOp .NotIn) (rInD K true) := by
  subst hK
  intro pins s σ H x y v u Q I rx ry h
  obtain ⟨d, xs, hd, hy, hp, hq, hle, q⟩ := h
  obtain ⟨as, r1⟩ := Dp.reads I d x v hd rx
  rcases hy with hy | hy
  · obtain ⟨bs, r2⟩ := Dp.reads I _ y u hy ry
    exact SeqAt.notIn_list_data r2 r1 hp hq (by omega) ⟨.bl _, H, I, rfl, q⟩
  · obtain ⟨bs, r2⟩ := Dp.reads I _ y u hy ry
    exact SeqAt.notIn_tuple_data r2 r1 hp hq (by omega) ⟨.bl _, H, I, rfl, q⟩
end
/-! ### a tuple turned about -/
section
variable {prog : Program} {w : World} {A : Around} {E : Value → Shared → Prop} {s : Shared}
theorem range_items {α : Type} : ∀ xs : List α, (List.range xs.length).filterMap (fun k => xs[k]?) = xs
  | [] => rfl
  | x :: xs => by
    rw [List.length_cons, List.range_succ_eq_map, List.filterMap_cons]
    show x :: (List.map Nat.succ (List.range xs.length)).filterMap _ = _
    rw [List.filterMap_map]
    exact congrArg (x :: ·) (range_items xs)
theorem fm_congr {α β : Type} {f g : α → Option β} : ∀ {xs : List α}, (∀ x ∈ xs, f x = g x) → xs.filterMap f = xs.filterMap g
  | [], _ => rfl
  | x :: xs, h => by
    rw [List.filterMap_cons, List.filterMap_cons, h x List.mem_cons_self, fm_congr fun y hy => h y (List.mem_cons_of_mem _ hy)]
theorem turned_pick (xs : Array Value) : ((List.range xs.size).filterMap fun (k : Nat) => xs[(((xs.size : Nat) : Int) - 1 + (k : Int) * (-1)).toNat]?).toArray = xs.toList.reverse.toArray := by
  have e : (List.range xs.size).filterMap (fun (k : Nat) => xs[(((xs.size : Nat) : Int) - 1 + (k : Int) * (-1)).toNat]?) = (List.range xs.size).filterMap fun k => xs.toList.reverse[k]? := by
    refine fm_congr fun k hk => ?_
    have hk' := List.mem_range.mp hk
    have e1 : (((xs.size : Nat) : Int) - 1 + (k : Int) * (-1)).toNat = xs.size - 1 - k := by omega
    rw [e1, List.getElem?_reverse (by simpa using hk')]
    simp
  rw [e]
  have := range_items xs.toList.reverse
  rw [List.length_reverse, Array.length_toList] at this
  rw [this]
theorem turned_bounds (n : Nat) : Builtin.Slice.sliceAdjust none none (-1) (n : Int) = ((n : Int) - 1, -1) ∧ Builtin.Slice.slicePlaces ((n : Int) - 1) (-1) (-1) = n := by
  constructor
  · unfold Builtin.Slice.sliceAdjust
    simp
  · unfold Builtin.Slice.slicePlaces
    have h1 : ¬ ((-1 : Int) > 0) := by omega
    rw [if_neg h1]
    split
    · have e : ((n : Int) - 1 - -1 - 1) / (- -1) = (n : Int) - 1 := by
        have : (- -1 : Int) = 1 := rfl
        rw [this, Int.ediv_one]
        omega
      rw [e]
      omega
    · omega
theorem sliceApplied_turned {sl : Addr} {vl vu vs : Value} {n : Nat} {Q : Int × Int × Nat → Shared → Prop} (hs : s.heap.IsSliceOf sl vl vu vs) (pl : IsPart vl none) (pu : IsPart vu none) (ps : IsPart vs (some (-1)))
    (h : Q ((n : Int) - 1, -1, n) s) : wpAny (model prog w) A (Builtin.Slice.sliceApplied (.ref sl) (pure (n : Int))) Q E s := by
  obtain ⟨os, hos, hcs, hds⟩ := id hs
  unfold Builtin.Slice.sliceApplied Builtin.Slice.sliceFields
  refine wpAny_bind (wpAny_bind (wpAny_field hos hds (x := vl) rfl (wpAny_bind (wpAny_field hos hds (x := vu) rfl (wpAny_bind (wpAny_field hos hds (x := vs) rfl (wpAny_pure ?_)))))))
  refine wpAny_bind (HT.slicePart_ ps ?_)
  show wpAny _ _ (if ((-1 : Int) == 0) = true then _ else _) _ _ s
  rw [if_neg (by decide)]
  refine wpAny_bind (HT.slicePart_ pl (wpAny_bind (HT.slicePart_ pu (wpAny_bind (wpAny_pure ?_)))))
  show wpAny _ _ (match Builtin.Slice.sliceAdjust none none (-1) (n : Int) with | (lo, hi) => pure (lo, (-1 : Int), Builtin.Slice.slicePlaces lo hi (-1))) _ _ s
  rw [(turned_bounds n).1]
  show wpAny _ _ (pure ((n : Int) - 1, (-1 : Int), Builtin.Slice.slicePlaces ((n : Int) - 1) (-1) (-1))) _ _ s
  rw [(turned_bounds n).2]
  exact wpAny_pure h
theorem getItem_turned {t sl : Addr} {items : Array Value} {vl vu vs : Value} {Q : Value → Shared → Prop} (ht : IsTup s.heap t items) (hs : s.heap.IsSliceOf sl vl vu vs) (pl : IsPart vl none) (pu : IsPart vu none) (ps : IsPart vs (some (-1)))
    (h : Q (.ref s.heap.objs.size) { s with heap := s.heap.push { cls := .type "tuple", data := .seq items.toList.reverse.toArray } }) (hsz : items.size ≤ sizeLine) : wpAny (model prog w) A (getItem (.ref t) (.ref sl)) Q E s := by
  obtain ⟨os, hos, hcs, hds⟩ := id hs
  have hTs : s.TypeIs (.ref sl) "slice" := ⟨os, hos, hcs⟩
  unfold getItem
  try with_reducible refine wpAny_holding ?_
  first | refine wpAny_bind (wpAny_pure ?_) | skip
  refine wpAny_bind (wpAny_sequenceKey ht.typeIs (by decide) ?_)
  refine wpAny_bind (wpAny_callSpecial?_slot (name := Str.ofString "__getitem__") ht.typeIs PyProof.Rows.slot_tuple_getitem
    (wpAny_call_entry PyProof.Rows.slot_tuple_getitem ht.typeIs entry_tuple_getitem ?_ (args_tuple_getitem _ _)))
  show wpAny _ _ (Builtin.Tuple.tupleItemsOf (.ref t) >>= _) _ _ s
  refine wpAny_bind (PyProof.Rows.tupleItemsOf_ ht ?_)
  refine wpAny_bind (wpAny_typeOf hTs ?_)
  rw [if_pos (by decide)]
  refine wpAny_bind (sliceApplied_turned hs pl pu ps ?_)
  have hno : ¬ ((((items.size : Int) - 1) == 0 && (-1 : Int) == 1 && items.size == items.size) = true) := by
    rw [Bool.and_eq_true, Bool.and_eq_true]
    exact fun z => absurd z.1.2 (by decide)
  show wpAny _ _ (if (((items.size : Int) - 1) == 0 && (-1 : Int) == 1 && items.size == items.size) = true then _ else _) _ _ s
  rw [if_neg hno, turned_pick]
  have hsz2 : sizeOk (.seq items.toList.reverse.toArray) := by
    show items.toList.reverse.toArray.size ≤ sizeLine
    simpa using hsz
  first
    | exact wpAny_bind (m := Builtin.Tuple.tupleExact _) (wpAny_newObj_type (wpAny_pure ⟨_, rfl, wpAny_pure h⟩) hsz2)
    | exact wpAny_bind (m := Builtin.Tuple.tupleExact _) (wpAny_newObj_type (wpAny_bind (wpAny_pure (wpAny_pure ⟨_, rfl, wpAny_pure h⟩))) hsz2)
    | exact wpAny_bind (wpAny_bind (m := Builtin.Tuple.tupleExact _) (wpAny_newObj_type (wpAny_pure (wpAny_pure ⟨_, rfl, wpAny_pure h⟩)) hsz2))
    | exact wpAny_bind (wpAny_bind (m := Builtin.Tuple.tupleExact _) (wpAny_newObj_type (wpAny_pure ⟨_, rfl, wpAny_pure h⟩) hsz2))
end
def tRevT (K : PySem.W.Frag) (te : TE) : TE := fun σ H Q => te σ H fun x H1 => ∃ a xs, x = .ref a ∧ SqT K H1 a xs ∧ ∀ p, H1 p = none → Q (.ref p) (upd H1 p (.tup xs.reverse))
theorem w_revT {K : PySem.W.Frag} {σ : L2.St} {H : Hp} {Q : VK} {te : TE} (k : te σ H fun x H1 => ∃ a xs, x = .ref a ∧ SqT K H1 a xs ∧ ∀ p, H1 p = none → Q (.ref p) (upd H1 p (.tup xs.reverse))) : tRevT K te σ H Q := k
theorem kpe_revT {X : Cx} {K : PySem.W.Frag} {e : Expr} {te : TE} {k : Nat} {p1 p2 p3 pos : Pos} (he : PE X e te) (hK : X.K = K := by rfl) : PE X (.Subscript e (.Slice none none (some (.UnaryOp .USub (.Constant (.int 1) k p1) p2)) p3) pos) (tRevT K te) := by
  subst hK
  refine ⟨fun pins s σ H Q I h => ?_⟩
  refine Subscript_ (thn (he.run pins s σ H _ I h) fun v s1 ⟨x, H1, I1, r1, q1⟩ => ?_)
  obtain ⟨a, xs, ex, hx, q⟩ := q1
  subst ex
  cases r1
  have minus : PO X (some (.UnaryOp .USub (.Constant (.int 1) k p1) p2)) (tPart (tUn (rU fun i => .int (-i)) (tC (.int 1)))) := po_some (pe_un un_neg pe_int)
  refine wpAny_Slice (thn (po_none.run pins s1 σ H1 (fun o H2 => H2 = H1 ∧ o = none) I1 ⟨rfl, rfl⟩) fun vl s2 ⟨l, H2, I2, pl, e2, el⟩ => ?_)
  subst e2 el
  refine thn (po_none.run pins s2 σ H2 (fun o H3 => H3 = H2 ∧ o = none) I2 ⟨rfl, rfl⟩) fun vu s3 ⟨u, H3, I3, pu, e3, eu⟩ => ?_
  subst e3 eu
  refine thn (minus.run pins s3 σ H3 (fun o H4 => H4 = H3 ∧ o = some (-1)) I3 ⟨1, rfl, -1, rfl, rfl, rfl⟩) fun vs s4 ⟨o, H4, I4, ps, e4, eo⟩ => ?_
  subst e4 eo
  have I5 : Inv X pins σ H4 { s4 with heap := s4.heap.push { cls := .type "slice", data := .fields #[vl, vu, vs] } } := I4.kept (t' := s4.toks) fun b ob q => Heap.get?_push_of_some _ q
  obtain ⟨its, r, ht, hz⟩ := I5.tuple hx
  show wpAny (model X.prog X.w) X.A (subscriptTail e (.Slice none none (some (.UnaryOp .USub (.Constant (.int 1) k p1) p2)) p3) (.ref a) (.ref s4.heap.objs.size)) (EP X pins σ Q) X.xe { s4 with heap := s4.heap.push { cls := .type "slice", data := .fields #[vl, vu, vs] } }
  refine tail_any (ops := [.ref a, .ref s4.heap.objs.size]) ht.typeIs (PyProof.Rows.slot_tuple_getitem.lookup) ?_ (by with_unfolding_all rfl)
  refine getItem_turned ht (Heap.IsSliceOf.new _ vl vu vs) pl pu ps ?_ (by rw [List.size_toArray, ← r.length]; exact hz)
  rw [List.toList_toArray]
  refine ⟨.ref _, _, I5.laid (t' := s4.toks) (o := .tup xs.reverse) (fun b ob q => Heap.get?_push_of_some _ q) (Nat.le_refl _) ?_, rfl, q _ (I5.hok.fresh (Nat.le_refl _))⟩
  exact ⟨by rw [List.length_reverse]; exact hz, _, r.reverse, IsTup.new _ _⟩
/-! tuple(range(..)), list(range(..)) -/
section
variable {σ : L2.St} {H : Hp} {Q : VK} {ta tb : TE} {te : L2.St → Hp → (Int → Int → Hp → Prop) → Prop} {QR : Int → Int → Hp → Prop}
theorem w_lstRg (k : te σ H fun a b H1 => RgOk a b ∧ ∀ q, H1 q = none → Q (.ref q) (upd H1 q (.lst (rgV a b)))) : tLstRg te σ H Q := k
theorem w_tupRg (k : te σ H fun a b H1 => RgOk a b ∧ ∀ q, H1 q = none → Q (.ref q) (upd H1 q (.tup (rgV a b)))) : tTupRg te σ H Q := k
theorem w_rg1 (k : ta σ H fun x H1 => ∃ n, x = .int n ∧ QR 0 n H1) : tRg1 ta σ H QR := k
theorem w_rg2 (k : ta σ H fun x H1 => tb σ H1 fun y H2 => ∃ i j, x = .int i ∧ y = .int j ∧ QR i j H2) : tRg2 ta tb σ H QR := k
end
def rgZ (a b : Int) : List Int := (List.range (b - a).toNat).map fun i => a + (i : Nat)
theorem rgV_eq (a b : Int) : rgV a b = (rgZ a b).map V.int := by
  unfold rgV rgZ
  rw [List.map_map]
  rfl
theorem mem_rgZ {a b x : Int} : x ∈ rgZ a b ↔ a ≤ x ∧ x < b := by
  unfold rgZ
  rw [List.mem_map]
  constructor
  · rintro ⟨i, hi, rfl⟩
    have := List.mem_range.mp hi
    omega
  · intro h
    exact ⟨(x - a).toNat, List.mem_range.mpr (by omega), by omega⟩
theorem rgZ_pw (a b : Int) : (rgZ a b).Pairwise (· < ·) := by
  unfold rgZ
  refine List.pairwise_map.mpr (List.pairwise_lt_range.imp fun h => ?_)
  omega
theorem rgZ_len (a b : Int) : (rgZ a b).length = (b - a).toNat := by simp [rgZ]
/-! sum(a tuple of numbers) -/
def rSumT (K : PySem.W.Frag) : List V → Hp → VK → Prop := fun vs H Q => ∃ (a : Addr) (ns : List Int), vs = [V.ref a] ∧ SqT K H a (ns.map V.int) ∧ Q (.int ns.sum) H
theorem kcr_sumT {X : Cx} {K : PySem.W.Frag} (hc : X.calm = true) (hK : X.K = K := by rfl) : CallR X (.builtin "sum") (rSumT K) := by
  subst hK
  intro pins s σ H vs us Q I r h
  obtain ⟨a, ns, rfl, hs, q⟩ := h
  obtain ⟨its, rv, hl, _⟩ := I.tuple hs
  rw [Vals.ref1 r]
  obtain ⟨xs, e⟩ := rv.ints.allInts.items
  have hn : numsOf (intItems xs).toList = ns := by rw [← e]; exact rv.ints.numsOf
  rw [nums_intItems] at hn
  have hl' : s.heap.IsTuple a its.toArray := hl
  rw [e] at hl'
  refine PySem.W.ktm_sumG (I.ok.hd hc) hl' fun h' tk t' hk => ?_
  rw [preSum_eq, List.take_of_length_le (by simp), hn]
  exact ⟨.int _, H, I.kept hk, ⟨_, rfl⟩, q⟩
theorem w_sumT {K : PySem.W.Frag} {H : Hp} {Q : VK} {a : Addr} {ns : List Int} (h : SqT K H a (ns.map V.int)) (q : Q (.int ns.sum) H) : rSumT K [.ref a] H Q := ⟨a, ns, rfl, h, q⟩
end TH

namespace TH
open PySem PySem.Spec PyProof.Rows L2
theorem relabel_held {env : Env} : ∀ {names : List (Str × NameKind)} {x : Str}, (names.lookup x = some .cell ∨ names.lookup x = some .free) →
    let ns := names.map fun (n, k) => if (k == NameKind.free && env.scope.kind == .function && env.kindOf n == some .cell) then (n, NameKind.cell) else (n, k)
    ns.lookup x = some .cell ∨ ns.lookup x = some .free
  | [], _, h => by simp at h
  | (n, k) :: r, x, h => by
    have ih := @relabel_held env r x
    show List.lookup x ((if (k == NameKind.free && env.scope.kind == .function && env.kindOf n == some .cell) = true then (n, NameKind.cell) else (n, k)) :: _) = _ ∨ List.lookup x ((if (k == NameKind.free && env.scope.kind == .function && env.kindOf n == some .cell) = true then (n, NameKind.cell) else (n, k)) :: _) = _
    by_cases hc : (k == NameKind.free && env.scope.kind == .function && env.kindOf n == some .cell) = true
    · rw [if_pos hc]
      cases hx : x == n with
      | true => exact .inl (by simp only [List.lookup_cons, hx])
      | false =>
        simp only [List.lookup_cons, hx] at h ⊢
        exact ih h
    · rw [if_neg hc]
      cases hx : x == n with
      | true =>
        simp only [List.lookup_cons, hx] at h ⊢
        exact h
      | false =>
        simp only [List.lookup_cons, hx] at h ⊢
        exact ih h
/-- a comprehension within a comprehension -/
theorem blkOk_blk {X : Cx} {s : Shared} {H : Hp} {sc scope : Scope} {cl : List (Str × Addr)} {C : Addr} {fp : List Addr} {N : List Str} {own : List (Str × Nat)} (hN : X.N = N) (h : blkC N sc scope own = true) :
    BlkOk (X.blk s H sc (compEnvC sc cl C X.env) fp).N (X.blk s H sc (compEnvC sc cl C X.env) fp).env.scope scope own := by
  subst hN
  refine blkOk_by (N := X.N) (sc := relabel sc X.env) ?_
  unfold blkC at h ⊢
  rw [Bool.and_eq_true] at h ⊢
  refine ⟨h.1, ?_⟩
  have h4 := h.2
  rw [List.all_eq_true] at h4 ⊢
  intro y hy
  have q := h4 y hy
  obtain ⟨n, k⟩ := y
  cases k with
  | free =>
    have e : sc.names.lookup n = some .cell ∨ sc.names.lookup n = some .free := by
      revert q
      show (match sc.names.lookup n with | some .cell => true | some .free => true | _ => false) = true → _
      cases g : sc.names.lookup n with
      | none => intro z; cases z
      | some k => cases k <;> intro z <;> first | exact .inl rfl | exact .inr rfl | cases z
    have e2 := relabel_held (env := X.env) e
    show (match (relabel sc X.env).names.lookup n with | some .cell => true | some .free => true | _ => false) = true
    rcases e2 with e2 | e2
    · have e3 : (relabel sc X.env).names.lookup n = some .cell := e2
      rw [e3]
    · have e3 : (relabel sc X.env).names.lookup n = some .free := e2
      rw [e3]
  | _ => exact q
end TH

namespace TH
open PySem PySem.Spec PyProof.Rows L2
/-! great numbers -/
theorem iop_mulW {X : Cx} : OpR X (inplaceOp .Mult) (rI CMulW fun i j => .int (i * j)) := opI fun _ _ _ _ _ _ _ hc q => imul_int q hc.ok
/-- at most so many bits -/
def Bits (x : Int) (k : Nat) : Prop := x.natAbs ≤ 2 ^ k
theorem Bits.log {x : Int} {k : Nat} (h : Bits x k) : x.natAbs.log2 ≤ k := by
  by_cases h0 : x.natAbs = 0
  · rw [h0]
    simp
  · have : x.natAbs.log2 < k + 1 := (Nat.log2_lt h0).mpr (Nat.lt_of_le_of_lt h (Nat.pow_lt_pow_right (by decide) (Nat.lt_succ_self k)))
    omega
theorem Bits.mul {x y : Int} {a b : Nat} (h : Bits x a) (g : Bits y b) : Bits (x * y) (a + b) := by
  unfold Bits at *
  rw [Int.natAbs_mul, Nat.pow_add]
  exact Nat.mul_le_mul h g
theorem Bits.sub {x y : Int} {a : Nat} (h : Bits x a) (g : Bits y a) : Bits (x - y) (a + 1) := by
  unfold Bits at *
  have e : 2 ^ (a + 1) = 2 ^ a + 2 ^ a := by rw [Nat.pow_succ]; omega
  omega
theorem Bits.add {x y : Int} {a : Nat} (h : Bits x a) (g : Bits y a) : Bits (x + y) (a + 1) := by
  unfold Bits at *
  have e : 2 ^ (a + 1) = 2 ^ a + 2 ^ a := by rw [Nat.pow_succ]; omega
  omega
theorem Bits.mono {x : Int} {a b : Nat} (h : Bits x a) (hab : a ≤ b) : Bits x b := Nat.le_trans h (Nat.pow_le_pow_right (by decide) hab)
theorem Bits.pow {p : Nat} (hp : p ≤ 1000000) (n : Nat) : Bits ((p : Int) ^ n) (20 * n) := by
  unfold Bits
  rw [Int.natAbs_pow, Int.natAbs_natCast, Nat.pow_mul]
  exact Nat.pow_le_pow_left (by omega) n
theorem Bits.mulW {x y : Int} {a b : Nat} (h : Bits x a) (g : Bits y b) (hab : a + b < 1000000) : CMulW x y := by
  have h1 := h.log
  have h2 := g.log
  show x.natAbs.log2 + y.natAbs.log2 < 1000000
  omega
theorem Bits.divW {x y : Int} {b : Nat} (g : Bits y b) (hb : b < 9000) (h0 : 0 < y) : CDivW x y := ⟨h0, by have := g.log; omega⟩
end TH

namespace TH
open PySem PySem.Spec PyProof.Rows L2
/-! ### xs.remove(x), x data that stands there -/
def rRemoveD (K : PySem.W.Frag) : V → List V → Hp → VK → Prop := fun x vs H Q => ∃ (l : Addr) (xs : List V) (y : V) (ds : List D) (d : D) (j : Nat), x = .ref l ∧ vs = [y] ∧ H l = some (.lst xs) ∧ DpAll K H xs ds ∧ Dp K H y d ∧ PyData.plainAll ds = true ∧ d.plain = true ∧ d.depth ≤ 50 ∧
  (ds.findIdx? fun z => PyData.eqv z d) = some j ∧ Q .non (upd H l (.lst (xs.eraseIdx j)))
section
variable {X : Cx} {K : PySem.W.Frag}
theorem mt_removeD (hu : X.A.units + 64 < cLine) (hK : X.K = K := by rfl) : MtM X "list.remove" (rRemoveD K) := by
  subst hK
  intro pins s σ H x vs v us Q I rx rv h
  obtain ⟨l, xs, y, ds, d, j, rfl, rfl, hH, hda, hy, p1, p2, hdep, hj, q⟩ := h
  cases rx
  obtain ⟨u, rfl, ru⟩ := rv.one
  obtain ⟨z, its, n, r, hl, e⟩ := I.lstM hH
  obtain ⟨as, h4⟩ := Dp.readsAll I ds _ its hda r
  obtain ⟨bs, r1⟩ := Dp.reads I d y u hy ru
  have hzl : its.toArray.size ≤ sizeLine := by rw [List.size_toArray, ← r.length]; exact z
  refine SeqAt.remove_list_data (vs := its.toArray) ⟨_, e, rfl, n, rfl⟩ (by simpa using h4) r1 p1 p2 (by omega) hj hzl ?_
  refine ⟨.non, _, I.lset (its' := its.eraseIdx j) hH e (by rw [List.eraseIdxIfInBounds_toArray]) (r.eraseIdx j) ?_, rfl, q⟩
  have := List.length_eraseIdx_le xs j
  omega
/-! ### dict(a list of pairs whose keys are tuples) -/
def mergeT (acc : List (List Key × V)) (kvs : List (List Key × V)) : List (List Key × V) := kvs.foldl (fun acc kv => putK acc kv.1 kv.2) acc
def PairT (K : PySem.W.Frag) (H : Hp) (p : Addr) (kv : List Key × V) : Prop := ∃ b, SqT K H p [.ref b, kv.2] ∧ H b = some (.tup (kv.1.map kV))
def rDictPT (K : PySem.W.Frag) : List V → Hp → VK → Prop := fun xs H Q => ∃ (a : Addr) (ps : List Addr) (kvs : List (List Key × V)), xs = [.ref a] ∧ SqL K H a (ps.map V.ref) ∧ Paired (PairT K H) ps kvs ∧ ∀ p, H p = none → Q (.ref p) (upd H p (.dT (mergeT [] kvs)))
theorem pairsT_of {pins : List (Addr × Obj)} {σ : L2.St} {H : Hp} {s : Shared} (I : Inv X pins σ H s) : ∀ {ps : List Addr} {kvs : List (List Key × V)}, Paired (PairT X.K H) ps kvs →
    ∃ xs : List (List Key × Addr × Value), KT H kvs xs ∧ xs.length = ps.length ∧ ∀ (j : Nat) (q : List Key × Addr × Value), xs[j]? = some q → ∃ p, ps[j]? = some p ∧ IsTup s.heap p #[.ref q.2.1, q.2.2]
  | _, _, .nil => ⟨[], .nil, rfl, fun j q e => by simp at e⟩
  | _, _, .cons (a := p) (b := kv) h t => by
    obtain ⟨xs, r, hl, hp⟩ := pairsT_of I t
    obtain ⟨b, h1, h2⟩ := h
    obtain ⟨its, rv, ht, _⟩ := I.tuple h1
    obtain ⟨u, y, ei, ru, ry⟩ := vals2 rv
    subst ei
    cases ru
    refine ⟨(kv.1, b, y) :: xs, .cons ⟨rfl, h2, ry⟩ r, by rw [List.length_cons, List.length_cons, hl], fun j q e => ?_⟩
    cases j with
    | zero =>
      have e' : (kv.1, b, y) = q := Option.some.inj e
      subst e'
      exact ⟨p, rfl, ht⟩
    | succ j =>
      obtain ⟨p', e1, e2⟩ := hp j q (by simpa using e)
      exact ⟨p', by simpa using e1, e2⟩
theorem kt_merge {H : Hp} {kvs : List (List Key × V)} {xs : List (List Key × Addr × Value)} (r : KT H kvs xs) : ∀ {acc : List (List Key × V)} {accx : List (List Key × Addr × Value)}, KT H acc accx → KT H (mergeT acc kvs) (storedAllH accx xs) := by
  induction r with
  | nil => exact fun a => a
  | @cons kv q ks ys h t ih =>
    intro acc accx a
    obtain ⟨h1, h2, h3⟩ := h
    have g := a.put kv.1 h2 h3
    have e : storedAllH accx (q :: ys) = storedAllH (storedH accx kv.1 q.2.1 q.2.2) ys := by
      rw [h1]
      rfl
    rw [e]
    exact ih g
theorem call_dictPT (hc : X.calm = true) (hu : X.A.units + 64 < cLine) (hK : X.K = K := by rfl) : CallR X (.type "dict") (rDictPT K) := by
  subst hK
  intro pins s σ H xs us Q I r q
  obtain ⟨a, ps, kvs, ex, hq, hp, q⟩ := q
  subst ex
  obtain ⟨u, eu, rx⟩ := vals1 r
  subst eu
  cases rx
  obtain ⟨its, rv, pl, hz⟩ := I.list hq
  have ei := refs_at rv
  subst ei
  rw [List.length_map] at hz
  obtain ⟨qs, rel, hl, hqs⟩ := pairsT_of I hp
  obtain ⟨o, n, ho, hcl, hd, hdat⟩ := pl
  have keys : ∀ x ∈ qs, (tupleKind (mixKind X.prog X.w)).is s.heap x.1 x.2.1 := by
    intro x hx
    obtain ⟨j, hj⟩ := List.mem_iff_getElem?.mp hx
    have : ∃ kv, kvs[j]? = some kv ∧ kv.1 = x.1 ∧ H x.2.1 = some (.tup (kv.1.map kV)) ∧ RelV kv.2 x.2.2 := by
      have lk : kvs.length = qs.length := Paired.length rel
      have hjl := (List.getElem?_eq_some_iff.mp hj).1
      have gen : ∀ {ks : List (List Key × V)} {ys : List (List Key × Addr × Value)} (i : Nat) (y : List Key × Addr × Value), KT H ks ys → ys[i]? = some y → ∃ kv, ks[i]? = some kv ∧ kv.1 = y.1 ∧ H y.2.1 = some (.tup (kv.1.map kV)) ∧ RelV kv.2 y.2.2 := by
        intro ks ys i y rr
        induction rr generalizing i with
        | nil => intro e; simp at e
        | cons h t ih =>
          intro e
          cases i with
          | zero =>
            cases e
            exact ⟨_, rfl, h⟩
          | succ i => exact ih i (by simpa using e)
      exact gen j x rel hj
    obtain ⟨kv, _, e1, e2, _⟩ := this
    rw [← e1]
    exact key_of I.hok e2
  refine call_dict_pairsH (knd := tupleKind (mixKind X.prog X.w)) (ps := qs) (PairArg.list a (ps.map Value.ref).toArray (fun j => ps.getD j 0) (qs.map fun x => (Value.ref x.2.1, x.2.2))) (I.ok.hd hc) (show X.A.units + 1 + 1 < cLine by omega)
    ⟨⟨o, n, ho, hcl, hd, hdat⟩, by simp [hl], fun j k v e => ?_⟩ ⟨by simp, fun i key v e => ?_⟩ (fun h' hk x hx => ?_) (by rw [List.length_map, hl]; exact hz) fun h' tk hd' k => ?_
  · rw [List.getElem?_map] at e
    cases g : qs[j]? with
    | none => rw [g] at e; cases e
    | some x =>
      rw [g] at e
      cases e
      obtain ⟨p, e1, e2⟩ := hqs j x g
      refine ⟨by simp [e1], .inl ?_⟩
      show s.heap.IsTuple (ps.getD j 0) _
      rw [getD_of e1]
      exact e2
  · rw [show (PairRel (qs.map fun x => (Value.ref x.2.1, x.2.2)) i key v) = ((qs.map fun x => (Value.ref x.2.1, x.2.2))[i]? = some (key, v)) from rfl, List.getElem?_map] at e
    cases g : qs[i]? with
    | none => rw [g] at e; cases e
    | some x =>
      rw [g] at e
      cases e
      exact ⟨x.1, x.2.1, rfl, rfl⟩
  · obtain ⟨o', its', n', h1, h2, h3, h4⟩ := keys x hx
    exact ⟨o', its', n', hk _ _ (Nat.ne_of_lt (Heap.lt_size h1)) (by simp) h1, h2, h3, h4⟩
  · have hm : (s.heap.objs.size == sysModules) = false := beq_eq_false_iff_ne.mpr (Nat.ne_of_gt I.big)
    have km := kt_merge rel (acc := []) (accx := []) .nil
    have hlen : (mergeT [] kvs).length ≤ sizeLine := by
      have l1 : (mergeT [] kvs).length = (storedAllH [] qs).length := Paired.length km
      have l2 := storedAllH_length qs ([] : List (List Key × Addr × Value))
      rw [List.length_nil, Nat.zero_add] at l2
      omega
    obtain ⟨ob, es, ep, g1, g2, g3, g4, _, g5⟩ := hd'
    have hf := I.hok.fresh (Nat.le_refl s.heap.objs.size)
    refine ⟨.ref s.heap.objs.size, upd H s.heap.objs.size (.dT (mergeT [] kvs)), I.laid (t' := tk) (fun b o e => k b o (by simp) e) (Nat.le_refl _) ⟨hlen, hm, storedAllH [] qs, KT.keeps km fun c ys ec => ?_, ob, es, ep, g1, g2, g3, g4, g5⟩, rfl, q _ hf⟩
    rw [upd_ne fun z => by rw [z, hf] at ec; cases ec]
    exact ec
end
end TH

namespace TH
open PySem PySem.Spec PyProof.Rows L2
/-! ### a comprehension whose items are told by what the tuples say -/
section
variable {J : It} {n : Nat} {G : Hp → Prop} {Y : Nat → Hp → V → Hp → Prop} {K : PySem.W.Frag} {g : TG} {te : TE} {H1 : Hp} {Dl : Addr}
theorem lc_rel {σ0 : L2.St} {C : L2.St → Prop} {Qd : Hp → Prop} (w : Walk J n G Y) (φ : Nat → Hp → V → Prop) (hφ : ∀ i H H' v, Tx H H' → φ i H v → φ i H' v) (hG : ∀ H', Ex H1 H' → G H') (hD : H1 Dl = none) (hn : n ≤ 1000000)
    (hs : ∀ i x H' H'', i < n → Ex H1 H' → Y i H' x H'' → ∀ (R : VK), (∀ v H3, Ex H' H3 → φ i H3 v → R v H3) → g x σ0 H'' fun σ2 H2 => C σ2 ∧ te σ2 H2 R)
    (k : ∀ H' ws, Ex H1 H' → H' Dl = some (.lst ws) → ws.length = n → (∀ i v, ws[i]? = some v → φ i H' v) → Qd H') :
    ∃ W : Nat → Nat → Hp → Prop, (∃ m, W 0 m (upd H1 Dl (.lst []))) ∧ ∀ i m H, W i m H →
      (J.stop i H ∧ Qd H) ∨ (J.go i H ∧ ∃ Nx : Hp → Prop, (∀ H', Nx H' → ∃ m', m' < m ∧ W (i + 1) m' H') ∧ ∀ x H', J.yld i H x H' → g x σ0 H' fun σ2 H2 => C σ2 ∧ tYes σ2 H2 fun b H3 =>
        if b = true then te σ2 H3 fun y H4 => ∃ acc, H4 Dl = some (.lst acc) ∧ acc.length < sizeLine ∧ Nx (upd H4 Dl (.lst (acc ++ [y]))) else Nx H3) := by
  refine lc_it' w (fun i H' => Ex H1 H' ∧ ∃ ws, H' Dl = some (.lst ws) ∧ ws.length = i ∧ ∀ j v, ws[j]? = some v → φ j H' v) ⟨Ex.new hD, [], upd_same, rfl, fun j v h => by simp at h⟩ (fun i H' _ p => hG H' p.1) (fun i x H' H'' hi p y => ?_) (fun H' p => ?_)
  · obtain ⟨p1, ws, p2, p3, p4⟩ := p
    have := hs i x H' H'' hi p1 y (fun y H4 => ∃ acc, H4 Dl = some (.lst acc) ∧ acc.length < sizeLine ∧ (fun i H' => Ex H1 H' ∧ ∃ ws, H' Dl = some (.lst ws) ∧ ws.length = i ∧ ∀ j v, ws[j]? = some v → φ j H' v) (i + 1) (upd H4 Dl (.lst (acc ++ [y])))) (fun v H3 e3 hv => ?_)
    · exact this
    · have q2 : H3 Dl = some (.lst ws) := e3 _ _ p2
      refine ⟨ws, q2, Nat.lt_of_le_of_lt (by rw [p3]; exact Nat.le_refl _) (Nat.lt_of_lt_of_le hi (small2 hn)), (p1.trans e3).mut hD, ws ++ [v], upd_same, by rw [List.length_append, p3]; rfl, fun j u hj => ?_⟩
      rcases Nat.lt_or_ge j ws.length with z | z
      · rw [List.getElem?_append_left z] at hj
        exact hφ _ _ _ _ (e3.tx.trans (Tx.updL q2)) (p4 j u hj)
      · rw [List.getElem?_append_right z] at hj
        have z2 : j - ws.length = 0 := by
          refine Decidable.byContradiction fun z3 => ?_
          rw [List.getElem?_eq_none (by simp; omega)] at hj
          cases hj
        have z3 : j = i := by omega
        rw [z2] at hj
        subst z3
        cases hj
        exact hφ _ _ _ _ (Tx.updL q2) hv
  · obtain ⟨p1, ws, p2, p3, p4⟩ := p
    exact k H' ws p1 p2 p3 p4
end
/-! ### sorted(xs), xs a list of data: which item went where -/
open PySem.W in
def rSortedM (K : PySem.W.Frag) : List V → Hp → VK → Prop := fun xs H Q => ∃ (a : Addr) (vs : List V) (ds : List D), xs = [.ref a] ∧ SqL K H a vs ∧ DpAll K H vs ds ∧ AllAlike ds ∧ Sortable ds ∧ (∀ d ∈ ds, d.depth ≤ 50) ∧
  ∀ (bs : List (V × D)) (p : Addr), H p = none → bs.Perm (vs.zip ds) → bs.map (·.2) = ds.mergeSort (dataLe false id) → Q (.ref p) (upd H p (.lst (bs.map (·.1))))
section
open PySem.W
variable {X : Cx} {K : PySem.W.Frag}
theorem call_sortedM (hu : X.A.units + 64 < cLine) (hK : X.K = K := by rfl) : CallR X (.builtin "sorted") (rSortedM K) := by
  subst hK
  intro pins s σ H xs us Q I r h
  obtain ⟨a, vs, ds, rfl, hs, hd, al, so, dep, q⟩ := h
  obtain ⟨its, rv, hl, hz⟩ := I.list hs
  rw [Vals.ref1 r]
  have e := each_of rv hd
  have hle : vs.length = ds.length := dpa_len hd
  have em : (vs.zip ds).map (·.2) = ds := by
    rw [List.map_snd_zip]
    omega
  have er : EachIs (fun (u : Value) (b : V × D) => ∃ as, Reads s.heap u b.2 as) its (vs.zip ds) := e.mono fun u b hb => Dp.reads I b.2 b.1 u hb.2 hb.1
  have hzl : (vs.zip ds).length = its.length := e.length.symm
  refine sorted_data (enc := fun b : V × D => b.2) hl.isList e er (by rw [em]; exact al) (by rw [em]; exact so) (by rw [hzl, ← rv.length]; exact hz) (fun b hb => ?_) fun out hol heo => ?_
  · have : b.2 ∈ ds := by
      rw [← em]
      exact List.mem_map.mpr ⟨b, hb, rfl⟩
    have := dep b.2 this
    show X.A.units + 2 + b.2.depth < cLine
    omega
  · obtain ⟨ep, he'⟩ := PyProof.Rows.sortedAll_at s.heap its out.toArray
    obtain ⟨hv, hda⟩ := each_back heo
    have e2 : ((vs.zip ds).mergeSort (dataLe false fun b : V × D => b.2)).map (·.2) = ds.mergeSort (dataLe false id) := by
      rw [sort_maps (s := dataLe false id) (fun b : V × D => b.2) (fun a _ b _ => dataLe_map _ a b), em]
    refine ⟨.ref _, upd H (s.heap.objs.size + 1) (.lst _), I.laid (t' := s.toks) (fun _ _ => PyProof.Rows.sortedAll_old) (Nat.le_succ _) ⟨?_, out, ep, hv, he'⟩, rfl, q _ _ (I.hok.fresh (Nat.le_succ _)) (List.mergeSort_perm _ _) e2⟩
    rw [hv.length, hol, hzl, ← rv.length]
    exact hz
end
end TH

namespace LA
open Lean.Grind
variable {F : Type} [CommRing F]

/-- the j-th value of a row, 0 beyond -/
abbrev at' (r : List F) (j : Nat) : F := r.getD j 0
def sub (r o : List F) (c : F) : List F := List.zipWith (fun a b => a - c * b) r o
def smul (c : F) (r : List F) : List F := r.map (fun a => c * a)
def zero (w : Nat) : List F := List.replicate w 0

theorem sub_len {r o : List F} {c : F} {w : Nat} (h1 : r.length = w) (h2 : o.length = w) : (sub r o c).length = w := by
  simp [sub, h1, h2]
theorem smul_len {r : List F} {c : F} {w : Nat} (h1 : r.length = w) : (smul c r).length = w := by
  simp [smul, h1]
theorem zero_len {w : Nat} : (zero w : List F).length = w := by simp [zero]
theorem sub_at {r o : List F} {c : F} (h : r.length = o.length) (j : Nat) : at' (sub r o c) j = at' r j - c * at' o j := by
  unfold at' sub
  by_cases hj : j < r.length
  · have hj2 : j < o.length := by omega
    simp [List.getD_eq_getElem?_getD, List.getElem?_zipWith, List.getElem?_eq_getElem hj, List.getElem?_eq_getElem hj2]
  · have a1 : r[j]? = none := List.getElem?_eq_none (by omega)
    have a2 : o[j]? = none := List.getElem?_eq_none (by omega)
    simp [List.getD_eq_getElem?_getD, List.getElem?_zipWith, a1, a2]
    grind
theorem smul_at {r : List F} {c : F} (j : Nat) : at' (smul c r) j = c * at' r j := by
  unfold at' smul
  simp only [List.getD_eq_getElem?_getD, List.getElem?_map]
  cases r[j]? with
  | none => simp; grind
  | some v => simp
theorem zero_at {w : Nat} (j : Nat) : at' (zero w : List F) j = 0 := by
  unfold at' zero
  simp only [List.getD_eq_getElem?_getD, List.getElem?_replicate]
  split <;> simp
theorem ext' {r o : List F} (h : r.length = o.length) (e : ∀ j, at' r j = at' o j) : r = o := by
  apply List.ext_getElem h
  intro j h1 h2
  have := e j
  simpa [at', List.getD_eq_getElem?_getD, List.getElem?_eq_getElem h1, List.getElem?_eq_getElem h2] using this

/-- rows whose mixtures are spanned -/
def InS (w : Nat) : List (List F) → List F → Prop
  | [], v => v = zero w
  | r :: rs, v => ∃ c, InS w rs (sub v r c)

def Wd (w : Nat) (S : List (List F)) : Prop := ∀ r ∈ S, r.length = w
variable {w : Nat}
theorem Wd.tail {r : List F} {S : List (List F)} (h : Wd w (r :: S)) : Wd w S := fun x hx => h x (List.mem_cons_of_mem _ hx)
theorem Wd.head {r : List F} {S : List (List F)} (h : Wd w (r :: S)) : r.length = w := h r List.mem_cons_self

theorem inS_zero : ∀ {S : List (List F)}, Wd w S → InS w S (zero w)
  | [], _ => rfl
  | r :: S, h => ⟨0, by
      have e : sub (zero w) r 0 = zero w := by
        apply ext'
        · rw [sub_len zero_len h.head, zero_len]
        · intro j
          rw [sub_at (by rw [zero_len, h.head]), zero_at]
          grind
      rw [e]
      exact inS_zero h.tail⟩
theorem inS_sub : ∀ {S : List (List F)} {u v : List F} {c : F}, Wd w S → u.length = w → v.length = w → InS w S u → InS w S v → InS w S (sub u v c)
  | [], u, v, c, _, hu, hv, a, b => by
    have a' : u = zero w := a
    have b' : v = zero w := b
    show sub u v c = zero w
    rw [a', b']
    apply ext'
    · rw [sub_len zero_len zero_len, zero_len]
    · intro j
      rw [sub_at rfl, zero_at]
      grind
  | r :: S, u, v, c, h, hu, hv, ⟨cu, a⟩, ⟨cv, b⟩ => by
    refine ⟨cu - c * cv, ?_⟩
    have l1 := h.head
    have e : sub (sub u v c) r (cu - c * cv) = sub (sub u r cu) (sub v r cv) c := by
      apply ext'
      · rw [sub_len (sub_len hu hv) l1, sub_len (sub_len hu l1) (sub_len hv l1)]
      · intro j
        rw [sub_at (by rw [sub_len hu hv, l1]), sub_at (by rw [hu, hv]), sub_at (by rw [sub_len hu l1, sub_len hv l1]), sub_at (by rw [hu, l1]), sub_at (by rw [hv, l1])]
        grind
    rw [e]
    exact inS_sub h.tail (sub_len hu l1) (sub_len hv l1) a b
theorem inS_len : ∀ {S : List (List F)} {v : List F}, Wd w S → v.length = w → True := fun _ _ => trivial
theorem sub_zero' {v o : List F} (h : v.length = w) (ho : o.length = w) : sub v o 0 = v := by
  apply ext'
  · rw [sub_len h ho, h]
  · intro j
    rw [sub_at (by rw [h, ho])]
    grind
theorem sub_self' {v : List F} (h : v.length = w) : sub v v 1 = zero w := by
  apply ext'
  · rw [sub_len h h, zero_len]
  · intro j
    rw [sub_at rfl, zero_at]
    grind
theorem inS_cons {S : List (List F)} {r v : List F} (h : Wd w (r :: S)) (hv : v.length = w) (a : InS w S v) : InS w (r :: S) v := ⟨0, by rw [sub_zero' hv h.head]; exact a⟩
theorem inS_mem : ∀ {S : List (List F)} {r : List F}, Wd w S → r ∈ S → InS w S r
  | s :: S, r, h, m => by
    rcases List.mem_cons.mp m with e | m
    · subst e
      exact ⟨1, by rw [sub_self' h.head]; exact inS_zero h.tail⟩
    · exact inS_cons h (h r (List.mem_cons_of_mem _ m)) (inS_mem h.tail m)
/-- back: from v - c r and r -/
theorem inS_back {S : List (List F)} {v r : List F} {c : F} (h : Wd w S) (hv : v.length = w) (hr : r.length = w) (a : InS w S (sub v r c)) (b : InS w S r) : InS w S v := by
  have e : sub (sub v r c) r (-c) = v := by
    apply ext'
    · rw [sub_len (sub_len hv hr) hr, hv]
    · intro j
      rw [sub_at (by rw [sub_len hv hr, hr]), sub_at (by rw [hv, hr])]
      grind
  rw [← e]
  exact inS_sub h (sub_len hv hr) hr a b
theorem span_le : ∀ {S T : List (List F)} {v : List F}, Wd w S → Wd w T → v.length = w → (∀ r ∈ S, InS w T r) → InS w S v → InS w T v
  | [], T, v, _, hT, hv, _, a => by
    have a' : v = zero w := a
    rw [a']
    exact inS_zero hT
  | s :: S, T, v, h, hT, hv, m, ⟨c, a⟩ =>
    inS_back hT hv h.head (span_le h.tail hT (sub_len hv h.head) (fun r hr => m r (List.mem_cons_of_mem _ hr)) a) (m s List.mem_cons_self)
theorem inS_smul {S : List (List F)} {v : List F} {c : F} (h : Wd w S) (hv : v.length = w) (a : InS w S v) : InS w S (smul c v) := by
  have e : smul c v = sub (zero w) v (-c) := by
    apply ext'
    · rw [smul_len hv, sub_len zero_len hv]
    · intro j
      rw [smul_at, sub_at (by rw [zero_len, hv]), zero_at]
      grind
  rw [e]
  exact inS_sub h zero_len hv (inS_zero h) a
/-- the same room -/
def Eqv (w : Nat) (S T : List (List F)) : Prop := ∀ v : List F, v.length = w → (InS w S v ↔ InS w T v)
theorem Eqv.refl (S : List (List F)) : Eqv w S S := fun _ _ => Iff.rfl
theorem Eqv.symm {S T : List (List F)} (h : Eqv w S T) : Eqv w T S := fun v l => (h v l).symm
theorem Eqv.trans {S T U : List (List F)} (h : Eqv w S T) (k : Eqv w T U) : Eqv w S U := fun v l => (h v l).trans (k v l)
theorem Eqv.of {S T : List (List F)} (hS : Wd w S) (hT : Wd w T) (a : ∀ r ∈ S, InS w T r) (b : ∀ r ∈ T, InS w S r) : Eqv w S T :=
  fun v l => ⟨span_le hS hT l a, span_le hT hS l b⟩

/-- a row with its first place -/
structure Good (w : Nat) (a : Nat × List F) : Prop where
  len : a.2.length = w
  lt : a.1 < w
  one : at' a.2 a.1 = 1
  nil : ∀ j, j < a.1 → at' a.2 j = 0
structure Lad (w : Nat) (L : List (Nat × List F)) : Prop where
  good : ∀ a ∈ L, Good w a
  pw : L.Pairwise fun a b => a.1 < b.1 ∧ at' a.2 b.1 = 0
abbrev rowsOf (L : List (Nat × List F)) : List (List F) := L.map (·.2)
theorem Lad.wd {L : List (Nat × List F)} (h : Lad w L) : Wd w (rowsOf L) := fun r hr => by
  obtain ⟨a, ha, rfl⟩ := List.mem_map.mp hr
  exact (h.good a ha).len
theorem Lad.tail {a : Nat × List F} {L : List (Nat × List F)} (h : Lad w (a :: L)) : Lad w L :=
  ⟨fun b hb => h.good b (List.mem_cons_of_mem _ hb), (List.pairwise_cons.mp h.pw).2⟩
theorem Lad.later {a : Nat × List F} {L : List (Nat × List F)} (h : Lad w (a :: L)) : ∀ b ∈ L, a.1 < b.1 ∧ at' a.2 b.1 = 0 := (List.pairwise_cons.mp h.pw).1
/-- all rows of a room of rows with noughts at j have a nought at j -/
theorem inS_nil : ∀ {S : List (List F)} {v : List F} {j : Nat}, Wd w S → v.length = w → (∀ r ∈ S, at' r j = 0) → InS w S v → at' v j = 0
  | [], v, j, _, _, _, a => by
    have a' : v = zero w := a
    rw [a', zero_at]
  | r :: S, v, j, h, hv, m, ⟨c, a⟩ => by
    have q := inS_nil h.tail (sub_len hv h.head) (fun x hx => m x (List.mem_cons_of_mem _ hx)) a
    rw [sub_at (by rw [hv, h.head]), m r List.mem_cons_self] at q
    grind
theorem lad_zero : ∀ {L : List (Nat × List F)} {v : List F}, Lad w L → v.length = w → InS w (rowsOf L) v → (∀ a ∈ L, at' v a.1 = 0) → v = zero w
  | [], v, _, _, a, _ => a
  | a :: L, v, h, hv, ⟨c, s⟩, m => by
    have la := (h.good a List.mem_cons_self).len
    have q0 : at' (sub v a.2 c) a.1 = 0 := inS_nil h.tail.wd (sub_len hv la) (fun r hr => by
      obtain ⟨b, hb, rfl⟩ := List.mem_map.mp hr
      exact (h.good b (List.mem_cons_of_mem _ hb)).nil _ (h.later b hb).1) s
    have c0 : c = 0 := by
      rw [sub_at (by rw [hv, la]), m a List.mem_cons_self, (h.good a List.mem_cons_self).one] at q0
      grind
    rw [c0, sub_zero' hv la] at s
    exact lad_zero h.tail hv s fun b hb => m b (List.mem_cons_of_mem _ hb)
/-- the first place of a row of the room is one of the ladder's -/
theorem lad_lead : ∀ {L : List (Nat × List F)} {v : List F} {q : Nat}, Lad w L → v.length = w → InS w (rowsOf L) v → at' v q ≠ 0 → (∀ j, j < q → at' v j = 0) → ∃ a ∈ L, a.1 = q
  | [], v, q, _, _, a, hq, _ => by
    have a' : v = zero w := a
    rw [a', zero_at] at hq
    exact absurd rfl hq
  | a :: L, v, q, h, hv, ⟨c, s⟩, hq, m => by
    have ga := h.good a List.mem_cons_self
    have la := ga.len
    have nz : ∀ j, j ≤ a.1 → at' (sub v a.2 c) j = 0 := fun j hj => inS_nil h.tail.wd (sub_len hv la) (fun r hr => by
      obtain ⟨b, hb, rfl⟩ := List.mem_map.mp hr
      exact (h.good b (List.mem_cons_of_mem _ hb)).nil _ (Nat.lt_of_le_of_lt hj (h.later b hb).1)) s
    have c1 : at' v a.1 = c := by
      have := nz a.1 (Nat.le_refl _)
      rw [sub_at (by rw [hv, la]), ga.one] at this
      grind
    by_cases hc : c = 0
    · rw [hc, sub_zero' hv la] at s
      obtain ⟨b, hb, e⟩ := lad_lead h.tail hv s hq m
      exact ⟨b, List.mem_cons_of_mem _ hb, e⟩
    · refine ⟨a, List.mem_cons_self, ?_⟩
      have h1 : ¬ a.1 < q := fun z => hc (by rw [← c1]; exact m _ z)
      have h2 : ¬ q < a.1 := fun z => hq (by
        have := nz q (Nat.le_of_lt z)
        rw [sub_at (by rw [hv, la]), ga.nil q z] at this
        grind)
      omega
theorem Lad.zeroAt {L : List (Nat × List F)} (h : Lad w L) : ∀ a ∈ L, ∀ b ∈ L, a.1 ≠ b.1 → at' a.2 b.1 = 0 := by
  intro a ha b hb ne
  rcases Nat.lt_or_gt_of_ne ne with l | l
  · -- a is ahead of b
    have key : ∀ (M : List (Nat × List F)), M.Pairwise (fun a b => a.1 < b.1 ∧ at' a.2 b.1 = 0) → a ∈ M → b ∈ M → at' a.2 b.1 = 0 := by
      intro M
      induction M with
      | nil => intro _ m _; cases m
      | cons x M ih =>
        intro pw ma mb
        obtain ⟨p1, p2⟩ := List.pairwise_cons.mp pw
        rcases List.mem_cons.mp ma with e1 | ma'
        · rcases List.mem_cons.mp mb with e2 | mb'
          · rw [e1, e2] at l; omega
          · rw [e1]; exact (p1 b mb').2
        · rcases List.mem_cons.mp mb with e2 | mb'
          · have := (p1 a ma').1; rw [e2] at l; omega
          · exact ih p2 ma' mb'
    exact key L h.pw ha hb
  · exact (h.good a ha).nil _ l
theorem lad_sub {L M : List (Nat × List F)} (ne : (1 : F) ≠ 0) (hL : Lad w L) (hM : Lad w M) (e : Eqv w (rowsOf L) (rowsOf M)) : ∀ a ∈ L, a ∈ M := by
  intro a ha
  have places : ∀ {A B : List (Nat × List F)}, Lad w A → Lad w B → Eqv w (rowsOf A) (rowsOf B) → ∀ x ∈ A, ∃ y ∈ B, y.1 = x.1 := by
    intro A B hA hB e x hx
    have gx := hA.good x hx
    exact lad_lead hB gx.len ((e _ gx.len).mp (inS_mem hA.wd (List.mem_map.mpr ⟨x, hx, rfl⟩))) (by rw [gx.one]; exact ne) gx.nil
  obtain ⟨b, hb, eb⟩ := places hL hM e a ha
  have ga := hL.good a ha
  have gb := hM.good b hb
  have d0 : sub a.2 b.2 1 = zero w := lad_zero hM (sub_len ga.len gb.len)
    (inS_sub hM.wd ga.len gb.len ((e _ ga.len).mp (inS_mem hL.wd (List.mem_map.mpr ⟨a, ha, rfl⟩))) (inS_mem hM.wd (List.mem_map.mpr ⟨b, hb, rfl⟩))) (fun x hx => by
      rw [sub_at (by rw [ga.len, gb.len])]
      by_cases hq : x.1 = a.1
      · rw [hq, ga.one, ← eb, gb.one]
        grind
      · obtain ⟨y, hy, ey⟩ := places hM hL e.symm x hx
        have z1 : at' a.2 x.1 = 0 := by
          rw [← ey]
          exact hL.zeroAt a ha y hy (by rw [ey]; exact fun z => hq z.symm)
        have z2 : at' b.2 x.1 = 0 := hM.zeroAt b hb x hx (by rw [eb]; exact fun z => hq z.symm)
        rw [z1, z2]
        grind)
  have er : a.2 = b.2 := by
    apply ext'
    · rw [ga.len, gb.len]
    · intro j
      have := congrArg (fun r => at' r j) d0
      simp only [sub_at (show a.2.length = b.2.length by rw [ga.len, gb.len]), zero_at] at this
      grind
  have : a = b := Prod.ext eb.symm er
  rw [this]
  exact hb
/-- two lists in strict order with the same members are one -/
theorem sorted_one {α : Type} (k : α → Nat) : ∀ {L M : List α}, L.Pairwise (fun a b => k a < k b) → M.Pairwise (fun a b => k a < k b) → (∀ a ∈ L, a ∈ M) → (∀ a ∈ M, a ∈ L) → L = M
  | [], [], _, _, _, _ => rfl
  | [], b :: M, _, _, _, h => by have := h b List.mem_cons_self; cases this
  | a :: L, [], _, _, h, _ => by have := h a List.mem_cons_self; cases this
  | a :: L, b :: M, pL, pM, h1, h2 => by
    obtain ⟨a1, a2⟩ := List.pairwise_cons.mp pL
    obtain ⟨b1, b2⟩ := List.pairwise_cons.mp pM
    have e : a = b := by
      rcases List.mem_cons.mp (h1 a List.mem_cons_self) with e | m
      · exact e
      · rcases List.mem_cons.mp (h2 b List.mem_cons_self) with e | m'
        · exact e.symm
        · have x1 := b1 a m
          have x2 := a1 b m'
          omega
    subst e
    congr 1
    refine sorted_one k a2 b2 (fun x hx => ?_) (fun x hx => ?_)
    · rcases List.mem_cons.mp (h1 x (List.mem_cons_of_mem _ hx)) with e | m
      · subst e
        have := a1 x hx
        omega
      · exact m
    · rcases List.mem_cons.mp (h2 x (List.mem_cons_of_mem _ hx)) with e | m
      · subst e
        have := b1 x hx
        omega
      · exact m
/-- each room has just one ladder -/
theorem lad_one {L M : List (Nat × List F)} (ne : (1 : F) ≠ 0) (hL : Lad w L) (hM : Lad w M) (e : Eqv w (rowsOf L) (rowsOf M)) : L = M :=
  sorted_one (·.1) (hL.pw.imp fun h => h.1) (hM.pw.imp fun h => h.1) (lad_sub ne hL hM e) (lad_sub ne hM hL e.symm)
end LA

namespace LA
open Lean.Grind
variable {F : Type} [CommRing F] {w : Nat}
theorem inS_mono {S T : List (List F)} {v : List F} (hS : Wd w S) (hT : Wd w T) (hv : v.length = w) (m : ∀ r ∈ S, r ∈ T) (a : InS w S v) : InS w T v := span_le hS hT hv (fun r hr => inS_mem hT (m r hr)) a
theorem Eqv.mem {S T : List (List F)} (hS : Wd w S) (hT : Wd w T) (h : ∀ r, r ∈ S ↔ r ∈ T) : Eqv w S T := fun v hv => ⟨inS_mono hS hT hv fun r hr => (h r).mp hr, inS_mono hT hS hv fun r hr => (h r).mpr hr⟩
/-- all steps taken off, one by one -/
def lessF (S : List (Nat × List F)) (l : List F) : List F := S.foldl (fun l a => sub l a.2 (at' l a.1)) l
structure Sta (w : Nat) (S : List (Nat × List F)) : Prop where
  good : ∀ a ∈ S, Good w a
  pw : S.Pairwise fun a b => a.1 ≠ b.1 ∧ at' b.2 a.1 = 0
abbrev Wds (w : Nat) (S : List (Nat × List F)) : Prop := ∀ a ∈ S, a.2.length = w
theorem Sta.wds {S : List (Nat × List F)} (h : Sta w S) : Wds w S := fun a ha => (h.good a ha).len
theorem Wds.wd {S : List (Nat × List F)} (h : Wds w S) : Wd w (rowsOf S) := fun r hr => by
  obtain ⟨a, ha, rfl⟩ := List.mem_map.mp hr
  exact h a ha
theorem lessF_len : ∀ {S : List (Nat × List F)} {l : List F}, Wds w S → l.length = w → (lessF S l).length = w
  | [], _, _, h => h
  | a :: S, l, hS, h => lessF_len (S := S) (fun b hb => hS b (List.mem_cons_of_mem _ hb)) (sub_len h (hS a List.mem_cons_self))
theorem lessF_keep : ∀ {S : List (Nat × List F)} {l : List F} {q : Nat}, Wds w S → l.length = w → (∀ b ∈ S, at' b.2 q = 0) → at' (lessF S l) q = at' l q
  | [], _, _, _, _, _ => rfl
  | a :: S, l, q, hS, h, hq => by
    have la := hS a List.mem_cons_self
    have := lessF_keep (S := S) (l := sub l a.2 (at' l a.1)) (q := q) (fun b hb => hS b (List.mem_cons_of_mem _ hb)) (sub_len h la) fun b hb => hq b (List.mem_cons_of_mem _ hb)
    show at' (lessF S (sub l a.2 (at' l a.1))) q = _
    rw [this, sub_at (by rw [h, la]), hq a List.mem_cons_self]
    grind
theorem lessF_zero : ∀ {S : List (Nat × List F)} {l : List F}, Sta w S → l.length = w → ∀ a ∈ S, at' (lessF S l) a.1 = 0
  | [], _, _, _, a, ha => nomatch ha
  | x :: S, l, hS, h, a, ha => by
    have gx := hS.good x List.mem_cons_self
    obtain ⟨p1, p2⟩ := List.pairwise_cons.mp hS.pw
    have hT : Sta w S := ⟨fun b hb => hS.good b (List.mem_cons_of_mem _ hb), p2⟩
    have l2 := sub_len (c := at' l x.1) h gx.len
    rcases List.mem_cons.mp ha with e | m
    · subst e
      have := lessF_keep (S := S) (l := sub l a.2 (at' l a.1)) (q := a.1) hT.wds l2 fun b hb => (p1 b hb).2
      show at' (lessF S (sub l a.2 (at' l a.1))) a.1 = _
      rw [this, sub_at (by rw [h, gx.len]), gx.one]
      grind
    · exact lessF_zero hT l2 a m
theorem lessF_span : ∀ {S : List (Nat × List F)} {l : List F} {T : List (List F)}, Wds w S → Wd w T → l.length = w → (∀ a ∈ S, InS w T a.2) → (InS w T (lessF S l) ↔ InS w T l)
  | [], _, _, _, _, _, _ => Iff.rfl
  | a :: S, l, T, hS, hT, h, m => by
    have la := hS a List.mem_cons_self
    have ia := m a List.mem_cons_self
    refine (lessF_span (S := S) (fun b hb => hS b (List.mem_cons_of_mem _ hb)) hT (sub_len h la) fun b hb => m b (List.mem_cons_of_mem _ hb)).trans ⟨fun z => inS_back hT h la z ia, fun z => inS_sub hT h la z ia⟩
theorem smul_one' {l : List F} {t v : F} (hl : l.length = w) (e : t * v = 1) : smul v (smul t l) = l := by
  apply ext'
  · rw [smul_len (smul_len hl), hl]
  · intro j
    rw [smul_at, smul_at]
    grind
theorem wd_snoc {R : List (List F)} {l : List F} (hR : Wd w R) (hl : l.length = w) : Wd w (R ++ [l]) := fun r hr => by
  rcases List.mem_append.mp hr with m | m
  · exact hR r m
  · rw [List.mem_singleton.mp m]; exact hl
/-- a row that leaves nothing -/
theorem sta_none {S : List (Nat × List F)} {R : List (List F)} {l : List F} (hS : Sta w S) (hR : Wd w R) (hl : l.length = w) (e : Eqv w (rowsOf S) R) (hz : lessF S l = zero w) : Eqv w (rowsOf S) (R ++ [l]) := by
  have hT := hS.wds.wd
  refine Eqv.of hT (wd_snoc hR hl) (fun r hr => ?_) (fun r hr => ?_)
  · exact inS_mono hR (wd_snoc hR hl) (hT r hr) (fun x hx => List.mem_append_left _ hx) ((e r (hT r hr)).mp (inS_mem hT hr))
  · rcases List.mem_append.mp hr with m | m
    · exact (e r (hR r m)).mpr (inS_mem hR m)
    · rw [List.mem_singleton.mp m]
      refine (lessF_span hS.wds hT hl fun a ha => inS_mem hT (List.mem_map.mpr ⟨a, ha, rfl⟩)).mp ?_
      rw [hz]
      exact inS_zero hT
/-- a row that leaves a step -/
theorem sta_some {S : List (Nat × List F)} {R : List (List F)} {l : List F} {q : Nat} {t : F} (ne : (1 : F) ≠ 0) (hS : Sta w S) (hR : Wd w R) (hl : l.length = w) (e : Eqv w (rowsOf S) R) (hq : q < w)
    (hn : ∀ j, j < q → at' (lessF S l) j = 0) (ht : t * at' (lessF S l) q = 1) : Sta w (S ++ [(q, smul t (lessF S l))]) ∧ Eqv w (rowsOf (S ++ [(q, smul t (lessF S l))])) (R ++ [l]) := by
  have hw := hS.wds
  have hT := hw.wd
  have ll := lessF_len hw hl
  have g : Good w (q, smul t (lessF S l)) := ⟨smul_len ll, hq, by show at' (smul t (lessF S l)) q = 1; rw [smul_at]; exact ht, fun j hj => by show at' (smul t (lessF S l)) j = 0; rw [smul_at, hn j hj]; grind⟩
  have hnew : Wd w (rowsOf (S ++ [(q, smul t (lessF S l))])) := by
    rw [rowsOf, List.map_append]
    exact wd_snoc hT g.len
  refine ⟨⟨fun a ha => ?_, List.pairwise_append.mpr ⟨hS.pw, List.pairwise_singleton .., fun a ha b hb => ?_⟩⟩, Eqv.of hnew (wd_snoc hR hl) (fun r hr => ?_) (fun r hr => ?_)⟩
  · rcases List.mem_append.mp ha with m | m
    · exact hS.good a m
    · rw [List.mem_singleton.mp m]; exact g
  · rw [List.mem_singleton.mp hb]
    have z := lessF_zero hS hl a ha
    refine ⟨fun ea => ?_, ?_⟩
    · have ea' : a.1 = q := ea
      rw [ea'] at z
      rw [z] at ht
      exact ne (by rw [← ht]; grind)
    · show at' (smul t (lessF S l)) a.1 = 0
      rw [smul_at, z]; grind
  · have hU := wd_snoc hR hl
    rw [rowsOf, List.map_append] at hr
    have inU : ∀ a ∈ S, InS w (R ++ [l]) a.2 := fun a ha => inS_mono hR hU (hw a ha) (fun x hx => List.mem_append_left _ hx) ((e a.2 (hw a ha)).mp (inS_mem hT (List.mem_map.mpr ⟨a, ha, rfl⟩)))
    rcases List.mem_append.mp hr with m | m
    · obtain ⟨a, ha, rfl⟩ := List.mem_map.mp m
      exact inU a ha
    · rw [List.mem_singleton.mp m]
      refine inS_smul hU ll ?_
      exact (lessF_span hw hU hl inU).mpr (inS_mem hU (List.mem_append_right _ (List.mem_singleton.mpr rfl)))
  · have sub' : ∀ x ∈ rowsOf S, x ∈ rowsOf (S ++ [(q, smul t (lessF S l))]) := fun x hx => by
      rw [rowsOf, List.map_append]
      exact List.mem_append_left _ hx
    rcases List.mem_append.mp hr with m | m
    · exact inS_mono hT hnew (hR r m) sub' ((e r (hR r m)).mpr (inS_mem hR m))
    · rw [List.mem_singleton.mp m]
      refine (lessF_span hw hnew hl fun a ha => inS_mem hnew (sub' _ (List.mem_map.mpr ⟨a, ha, rfl⟩))).mp ?_
      have ht' : t * at' (lessF S l) q = 1 := ht
      have e1 := smul_one' (w := w) (l := lessF S l) (t := t) (v := at' (lessF S l) q) ll ht'
      have inn : InS w (rowsOf (S ++ [(q, smul t (lessF S l))])) (smul t (lessF S l)) := inS_mem hnew (by
        rw [rowsOf, List.map_append]
        exact List.mem_append_right _ (List.mem_singleton.mpr rfl))
      have := inS_smul (c := at' (lessF S l) q) hnew (smul_len ll) inn
      rw [e1] at this
      exact this
/-! the steps in order, taken off from behind -/
structure Desc (w : Nat) (D : List (Nat × List F)) : Prop where
  good : ∀ a ∈ D, Good w a
  pw : D.Pairwise fun a b => b.1 < a.1 ∧ at' b.2 a.1 = 0
theorem Desc.sta {D : List (Nat × List F)} (h : Desc w D) : Sta w D := ⟨h.good, h.pw.imp fun ⟨a, b⟩ => ⟨by omega, b⟩⟩
theorem Desc.lad {D : List (Nat × List F)} (h : Desc w D) : Lad w D.reverse := ⟨fun a ha => h.good a (List.mem_reverse.mp ha), List.pairwise_reverse.mpr h.pw⟩
theorem desc_step {D : List (Nat × List F)} {R : List (List F)} {s : List F} {q : Nat} (h : Desc w D) (g : Good w (q, s)) (hd : ∀ a ∈ D, q < a.1) (hR : Wd w R) (e : Eqv w (rowsOf D) R) :
    Desc w (D ++ [(q, lessF D s)]) ∧ Eqv w (rowsOf (D ++ [(q, lessF D s)])) (R ++ [s]) := by
  have hw := h.sta.wds
  have hT := hw.wd
  have ls : s.length = w := g.len
  have ll := lessF_len hw ls
  have keep : ∀ j, j ≤ q → at' (lessF D s) j = at' s j := fun j hj => lessF_keep hw ls fun b hb => (h.good b hb).nil j (Nat.lt_of_le_of_lt hj (hd b hb))
  have g' : Good w (q, lessF D s) := ⟨ll, g.lt, by show at' (lessF D s) q = 1; rw [keep q (Nat.le_refl _)]; exact g.one, fun j hj => by show at' (lessF D s) j = 0; rw [keep j (Nat.le_of_lt hj)]; exact g.nil j hj⟩
  have hnew : Wd w (rowsOf (D ++ [(q, lessF D s)])) := by
    rw [rowsOf, List.map_append]
    exact wd_snoc hT ll
  have hU := wd_snoc hR ls
  refine ⟨⟨fun a ha => ?_, List.pairwise_append.mpr ⟨h.pw, List.pairwise_singleton .., fun a ha b hb => ?_⟩⟩, Eqv.of hnew hU (fun r hr => ?_) (fun r hr => ?_)⟩
  · rcases List.mem_append.mp ha with m | m
    · exact h.good a m
    · rw [List.mem_singleton.mp m]; exact g'
  · rw [List.mem_singleton.mp hb]
    exact ⟨hd a ha, lessF_zero h.sta ls a ha⟩
  · rw [rowsOf, List.map_append] at hr
    have inU : ∀ a ∈ D, InS w (R ++ [s]) a.2 := fun a ha => inS_mono hR hU (hw a ha) (fun x hx => List.mem_append_left _ hx) ((e a.2 (hw a ha)).mp (inS_mem hT (List.mem_map.mpr ⟨a, ha, rfl⟩)))
    rcases List.mem_append.mp hr with m | m
    · obtain ⟨a, ha, rfl⟩ := List.mem_map.mp m
      exact inU a ha
    · rw [List.mem_singleton.mp m]
      exact (lessF_span hw hU ls inU).mpr (inS_mem hU (List.mem_append_right _ (List.mem_singleton.mpr rfl)))
  · have sub' : ∀ x ∈ rowsOf D, x ∈ rowsOf (D ++ [(q, lessF D s)]) := fun x hx => by
      rw [rowsOf, List.map_append]
      exact List.mem_append_left _ hx
    rcases List.mem_append.mp hr with m | m
    · exact inS_mono hT hnew (hR r m) sub' ((e r (hR r m)).mpr (inS_mem hR m))
    · rw [List.mem_singleton.mp m]
      refine (lessF_span hw hnew ls fun a ha => inS_mem hnew (sub' _ (List.mem_map.mpr ⟨a, ha, rfl⟩))).mp (inS_mem hnew ?_)
      rw [rowsOf, List.map_append]
      exact List.mem_append_right _ (List.mem_singleton.mpr rfl)
/-! column by column -/
structure Col (w : Nat) (R : List (List F)) (q : Nat) (left : List (List F)) (L : List (Nat × List F)) : Prop where
  lad : Lad w L
  bef : ∀ a ∈ L, a.1 < q
  len : Wd w left
  nil : ∀ r ∈ left, ∀ j, j < q → at' r j = 0
  eqv : Eqv w (left ++ rowsOf L) R
theorem wd_app {A B : List (List F)} (a : Wd w A) (b : Wd w B) : Wd w (A ++ B) := fun r hr => (List.mem_append.mp hr).elim (a r) (b r)
theorem col_none {R left : List (List F)} {q : Nat} {L : List (Nat × List F)} (h : Col w R q left L) (hz : ∀ r ∈ left, at' r q = 0) : Col w R (q + 1) left L :=
  ⟨h.lad, fun a ha => Nat.lt_succ_of_lt (h.bef a ha), h.len, fun r hr j hj => by
    rcases Nat.lt_or_ge j q with z | z
    · exact h.nil r hr j z
    · have : j = q := by omega
      subst this
      exact hz r hr, h.eqv⟩
theorem col_some {R left rest : List (List F)} {q : Nat} {L : List (Nat × List F)} {head : List F} {t : F} (h : Col w R q left L) (hq : q < w) (hm : ∀ r, r ∈ left ↔ r = head ∨ r ∈ rest) (ht : t * at' head q = 1) :
    Col w R (q + 1) (rest.map fun r => sub r (smul t head) (at' r q)) (L.map (fun a => (a.1, sub a.2 (smul t head) (at' a.2 q))) ++ [(q, smul t head)]) := by
  have hh : head ∈ left := (hm head).mpr (.inl rfl)
  have lh := h.len head hh
  have l1 : (smul t head).length = w := smul_len lh
  have one : at' (smul t head) q = 1 := by rw [smul_at]; exact ht
  have nil : ∀ j, j < q → at' (smul t head) j = 0 := fun j hj => by rw [smul_at, h.nil head hh j hj]; grind
  have g : Good w (q, smul t head) := ⟨l1, hq, one, nil⟩
  have sa : ∀ {r : List F} {c : F}, r.length = w → ∀ j, at' (sub r (smul t head) c) j = at' r j - c * at' (smul t head) j := fun hr j => sub_at (by rw [hr, l1]) j
  have lr : ∀ r ∈ rest, r.length = w := fun r hr => h.len r ((hm r).mpr (.inr hr))
  have wl : Wd w (rest.map fun r => sub r (smul t head) (at' r q)) := fun r hr => by
    obtain ⟨r0, h0, rfl⟩ := List.mem_map.mp hr
    exact sub_len (lr r0 h0) l1
  have good1 : ∀ a ∈ L, Good w (a.1, sub a.2 (smul t head) (at' a.2 q)) := fun a ha => by
    have ga := h.lad.good a ha
    refine ⟨sub_len ga.len l1, ga.lt, ?_, fun j hj => ?_⟩
    · show at' (sub a.2 (smul t head) (at' a.2 q)) a.1 = 1
      rw [sa ga.len, ga.one, nil _ (h.bef a ha)]
      grind
    · show at' (sub a.2 (smul t head) (at' a.2 q)) j = 0
      rw [sa ga.len, ga.nil j hj, nil _ (Nat.lt_trans hj (h.bef a ha))]
      grind
  have lad' : Lad w (L.map (fun a => (a.1, sub a.2 (smul t head) (at' a.2 q))) ++ [(q, smul t head)]) := by
    refine ⟨fun a ha => ?_, List.pairwise_append.mpr ⟨?_, List.pairwise_singleton .., fun a ha b hb => ?_⟩⟩
    · rcases List.mem_append.mp ha with m | m
      · obtain ⟨a0, h0, rfl⟩ := List.mem_map.mp m
        exact good1 a0 h0
      · rw [List.mem_singleton.mp m]; exact g
    · rw [List.pairwise_map]
      refine h.lad.pw.imp_of_mem fun {a b} ha hb z => ⟨z.1, ?_⟩
      show at' (sub a.2 (smul t head) (at' a.2 q)) b.1 = 0
      rw [sa (h.lad.good a ha).len, z.2, nil _ (h.bef b hb)]
      grind
    · obtain ⟨a0, h0, rfl⟩ := List.mem_map.mp ha
      rw [List.mem_singleton.mp hb]
      refine ⟨h.bef a0 h0, ?_⟩
      show at' (sub a0.2 (smul t head) (at' a0.2 q)) q = 0
      rw [sa (h.lad.good a0 h0).len, one]
      grind
  refine ⟨lad', fun a ha => ?_, wl, fun r hr j hj => ?_, ?_⟩
  · rcases List.mem_append.mp ha with m | m
    · obtain ⟨a0, h0, rfl⟩ := List.mem_map.mp m
      exact Nat.lt_succ_of_lt (h.bef a0 h0)
    · rw [List.mem_singleton.mp m]; exact Nat.lt_succ_self q
  · obtain ⟨r0, h0, rfl⟩ := List.mem_map.mp hr
    rw [sa (lr r0 h0)]
    rcases Nat.lt_or_ge j q with z | z
    · rw [h.nil r0 ((hm r0).mpr (.inr h0)) j z, nil j z]
      grind
    · have : j = q := by omega
      subst this
      rw [one]
      grind
  · refine Eqv.trans ?_ h.eqv
    have hA := wd_app wl lad'.wd
    have hB := wd_app h.len h.lad.wd
    have inB : ∀ r, r ∈ left ∨ r ∈ rowsOf L → InS w (left ++ rowsOf L) r := fun r hr => inS_mem hB (List.mem_append.mpr hr)
    have hB1 : InS w (left ++ rowsOf L) (smul t head) := inS_smul hB lh (inB head (.inl hh))
    have hrow : rowsOf (L.map (fun a => (a.1, sub a.2 (smul t head) (at' a.2 q))) ++ [(q, smul t head)]) = (L.map fun a => sub a.2 (smul t head) (at' a.2 q)) ++ [smul t head] := by
      rw [rowsOf, List.map_append, List.map_map]; rfl
    rw [hrow] at hA ⊢
    have hA1 : InS w ((rest.map fun r => sub r (smul t head) (at' r q)) ++ ((L.map fun a => sub a.2 (smul t head) (at' a.2 q)) ++ [smul t head])) (smul t head) := inS_mem hA (List.mem_append_right _ (List.mem_append_right _ (List.mem_singleton.mpr rfl)))
    refine Eqv.of hA hB (fun r hr => ?_) (fun r hr => ?_)
    · rcases List.mem_append.mp hr with m | m
      · obtain ⟨r0, h0, rfl⟩ := List.mem_map.mp m
        exact inS_sub hB (lr r0 h0) l1 (inB r0 (.inl ((hm r0).mpr (.inr h0)))) hB1
      · rcases List.mem_append.mp m with m | m
        · obtain ⟨a0, h0, rfl⟩ := List.mem_map.mp m
          exact inS_sub hB (h.lad.good a0 h0).len l1 (inB _ (.inr (List.mem_map.mpr ⟨a0, h0, rfl⟩))) hB1
        · rw [List.mem_singleton.mp m]; exact hB1
    · rcases List.mem_append.mp hr with m | m
      · rcases (hm r).mp m with rfl | m
        · have e1 := smul_one' (w := w) (l := r) (t := t) (v := at' r q) lh ht
          have := inS_smul (c := at' r q) hA l1 hA1
          rw [e1] at this
          exact this
        · exact inS_back hA (lr r m) l1 (inS_mem hA (List.mem_append_left _ (List.mem_map.mpr ⟨r, m, rfl⟩))) hA1
      · obtain ⟨a0, h0, rfl⟩ := List.mem_map.mp m
        exact inS_back hA (h.lad.good a0 h0).len l1 (inS_mem hA (List.mem_append_right _ (List.mem_append_left _ (List.mem_map.mpr ⟨a0, h0, rfl⟩)))) hA1
theorem col_start {R : List (List F)} (hR : Wd w R) : Col w R 0 R [] := ⟨⟨fun a ha => (nomatch ha), .nil⟩, fun a ha => (nomatch ha), hR, fun r hr j hj => absurd hj (Nat.not_lt_zero j), by rw [show rowsOf ([] : List (Nat × List F)) = [] from rfl, List.append_nil]; exact .refl _⟩
theorem row_zero {r : List F} (hl : r.length = w) (hz : ∀ j, j < w → at' r j = 0) : r = zero w := by
  apply ext'
  · rw [hl, zero_len]
  · intro j
    rw [zero_at]
    rcases Nat.lt_or_ge j w with z | z
    · exact hz j z
    · unfold at'
      rw [List.getD_eq_getElem?_getD, List.getElem?_eq_none (by omega)]
      rfl
theorem col_end {R left : List (List F)} {L : List (Nat × List F)} (h : Col w R w left L) : Eqv w (rowsOf L) R := by
  refine Eqv.trans ?_ h.eqv
  have hB := wd_app h.len h.lad.wd
  refine Eqv.of h.lad.wd hB (fun r hr => inS_mem hB (List.mem_append_right _ hr)) (fun r hr => ?_)
  rcases List.mem_append.mp hr with m | m
  · rw [row_zero (h.len r m) (h.nil r m)]
    exact inS_zero h.lad.wd
  · exact inS_mem h.lad.wd m
/-! rows written otherwise -/
theorem eqv_set {R : List (List F)} {i : Nat} {r s : List F} (hR : Wd w R) (hi : R[i]? = some r) (hs : s.length = w) (a : InS w R s) (b : InS w (R.set i s) r) : Eqv w (R.set i s) R := by
  have hS : Wd w (R.set i s) := fun x hx => by
    rcases List.mem_or_eq_of_mem_set hx with m | m
    · exact hR x m
    · rw [m]; exact hs
  refine Eqv.of hS hR (fun x hx => ?_) (fun x hx => ?_)
  · rcases List.mem_or_eq_of_mem_set hx with m | m
    · exact inS_mem hR m
    · rw [m]; exact a
  · obtain ⟨j, hj⟩ := List.mem_iff_getElem?.mp hx
    by_cases e : j = i
    · subst e
      rw [hi] at hj
      cases hj
      exact b
    · refine inS_mem hS (List.mem_iff_getElem?.mpr ⟨j, ?_⟩)
      rw [List.getElem?_set_ne (fun z => e z.symm)]
      exact hj
theorem mem_set_self {α : Type} {R : List α} {i : Nat} {r s : α} (hi : R[i]? = some r) : s ∈ R.set i s := List.mem_set (List.getElem?_eq_some_iff.mp hi).1 s
theorem wd_set {R : List (List F)} {i : Nat} {s : List F} (hR : Wd w R) (hs : s.length = w) : Wd w (R.set i s) := fun x hx => by
  rcases List.mem_or_eq_of_mem_set hx with m | m
  · exact hR x m
  · rw [m]; exact hs
theorem eqv_scale {R : List (List F)} {i : Nat} {r : List F} {c t : F} (hR : Wd w R) (hi : R[i]? = some r) (hc : c * t = 1) : Eqv w (R.set i (smul c r)) R := by
  have hr := hR r (List.mem_of_getElem? hi)
  have hS := wd_set (i := i) hR (smul_len (c := c) hr)
  refine eqv_set hR hi (smul_len hr) (inS_smul hR hr (inS_mem hR (List.mem_of_getElem? hi))) ?_
  have := inS_smul (c := t) hS (smul_len hr) (inS_mem hS (mem_set_self hi))
  rw [smul_one' hr hc] at this
  exact this
theorem eqv_less {R : List (List F)} {i k : Nat} {r o : List F} {c : F} (hR : Wd w R) (hi : R[i]? = some r) (hk : R[k]? = some o) (ne : i ≠ k) : Eqv w (R.set i (sub r o c)) R := by
  have hr := hR r (List.mem_of_getElem? hi)
  have ho := hR o (List.mem_of_getElem? hk)
  have hS := wd_set (i := i) hR (sub_len (c := c) hr ho)
  refine eqv_set hR hi (sub_len hr ho) (inS_sub hR hr ho (inS_mem hR (List.mem_of_getElem? hi)) (inS_mem hR (List.mem_of_getElem? hk))) ?_
  refine inS_back (c := c) hS hr ho (inS_mem hS (mem_set_self hi)) (inS_mem hS (List.mem_iff_getElem?.mpr ⟨k, ?_⟩))
  rw [List.getElem?_set_ne ne]
  exact hk
theorem eqv_more {R E : List (List F)} (hR : Wd w R) (hE : Wd w E) (h : ∀ e ∈ E, InS w R e) : Eqv w (R ++ E) R := by
  have hA := wd_app hR hE
  refine Eqv.of hA hR (fun x hx => ?_) (fun x hx => inS_mem hA (List.mem_append_left _ hx))
  rcases List.mem_append.mp hx with m | m
  · exact inS_mem hR m
  · exact h x m
end LA

namespace LA
open Lean.Grind
structure Clk (n : Nat) : Prop where
  two : 2 ≤ n
  le : n ≤ 1000000
  pr : ∀ k : Nat, k < 1001 → 2 ≤ k → (k : Int) * k ≤ (n : Int) → (n : Int) % k ≠ 0
theorem Clk.cop {n : Nat} (h : Clk n) {v : Nat} (v0 : 0 < v) (vn : v < n) : Nat.gcd n v = 1 := by
  have hp := h.pr
  have d1 := Nat.gcd_dvd_left n v
  have d2 := Nat.gcd_dvd_right n v
  have g0 : 0 < Nat.gcd n v := Nat.gcd_pos_of_pos_right n v0
  have gle : Nat.gcd n v ≤ v := Nat.le_of_dvd v0 d2
  generalize Nat.gcd n v = g at d1 d2 g0 gle
  refine Decidable.byContradiction fun hg => ?_
  obtain ⟨m, hm⟩ := d1
  have m2 : 2 ≤ m := by
    rcases m with _ | _ | m
    · simp at hm; omega
    · simp at hm; omega
    · omega
  have key : ∀ k l : Nat, n = k * l → 2 ≤ k → k ≤ l → False := by
    intro k l e k2 kl
    have sq : k * k ≤ n := by rw [e]; exact Nat.mul_le_mul_left k kl
    have k1 : k < 1001 := by
      refine Decidable.byContradiction fun z => ?_
      have : 1001 * 1001 ≤ k * k := Nat.mul_le_mul (by omega) (by omega)
      have := h.le
      omega
    refine hp k k1 k2 (by exact_mod_cast sq) ?_
    have : n % k = 0 := by rw [e]; exact Nat.mul_mod_right k l
    exact_mod_cast this
  rcases Nat.le_total g m with z | z
  · exact key g m hm (by omega) z
  · exact key m g (by rw [hm, Nat.mul_comm]) m2 z
/-- the value that gives 1 with another, mod n -/
theorem inv_ex : ∀ (fuel : Nat) (p v one other first second : Int), (first * v - one) % p = 0 → (second * v - other) % p = 0 → Int.gcd one other = 1 → 0 ≤ other → 0 < one → other.toNat < fuel → ∃ r : Int, (r * v - 1) % p = 0
  | 0, _, _, _, _, _, _, _, _, _, _, _, h => by omega
  | fuel + 1, p, v, one, other, first, second, a, b, g, o, n, h => by
    by_cases h0 : other = 0
    · subst h0
      have e1 : one = 1 := by
        rw [Int.gcd_zero_right] at g
        omega
      exact ⟨first, by rw [← e1]; exact a⟩
    · have ho : 0 < other := by omega
      have e : one - one / other * other = one % other := by
        have := Int.emod_def one other
        rw [this, Int.mul_comm]
      have l := Int.emod_lt_of_pos one ho
      have nn := Int.emod_nonneg one (show other ≠ 0 by omega)
      refine inv_ex fuel p v other (one - one / other * other) second (first - one / other * second) b ?_ ?_ (by omega) ho (by omega)
      · have e2 : (first - one / other * second) * v - (one - one / other * other) = (first * v - one) - one / other * (second * v - other) := by grind
        rw [e2]
        obtain ⟨x, hx⟩ := Int.dvd_of_emod_eq_zero a
        obtain ⟨y, hy⟩ := Int.dvd_of_emod_eq_zero b
        rw [hx, hy]
        have e3 : p * x - one / other * (p * y) = p * (x - one / other * y) := by grind
        rw [e3, Int.mul_emod_right]
      · rw [Int.gcd_sub_mul_right_right, Int.gcd_comm]
        exact g
theorem Clk.ne {n : Nat} (h : Clk n) : NeZero n := ⟨by have := h.two; omega⟩
/-! ints and Fin n -/
section
variable {n : Nat} [NeZero n]
def cF (n : Nat) [NeZero n] (x : Int) : Fin n := Fin.ofNat n (x % n).toNat
theorem n_pos : (0 : Int) < n := by have := Nat.pos_of_neZero n; omega
theorem cF_val (x : Int) : ((cF n x).val : Int) = x % n := by
  have h0 := Int.emod_nonneg x (show (n : Int) ≠ 0 by have := n_pos (n := n); omega)
  have h1 := Int.emod_lt_of_pos x (n_pos (n := n))
  show (((x % n).toNat % n : Nat) : Int) = _
  rw [Nat.mod_eq_of_lt (by omega)]
  omega
theorem cF_of {a : Fin n} {x : Int} (h : (a.val : Int) = x % n) : a = cF n x := by
  apply Fin.ext
  have := cF_val (n := n) x
  omega
theorem cF_iff {x y : Int} : cF n x = cF n y ↔ x % n = y % n := by
  constructor
  · intro h
    rw [← cF_val (n := n) x, ← cF_val (n := n) y, h]
  · intro h
    apply cF_of
    rw [cF_val, h]
theorem cF_mod (x : Int) : cF n (x % n) = cF n x := cF_iff.mpr (Int.emod_emod_of_dvd _ (Int.dvd_refl _))
theorem cF_mul (x y : Int) : cF n (x * y) = cF n x * cF n y := by
  refine (cF_of ?_).symm
  rw [Fin.val_mul]
  push_cast
  rw [cF_val, cF_val, ← Int.mul_emod]
theorem cF_add (x y : Int) : cF n (x + y) = cF n x + cF n y := by
  refine (cF_of ?_).symm
  rw [Fin.val_add]
  push_cast
  rw [cF_val, cF_val, ← Int.add_emod]
theorem cF_zero : cF n 0 = 0 := by
  refine (cF_of ?_).symm
  simp
theorem cF_one : cF n 1 = 1 := by
  refine (cF_of ?_).symm
  show (((1 % n : Nat)) : Int) = 1 % n
  push_cast
  rfl
theorem cF_sub (x y : Int) : cF n (x - y) = cF n x - cF n y := by
  have e : cF n (x - y) + cF n y = cF n x := by rw [← cF_add]; congr 1; omega
  rw [← e]
  grind
theorem cF_neg (x : Int) : cF n (-x) = - cF n x := by
  have := cF_sub (n := n) 0 x
  rw [cF_zero] at this
  rw [show -x = 0 - x by omega, this]
  grind
theorem cF_inj {x y : Int} (hx : 0 ≤ x ∧ x < n) (hy : 0 ≤ y ∧ y < n) (h : cF n x = cF n y) : x = y := by
  have := cF_iff.mp h
  rw [Int.emod_eq_of_lt hx.1 hx.2, Int.emod_eq_of_lt hy.1 hy.2] at this
  exact this
theorem cF_nz {x : Int} (hx : 0 < x ∧ x < n) : cF n x ≠ 0 := fun h => by
  rw [← cF_zero] at h
  have := cF_inj (n := n) (by omega) ⟨by omega, n_pos⟩ h
  omega
theorem cF_all (a : Fin n) : ∃ x : Int, 0 ≤ x ∧ x < n ∧ cF n x = a := ⟨a.val, by omega, by have := a.isLt; omega, (cF_of (by rw [Int.emod_eq_of_lt (by omega) (by have := a.isLt; omega)])).symm⟩
theorem fin_ne (h : Clk n) : (1 : Fin n) ≠ 0 := by
  rw [← cF_one]
  have := h.two
  exact cF_nz (by omega)
theorem fin_inv (h : Clk n) (a : Fin n) (ha : a ≠ 0) : ∃ b : Fin n, b * a = 1 := by
  have v0 : 0 < a.val := by
    refine Nat.pos_of_ne_zero fun z => ha ?_
    apply Fin.ext
    simpa using z
  have hg := h.cop v0 a.isLt
  have n2 := h.two
  obtain ⟨r, hr⟩ := inv_ex (a.val + 1) n a.val n a.val 0 1 (by simp) (by simp) (by
    show Int.gcd ((n : Nat) : Int) ((a.val : Nat) : Int) = 1
    exact hg) (by omega) (by omega) (by omega)
  refine ⟨cF n r, ?_⟩
  have ea : a = cF n a.val := cF_of (by rw [Int.emod_eq_of_lt (by omega) (by have := a.isLt; omega)])
  rw [ea, ← cF_mul, ← cF_one, cF_iff]
  have e2 : r * (a.val : Int) = (r * a.val - 1) + 1 := by omega
  rw [e2, Int.add_emod, hr, Int.zero_add, Int.emod_emod_of_dvd _ (Int.dvd_refl _)]
theorem fin_cancel (h : Clk n) {a b c : Fin n} (ha : a ≠ 0) (e : a * b = a * c) : b = c := by
  obtain ⟨i, hi⟩ := fin_inv h a ha
  have : i * (a * b) = i * (a * c) := by rw [e]
  grind
end
/-! a ^ (n - 1) = 1 -/
theorem nodup_perm {α : Type} [BEq α] [LawfulBEq α] : ∀ {M L : List α}, M.Nodup → (∀ x ∈ M, x ∈ L) → L.length ≤ M.length → M.Perm L
  | [], L, _, _, h => by
    have : L = [] := List.length_eq_zero_iff.mp (by simpa using h)
    rw [this]
  | x :: M, L, hn, hm, h => by
    obtain ⟨h1, h2⟩ := List.nodup_cons.mp hn
    have hx := hm x List.mem_cons_self
    have p := List.perm_cons_erase hx
    refine List.Perm.trans (List.Perm.cons x (nodup_perm h2 (fun y hy => ?_) ?_)) p.symm
    · refine (List.mem_erase_of_ne fun z => ?_).mpr (hm y (List.mem_cons_of_mem _ hy))
      rw [z] at hy
      exact h1 hy
    · have := p.length_eq
      simp at this h
      omega
theorem nodup_le {α : Type} [BEq α] [LawfulBEq α] : ∀ {M L : List α}, M.Nodup → (∀ x ∈ M, x ∈ L) → M.length ≤ L.length
  | [], L, _, _ => by simp
  | x :: M, L, hn, hm => by
    obtain ⟨h1, h2⟩ := List.nodup_cons.mp hn
    have hx := hm x List.mem_cons_self
    have p := List.perm_cons_erase hx
    have := nodup_le (L := L.erase x) h2 fun y hy => by
      refine (List.mem_erase_of_ne fun z => ?_).mpr (hm y (List.mem_cons_of_mem _ hy))
      rw [z] at hy
      exact h1 hy
    have := p.length_eq
    simp at this ⊢
    omega
def prodL {F : Type} [CommRing F] : List F → F
  | [] => 1
  | x :: xs => x * prodL xs
theorem prodL_perm {F : Type} [CommRing F] {A B : List F} (p : A.Perm B) : prodL A = prodL B := by
  induction p with
  | nil => rfl
  | cons x _ ih => show x * _ = x * _; rw [ih]
  | swap x y l => show y * (x * _) = x * (y * _); grind
  | trans _ _ a b => exact a.trans b
theorem prodL_map {F : Type} [CommRing F] (a : F) : ∀ A : List F, prodL (A.map fun x => a * x) = a ^ A.length * prodL A
  | [] => by show (1 : F) = a ^ 0 * 1; grind
  | x :: A => by
    show a * x * prodL (A.map fun x => a * x) = a ^ (A.length + 1) * (x * prodL A)
    rw [prodL_map a A, Semiring.pow_succ]
    grind
theorem prodL_ne {n : Nat} [NeZero n] (h : Clk n) : ∀ A : List (Fin n), (∀ x ∈ A, x ≠ 0) → prodL A ≠ 0
  | [], _ => fin_ne h
  | x :: A, hA => fun z => by
    have hx := hA x List.mem_cons_self
    have : x * prodL A = x * 0 := by
      have z' : x * prodL A = 0 := z
      rw [z']
      grind
    exact prodL_ne h A (fun y hy => hA y (List.mem_cons_of_mem _ hy)) (fin_cancel h hx this)
theorem fermat {m : Nat} (h : Clk (m + 1)) (a : Fin (m + 1)) (ha : a ≠ 0) : a ^ m = 1 := by
  have hU : ∀ x : Fin (m + 1), x ∈ (List.finRange m).map Fin.succ ↔ x ≠ 0 := fun x => by
    constructor
    · intro hx
      obtain ⟨y, _, rfl⟩ := List.mem_map.mp hx
      exact Fin.succ_ne_zero y
    · intro hx
      exact List.mem_map.mpr ⟨x.pred hx, List.mem_finRange _, Fin.succ_pred x hx⟩
  have hN : ((List.finRange m).map Fin.succ).Nodup := (List.nodup_finRange m).map Fin.succ (fun x y hxy z => hxy (Fin.succ_inj.mp z))
  have hM : (((List.finRange m).map Fin.succ).map fun x => a * x).Nodup := hN.map (fun x => a * x) fun x y hxy z => hxy (fin_cancel h ha z)
  have p := nodup_perm hM (L := (List.finRange m).map Fin.succ) (fun y hy => by
    obtain ⟨x, hx, rfl⟩ := List.mem_map.mp hy
    refine (hU _).mpr fun z => ?_
    have hx0 := (hU x).mp hx
    exact hx0 (fin_cancel h ha (z.trans (by grind)))) (by simp)
  have e := prodL_perm p
  rw [prodL_map, List.length_map, List.length_finRange] at e
  have hne := prodL_ne h _ fun x hx => (hU x).mp hx
  refine fin_cancel h hne ?_
  grind
end LA

/-! ### trees told by ties: sides, and a search that finds nothing twice (plain) -/
namespace LT
def Adj (ts : List (Nat × Nat)) (x y : Int) : Prop := ∃ a ∈ ts, (x = a.1 ∧ y = a.2) ∨ (x = a.2 ∧ y = a.1)
theorem Adj.symm {ts : List (Nat × Nat)} {x y : Int} (h : Adj ts x y) : Adj ts y x := by
  obtain ⟨a, h1, h2⟩ := h
  exact ⟨a, h1, h2.elim (fun z => .inr ⟨z.2, z.1⟩) fun z => .inl ⟨z.2, z.1⟩⟩
inductive Rc (ts : List (Nat × Nat)) (bar : Option Int) (s : Int) : Int → Prop where
  | base : Rc ts bar s s
  | step {x y : Int} : Rc ts bar s x → Adj ts x y → bar ≠ some y → Rc ts bar s y
structure Rooted (n : Nat) (ts : List (Nat × Nat)) (pa : Int → Int) (rk : Int → Nat) (r : Int) : Prop where
  edge : ∀ x y, Adj ts x y → (pa x = y ∧ rk y < rk x) ∨ (pa y = x ∧ rk x < rk y)
  up : ∀ v : Int, 0 ≤ v → v < n → v ≠ r → Adj ts v (pa v) ∧ rk (pa v) < rk v
  rng : ∀ x y, Adj ts x y → 0 ≤ x ∧ x < n
  root : 0 ≤ r ∧ r < n
  rk0 : rk r = 0
section
variable {n : Nat} {ts : List (Nat × Nat)} {pa : Int → Int} {rk : Int → Nat} {r : Int}
theorem Rc.trans {bar : Option Int} {s x y : Int} (h : Rc ts bar s x) (g : Rc ts bar x y) : Rc ts bar s y := by
  induction g with
  | base => exact h
  | step _ h2 h3 ih => exact ih.step h2 h3
theorem Rooted.up_rng (R : Rooted n ts pa rk r) {v : Int} (h0 : 0 ≤ v) (h1 : v < n) (hr : v ≠ r) : 0 ≤ pa v ∧ pa v < n := R.rng _ _ (R.up v h0 h1 hr).1.symm
/-- from any post to the root -/
theorem Rooted.to_root (R : Rooted n ts pa rk r) : ∀ (k : Nat) (v : Int), rk v ≤ k → 0 ≤ v → v < n → Rc ts none v r
  | 0, v, hk, h0, h1 => by
    by_cases hr : v = r
    · rw [hr]; exact .base
    · have := (R.up v h0 h1 hr).2
      omega
  | k + 1, v, hk, h0, h1 => by
    by_cases hr : v = r
    · rw [hr]; exact .base
    · obtain ⟨u1, u2⟩ := R.up v h0 h1 hr
      obtain ⟨w1, w2⟩ := R.up_rng h0 h1 hr
      exact ((Rc.base (bar := none)).step u1 (by simp)).trans (R.to_root k (pa v) (by omega) w1 w2)
theorem Rooted.from_root (R : Rooted n ts pa rk r) : ∀ (k : Nat) (v : Int), rk v ≤ k → 0 ≤ v → v < n → Rc ts none r v
  | 0, v, hk, h0, h1 => by
    by_cases hr : v = r
    · rw [hr]; exact .base
    · have := (R.up v h0 h1 hr).2
      omega
  | k + 1, v, hk, h0, h1 => by
    by_cases hr : v = r
    · rw [hr]; exact .base
    · obtain ⟨u1, u2⟩ := R.up v h0 h1 hr
      obtain ⟨w1, w2⟩ := R.up_rng h0 h1 hr
      exact (R.from_root k (pa v) (by omega) w1 w2).step u1.symm (by simp)
theorem Rooted.all (R : Rooted n ts pa rk r) {u v : Int} (h0 : 0 ≤ u) (h1 : u < n) (h2 : 0 ≤ v) (h3 : v < n) : Rc ts none u v :=
  (R.to_root _ u (Nat.le_refl _) h0 h1).trans (R.from_root _ v (Nat.le_refl _) h2 h3)
theorem Rooted.rc_rng (R : Rooted n ts pa rk r) {bar : Option Int} {s v : Int} (h : Rc ts bar s v) (h0 : 0 ≤ s) (h1 : s < n) : 0 ≤ v ∧ v < n := by
  induction h with
  | base => exact ⟨h0, h1⟩
  | step _ h2 _ _ => exact R.rng _ _ h2.symm
/-- the posts below b -/
inductive Sub (pa : Int → Int) (r b : Int) : Int → Prop where
  | here : Sub pa r b b
  | up {v : Int} : v ≠ r → Sub pa r b (pa v) → Sub pa r b v
theorem Sub.inv {b v : Int} (h : Sub pa r b v) : v = b ∨ (v ≠ r ∧ Sub pa r b (pa v)) := by
  cases h with
  | here => exact .inl rfl
  | up h1 h2 => exact .inr ⟨h1, h2⟩
theorem Rooted.sub_rk (R : Rooted n ts pa rk r) {b v : Int} (h : Sub pa r b v) : 0 ≤ v → v < n → rk b ≤ rk v := by
  induction h with
  | here => exact fun _ _ => Nat.le_refl _
  | up h1 _ ih =>
    intro h0 hn
    obtain ⟨w1, w2⟩ := R.up_rng h0 hn h1
    have := ih w1 w2
    have := (R.up _ h0 hn h1).2
    omega
section
variable {a b : Int}
theorem Rooted.below (R : Rooted n ts pa rk r) (hab : Adj ts a b) (hp : pa b = a) (hk : rk a < rk b) {v : Int} : Rc ts (some a) b v ↔ (0 ≤ v ∧ v < n) ∧ Sub pa r b v := by
  have hb := R.rng _ _ hab.symm
  have hbr : b ≠ r := fun e => by rw [e, R.rk0] at hk; omega
  constructor
  · intro h
    refine ⟨R.rc_rng h hb.1 hb.2, ?_⟩
    induction h with
    | base => exact .here
    | @step x y h1 h2 h3 ih =>
      rcases R.edge _ _ h2 with ⟨e, k⟩ | ⟨e, k⟩
      · rcases ih.inv with z | ⟨_, z⟩
        · subst z
          rw [hp] at e
          exact absurd (by rw [e]) h3
        · rw [← e]
          exact z
      · have hyr : y ≠ r := fun z => by rw [z, R.rk0] at k; omega
        exact .up hyr (by rw [e]; exact ih)
  · rintro ⟨⟨h0, h1⟩, h⟩
    induction h with
    | here => exact .base
    | up g1 g2 ih =>
      obtain ⟨w1, w2⟩ := R.up_rng h0 h1 g1
      obtain ⟨u1, u2⟩ := R.up _ h0 h1 g1
      refine (ih w1 w2).step u1.symm fun e => ?_
      have := R.sub_rk g2 w1 w2
      rw [Option.some.inj e] at hk
      omega
theorem Rooted.above (R : Rooted n ts pa rk r) (hab : Adj ts a b) (hp : pa b = a) (hk : rk a < rk b) {v : Int} : Rc ts (some b) a v ↔ (0 ≤ v ∧ v < n) ∧ ¬ Sub pa r b v := by
  have ha := R.rng _ _ hab
  have hbr : b ≠ r := fun e => by rw [e, R.rk0] at hk; omega
  have hna : ¬ Sub pa r b a := fun h => by
    have := R.sub_rk h ha.1 ha.2
    omega
  constructor
  · intro h
    refine ⟨R.rc_rng h ha.1 ha.2, ?_⟩
    induction h with
    | base => exact hna
    | @step x y h1 h2 h3 ih =>
      intro hy
      rcases R.edge _ _ h2 with ⟨e, k⟩ | ⟨e, k⟩
      · have hxr : x ≠ r := fun z => by rw [z, R.rk0] at k; omega
        exact ih (.up hxr (by rw [e]; exact hy))
      · rcases hy.inv with z | ⟨_, z⟩
        · exact h3 (by rw [z])
        · rw [e] at z
          exact ih z
  · rintro ⟨⟨h0, h1⟩, h⟩
    have toR : ∀ (k : Nat) (u : Int), rk u ≤ k → 0 ≤ u → u < n → ¬ Sub pa r b u → Rc ts (some b) u r := by
      intro k
      induction k with
      | zero =>
        intro u hu h0 h1 _
        by_cases hr : u = r
        · rw [hr]; exact .base
        · have := (R.up u h0 h1 hr).2
          omega
      | succ k ih =>
        intro u hu h0 h1 hn
        by_cases hr : u = r
        · rw [hr]; exact .base
        · obtain ⟨u1, u2⟩ := R.up u h0 h1 hr
          obtain ⟨w1, w2⟩ := R.up_rng h0 h1 hr
          have hn' : ¬ Sub pa r b (pa u) := fun z => hn (.up hr z)
          exact (Rc.base.step u1 fun e => hn' (by rw [← Option.some.inj e]; exact .here)).trans (ih (pa u) (by omega) w1 w2 hn')
    have frR : ∀ (k : Nat) (u : Int), rk u ≤ k → 0 ≤ u → u < n → ¬ Sub pa r b u → Rc ts (some b) r u := by
      intro k
      induction k with
      | zero =>
        intro u hu h0 h1 _
        by_cases hr : u = r
        · rw [hr]; exact .base
        · have := (R.up u h0 h1 hr).2
          omega
      | succ k ih =>
        intro u hu h0 h1 hn
        by_cases hr : u = r
        · rw [hr]; exact .base
        · obtain ⟨u1, u2⟩ := R.up u h0 h1 hr
          obtain ⟨w1, w2⟩ := R.up_rng h0 h1 hr
          exact (ih (pa u) (by omega) w1 w2 fun z => hn (.up hr z)).step u1.symm fun e => hn (by rw [← Option.some.inj e]; exact .here)
    exact (toR _ a (Nat.le_refl _) ha.1 ha.2 hna).trans (frR _ v (Nat.le_refl _) h0 h1 h)
end
/-- a tie parts the posts in two -/
theorem Rooted.parts (R : Rooted n ts pa rk r) {a b v : Int} (hab : Adj ts a b) (h0 : 0 ≤ v) (h1 : v < n) : (Rc ts (some b) a v ∧ ¬ Rc ts (some a) b v) ∨ (¬ Rc ts (some b) a v ∧ Rc ts (some a) b v) := by
  rcases R.edge _ _ hab with ⟨e, k⟩ | ⟨e, k⟩
  · rw [R.below hab.symm e k, R.above hab.symm e k]
    by_cases h : Sub pa r a v
    · exact .inl ⟨⟨⟨h0, h1⟩, h⟩, fun z => z.2 h⟩
    · exact .inr ⟨fun z => h z.2, ⟨⟨h0, h1⟩, h⟩⟩
  · rw [R.below hab e k, R.above hab e k]
    by_cases h : Sub pa r b v
    · exact .inr ⟨fun z => z.2 h, ⟨⟨h0, h1⟩, h⟩⟩
    · exact .inl ⟨⟨⟨h0, h1⟩, h⟩, fun z => h z.2⟩
/-! a part of the tree with a top -/
structure RS (pa : Int → Int) (r : Int) (n : Nat) (S : List Int) (t : Int) : Prop where
  top : t ∈ S
  pr : ∀ s ∈ S, s ≠ t → s ≠ r ∧ pa s ∈ S
  rng : ∀ s ∈ S, 0 ≤ s ∧ s < n
variable {S : List Int} {t : Int}
theorem RS.min (R : Rooted n ts pa rk r) (h : RS pa r n S t) : ∀ (k : Nat) (s : Int), rk s ≤ k → s ∈ S → rk t ≤ rk s
  | 0, s, hk, hs => by
    by_cases e : s = t
    · rw [e]; exact Nat.le_refl _
    · obtain ⟨h1, h2⟩ := h.pr s hs e
      have := (R.up s (h.rng s hs).1 (h.rng s hs).2 h1).2
      omega
  | k + 1, s, hk, hs => by
    by_cases e : s = t
    · rw [e]; exact Nat.le_refl _
    · obtain ⟨h1, h2⟩ := h.pr s hs e
      have := (R.up s (h.rng s hs).1 (h.rng s hs).2 h1).2
      have := RS.min R h k (pa s) (by omega) h2
      omega
theorem RS.one (R : Rooted n ts pa rk r) (h : RS pa r n S t) {v x y : Int} (hv : v ∉ S) (hx : x ∈ S) (hy : y ∈ S) (ax : Adj ts v x) (ay : Adj ts v y) : x = y := by
  have key : ∀ z, z ∈ S → Adj ts v z → (pa v = z ∧ rk z < rk v) ∨ (z = t ∧ rk v < rk t) := fun z hz az => by
    rcases R.edge _ _ az with e | ⟨e, k⟩
    · exact .inl e
    · by_cases g : z = t
      · exact .inr ⟨g, by rw [← g]; exact k⟩
      · have := (h.pr z hz g).2
        rw [e] at this
        exact absurd this hv
  rcases key x hx ax with ⟨e1, k1⟩ | ⟨e1, k1⟩ <;> rcases key y hy ay with ⟨e2, k2⟩ | ⟨e2, k2⟩
  · rw [← e1, ← e2]
  · have := RS.min R h _ x (Nat.le_refl _) hx
    omega
  · have := RS.min R h _ y (Nat.le_refl _) hy
    omega
  · rw [e1, e2]
theorem RS.add (R : Rooted n ts pa rk r) (h : RS pa r n S t) {u v : Int} (hv : v ∉ S) (hu : u ∈ S) (a : Adj ts u v) {S' : List Int} (hS : ∀ x, x ∈ S' ↔ x ∈ S ∨ x = v) : ∃ t', RS pa r n S' t' := by
  have hr := R.rng _ _ a.symm
  rcases R.edge _ _ a with ⟨e, k⟩ | ⟨e, k⟩
  · refine ⟨v, (hS v).mpr (.inr rfl), fun s hs hne => ?_, fun s hs => ?_⟩
    · have hs' := ((hS s).mp hs).resolve_right hne
      by_cases g : s = t
      · by_cases g2 : u = t
        · rw [g, ← g2]
          exact ⟨fun z => by rw [z, R.rk0] at k; omega, by rw [e]; exact (hS v).mpr (.inr rfl)⟩
        · exact absurd (e ▸ (h.pr u hu g2).2) hv
      · obtain ⟨h1, h2⟩ := h.pr s hs' g
        exact ⟨h1, (hS _).mpr (.inl h2)⟩
    · rcases (hS s).mp hs with z | z
      · exact h.rng s z
      · rw [z]; exact hr
  · refine ⟨t, (hS t).mpr (.inl h.top), fun s hs hne => ?_, fun s hs => ?_⟩
    · rcases (hS s).mp hs with z | z
      · obtain ⟨h1, h2⟩ := h.pr s z hne
        exact ⟨h1, (hS _).mpr (.inl h2)⟩
      · rw [z]
        exact ⟨fun g => by rw [g, R.rk0] at k; omega, by rw [e]; exact (hS _).mpr (.inl hu)⟩
    · rcases (hS s).mp hs with z | z
      · exact h.rng s z
      · rw [z]; exact hr
/-! the search -/
structure Dfs (n : Nat) (ts : List (Nat × Nat)) (pa : Int → Int) (r : Int) (bar : Option Int) (s : Int) (fd wt : List Int) : Prop where
  nd : (fd ++ wt).Nodup
  rs : ∃ t, RS pa r n (fd ++ wt) t
  rch : ∀ x ∈ fd ++ wt, Rc ts bar s x
  src : s ∈ fd ++ wt
  ind : ∀ x ∈ wt, ∀ y ∈ wt, ¬ Adj ts x y
  cls : ∀ x ∈ fd, ∀ y, Adj ts x y → bar ≠ some y → y ∈ fd ++ wt
theorem Rooted.irr (R : Rooted n ts pa rk r) {x : Int} (h : Adj ts x x) : False := by
  rcases R.edge _ _ h with ⟨_, k⟩ | ⟨_, k⟩ <;> omega
theorem Dfs.start (R : Rooted n ts pa rk r) {bar : Option Int} {s : Int} (h0 : 0 ≤ s) (h1 : s < n) : Dfs n ts pa r bar s [] [s] where
  nd := by simp
  rs := ⟨s, by simp, fun x hx hne => absurd (List.mem_singleton.mp (by simpa using hx)) hne, fun x hx => by
    have := List.mem_singleton.mp (show x ∈ [s] by simpa using hx)
    rw [this]; exact ⟨h0, h1⟩⟩
  rch := fun x hx => by
    rw [List.mem_singleton.mp (show x ∈ [s] by simpa using hx)]
    exact .base
  src := by simp
  ind := fun x hx y hy a => by
    rw [List.mem_singleton.mp hx, List.mem_singleton.mp hy] at a
    exact R.irr a
  cls := fun x hx => by simp at hx
theorem Dfs.step (R : Rooted n ts pa rk r) {bar : Option Int} {s : Int} {fd wr near : List Int} {x : Int} (h : Dfs n ts pa r bar s fd (wr ++ [x])) (hn : near.Nodup) (hm : ∀ y, y ∈ near ↔ Adj ts x y) (p : Int → Bool) (hp : ∀ y, p y = true ↔ y ∉ fd ++ [x] ∧ bar ≠ some y) :
    Dfs n ts pa r bar s (fd ++ [x]) (wr ++ near.filter p) := by
  have hS : ∀ y, y ∈ (fd ++ [x]) ++ wr ↔ y ∈ fd ++ (wr ++ [x]) := fun y => by
    simp only [List.mem_append, List.mem_singleton]
    constructor
    · rintro ((a | a) | a)
      · exact .inl a
      · exact .inr (.inr a)
      · exact .inr (.inl a)
    · rintro (a | a | a)
      · exact .inl (.inl a)
      · exact .inr a
      · exact .inl (.inr a)
  have hxw : x ∈ wr ++ [x] := List.mem_append_right _ (List.mem_singleton.mpr rfl)
  have key : ∀ ad : List Int, ad.Nodup → (∀ y ∈ ad, Adj ts x y ∧ y ∉ fd ++ [x]) → ((fd ++ [x]) ++ (wr ++ ad)).Nodup ∧ (∃ t, RS pa r n ((fd ++ [x]) ++ (wr ++ ad)) t) ∧ ∀ y ∈ wr ++ ad, ∀ z ∈ wr ++ ad, ¬ Adj ts y z := by
    intro ad
    induction ad with
    | nil =>
      intro _ _
      rw [List.append_nil]
      refine ⟨?_, ?_, fun y hy z hz => h.ind y (List.mem_append_left _ hy) z (List.mem_append_left _ hz)⟩
      · have hpm : ((fd ++ [x]) ++ wr).Perm (fd ++ (wr ++ [x])) := by
          rw [List.append_assoc]
          exact List.Perm.append_left fd List.perm_append_comm
        exact hpm.nodup_iff.mpr h.nd
      · obtain ⟨t, ht⟩ := h.rs
        exact ⟨t, (hS t).mpr ht.top, fun z hz hne => ⟨(ht.pr z ((hS z).mp hz) hne).1, (hS _).mpr (ht.pr z ((hS z).mp hz) hne).2⟩, fun z hz => ht.rng z ((hS z).mp hz)⟩
    | cons o ad ih =>
      intro nd hh
      obtain ⟨n1, n2⟩ := List.nodup_cons.mp nd
      obtain ⟨k1, ⟨t, k2⟩, k3⟩ := ih n2 fun y hy => hh y (List.mem_cons_of_mem _ hy)
      obtain ⟨a1, a2⟩ := hh o (List.mem_cons_self ..)
      have ho : o ∉ (fd ++ [x]) ++ (wr ++ ad) := fun hm => by
        rcases List.mem_append.mp hm with z | z
        · exact a2 z
        · rcases List.mem_append.mp z with z | z
          · exact h.ind x hxw o (List.mem_append_left _ z) a1
          · exact n1 z
      have hx : x ∈ (fd ++ [x]) ++ (wr ++ ad) := List.mem_append_left _ (List.mem_append_right _ (List.mem_singleton.mpr rfl))
      have pm : ((fd ++ [x]) ++ (wr ++ o :: ad)).Perm (o :: ((fd ++ [x]) ++ (wr ++ ad))) := by
        refine (List.Perm.append_left _ List.perm_middle).trans ?_
        exact List.perm_middle
      refine ⟨pm.nodup_iff.mpr (List.nodup_cons.mpr ⟨ho, k1⟩), RS.add R k2 ho hx a1 fun y => ?_, ?_⟩
      · rw [pm.mem_iff, List.mem_cons]
        exact ⟨fun z => z.symm, fun z => z.symm⟩
      · have no : ∀ y ∈ wr ++ ad, ¬ Adj ts o y := fun y hy a => by
          have e := RS.one R k2 ho hx (List.mem_append_right _ hy) a1.symm a
          rw [List.nodup_append] at k1
          exact k1.2.2 x (List.mem_append_right _ (List.mem_singleton.mpr rfl)) y hy e
        have mem : ∀ y, y ∈ wr ++ o :: ad → y = o ∨ y ∈ wr ++ ad := fun y hy => by
          simp only [List.mem_append, List.mem_cons] at hy ⊢
          rcases hy with z | z | z
          · exact .inr (.inl z)
          · exact .inl z
          · exact .inr (.inr z)
        intro y hy z hz a
        rcases mem y hy with e1 | e1 <;> rcases mem z hz with e2 | e2
        · rw [e1, e2] at a; exact R.irr a
        · rw [e1] at a; exact no z e2 a
        · rw [e2] at a; exact no y e1 a.symm
        · exact k3 y e1 z e2 a
  obtain ⟨k1, k2, k3⟩ := key (near.filter p) (hn.filter _) fun y hy => by
    obtain ⟨m1, m2⟩ := List.mem_filter.mp hy
    exact ⟨(hm y).mp m1, ((hp y).mp m2).1⟩
  have hin : ∀ y, y ∈ fd ++ (wr ++ [x]) → y ∈ (fd ++ [x]) ++ (wr ++ near.filter p) := fun y hy => by
    have := (hS y).mpr hy
    rw [← List.append_assoc]
    exact List.mem_append_left _ this
  refine ⟨k1, k2, fun y hy => ?_, hin _ h.src, k3, fun y hy z a hb => ?_⟩
  · rw [← List.append_assoc] at hy
    rcases List.mem_append.mp hy with m | m
    · exact h.rch y ((hS y).mp m)
    · obtain ⟨m1, m2⟩ := List.mem_filter.mp m
      exact (h.rch x (List.mem_append_right _ hxw)).step ((hm y).mp m1) ((hp y).mp m2).2
  · rcases List.mem_append.mp hy with m | m
    · exact hin _ (h.cls y m z a hb)
    · rw [List.mem_singleton.mp m] at a
      by_cases g : z ∈ fd ++ [x]
      · exact List.mem_append_left _ g
      · exact List.mem_append_right _ (List.mem_append_right _ (List.mem_filter.mpr ⟨(hm z).mpr a, (hp z).mpr ⟨g, hb⟩⟩))
theorem Dfs.fin {bar : Option Int} {s : Int} {fd : List Int} (h : Dfs n ts pa r bar s fd []) : fd.Nodup ∧ ∀ y, y ∈ fd ↔ Rc ts bar s y := by
  have e : fd ++ [] = fd := List.append_nil _
  refine ⟨e ▸ h.nd, fun y => ⟨fun hy => h.rch y (e.symm ▸ hy), fun g => ?_⟩⟩
  induction g with
  | base => exact e ▸ h.src
  | step _ h2 h3 ih => exact e ▸ h.cls _ ih _ h2 h3
end
end LT

/-! ### ties made of names in a drawn order, each tied to one ahead of it -/
namespace LT
def srt (u w : Nat) : Nat × Nat := if u ≤ w then (u, w) else (w, u)
theorem srt_cases (u w : Nat) : srt u w = (u, w) ∨ srt u w = (w, u) := by
  unfold srt
  split
  · exact .inl rfl
  · exact .inr rfl
theorem srt_lt {u w : Nat} (h : u ≠ w) : (srt u w).1 < (srt u w).2 := by
  unfold srt
  split
  · show u < w; omega
  · show w < u; omega
theorem Rooted.perm {n : Nat} {ts us : List (Nat × Nat)} {pa : Int → Int} {rk : Int → Nat} {r : Int} (R : Rooted n ts pa rk r) (p : us.Perm ts) : Rooted n us pa rk r := by
  have e : ∀ x y, Adj us x y ↔ Adj ts x y := fun x y => ⟨fun ⟨a, h1, h2⟩ => ⟨a, p.mem_iff.mp h1, h2⟩, fun ⟨a, h1, h2⟩ => ⟨a, p.mem_iff.mpr h1, h2⟩⟩
  exact ⟨fun x y h => R.edge x y ((e x y).mp h), fun v h0 h1 hr => ⟨(e _ _).mpr (R.up v h0 h1 hr).1, (R.up v h0 h1 hr).2⟩, fun x y h => R.rng x y ((e x y).mp h), R.root, R.rk0⟩
theorem nd_at {α : Type} {xs : List α} {i j : Nat} {x : α} (h : xs.Nodup) (hi : xs[i]? = some x) (hj : xs[j]? = some x) : i = j := by
  obtain ⟨i1, i2⟩ := List.getElem?_eq_some_iff.mp hi
  obtain ⟨j1, j2⟩ := List.getElem?_eq_some_iff.mp hj
  rcases Nat.lt_trichotomy i j with z | z | z
  · exact absurd (i2.trans j2.symm) (List.pairwise_iff_getElem.mp h i j i1 j1 z)
  · exact z
  · exact absurd (j2.trans i2.symm) (List.pairwise_iff_getElem.mp h j i j1 i1 z)
theorem ties_made {n : Nat} {nm : List Nat} (hp : nm.Perm (List.range n)) {ps : List (Nat × Nat)} (hl : ps.length + 1 = n) (h : ∀ j a, ps[j]? = some a → ∃ o, o ≤ j ∧ a = srt (nm.getD (j + 1) 0) (nm.getD o 0)) :
    (∀ a ∈ ps, a.1 < a.2 ∧ a.2 < n) ∧ ps.Nodup ∧ ∃ pa rk r, Rooted n ps pa rk r := by
  have nd : nm.Nodup := hp.nodup_iff.mpr List.nodup_range
  have len : nm.length = n := by rw [hp.length_eq, List.length_range]
  have at' : ∀ i, i < n → nm[i]? = some (nm.getD i 0) := fun i hi => by
    rw [List.getD_eq_getElem?_getD, List.getElem?_eq_getElem (by omega)]
    rfl
  have inj : ∀ i j, i < n → j < n → nm.getD i 0 = nm.getD j 0 → i = j := fun i j hi hj e => nd_at nd (at' i hi) (by rw [e]; exact at' j hj)
  have lt : ∀ i, i < n → nm.getD i 0 < n := fun i hi => List.mem_range.mp (hp.mem_iff.mp (List.mem_of_getElem? (at' i hi)))
  have idx : ∀ i, i < n → nm.idxOf (nm.getD i 0) = i := fun i hi => by
    have hm : nm.getD i 0 ∈ nm := List.mem_of_getElem? (at' i hi)
    have h1 : nm.idxOf (nm.getD i 0) < nm.length := List.idxOf_lt_length_iff.mpr hm
    have h2 : nm[nm.idxOf (nm.getD i 0)] = nm.getD i 0 := List.getElem_idxOf h1
    exact nd_at nd (by rw [List.getElem?_eq_getElem h1, h2]) (at' i hi)
  have bk : ∀ v, v < n → ∃ i, i < n ∧ nm.getD i 0 = v := fun v hv => by
    obtain ⟨i, hi⟩ := List.mem_iff_getElem?.mp (hp.mem_iff.mpr (List.mem_range.mpr hv))
    have := (List.getElem?_eq_some_iff.mp hi).1
    exact ⟨i, by omega, by rw [List.getD_eq_getElem?_getD, hi]; rfl⟩
  obtain ⟨pr, hpr⟩ : ∃ pr : Nat → Nat, ∀ j, j < ps.length → pr j ≤ j ∧ ps[j]? = some (srt (nm.getD (j + 1) 0) (nm.getD (pr j) 0)) := by
    have : ∀ j, ∃ o, j < ps.length → o ≤ j ∧ ps[j]? = some (srt (nm.getD (j + 1) 0) (nm.getD o 0)) := fun j => by
      by_cases hj : j < ps.length
      · obtain ⟨o, h1, h2⟩ := h j _ (List.getElem?_eq_getElem hj)
        exact ⟨o, fun _ => ⟨h1, by rw [List.getElem?_eq_getElem hj, h2]⟩⟩
      · exact ⟨0, fun z => absurd z hj⟩
    exact ⟨fun j => Classical.choose (this j), fun j hj => Classical.choose_spec (this j) hj⟩
  have mem : ∀ a ∈ ps, ∃ j, j < ps.length ∧ ps[j]? = some a ∧ a = srt (nm.getD (j + 1) 0) (nm.getD (pr j) 0) := fun a ha => by
    obtain ⟨j, hj⟩ := List.mem_iff_getElem?.mp ha
    have hjl := (List.getElem?_eq_some_iff.mp hj).1
    have := (hpr j hjl).2
    rw [hj] at this
    exact ⟨j, hjl, hj, Option.some.inj this⟩
  refine ⟨fun a ha => ?_, ?_, ?_⟩
  · obtain ⟨j, hjl, _, rfl⟩ := mem a ha
    have hle := (hpr j hjl).1
    have hne : nm.getD (j + 1) 0 ≠ nm.getD (pr j) 0 := fun e => by
      have := inj _ _ (by omega) (by omega) e
      omega
    refine ⟨srt_lt hne, ?_⟩
    have l1 := lt (j + 1) (by omega)
    have l2 := lt (pr j) (by omega)
    rcases srt_cases (nm.getD (j + 1) 0) (nm.getD (pr j) 0) with e | e <;> rw [e]
    · exact l2
    · exact l1
  · refine List.pairwise_iff_getElem.mpr fun i j hi hj hij e => ?_
    have h1 := (hpr i hi).2
    have h2 := (hpr j hj).2
    have l1 := (hpr i hi).1
    have l2 := (hpr j hj).1
    rw [List.getElem?_eq_getElem hi] at h1
    rw [List.getElem?_eq_getElem hj] at h2
    have e2 := (Option.some.inj h1).symm.trans (e.trans (Option.some.inj h2))
    have k : (nm.getD (i + 1) 0 = nm.getD (j + 1) 0) ∨ (nm.getD (i + 1) 0 = nm.getD (pr j) 0 ∧ nm.getD (pr i) 0 = nm.getD (j + 1) 0) := by
      rcases srt_cases (nm.getD (i + 1) 0) (nm.getD (pr i) 0) with a | a <;> rcases srt_cases (nm.getD (j + 1) 0) (nm.getD (pr j) 0) with b | b <;> rw [a, b] at e2 <;> injection e2 with x1 x2
      · exact .inl x1
      · exact .inr ⟨x1, x2⟩
      · exact .inr ⟨x2, x1⟩
      · exact .inl x2
    rcases k with k | ⟨k1, k2⟩
    · have := inj _ _ (by omega) (by omega) k
      omega
    · have := inj _ _ (by omega) (by omega) k2
      omega
  · have hadj : ∀ j, j < ps.length → Adj ps (nm.getD (j + 1) 0 : Nat) (nm.getD (pr j) 0 : Nat) := fun j hj => by
      refine ⟨_, List.mem_of_getElem? (hpr j hj).2, ?_⟩
      rcases srt_cases (nm.getD (j + 1) 0) (nm.getD (pr j) 0) with e | e <;> rw [e]
      · exact .inl ⟨rfl, rfl⟩
      · exact .inr ⟨rfl, rfl⟩
    have inv : ∀ x y, Adj ps x y → ∃ j, j < ps.length ∧ ((x = (nm.getD (j + 1) 0 : Nat) ∧ y = (nm.getD (pr j) 0 : Nat)) ∨ (y = (nm.getD (j + 1) 0 : Nat) ∧ x = (nm.getD (pr j) 0 : Nat))) := fun x y ⟨a, ha, hxy⟩ => by
      obtain ⟨j, hjl, _, e⟩ := mem a ha
      refine ⟨j, hjl, ?_⟩
      rcases srt_cases (nm.getD (j + 1) 0) (nm.getD (pr j) 0) with b | b <;> rw [b] at e <;> subst e
      · exact hxy.imp id fun z => ⟨z.2, z.1⟩
      · exact hxy.elim (fun z => .inr ⟨z.2, z.1⟩) fun z => .inl z
    refine ⟨fun v => (nm.getD (pr (nm.idxOf v.toNat - 1)) 0 : Nat), fun v => nm.idxOf v.toNat, (nm.getD 0 0 : Nat), fun x y hxy => ?_, fun v h0 h1 hr => ?_, fun x y hxy => ?_, ?_, ?_⟩
    · obtain ⟨j, hj, ⟨rfl, rfl⟩ | ⟨rfl, rfl⟩⟩ := inv x y hxy
      · refine .inl ?_
        have := (hpr j hj).1
        rw [Int.toNat_natCast, Int.toNat_natCast, idx _ (by omega), idx _ (by omega)]
        exact ⟨rfl, by omega⟩
      · refine .inr ?_
        have := (hpr j hj).1
        rw [Int.toNat_natCast, Int.toNat_natCast, idx _ (by omega), idx _ (by omega)]
        exact ⟨rfl, by omega⟩
    · obtain ⟨i, hi, e⟩ := bk v.toNat (by omega)
      have ev : v = (nm.getD i 0 : Nat) := by omega
      have hi0 : i ≠ 0 := fun z => hr (by rw [ev, z])
      subst ev
      have := (hpr (i - 1) (by omega)).1
      simp only [Int.toNat_natCast]
      rw [idx i hi, idx _ (by omega)]
      have q := hadj (i - 1) (by omega)
      have e1 : i - 1 + 1 = i := by omega
      rw [e1] at q
      exact ⟨q, by omega⟩
    · obtain ⟨j, hj, ⟨rfl, rfl⟩ | ⟨rfl, rfl⟩⟩ := inv x y hxy
      · have := lt (j + 1) (by omega)
        omega
      · have := (hpr j hj).1
        have := lt (pr j) (by omega)
        omega
    · have := lt 0 (by omega)
      omega
    · show nm.idxOf (Int.toNat _) = 0
      rw [Int.toNat_natCast, idx 0 (by omega)]
end LT

namespace TK
open PySem PySem.Spec PyProof.Rows L2 TH
local macro_rules | `(tactic| walk_at "rd1") => `(tactic| first
  | (with_reducible refine TH.w_seq ?_)
  | (with_reducible refine TH.w_asg ?_)
  | (with_reducible refine TH.w_ret ?_)
  | (with_reducible refine TH.w_drop ?_)
  | (with_reducible refine TH.w_ifS ?_)
  | (with_reducible refine TH.w_next ?_)
  | ((with_reducible refine TH.w_var (v := ?vv) ?hv ?_); (case hv => rfl))
  | (with_reducible refine TH.w_c ?_)
  | ((with_reducible refine TH.w_gname (σ' := ?ss) ?hs ?_); (case hs => (dsimp only [List.set]; rfl)))
  | (with_reducible refine TH.w_op ?_)
  | (with_reducible refine TH.w_un ?_)
  | (with_reducible refine TH.w_chain ?_)
  | (with_reducible refine TH.w_I0 ?_)
  | ((with_reducible refine TH.w_I ?hm ?_); (case hm => first | (exact TH.CMul.l (by omega) (by omega)) | (exact TH.CMul.r (by omega) (by omega)) | (exact TH.CDiv.mk (by omega) (by omega)) | (show (0 : Int) < _; omega) | (exact TH.CPow.mk (by omega) (by omega) (by decide))))
  | (with_reducible refine TH.w_U ?_)
  | (with_reducible refine TH.w_eqI ?_)
  | (with_reducible refine TH.w_neI ?_)
  | (with_reducible refine TH.w_eqB ?_)
  | (with_reducible refine TH.w_isN ?_)
  | (with_reducible refine TH.w_nil ?_)
  | (with_reducible refine TH.w_cons ?_)
  | (with_reducible refine TH.w_test ?_)
  | (with_reducible refine TH.w_B ?_)
  | (with_reducible refine TH.w_bl ?_)
  | (with_reducible refine TH.w_and ?_)
  | (with_reducible refine TH.w_or ?_)
  | (with_reducible refine TH.w_not ?_)
  | (with_reducible refine TH.w_andV ?_)
  | (with_reducible refine TH.w_orV ?_)
  | (with_reducible refine TH.w_notV ?_)
  | (with_reducible refine TH.w_if ?_)
  | (with_reducible refine TH.w_parT ?_)
  | (with_reducible refine TH.w_par ?_)
  | (with_reducible refine TH.w_parT3 ?_)
  | (with_reducible refine TH.w_par3 ?_)
  | (with_reducible refine TH.w_cb ?_)
  | (with_reducible refine TH.w_call ?_)
  | ((with_reducible refine TH.w_aug (v := ?vv) ?hv ?_); (case hv => rfl))
  | (with_reducible refine TH.w_ip ?_)
  | (with_reducible refine TH.w_bm ?_)
  | (with_reducible refine TH.w_sl ?_)
  | (with_reducible refine TH.w_np ?_)
  | (with_reducible refine TH.w_pt ?_)
  | (with_reducible refine TH.w_pti ?_)
  | (with_reducible refine TH.w_gsub ?_)
  | (with_reducible refine TH.w_int ?_)
  | (with_reducible refine TH.w_tupT ?_)
  | (with_reducible refine TH.w_lstT ?_)
  | ((with_reducible show L2.rIxL _ _ _ _ _); (first | (refine TH.w_ixL (TH.sqL upd_same) rfl ?_) | (refine TH.w_ixL (TH.sqL (by assumption)) rfl ?_)))
  | ((with_reducible show L2.rSetL _ _ _ _ _); (first | (refine TH.w_set1 upd_same ?_) | (refine TH.w_set2 upd_same ?_) | (refine TH.w_set3 upd_same ?_) | (refine TH.w_set4 upd_same ?_) | (refine TH.w_set1 (by assumption) ?_) | (refine TH.w_set2 (by assumption) ?_) | (refine TH.w_set3 (by assumption) ?_) | (refine TH.w_set4 (by assumption) ?_)))
  | (with_reducible refine TH.w_lc ?_)
  | (with_reducible refine TH.w_dc ?_)
  | (with_reducible refine TH.w_itup ?_)
  | (with_reducible refine TH.w_ilist ?_)
  | (with_reducible refine TH.w_ienum ?_)
  | (with_reducible refine TH.w_izip ?_)
  | (with_reducible refine TH.w_irng1 ?_)
  | (with_reducible refine TH.w_irng2 ?_)
  | (with_reducible refine TH.w_for ?_)
  | (with_reducible refine TH.w_gcons ?_)
  | (with_reducible refine TH.w_gnil ?_)
  | (with_reducible refine TH.w_yes ?_)
  | (with_reducible refine TH.w_gtup2 upd_same ?_)
  | (with_reducible refine TH.w_gtup3 upd_same ?_)
  | (with_reducible refine TH.w_dput ?_)
  | (with_reducible refine TH.w_bm0 ?_)
  | (with_reducible refine TH.w_din ?_)
  | (with_reducible refine TH.w_dnotin ?_)
  | (with_reducible refine TH.w_dispK ?_)
  | (with_reducible refine TH.w_lock ?_)
  | (with_reducible refine TH.w_ikeys ?_)
  | (with_reducible refine TH.w_iitems ?_)
  | (with_reducible refine TH.w_dispT1 ?_)
  | (with_reducible refine TH.w_dnewT ?_)
  | (with_reducible refine TH.w_dnewK ?_)
  | (with_reducible refine TH.w_fld ?_)
  | (with_reducible refine TH.w_sfld ?_)
  | (with_reducible refine TH.w_meth ?_)
  | (with_reducible refine TH.w_make ?_)
  | (with_reducible refine TH.w_dget2 ?_)
  | (with_reducible refine TH.w_revL ?_)
  | (with_reducible refine TH.w_revT ?_)
  | (with_reducible refine TH.w_lstRg ?_)
  | (with_reducible refine TH.w_tupRg ?_)
  | (with_reducible refine TH.w_rg1 ?_)
  | (with_reducible refine TH.w_rg2 ?_)
  | (with_reducible refine TH.w_T ?_)
  | (with_reducible refine TH.w_F ?_))
local macro_rules | `(tactic| walk_at "rd") => `(tactic| repeat (first | walk_at "rd1" | (dsimp only [List.set, L2.wipe, List.map, TH.isInt, TH.isBool, TH.isTup, TH.isLst, TH.bo_f, TH.bo_t, TH.ba_f, TH.ba_t, TH.bn_t, TH.bn_f, List.append_nil, List.cons_append, List.nil_append])))

def top (i : Nat) : Stmt := PySem.Challenge.pw_tollhall_k17_whole_small_sheets_counted.main.body.getD i (.Pass ⟨0, 0, 0, 0⟩)
abbrev s_is_integer : Stmt := top 7
abbrev N_is_integer : List Str := ["thing"]
theorem sc_is_integer : FnScope N_is_integer ["thing"] (C8.fnScope s_is_integer) := ⟨rfl, rfl, rfl, by decide +kernel, rfl, by decide +kernel, by decide +kernel⟩
abbrev s_is_within : Stmt := top 8
abbrev N_is_within : List Str := ["thing", "least", "most"]
theorem sc_is_within : FnScope N_is_within ["thing", "least", "most"] (C8.fnScope s_is_within) := ⟨rfl, rfl, rfl, by decide +kernel, rfl, by decide +kernel, by decide +kernel⟩
abbrev s_is_pair : Stmt := top 9
abbrev N_is_pair : List Str := ["thing"]
theorem sc_is_pair : FnScope N_is_pair ["thing"] (C8.fnScope s_is_pair) := ⟨rfl, rfl, rfl, by decide +kernel, rfl, by decide +kernel, by decide +kernel⟩
abbrev s_check_number : Stmt := top 10
abbrev N_check_number : List Str := ["thing", "least", "most"]
theorem sc_check_number : FnScope N_check_number ["thing", "least", "most"] (C8.fnScope s_check_number) := ⟨rfl, rfl, rfl, by decide +kernel, rfl, by decide +kernel, by decide +kernel⟩
abbrev s_prime : Stmt := top 13
abbrev N_prime : List Str := ["number", "at"]
theorem sc_prime : FnScope N_prime ["number"] (C8.fnScope s_prime) := ⟨rfl, rfl, rfl, by decide +kernel, rfl, by decide +kernel, by decide +kernel⟩
abbrev s_is_clock : Stmt := top 14
abbrev N_is_clock : List Str := ["thing"]
theorem sc_is_clock : FnScope N_is_clock ["thing"] (C8.fnScope s_is_clock) := ⟨rfl, rfl, rfl, by decide +kernel, rfl, by decide +kernel, by decide +kernel⟩
abbrev s_check_clock : Stmt := top 15
abbrev N_check_clock : List Str := ["thing"]
theorem sc_check_clock : FnScope N_check_clock ["thing"] (C8.fnScope s_check_clock) := ⟨rfl, rfl, rfl, by decide +kernel, rfl, by decide +kernel, by decide +kernel⟩
abbrev s_is_tie : Stmt := top 18
abbrev N_is_tie : List Str := ["posts", "thing"]
theorem sc_is_tie : FnScope N_is_tie ["posts", "thing"] (C8.fnScope s_is_tie) := ⟨rfl, rfl, rfl, by decide +kernel, rfl, by decide +kernel, by decide +kernel⟩
abbrev s_reached : Stmt := top 19
abbrev N_reached : List Str := ["tied", "post", "barred", "found", "waiting", "other"]
theorem sc_reached : FnScope N_reached ["tied", "post", "barred"] (C8.fnScope s_reached) := ⟨rfl, rfl, rfl, by decide +kernel, rfl, by decide +kernel, by decide +kernel⟩
abbrev s_all_tied : Stmt := top 21
abbrev N_all_tied : List Str := ["posts", "ties", "found", "one", "other", "post", "some"]
theorem sc_all_tied : FnScope N_all_tied ["posts", "ties"] (C8.fnScope s_all_tied) := ⟨rfl, rfl, rfl, by decide +kernel, rfl, by decide +kernel, by decide +kernel⟩
abbrev s_are_counts : Stmt := top 25
abbrev N_are_counts : List Str := ["tree", "thing", "many"]
theorem sc_are_counts : FnScope N_are_counts ["tree", "thing"] (C8.fnScope s_are_counts) := ⟨rfl, rfl, rfl, by decide +kernel, rfl, by decide +kernel, by decide +kernel⟩
abbrev s_check_counts : Stmt := top 26
abbrev N_check_counts : List Str := ["tree", "thing"]
theorem sc_check_counts : FnScope N_check_counts ["tree", "thing"] (C8.fnScope s_check_counts) := ⟨rfl, rfl, rfl, by decide +kernel, rfl, by decide +kernel, by decide +kernel⟩
abbrev s_power : Stmt := top 29
abbrev N_power : List Str := ["base", "many", "found", "turn"]
theorem sc_power : FnScope N_power ["base", "many"] (C8.fnScope s_power) := ⟨rfl, rfl, rfl, by decide +kernel, rfl, by decide +kernel, by decide +kernel⟩
abbrev s_tables_of_rank : Stmt := top 30
abbrev N_tables_of_rank : List Str := ["p", "rows", "wide", "rank", "at", "above", "below"]
theorem sc_tables_of_rank : FnScope N_tables_of_rank ["p", "rows", "wide", "rank"] (C8.fnScope s_tables_of_rank) := ⟨rfl, rfl, rfl, by decide +kernel, rfl, by decide +kernel, by decide +kernel⟩
abbrev s_tolls_in_all : Stmt := top 31
abbrev N_tolls_in_all : List Str := ["p", "holds", "wants", "there", "back", "two", "found"]
theorem sc_tolls_in_all : FnScope N_tolls_in_all ["p", "holds", "wants", "there", "back"] (C8.fnScope s_tolls_in_all) := ⟨rfl, rfl, rfl, by decide +kernel, rfl, by decide +kernel, by decide +kernel⟩
abbrev s_sheets_in_all : Stmt := top 32
abbrev N_sheets_in_all : List Str := ["p", "tree", "holds", "wants"]
theorem sc_sheets_in_all : FnScope N_sheets_in_all ["p", "tree", "holds", "wants"] (C8.fnScope s_sheets_in_all) := ⟨rfl, rfl, rfl, by decide +kernel, rfl, by decide +kernel, by decide +kernel⟩
abbrev s_Tree_init : Stmt := inClass (top 20) 0
abbrev N_Tree_init : List Str := ["self", "ties", "posts", "index", "tie"]
theorem sc_Tree_init : FnScope N_Tree_init ["self", "ties"] (C8.fnScope s_Tree_init) := ⟨rfl, rfl, rfl, by decide +kernel, rfl, by decide +kernel, by decide +kernel⟩
abbrev s_law_bag : Stmt := top 34
abbrev N_law_bag : List Str := ["script", "seed", "cell", "great", "always"]
theorem sc_law_bag : FnScope N_law_bag ["script"] (C8.fnScope s_law_bag) := ⟨rfl, rfl, rfl, by decide +kernel, rfl, by decide +kernel, by decide +kernel⟩
abbrev s_law_pick : Stmt := top 35
abbrev N_law_pick : List Str := ["bag", "many", "great", "number", "digit"]
theorem sc_law_pick : FnScope N_law_pick ["bag", "many"] (C8.fnScope s_law_pick) := ⟨rfl, rfl, rfl, by decide +kernel, rfl, by decide +kernel, by decide +kernel⟩
abbrev s_law_some : Stmt := top 36
abbrev N_law_some : List Str := ["bag", "things"]
theorem sc_law_some : FnScope N_law_some ["bag", "things"] (C8.fnScope s_law_some) := ⟨rfl, rfl, rfl, by decide +kernel, rfl, by decide +kernel, by decide +kernel⟩
abbrev s_law_is : Stmt := top 37
abbrev N_law_is : List Str := ["thing", "due", "one", "other"]
theorem sc_law_is : FnScope N_law_is ["thing", "due"] (C8.fnScope s_law_is) := ⟨rfl, rfl, rfl, by decide +kernel, rfl, by decide +kernel, by decide +kernel⟩
abbrev s_law_turned : Stmt := top 38
abbrev N_law_turned : List Str := ["p", "value", "one", "other", "first", "second", "many"]
theorem sc_law_turned : FnScope N_law_turned ["p", "value"] (C8.fnScope s_law_turned) := ⟨rfl, rfl, rfl, by decide +kernel, rfl, by decide +kernel, by decide +kernel⟩
abbrev s_law_without : Stmt := top 39
abbrev N_law_without : List Str := ["p", "row", "head", "place", "one", "two"]
theorem sc_law_without : FnScope N_law_without ["p", "row", "head", "place"] (C8.fnScope s_law_without) := ⟨rfl, rfl, rfl, by decide +kernel, rfl, by decide +kernel, by decide +kernel⟩
abbrev s_law_ladder : Stmt := top 40
abbrev N_law_ladder : List Str := ["p", "rows", "wide", "place", "left", "made", "some", "back", "head", "row", "value"]
theorem sc_law_ladder : FnScope N_law_ladder ["p", "rows"] (C8.fnScope s_law_ladder) := ⟨rfl, rfl, rfl, by decide +kernel, rfl, by decide +kernel, by decide +kernel⟩
abbrev s_law_tied : Stmt := top 41
abbrev N_law_tied : List Str := ["ties", "post", "one", "other"]
theorem sc_law_tied : FnScope N_law_tied ["ties", "post"] (C8.fnScope s_law_tied) := ⟨rfl, rfl, rfl, by decide +kernel, rfl, by decide +kernel, by decide +kernel⟩
abbrev s_law_side : Stmt := top 42
abbrev N_law_side : List Str := ["ties", "post", "barred", "made", "here", "waiting", "other"]
theorem sc_law_side : FnScope N_law_side ["ties", "post", "barred"] (C8.fnScope s_law_side) := ⟨rfl, rfl, rfl, by decide +kernel, rfl, by decide +kernel, by decide +kernel⟩
abbrev s_law_ways : Stmt := top 43
abbrev N_law_ways : List Str := ["ties", "one", "other"]
theorem sc_law_ways : FnScope N_law_ways ["ties"] (C8.fnScope s_law_ways) := ⟨rfl, rfl, rfl, by decide +kernel, rfl, by decide +kernel, by decide +kernel⟩
abbrev s_law_numbers_of : Stmt := top 44
abbrev N_law_numbers_of : List Str := ["holds", "posts", "made", "post"]
theorem sc_law_numbers_of : FnScope N_law_numbers_of ["holds", "posts"] (C8.fnScope s_law_numbers_of) := ⟨rfl, rfl, rfl, by decide +kernel, rfl, by decide +kernel, by decide +kernel⟩
abbrev s_law_block : Stmt := top 45
abbrev N_law_block : List Str := ["spec", "way", "numbers", "made", "post", "row", "number"]
theorem sc_law_block : FnScope N_law_block ["spec", "way"] (C8.fnScope s_law_block) := ⟨rfl, rfl, rfl, by decide +kernel, rfl, by decide +kernel, by decide +kernel⟩
abbrev s_law_tolls : Stmt := top 46
abbrev N_law_tolls : List Str := ["spec", "way"]
theorem sc_law_tolls : FnScope N_law_tolls ["spec"] (C8.fnScope s_law_tolls) := ⟨rfl, rfl, rfl, by decide +kernel, rfl, by decide +kernel, by decide +kernel⟩
abbrev s_law_parted : Stmt := top 47
abbrev N_law_parted : List Str := ["things", "counts", "made", "post"]
theorem sc_law_parted : FnScope N_law_parted ["things", "counts"] (C8.fnScope s_law_parted) := ⟨rfl, rfl, rfl, by decide +kernel, rfl, by decide +kernel, by decide +kernel⟩
abbrev s_law_ties : Stmt := top 48
abbrev N_law_ties : List Str := ["bag", "most", "many", "post"]
theorem sc_law_ties : FnScope N_law_ties ["bag", "most"] (C8.fnScope s_law_ties) := ⟨rfl, rfl, rfl, by decide +kernel, rfl, by decide +kernel, by decide +kernel⟩
abbrev s_law_clock : Stmt := top 49
abbrev N_law_clock : List Str := ["bag"]
theorem sc_law_clock : FnScope N_law_clock ["bag"] (C8.fnScope s_law_clock) := ⟨rfl, rfl, rfl, by decide +kernel, rfl, by decide +kernel, by decide +kernel⟩
abbrev s_law_dealt : Stmt := top 50
abbrev N_law_dealt : List Str := ["bag", "posts", "many", "made", "turn", "at"]
theorem sc_law_dealt : FnScope N_law_dealt ["bag", "posts", "many"] (C8.fnScope s_law_dealt) := ⟨rfl, rfl, rfl, by decide +kernel, rfl, by decide +kernel, by decide +kernel⟩
abbrev s_law_power : Stmt := top 51
abbrev N_law_power : List Str := ["p", "many", "made", "turn"]
theorem sc_law_power : FnScope N_law_power ["p", "many"] (C8.fnScope s_law_power) := ⟨rfl, rfl, rfl, by decide +kernel, rfl, by decide +kernel, by decide +kernel⟩
abbrev s_law_of_rank : Stmt := top 52
abbrev N_law_of_rank : List Str := ["p", "rows", "wide", "rank", "counts", "turn", "later", "at", "inside", "every"]
theorem sc_law_of_rank : FnScope N_law_of_rank ["p", "rows", "wide", "rank"] (C8.fnScope s_law_of_rank) := ⟨rfl, rfl, rfl, by decide +kernel, rfl, by decide +kernel, by decide +kernel⟩
abbrev s_law_in_all : Stmt := top 53
abbrev N_law_in_all : List Str := ["p", "holds", "wants", "there", "back", "own"]
theorem sc_law_in_all : FnScope N_law_in_all ["p", "holds", "wants", "there", "back"] (C8.fnScope s_law_in_all) := ⟨rfl, rfl, rfl, by decide +kernel, rfl, by decide +kernel, by decide +kernel⟩
abbrev s_law_all_right : Stmt := top 54
abbrev N_law_all_right : List Str := ["bag", "wants", "many", "counts", "number", "there", "p", "holds", "place", "rows", "tolls", "pair", "back", "values", "left", "due", "at"]
theorem sc_law_all_right : FnScope N_law_all_right ["bag"] (C8.fnScope s_law_all_right) := ⟨rfl, rfl, rfl, by decide +kernel, rfl, by decide +kernel, by decide +kernel⟩
abbrev s_law_great_right : Stmt := top 55
abbrev N_law_great_right : List Str := ["bag", "p", "every", "total", "one", "holds", "wants", "there", "back", "other"]
theorem sc_law_great_right : FnScope N_law_great_right ["bag"] (C8.fnScope s_law_great_right) := ⟨rfl, rfl, rfl, by decide +kernel, rfl, by decide +kernel, by decide +kernel⟩
abbrev s_law : Stmt := top 56
abbrev N_law : List Str := ["script", "bag", "ties", "many", "holds", "wants", "p"]
theorem sc_law : FnScope N_law ["script"] (C8.fnScope s_law) := ⟨rfl, rfl, rfl, by decide +kernel, rfl, by decide +kernel, by decide +kernel⟩

structure Txt (mg : Str → Option Value) : Prop where
  b_abs : mg "abs" = none
  b_all : mg "all" = none
  b_bool : mg "bool" = none
  b_dict : mg "dict" = none
  b_enumerate : mg "enumerate" = none
  b_int : mg "int" = none
  b_isinstance : mg "isinstance" = none
  b_len : mg "len" = none
  b_list : mg "list" = none
  b_max : mg "max" = none
  b_min : mg "min" = none
  b_range : mg "range" = none
  b_sorted : mg "sorted" = none
  b_sum : mg "sum" = none
  b_tuple : mg "tuple" = none
  b_zip : mg "zip" = none
  g_MOST_HOURS : ∃ u, mg "MOST_HOURS" = some u ∧ RelV (.int 1000000) u
  g_MOST_TIES : ∃ u, mg "MOST_TIES" = some u ∧ RelV (.int 23) u
  g_MOST_AT : ∃ u, mg "MOST_AT" = some u ∧ RelV (.int 8) u
  g_MOST_NUMBERS : ∃ u, mg "MOST_NUMBERS" = some u ∧ RelV (.int 60) u
  g_MOST_TOLL : ∃ u, mg "MOST_TOLL" = some u ∧ RelV (.int 60) u
variable {P : Program} {w : World} {K : PySem.W.Frag} {mg : Str → Option Value} {base : Heap}
/-! is_integer(thing) -/
def sp_is_integer (K : PySem.W.Frag) : Sp := fun vs H Q _ => ∃ (v : V) (d : D), vs = [v] ∧ Dp K H v d ∧ Q (.bl (isInt d)) H
theorem ok_is_integer {f : Addr} {fd : FuncData} (F : C8.Def K mg "is_integer" s_is_integer f fd) (b : Binds K fd ["thing"] []) (T : Txt mg) : C8.Cal P w K mg base 1 "is_integer" (sp_is_integer K) [] := by
  refine C8.cal0 F b .nil sc_is_integer (fun vs H Q E h => ?_) (fun cdv A outer s H vs Q E hr h => ?_)
  · obtain ⟨v, d, rfl, _⟩ := h
    rfl
  · obtain ⟨v, d, rfl, hd, q⟩ := h
    refine ⟨_, (pss_one (ps_ret (pe_and (pe_callB (TH.kcall_isi (K := K)) (by rfl) T.b_isinstance (by decide +kernel) (pa_cons (pv 0) (pa_cons (pe_bltn (v := .ty "int") (by rfl) T.b_int (by decide +kernel) rfl) pa_nil))) (pe_one (pe_not (pe_callB (TH.kcall_isi (K := K)) (by rfl) T.b_isinstance (by decide +kernel) (pa_cons (pv 0) (pa_cons (pe_bltn (v := .ty "bool") (by rfl) T.b_bool (by decide +kernel) rfl) pa_nil)))))))), ?_⟩
    refine w_start (σ' := [some v]) rfl ?_
    walk_at "rd"
    refine w_isInt hd ?_
    walk_at "rd"
    cases hd <;> walk_at "rd"
    all_goals try exact q
    · refine w_isBool (.bl _) ?_
      walk_at "rd"
      exact q
    · refine w_isBool (.int _) ?_
      walk_at "rd"
      exact q
/-! is_within(thing, least, most) -/
def inR (d : D) (lo hi : Int) : Bool := match d with
  | .int i => decide (lo ≤ i) && decide (i ≤ hi)
  | _ => false
theorem inR_int {i lo hi : Int} : inR (.int i) lo hi = (decide (lo ≤ i) && decide (i ≤ hi)) := rfl
def sp_is_within (K : PySem.W.Frag) : Sp := fun vs H Q _ => ∃ (v : V) (d : D) (lo hi : Int), vs = [v, .int lo, .int hi] ∧ Dp K H v d ∧ Q (.bl (inR d lo hi)) H
theorem ok_is_within {f : Addr} {fd : FuncData} (F : C8.Def K mg "is_within" s_is_within f fd) (b : Binds K fd ["thing", "least", "most"] []) (T : Txt mg)
    (c_is_integer : C8.Cal P w K mg base 1 "is_integer" (sp_is_integer K) []) : C8.Cal P w K mg base 2 "is_within" (sp_is_within K) [] := by
  refine C8.cal0 F b .nil sc_is_within (fun vs H Q E h => ?_) (fun cdv A outer s H vs Q E hr h => ?_)
  · obtain ⟨v, d, lo, hi, rfl, _⟩ := h
    rfl
  · obtain ⟨v, d, lo, hi, rfl, hd, q⟩ := h
    refine ⟨_, (pss_one (ps_ret (pe_and (C8.pe_c c_is_integer hr (by first | decide | exact Nat.le_refl _) (by rfl) (pa_cons (pv 0) pa_nil)) (pe_one (pe_chain op_le op_le (pv 1) (pv 0) (pv 2)))))), ?_⟩
    refine w_start (σ' := [some v, some (.int lo), some (.int hi)]) rfl ?_
    walk_at "rd"
    refine ⟨v, d, rfl, hd, ?_⟩
    walk_at "rd"
    cases hd <;> walk_at "rd"
    all_goals try exact q
    rw [inR_int] at q
    refine w_dec (fun h1 => ?_) (fun h1 => ?_)
    · walk_at "rd"
      rw [decide_eq_true h1, Bool.true_and] at q
      exact q
    · rw [decide_eq_false h1, Bool.false_and] at q
      exact q
/-! check_number(thing, least, most), what is right -/
def sp_check_number (K : PySem.W.Frag) : Sp := fun vs H Q _ => ∃ (v : V) (d : D) (lo hi : Int), vs = [v, .int lo, .int hi] ∧ Dp K H v d ∧ inR d lo hi = true ∧ Q .non H
theorem ok_check_number {f : Addr} {fd : FuncData} (F : C8.Def K mg "check_number" s_check_number f fd) (b : Binds K fd ["thing", "least", "most"] []) (T : Txt mg)
    (c_is_within : C8.Cal P w K mg base 2 "is_within" (sp_is_within K) []) : C8.Cal P w K mg base 3 "check_number" (sp_check_number K) [] := by
  refine C8.cal0 F b .nil sc_check_number (fun vs H Q E h => ?_) (fun cdv A outer s H vs Q E hr h => ?_)
  · obtain ⟨v, d, lo, hi, rfl, _⟩ := h
    rfl
  · obtain ⟨v, d, lo, hi, rfl, hd, hin, q⟩ := h
    refine ⟨_, (pss_one (ps_if (pt_not (pt_val (C8.pe_c c_is_within hr (by first | decide | exact Nat.le_refl _) (by rfl) (pa_cons (pv 0) (pa_cons (pv 1) (pa_cons (pv 2) pa_nil)))))) (pss_one ps_never) pss_nil)), ?_⟩
    refine w_start (σ' := [some v, some (.int lo), some (.int hi)]) rfl ?_
    walk_at "rd"
    refine ⟨v, d, lo, hi, rfl, hd, ?_⟩
    walk_at "rd"
    rw [hin]
    walk_at "rd"
    exact q
/-! prime(number) -/
def primeB (n : Int) : Bool := decide (∀ k : Nat, k < 1001 → 2 ≤ k → (k : Int) * k ≤ n → n % k ≠ 0)
theorem primeB_no {n : Int} {k : Nat} (h1 : k < 1001) (h2 : 2 ≤ k) (h3 : (k : Int) * k ≤ n) (h4 : n % k = 0) : primeB n = false :=
  decide_eq_false fun h => h k h1 h2 h3 h4
theorem primeB_yes {n : Int} {a : Nat} (h1 : n < (a : Int) * a) (h2 : ∀ k : Nat, 2 ≤ k → k < a → n % k ≠ 0) : primeB n = true :=
  decide_eq_true fun k _ k2 k3 => h2 k k2 (by
    refine Decidable.byContradiction fun z => ?_
    have z' : a ≤ k := by omega
    have : (a : Int) * a ≤ (k : Int) * k := by exact_mod_cast Nat.mul_le_mul z' z'
    omega)
theorem sq_le {a : Nat} {n : Int} (h : (a : Int) * a ≤ n) (hn : n ≤ 1000000) : a < 1001 := by
  refine Decidable.byContradiction fun z => ?_
  have z' : 1001 ≤ a := by omega
  have : (1001 * 1001 : Nat) ≤ a * a := Nat.mul_le_mul z' z'
  have : ((1001 * 1001 : Nat) : Int) ≤ (a : Int) * a := by exact_mod_cast this
  omega
def sp_prime (K : PySem.W.Frag) : Sp := fun vs H Q _ => ∃ (n : Int), vs = [.int n] ∧ 2 ≤ n ∧ n ≤ 1000000 ∧ Q (.bl (primeB n)) H
theorem ok_prime {f : Addr} {fd : FuncData} (F : C8.Def K mg "prime" s_prime f fd) (b : Binds K fd ["number"] []) (T : Txt mg) : C8.Cal P w K mg base 1 "prime" (sp_prime K) [] := by
  refine C8.cal0 F b .nil sc_prime (fun vs H Q E h => ?_) (fun cdv A outer s H vs Q E hr h => ?_)
  · obtain ⟨n, rfl, _⟩ := h
    rfl
  · obtain ⟨n, rfl, h2, hn, q⟩ := h
    refine ⟨_, (pss_cons (ps_set (i := 1) sc_prime.nd rfl (Or.inl rfl) pe_int)
      (pss_cons (ps_while PassesOwn.never (pt_cmpR op_le (pe_op op_mul (pv 1) (pv 1)) (pv 0) (nomark _)) (pss_cons (ps_if (pt_cmpR op_eq (pe_op op_mod (pv 0) (pv 1)) pe_int (nomark _)) (pss_one (ps_ret pe_bl)) pss_nil)
      (pss_one (ps_aug (i := 1) sc_prime.nd rfl (Or.inl rfl) pe_int ip_add))))
      (pss_one (ps_ret pe_bl)))), ?_⟩
    refine w_start (σ' := [some (.int n), none]) rfl ?_
    walk_at "rd"
    refine ⟨fun m σ H' => H' = H ∧ ∃ a : Nat, σ = [some (.int n), some (.int a)] ∧ 2 ≤ a ∧ a ≤ 1001 ∧ (∀ k : Nat, 2 ≤ k → k < a → n % k ≠ 0) ∧ m = 1002 - a, ⟨_, rfl, 2, rfl, by omega, by omega, fun k _ _ => by omega, rfl⟩, fun m σ H' hw => ?_⟩
    obtain ⟨rfl, a, rfl, a2, a3, hk, rfl⟩ := hw
    walk_at "rd"
    refine w_dec (fun h1 => ?_) (fun h1 => ?_)
    · have ha := sq_le h1 hn
      refine ⟨fun σ' H'' => H'' = H' ∧ σ' = [some (.int n), some (.int ((a + 1 : Nat) : Int))] ∧ n % (a : Int) ≠ 0, fun σ' H'' ⟨e1, e2, e3⟩ => ⟨1002 - (a + 1), by omega, e1, a + 1, e2, by omega, by omega, fun k k2 k3 => ?_, rfl⟩, ?_⟩
      · rcases Nat.lt_or_ge k a with z | z
        · exact hk k k2 z
        · have : k = a := by omega
          subst this
          exact e3
      · walk_at "rd"
        refine w_dec (fun h2 => ?_) (fun h2 => ?_)
        · walk_at "rd"
          rw [primeB_no ha a2 h1 h2] at q
          exact q
        · walk_at "rd"
          exact ⟨rfl, rfl, h2⟩
    · walk_at "rd"
      rw [primeB_yes (by omega) hk] at q
      exact q
/-! is_clock(thing) -/
def clockB (d : D) : Bool := match d with
  | .int n => decide (2 ≤ n) && decide (n ≤ 1000000) && primeB n
  | _ => false
def sp_is_clock (K : PySem.W.Frag) : Sp := fun vs H Q _ => ∃ (v : V) (d : D), vs = [v] ∧ Dp K H v d ∧ Q (.bl (clockB d)) H
theorem ok_is_clock {f : Addr} {fd : FuncData} (F : C8.Def K mg "is_clock" s_is_clock f fd) (b : Binds K fd ["thing"] []) (T : Txt mg)
    (c_is_within : C8.Cal P w K mg base 2 "is_within" (sp_is_within K) []) (c_prime : C8.Cal P w K mg base 1 "prime" (sp_prime K) []) : C8.Cal P w K mg base 3 "is_clock" (sp_is_clock K) [] := by
  refine C8.cal0 F b .nil sc_is_clock (fun vs H Q E h => ?_) (fun cdv A outer s H vs Q E hr h => ?_)
  · obtain ⟨v, d, rfl, _⟩ := h
    rfl
  · obtain ⟨v, d, rfl, hd, q⟩ := h
    refine ⟨_, (pss_one (ps_ret (pe_and (C8.pe_c c_is_within hr (by first | decide | exact Nat.le_refl _) (by rfl) (pa_cons (pv 0) (pa_cons pe_int (pa_cons (C8.pe_gc (by rfl) T.g_MOST_HOURS) pa_nil)))) (pe_one (C8.pe_c c_prime hr (by first | decide | exact Nat.le_refl _) (by rfl) (pa_cons (pv 0) pa_nil)))))), ?_⟩
    refine w_start (σ' := [some v]) rfl ?_
    walk_at "rd"
    refine ⟨v, d, 2, 1000000, rfl, hd, ?_⟩
    walk_at "rd"
    refine w_bool (fun h1 => ?_) (fun h1 => ?_)
    · cases hd <;> first | (exact absurd h1 Bool.false_ne_true) | skip
      walk_at "rd"
      rw [inR_int] at h1
      have h2 := Bool.and_eq_true_iff.mp h1
      refine ⟨_, rfl, of_decide_eq_true h2.1, of_decide_eq_true h2.2, ?_⟩
      refine (show clockB (.int _) = primeB _ from ?_) ▸ q
      show (_ && primeB _) = primeB _
      rw [h1, Bool.true_and]
    · have e : clockB d = false := by
        cases d <;> try rfl
        rw [inR_int] at h1
        show (_ && primeB _) = false
        rw [h1, Bool.false_and]
      rw [e] at q
      exact q
/-! check_clock(thing), what is right -/
def sp_check_clock (K : PySem.W.Frag) : Sp := fun vs H Q _ => ∃ (v : V) (d : D), vs = [v] ∧ Dp K H v d ∧ clockB d = true ∧ Q .non H
theorem ok_check_clock {f : Addr} {fd : FuncData} (F : C8.Def K mg "check_clock" s_check_clock f fd) (b : Binds K fd ["thing"] []) (T : Txt mg)
    (c_is_clock : C8.Cal P w K mg base 3 "is_clock" (sp_is_clock K) []) : C8.Cal P w K mg base 4 "check_clock" (sp_check_clock K) [] := by
  refine C8.cal0 F b .nil sc_check_clock (fun vs H Q E h => ?_) (fun cdv A outer s H vs Q E hr h => ?_)
  · obtain ⟨v, d, rfl, _⟩ := h
    rfl
  · obtain ⟨v, d, rfl, hd, hc, q⟩ := h
    refine ⟨_, (pss_one (ps_if (pt_not (pt_val (C8.pe_c c_is_clock hr (by first | decide | exact Nat.le_refl _) (by rfl) (pa_cons (pv 0) pa_nil)))) (pss_one ps_never) pss_nil)), ?_⟩
    refine w_start (σ' := [some v]) rfl ?_
    walk_at "rd"
    refine ⟨v, d, rfl, hd, ?_⟩
    rw [hc]
    walk_at "rd"
    exact q
/-! is_pair(thing) -/
def isPairD (d : D) : Bool := match d with
  | .tuple ds => decide (ds.length = 2)
  | _ => false
def sp_is_pair (K : PySem.W.Frag) : Sp := fun vs H Q _ => ∃ (v : V) (d : D), vs = [v] ∧ Dp K H v d ∧ Q (.bl (isPairD d)) H
theorem ok_is_pair {f : Addr} {fd : FuncData} (F : C8.Def K mg "is_pair" s_is_pair f fd) (b : Binds K fd ["thing"] []) (T : Txt mg) : C8.Cal P w K mg base 1 "is_pair" (sp_is_pair K) [] := by
  refine C8.cal0 F b .nil sc_is_pair (fun vs H Q E h => ?_) (fun cdv A outer s H vs Q E hr h => ?_)
  · obtain ⟨v, d, rfl, _⟩ := h
    rfl
  · obtain ⟨v, d, rfl, hd, q⟩ := h
    refine ⟨_, (pss_one (ps_ret (pe_and (pe_callB (TH.kcall_isi (K := K)) (by rfl) T.b_isinstance (by decide +kernel) (pa_cons (pv 0) (pa_cons (pe_bltn (v := .ty "tuple") (by rfl) T.b_tuple (by decide +kernel) rfl) pa_nil))) (pe_one (pe_cmpR op_eq (pe_callB (TH.kcall_len (K := K)) (by rfl) T.b_len (by decide +kernel) (pa_cons (pv 0) pa_nil)) pe_int (nomark _)))))), ?_⟩
    refine w_start (σ' := [some v]) rfl ?_
    walk_at "rd"
    refine w_isTup hd ?_
    cases hd <;> walk_at "rd"
    all_goals try exact q
    rename_i a xs ds ha hda
    refine ⟨a, xs, rfl, .inr ha, ?_⟩
    walk_at "rd"
    have hle : xs.length = ds.length := dpa_len hda
    have e : decide ((xs.length : Int) = 2) = isPairD (.tuple ds) := by
      show _ = decide (ds.length = 2)
      rw [hle]
      by_cases h : ds.length = 2
      · rw [decide_eq_true h, decide_eq_true (by omega)]
      · rw [decide_eq_false h, decide_eq_false (by omega)]
    rw [e]
    exact q
/-! ties_base -/
def tieD (a : Nat × Nat) : D := .tuple [.int (a.1 : Nat), .int (a.2 : Nat)]
def tiesT (ts : List (Nat × Nat)) : D := .tuple (ts.map tieD)
def tiesL (ts : List (Nat × Nat)) : D := .list (ts.map tieD)
theorem imm_tie (a : Nat × Nat) : imm (tieD a) = true := rfl
theorem imm_ties (ts : List (Nat × Nat)) : immAll (ts.map tieD) = true := immAll_iff.mpr fun d hd => by
  obtain ⟨a, _, rfl⟩ := List.mem_map.mp hd
  rfl
theorem dp_tie {H : Hp} {v : V} {a : Nat × Nat} (h : Dp K H v (tieD a)) : ∃ t, v = .ref t ∧ SqT K H t [.int (a.1 : Nat), .int (a.2 : Nat)] := by
  obtain ⟨t, vs, rfl, h1, h2⟩ := dp_tup h
  cases h2 with
  | cons d1 d2 => cases d2 with
    | cons d3 d4 =>
      cases d4
      cases d1
      cases d3
      exact ⟨t, rfl, h1⟩
theorem dp_tie_of {H : Hp} {t : Addr} {a : Nat × Nat} (h : SqT K H t [.int (a.1 : Nat), .int (a.2 : Nat)]) : Dp K H (.ref t) (tieD a) := .tup h (.cons (.int _) (.cons (.int _) .nil))
theorem dpa_ties {H : Hp} {vs : List V} {ts : List (Nat × Nat)} {i : Nat} {v : V} (h : DpAll K H vs (ts.map tieD)) (hv : vs[i]? = some v) : ∃ a, ts[i]? = some a ∧ Dp K H v (tieD a) := by
  obtain ⟨d, h1, h2⟩ := dpa_get h hv
  rw [List.getElem?_map] at h1
  cases e : ts[i]? with
  | none => rw [e] at h1; cases h1
  | some r => rw [e] at h1; cases h1; exact ⟨r, rfl, h2⟩
/-! is_tie(posts, thing), what is right -/
def sp_is_tie (K : PySem.W.Frag) : Sp := fun vs H Q _ => ∃ (posts : Nat) (v : V) (a : Nat × Nat), vs = [.int (posts : Nat), v] ∧ Dp K H v (tieD a) ∧ a.1 < a.2 ∧ a.2 < posts ∧ Q (.bl true) H
theorem ok_is_tie {f : Addr} {fd : FuncData} (F : C8.Def K mg "is_tie" s_is_tie f fd) (b : Binds K fd ["posts", "thing"] []) (T : Txt mg)
    (c_is_pair : C8.Cal P w K mg base 1 "is_pair" (sp_is_pair K) []) (c_is_within : C8.Cal P w K mg base 2 "is_within" (sp_is_within K) []) : C8.Cal P w K mg base 3 "is_tie" (sp_is_tie K) [] := by
  refine C8.cal0 F b .nil sc_is_tie (fun vs H Q E h => ?_) (fun cdv A outer s H vs Q E hr h => ?_)
  · obtain ⟨posts, v, a, rfl, _⟩ := h
    rfl
  · obtain ⟨posts, v, a, rfl, hd, h1, h2, q⟩ := h
    obtain ⟨t, rfl, ht⟩ := dp_tie hd
    refine ⟨_, (pss_one (ps_ret (pe_and (C8.pe_c c_is_pair hr (by first | decide | exact Nat.le_refl _) (by rfl) (pa_cons (pv 1) pa_nil)) (pe_and (C8.pe_c c_is_within hr (by first | decide | exact Nat.le_refl _) (by rfl) (pa_cons (pe_ix (TH.kix_tup (K := K)) (pv 1) pe_int (fun _ _ => rfl)) (pa_cons pe_int (pa_cons (pe_op op_sub (pv 0) pe_int) pa_nil)))) (pe_one (C8.pe_c c_is_within hr (by first | decide | exact Nat.le_refl _) (by rfl) (pa_cons (pe_ix (TH.kix_tup (K := K)) (pv 1) pe_int (fun _ _ => rfl)) (pa_cons pe_int (pa_cons (pe_op op_sub (pe_ix (TH.kix_tup (K := K)) (pv 1) pe_int (fun _ _ => rfl)) pe_int) pa_nil))))))))), ?_⟩
    refine w_start (σ' := [some (.int posts), some (.ref t)]) rfl ?_
    walk_at "rd"
    refine ⟨_, _, rfl, hd, ?_⟩
    have e : isPairD (tieD a) = true := rfl
    rw [e]
    walk_at "rd"
    refine w_ixT ht (atI_at (j := 1) rfl) ?_
    walk_at "rd"
    refine ⟨_, _, _, _, rfl, .int _, ?_⟩
    rw [inR_int, decide_eq_true (by omega), decide_eq_true (by omega)]
    walk_at "rd"
    refine w_ixT ht (atI_at (j := 0) rfl) ?_
    walk_at "rd"
    refine w_ixT ht (atI_at (j := 1) rfl) ?_
    walk_at "rd"
    refine ⟨_, _, _, _, rfl, .int _, ?_⟩
    rw [inR_int, decide_eq_true (by omega), decide_eq_true (by omega)]
    exact q
/-! sort_ints_base -/
def sortZ (ns : List Int) : List Int := ns.mergeSort fun a b => decide (a ≤ b)
theorem sortZ_perm (ns : List Int) : (sortZ ns).Perm ns := List.mergeSort_perm ns _
theorem sortZ_pw (ns : List Int) : (sortZ ns).Pairwise fun a b => a ≤ b :=
  (List.pairwise_mergeSort (le := fun a b : Int => decide (a ≤ b)) (fun a b c h1 h2 => decide_eq_true (Int.le_trans (of_decide_eq_true h1) (of_decide_eq_true h2))) (fun a b => by
    rw [Bool.or_eq_true]
    exact (Int.le_total a b).imp decide_eq_true decide_eq_true) ns).imp of_decide_eq_true
theorem sortZ_of_perm {as bs : List Int} (p : as.Perm bs) : sortZ as = sortZ bs :=
  List.Perm.eq_of_pairwise (le := fun a b : Int => a ≤ b) (fun a b _ _ h1 h2 => Int.le_antisymm h1 h2) (sortZ_pw as) (sortZ_pw bs) ((sortZ_perm as).trans (p.trans (sortZ_perm bs).symm))
theorem sort_ints (ns : List Int) : (ns.map PyData.int).mergeSort (PySem.W.dataLe false id) = (sortZ ns).map PyData.int := by
  refine (PySem.W.sort_maps PyData.int fun a _ b _ => ?_).symm
  exact (congrFun (congrFun (PySem.W.dataLe_int (fun x : Int => x)) a) b).symm
theorem w_sortI {H : Hp} {Q : VK} {a : Addr} {ns : List Int} (h : SqL K H a (ns.map V.int)) (q : ∀ p, H p = none → Q (.ref p) (upd H p (.lst ((sortZ ns).map V.int)))) : rSortedD K [.ref a] H Q := by
  refine ⟨a, _, ns.map PyData.int, rfl, h, dpa_ints ns, PySem.W.AllAlike.of (enc := PyData.int) fun a b => by simp [PySem.W.alike], .inr fun d hd => ?_, fun d hd => ?_, fun ws p hp hw => ?_⟩
  · obtain ⟨x, _, rfl⟩ := List.mem_map.mp hd
    exact ⟨(fun e => nomatch e), (fun xs e => nomatch e)⟩
  · obtain ⟨x, _, rfl⟩ := List.mem_map.mp hd
    simp [PyData.depth]
  · rw [sort_ints] at hw
    rw [dpa_ints_inv hw]
    exact q p hp
/-! all_tied(posts, ties) -/
def adjZ (ts : List (Nat × Nat)) (v : Nat) : List Int := ts.flatMap fun a => (if a.1 = v then [(a.2 : Int)] else []) ++ (if a.2 = v then [(a.1 : Int)] else [])
def nearZ (ts : List (Nat × Nat)) (v : Nat) : List Int := sortZ (adjZ ts v)
theorem adjZ_snoc {ts : List (Nat × Nat)} {i v : Nat} {a : Nat × Nat} (h : ts[i]? = some a) : adjZ (ts.take (i + 1)) v = adjZ (ts.take i) v ++ ((if a.1 = v then [(a.2 : Int)] else []) ++ (if a.2 = v then [(a.1 : Int)] else [])) := by
  unfold adjZ
  rw [List.take_add_one, h, List.flatMap_append]
  simp
theorem nodup_at {α : Type} {xs : List α} {i j : Nat} {x : α} (h : xs.Nodup) (hi : xs[i]? = some x) (hj : xs[j]? = some x) : i = j := by
  obtain ⟨i1, i2⟩ := List.getElem?_eq_some_iff.mp hi
  obtain ⟨j1, j2⟩ := List.getElem?_eq_some_iff.mp hj
  rcases Nat.lt_trichotomy i j with z | z | z
  · exact absurd (i2.trans j2.symm) (List.pairwise_iff_getElem.mp h i j i1 j1 z)
  · exact z
  · exact absurd (j2.trans i2.symm) (List.pairwise_iff_getElem.mp h j i j1 i1 z)
/-- lists of numbers, one for each place, all new -/
structure LsAt (H0 H : Hp) (fl : Addr) (as : List Addr) (f : Nat → List Int) : Prop where
  ex : Ex H0 H
  nd : as.Nodup
  new : ∀ a ∈ as, H0 a = none ∧ a ≠ fl
  fl0 : H0 fl = none
  top : H fl = some (.lst (as.map V.ref))
  at' : ∀ (j : Nat) (a : Addr), as[j]? = some a → H a = some (.lst ((f j).map V.int))
theorem LsAt.mono {H0 H H' : Hp} {fl : Addr} {as : List Addr} {f : Nat → List Int} (h : LsAt H0 H fl as f) (e : Ex H H') : LsAt H0 H' fl as f := ⟨h.ex.trans e, h.nd, h.new, h.fl0, e _ _ h.top, fun j a ha => e _ _ (h.at' j a ha)⟩
theorem LsAt.put {H0 H : Hp} {fl : Addr} {as : List Addr} {f g : Nat → List Int} {j : Nat} {a : Addr} (h : LsAt H0 H fl as f) (ha : as[j]? = some a) (hj : ∀ i, i ≠ j → g i = f i) : LsAt H0 (upd H a (.lst ((g j).map V.int))) fl as g := by
  have ham := List.mem_of_getElem? ha
  obtain ⟨n1, n2⟩ := h.new a ham
  refine ⟨h.ex.mut n1, h.nd, h.new, h.fl0, by rw [upd_ne (Ne.symm n2)]; exact h.top, fun i b hb => ?_⟩
  by_cases e : b = a
  · subst e
    obtain ⟨i1, i2⟩ := List.getElem?_eq_some_iff.mp hb
    obtain ⟨j1, j2⟩ := List.getElem?_eq_some_iff.mp ha
    have : i = j := nodup_at h.nd hb ha
    subst this
    exact upd_same
  · rw [upd_ne e]
    have : i ≠ j := fun z => e (by rw [z, ha] at hb; exact (Option.some.inj hb).symm)
    rw [hj i this]
    exact h.at' i b hb
def sp_all_tied (K : PySem.W.Frag) : Sp := fun vs H Q _ => ∃ (posts : Nat) (v : V) (ts : List (Nat × Nat)), vs = [.int (posts : Nat), v] ∧ Dp K H v (tiesT ts) ∧ posts ≤ 1000 ∧ ts.length ≤ 1000 ∧ (∀ a ∈ ts, a.1 < a.2 ∧ a.2 < posts) ∧
  ∀ (l : Addr) (H' : Hp), Ex H H' → Dp K H' (.ref l) (.list ((List.range posts).map fun v => row (nearZ ts v))) → Q (.ref l) H'
theorem ok_all_tied {f : Addr} {fd : FuncData} (F : C8.Def K mg "all_tied" s_all_tied f fd) (b : Binds K fd ["posts", "ties"] []) (T : Txt mg) : C8.Cal P w K mg base 1 "all_tied" (sp_all_tied K) [] := by
  refine C8.cal0 F b .nil sc_all_tied (fun vs H Q E h => ?_) (fun cdv A outer s H vs Q E hr h => ?_)
  · obtain ⟨posts, v, ts, rfl, _⟩ := h
    rfl
  · obtain ⟨posts, v, ts, rfl, hd, hp, htl, hts, q⟩ := h
    obtain ⟨ta, tv, rfl, hta, htv⟩ := dp_tup hd
    have htvl : tv.length = ts.length := by rw [dpa_len htv, List.length_map]
    have hu64 := hu64_of hr
    refine ⟨_, (pss_cons (ps_setLc (i := 2) (own := [("post", 5)]) (g := gName 5) (tt := tYes) rfl sc_all_tied.nd rfl rfl (sw_true rfl rfl rfl (by decide +kernel)) (pi_range1 (by rfl) T.b_range (pa_cons (pv 0) pa_nil)) (blkOk_by (own := [("post", 5)]) (N := N_all_tied) (sc := C8.fnScope s_all_tied) (by decide +kernel)) (fun _ _ _ _ _ => (pg_name (i := 5) sc_all_tied.nd rfl (Or.inl rfl) (Or.inr rfl))) (fun _ _ _ _ _ => pts_nil) (fun _ _ _ _ _ => (pe_lst pa_nil)))
      (pss_cons (ps_for PassesOwn.never rfl (TH.kpi_tup (K := K) (pv 1)) (TH.kpg_tup (K := K) (n := 2) rfl (pgs_cons (pg_name (i := 3) sc_all_tied.nd rfl (Or.inl rfl) (Or.inr rfl)) (pgs_cons (pg_name (i := 4) sc_all_tied.nd rfl (Or.inl rfl) (Or.inr rfl)) pgs_nil))) (pss_cons (ps_expr (TH.kpe_bm (K := K) PySem.F.plainAttrs_list PySem.F.slot_list_append PySem.F.type_list_append mt_append (pe_ix (TH.kix_list (K := K)) (pv 2) (pv 3) (fun _ _ => rfl)) (pa_cons (pv 4) pa_nil)))
      (pss_one (ps_expr (TH.kpe_bm (K := K) PySem.F.plainAttrs_list PySem.F.slot_list_append PySem.F.type_list_append mt_append (pe_ix (TH.kix_list (K := K)) (pv 2) (pv 4) (fun _ _ => rfl)) (pa_cons (pv 3) pa_nil))))))
      (pss_one (ps_ret (pe_lc (own := [("some", 6)]) (g := gName 6) (tt := tYes) rfl sc_all_tied.nd (TH.kpi_list (K := K) (pv 2)) (blkOk_by (own := [("some", 6)]) (N := N_all_tied) (sc := C8.fnScope s_all_tied) (by decide +kernel)) (fun _ _ _ _ _ => (pg_name (i := 6) sc_all_tied.nd rfl (Or.inl rfl) (Or.inr rfl))) (fun _ _ _ _ _ => pts_nil) (fun _ _ _ _ _ => (pe_callTy (TH.kcall_tuple (K := K)) (by rfl) T.b_tuple (by decide +kernel) (pa_cons (pe_callB (TH.call_sortedD (K := K) hu64) (by rfl) T.b_sorted (by decide +kernel) (pa_cons (pv 6) pa_nil)) pa_nil)))))))), ?_⟩
    refine w_start (σ' := [some (.int posts), some (.ref ta), none, none, none, none, none]) rfl ?_
    walk_at "rd"
    refine w_isrng (by omega) (by omega) fun Dl hD => ?_
    refine lc_it' walk_rng (fun i H' => ∃ as, LsAt H H' Dl as (fun _ => []) ∧ as.length = i) ⟨[], ⟨Ex.new hD, .nil, fun a ha => (nomatch ha), hD, upd_same, fun j a h => by simp at h⟩, rfl⟩ (fun _ _ _ _ => trivial) (fun i x H' H'' hi p y => ?_) (fun H' p => ?_)
    · obtain ⟨as, hl, hal⟩ := p
      obtain ⟨rfl, rfl⟩ := y
      walk_at "rd"
      refine ⟨rfl, ?_⟩
      walk_at "rd"
      refine w_dispT (by simp) fun p hpn => ?_
      have hl2 := hl.mono (Ex.new (o := .lst []) hpn)
      have hpf : p ≠ Dl := fun z => by rw [z, hl.top] at hpn; cases hpn
      refine ⟨_, hl2.top, Nat.lt_of_lt_of_le (show (as.map V.ref).length < 1000000 by rw [List.length_map]; omega) (small2 (Nat.le_refl _)), as ++ [p], ⟨hl2.ex.mut hl.fl0, List.nodup_append.mpr ⟨hl.nd, by simp, fun a ha b hb e => ?_⟩, fun a ha => ?_, hl.fl0, by rw [upd_same, List.map_append]; rfl, fun j a ha => ?_⟩, by rw [List.length_append, hal]; rfl⟩
      · rw [List.mem_singleton] at hb
        subst hb
        subst e
        obtain ⟨j, hj⟩ := List.mem_iff_getElem?.mp ha
        rw [hl.at' j a hj] at hpn
        cases hpn
      · rcases List.mem_append.mp ha with m | m
        · exact hl.new a m
        · rw [List.mem_singleton.mp m]
          exact ⟨hl.ex.fresh hpn, hpf⟩
      · rcases Nat.lt_or_ge j as.length with z | z
        · rw [List.getElem?_append_left z] at ha
          rw [upd_ne (hl.new a (List.mem_of_getElem? ha)).2]
          exact hl2.at' j a ha
        · rw [List.getElem?_append_right z] at ha
          have z2 : j - as.length = 0 := by
            refine Decidable.byContradiction fun z3 => ?_
            rw [List.getElem?_eq_none (by simp; omega)] at ha
            cases ha
          rw [z2] at ha
          cases ha
          rw [upd_ne hpf, upd_same]
          rfl
    · obtain ⟨as, hl, hal⟩ := p
      have hal' : as.length = posts := by omega
      walk_at "rd"
      refine ⟨ta, rfl, ⟨_, hl.ex.t hta⟩, ?_⟩
      refine for_go walk_tup (fun i σ H2 => LsAt H H2 Dl as (adjZ (ts.take i)) ∧ ∃ y3 y4, σ = [some (.int posts), some (.ref ta), some (.ref Dl), y3, y4, none, none]) ⟨hl, _, _, rfl⟩ (fun i σ H2 _ p => p.1.ex.t hta) (fun i x σ H2 H3 hi p y => ?_) (fun σ H2 p => ?_)
      · obtain ⟨hl, y3, y4, rfl⟩ := p
        obtain ⟨rfl, hx⟩ := y
        obtain ⟨a, ha1, ha2⟩ := dpa_ties htv hx
        obtain ⟨t, rfl, ht⟩ := dp_tie ha2
        obtain ⟨h1, h2⟩ := hts a (List.mem_of_getElem? ha1)
        have hs := fun v => adjZ_snoc (v := v) ha1
        have g1 : ∃ b1, as[a.1]? = some b1 := ⟨_, List.getElem?_eq_getElem (by omega)⟩
        have g2 : ∃ b2, as[a.2]? = some b2 := ⟨_, List.getElem?_eq_getElem (by omega)⟩
        obtain ⟨b1, g1⟩ := g1
        obtain ⟨b2, g2⟩ := g2
        refine w_gtup (hl.ex.t ht) rfl ?_
        walk_at "rd"
        have ix : ∀ {H : Hp} {j : Nat} {b : Addr} {Q : VK}, H Dl = some (.lst (as.map V.ref)) → as[j]? = some b → Q (.ref b) H → rIxL K (.ref Dl) (.int (j : Nat)) H Q := fun h1 h2 q => w_ixL (sqL h1) (atI_at (by rw [List.getElem?_map, h2]; rfl)) q
        have small : ∀ j, (adjZ (ts.take i) j).length ≤ 2000 := fun j => by
          have : ∀ xs : List (Nat × Nat), (adjZ xs j).length ≤ 2 * xs.length := fun xs => by
            induction xs with
            | nil => simp [adjZ]
            | cons x xs ih =>
              have e : (adjZ (x :: xs) j).length = ((if x.1 = j then [(x.2 : Int)] else []) ++ (if x.2 = j then [(x.1 : Int)] else [])).length + (adjZ xs j).length := by
                unfold adjZ
                rw [List.flatMap_cons, List.length_append]
              rw [e, List.length_cons, List.length_append]
              have h1 : (if x.1 = j then [(x.2 : Int)] else []).length ≤ 1 := by split <;> simp
              have h2 : (if x.2 = j then [(x.1 : Int)] else []).length ≤ 1 := by split <;> simp
              omega
          have := this (ts.take i)
          rw [List.length_take] at this
          omega
        generalize hf0 : adjZ (ts.take i) = f0 at hl hs small
        refine ix hl.top g1 ⟨tyL (hl.at' _ _ g1), ?_⟩
        walk_at "rd"
        refine w_app (hl.at' _ _ g1) (by rw [List.length_map]; have := small a.1; omega) ?_
        walk_at "rd"
        have hl1 := hl.put (g := fun v => if v = a.1 then f0 v ++ [(a.2 : Int)] else f0 v) g1 (fun i hi => if_neg hi)
        simp only [if_true, List.map_append, List.map_cons, List.map_nil] at hl1
        generalize upd H3 b1 (.lst ((f0 a.1).map V.int ++ [V.int (a.2 : Int)])) = H4 at hl1 ⊢
        refine ix hl1.top g2 ⟨tyL (hl1.at' _ _ g2), ?_⟩
        walk_at "rd"
        have e2 : (if a.2 = a.1 then f0 a.2 ++ [(a.2 : Int)] else f0 a.2) = f0 a.2 := if_neg (by omega)
        refine w_app (hl1.at' _ _ g2) (by simp only [e2]; rw [List.length_map]; have := small a.2; omega) ?_
        walk_at "rd"
        have hl2 := hl1.put (g := adjZ (ts.take (i + 1))) g2 (fun v hv => by
          rw [hs v]
          by_cases e : v = a.1
          · rw [if_pos e.symm, if_pos e, if_neg (Ne.symm hv)]
            rfl
          · rw [if_neg (Ne.symm e), if_neg e, if_neg (Ne.symm hv)]
            simp)
        refine ⟨?_, _, _, rfl⟩
        have e3 : (adjZ (ts.take (i + 1)) a.2).map V.int = (if a.2 = a.1 then f0 a.2 ++ [(a.2 : Int)] else f0 a.2).map V.int ++ [V.int (a.1 : Int)] := by
          rw [hs a.2, e2, if_neg (by omega), if_pos rfl, List.nil_append, List.map_append]
          rfl
        rw [e3] at hl2
        exact hl2
      · obtain ⟨hl, y3, y4, rfl⟩ := p
        rw [htvl, List.take_length] at hl
        walk_at "rd"
        refine ⟨Dl, rfl, ⟨_, sqL hl.top⟩, fun D2 hD2 => ?_⟩
        refine lc_data (K := K) walk_list (fun _ => true) (fun v => row (nearZ ts v)) (fun _ => imm_row _) (fun H' e => e.l (sqL hl.top)) hD2 (by rw [List.length_map]; omega) (fun j x H5 H6 hj e y R R0 k _ => ?_) (fun H5 ws e hw hda => ?_)
        · obtain ⟨rfl, hx⟩ := y
          obtain ⟨b, hb, rfl⟩ : ∃ b, as[j]? = some b ∧ x = .ref b := by
            rw [List.getElem?_map] at hx
            cases g : as[j]? with
            | none => rw [g] at hx; cases hx
            | some b => rw [g] at hx; exact ⟨b, rfl, (Option.some.inj hx).symm⟩
          walk_at "rd"
          refine ⟨rfl, ?_⟩
          walk_at "rd"
          refine w_sortI (sqL (e _ _ (hl.at' j b hb))) fun p hp => ?_
          walk_at "rd"
          refine ⟨p, _, rfl, .inl ⟨sqL upd_same, fun l hl3 => ?_⟩⟩
          exact k rfl _ _ ((Ex.new hp).trans (Ex.new hl3)) (dp_row_of (sqT upd_same))
        · rw [made_all, List.length_map, hal'] at hda
          exact q D2 H5 (hl.ex.trans e) (.lst (sqL hw) hda)
/-! reached(tied, post, barred) -/
inductive Rch (nb : List (List Int)) (bar : Option Int) (s : Int) : Int → Prop where
  | base : Rch nb bar s s
  | step {x y : Int} : Rch nb bar s x → y ∈ nb.getD x.toNat [] → bar ≠ some y → Rch nb bar s y
def barV : Option Int → V
  | none => .non
  | some b => .int b
/-- the search: what is found, what waits -/
structure Srch (nb : List (List Int)) (bar : Option Int) (s : Int) (ks ws : List Int) : Prop where
  nd : ks.Nodup
  sub : ∀ x ∈ ws, x ∈ ks
  rng : ∀ x ∈ ks, 0 ≤ x ∧ x < nb.length
  rch : ∀ x ∈ ks, Rch nb bar s x
  src : s ∈ ks
  cls : ∀ x ∈ ks, x ∉ ws → ∀ y ∈ nb.getD x.toNat [], bar ≠ some y → y ∈ ks
theorem Srch.few {nb : List (List Int)} {bar : Option Int} {s : Int} {ks ws : List Int} (h : Srch nb bar s ks ws) : ks.length ≤ nb.length := by
  have := LA.nodup_le (L := (List.range nb.length).map fun i => ((i : Nat) : Int)) h.nd fun k hk => by
    have := h.rng k hk
    exact List.mem_map.mpr ⟨k.toNat, List.mem_range.mpr (by omega), by omega⟩
  rw [List.length_map, List.length_range] at this
  exact this
theorem Srch.fin {nb : List (List Int)} {bar : Option Int} {s : Int} {ks : List Int} (h : Srch nb bar s ks []) (y : Int) : y ∈ ks ↔ Rch nb bar s y := by
  refine ⟨h.rch y, fun r => ?_⟩
  induction r with
  | base => exact h.src
  | step _ hy hb ih => exact h.cls _ ih (by simp) _ hy hb
theorem few_of {N : Nat} {ks : List Int} (nd : ks.Nodup) (rng : ∀ x ∈ ks, 0 ≤ x ∧ x < N) : ks.length ≤ N := by
  have := LA.nodup_le (L := (List.range N).map fun i => ((i : Nat) : Int)) nd fun k hk => by
    have := rng k hk
    exact List.mem_map.mpr ⟨k.toNat, List.mem_range.mpr (by omega), by omega⟩
  rw [List.length_map, List.length_range] at this
  exact this
theorem w_neBar {H : Hp} {Q : VK} {z : Int} {bar : Option Int} (k : Q (.bl (!decide (bar = some z))) H) : rNe (.int z) (barV bar) H Q := by
  cases bar with
  | none =>
    refine w_ne rfl ?_
    have e : decide (V.int z = barV none) = decide ((none : Option Int) = some z) := by
      rw [decide_eq_false (fun h => nomatch h), decide_eq_false (fun h => nomatch h)]
    rw [e]
    exact k
  | some b =>
    refine w_ne rfl ?_
    have e : decide (V.int z = barV (some b)) = decide (some b = some z) := by
      show decide (V.int z = V.int b) = _
      by_cases h : b = z
      · subst h
        rw [decide_eq_true rfl, decide_eq_true rfl]
      · rw [decide_eq_false (fun h' => h (V.int.inj h').symm), decide_eq_false (fun h' => h (Option.some.inj h'))]
    rw [e]
    exact k
/-- while the neighbours of x (taken off) are looked at, the first j of them -/
structure Srch1 (nb : List (List Int)) (bar : Option Int) (s x : Int) (j : Nat) (ks ws : List Int) : Prop where
  nd : ks.Nodup
  sub : ∀ x ∈ ws, x ∈ ks
  rng : ∀ x ∈ ks, 0 ≤ x ∧ x < nb.length
  rch : ∀ x ∈ ks, Rch nb bar s x
  src : s ∈ ks
  me : x ∈ ks
  cls : ∀ z ∈ ks, z ≠ x → z ∉ ws → ∀ y ∈ nb.getD z.toNat [], bar ≠ some y → y ∈ ks
  done : ∀ y ∈ (nb.getD x.toNat []).take j, bar ≠ some y → y ∈ ks
def sp_reached (K : PySem.W.Frag) : Sp := fun vs H Q _ => ∃ (l : Addr) (xs : List V) (nb : List (List Int)) (s : Nat) (bar : Option Int), vs = [.ref l, .int (s : Nat), barV bar] ∧ SqL K H l xs ∧ DpAll K H xs (nb.map row) ∧ s < nb.length ∧ nb.length ≤ 60 ∧
  (∀ r ∈ nb, r.length ≤ 100000 ∧ ∀ y ∈ r, 0 ≤ y ∧ y < nb.length) ∧ ∀ (u : V) (ys : List Int) (H' : Hp), Ex H H' → Dp K H' u (row ys) → ys.Pairwise (· ≤ ·) → ys.Nodup → (∀ y, y ∈ ys ↔ Rch nb bar s y) → Q u H'
theorem ok_reached {f : Addr} {fd : FuncData} (F : C8.Def K mg "reached" s_reached f fd) (b : Binds K fd ["tied", "post", "barred"] []) (T : Txt mg) : C8.Cal P w K mg base 1 "reached" (sp_reached K) [] := by
  refine C8.cal0 F b .nil sc_reached (fun vs H Q E h => ?_) (fun cdv A outer s H vs Q E hr h => ?_)
  · obtain ⟨l, xs, nb, s, bar, rfl, _⟩ := h
    rfl
  · obtain ⟨l, xs, nb, s, bar, rfl, hl, hda, hs, hn, hnb, q⟩ := h
    have hu := hu_of hr
    have hu64 := hu64_of hr
    refine ⟨_, (pss_cons (ps_set (i := 3) sc_reached.nd rfl (Or.inl rfl) (pe_disp (pps_cons (pv 1) pe_bl pps_nil) rfl rfl (by simp) (by decide)))
      (pss_cons (ps_set (i := 4) sc_reached.nd rfl (Or.inl rfl) (pe_lst (pa_cons (pv 1) pa_nil)))
      (pss_cons (ps_while PassesOwn.never (pt_cmpR op_gt (pe_callB (TH.kcall_len (K := K)) (by rfl) T.b_len (by decide +kernel) (pa_cons (pv 4) pa_nil)) pe_int (nomark _)) (pss_one (ps_for PassesOwn.never rfl (TH.kpi_tup (K := K) (pe_ix (TH.kix_list (K := K)) (pv 0) (TH.kpe_bm0 (K := K) PySem.F.plainAttrs_list PySem.F.slot_list_pop PySem.F.type_list_pop mt_pop (pv 4)) (fun _ _ => rfl))) (pg_name (i := 5) sc_reached.nd rfl (Or.inl rfl) (Or.inr rfl)) (pss_one (ps_if (PW.pt (pw_and (pt_cmp (pc_dnotin hu (pv 5) (pv 3))) (pw_and1 (pt_cmpR op_ne (pv 5) (pv 2) (nomark _))))) (pss_cons (ps_dput hu (pv 3) (pv 5) pe_bl rfl)
      (pss_one (ps_expr (TH.kpe_bm (K := K) PySem.F.plainAttrs_list PySem.F.slot_list_append PySem.F.type_list_append mt_append (pv 4) (pa_cons (pv 5) pa_nil))))) pss_nil)))))
      (pss_one (ps_ret (pe_callTy (TH.kcall_tuple (K := K)) (by rfl) T.b_tuple (by decide +kernel) (pa_cons (pe_callB (call_sortedDI rfl) (by rfl) T.b_sorted (by decide +kernel) (pa_cons (pv 3) pa_nil)) pa_nil))))))), ?_⟩
    refine w_start (σ' := [some (.ref l), some (.int s), some (barV bar), none, none, none]) rfl ?_
    walk_at "rd"
    intro fd hfd
    refine w_var (v := .int s) rfl ?_
    refine ⟨upd_same, [(Sum.inl (s : Int), .bl true)], rfl, by simp, ?_⟩
    have em : mergeK [] [((Sum.inl (s : Int) : Key), V.bl true)] = [(Sum.inl (s : Int), V.bl true)] := rfl
    rw [em, upd_upd]
    walk_at "rd"
    refine w_dispT (by simp) fun wl hwl => ?_
    walk_at "rd"
    have hfw : fd ≠ wl := fun z => by rw [z, upd_same] at hwl; cases hwl
    have hwl0 : H wl = none := by rw [upd_ne (Ne.symm hfw)] at hwl; exact hwl
    have hxl : xs.length = nb.length := by rw [dpa_len hda, List.length_map]
    refine ⟨fun m σ H' => Ex H H' ∧ ∃ (y5 : Option V) (kvs : List (Key × V)) (ks ws : List Int), σ = [some (.ref l), some (.int s), some (barV bar), some (.ref fd), some (.ref wl), y5] ∧ H' fd = some (.dK kvs) ∧ KeyI kvs ks ∧ H' wl = some (.lst (ws.map V.int)) ∧ Srch nb bar s ks ws ∧ m = 2 * (nb.length - ks.length) + ws.length ∧ m ≤ 2 * nb.length,
      ⟨_, (Ex.new hfd).trans (Ex.new hwl), _, [(Sum.inl (s : Int), V.bl true)], [(s : Int)], [(s : Int)], rfl, by rw [upd_ne hfw]; exact upd_same, rfl, upd_same, ⟨by simp, fun x hx => hx, fun x hx => by rw [List.mem_singleton.mp hx]; omega, fun x hx => by rw [List.mem_singleton.mp hx]; exact .base, List.mem_singleton.mpr rfl, fun x hx hn => absurd hx hn⟩, rfl, by simp; omega⟩, fun m σ H' hw => ?_⟩
    obtain ⟨e, y5, kvs, ks, ws, rfl, h1, h2, h3, h4, hm, hm2⟩ := hw
    walk_at "rd"
    refine ⟨wl, _, rfl, .inl (sqL h3), ?_⟩
    walk_at "rd"
    refine w_dec (fun hpos => ?_) (fun hpos => ?_)
    · obtain ⟨wr, x, rfl⟩ : ∃ wr x, ws = wr ++ [x] := by
        have hne : ws ≠ [] := fun z => by rw [z] at hpos; simp at hpos
        exact ⟨ws.dropLast, ws.getLast hne, (List.dropLast_concat_getLast hne).symm⟩
      have hxk := h4.sub x (List.mem_append_right _ (List.mem_singleton.mpr rfl))
      have hxr := h4.rng x hxk
      refine ⟨fun σ' H'' => Ex H H'' ∧ ∃ (y5 : Option V) (kvs : List (Key × V)) (ks ws : List Int), σ' = [some (.ref l), some (.int s), some (barV bar), some (.ref fd), some (.ref wl), y5] ∧ H'' fd = some (.dK kvs) ∧ KeyI kvs ks ∧ H'' wl = some (.lst (ws.map V.int)) ∧ Srch nb bar s ks ws ∧ 2 * (nb.length - ks.length) + ws.length < m, fun σ' H'' hh => ?_, ?_⟩
      · obtain ⟨a1, y5', kvs', ks', ws', a2, a3, a4, a5, a6, a7⟩ := hh
        exact ⟨_, a7, a1, y5', kvs', ks', ws', a2, a3, a4, a5, a6, rfl, by omega⟩
      · walk_at "rd"
        have hrow : nb[x.toNat]? = some (nb.getD x.toNat []) := getD_at (by omega)
        have hrin := hnb _ (List.mem_of_getElem? hrow)
        obtain ⟨rv, hrv1, hrv2⟩ := dpa_getD (i := x.toNat) (d := row (nb.getD x.toNat [])) (e.dpa hda) (by rw [List.getElem?_map, hrow]; rfl)
        generalize hR : nb.getD x.toNat [] = R at hrin hrv2
        obtain ⟨ra, rfl, hra⟩ := dp_row hrv2
        refine ⟨tyL h3, ?_⟩
        rw [List.map_append] at h3
        refine w_pop h3 ?_
        have tx : Tx H' (upd H' wl (.lst (wr.map V.int))) := Tx.updL h3
        have e2 : Ex H (upd H' wl (.lst (wr.map V.int))) := e.mut hwl0
        have h12 : upd H' wl (.lst (wr.map V.int)) fd = some (.dK kvs) := by rw [upd_ne hfw]; exact h1
        have h32 : upd H' wl (.lst (wr.map V.int)) wl = some (.lst (wr.map V.int)) := upd_same
        have hra2 := tx.t hra
        generalize upd H' wl (.lst (wr.map V.int)) = H2 at e2 h12 h32 hra2 ⊢
        have ex : x = ((x.toNat : Nat) : Int) := by omega
        rw [ex]
        refine w_ixL (e2.l hl) (atI_at hrv1) ?_
        refine ⟨ra, rfl, ⟨_, hra2⟩, ?_⟩
        have hst : Srch1 nb bar s x 0 ks wr := ⟨h4.nd, fun z hz => h4.sub z (List.mem_append_left _ hz), h4.rng, h4.rch, h4.src, hxk, fun z hz hne hzw => h4.cls z hz fun hm => (List.mem_append.mp hm).elim hzw fun h => hne (List.mem_singleton.mp h), fun y hy => by simp at hy⟩
        have hkf := h4.few
        rw [List.length_append, List.length_singleton] at hm
        refine for_go walk_tup (fun j σ H3 => Ex H H3 ∧ SqT K H3 ra (R.map V.int) ∧ ∃ (y5 : Option V) (kvs : List (Key × V)) (ks ws : List Int), σ = [some (.ref l), some (.int s), some (barV bar), some (.ref fd), some (.ref wl), y5] ∧ H3 fd = some (.dK kvs) ∧ KeyI kvs ks ∧ H3 wl = some (.lst (ws.map V.int)) ∧ Srch1 nb bar s x j ks ws ∧ ks.length ≤ nb.length ∧ 2 * (nb.length - ks.length) + ws.length < m)
          ⟨e2, hra2, _, kvs, ks, wr, rfl, h12, h2, h32, hst, hkf, by omega⟩ (fun j σ H3 _ p => p.2.1) (fun j v σ H3 H4 hj p y => ?_) (fun σ H3 p => ?_)
        · obtain ⟨e3, hra3, y5, kvs, ks, ws, rfl, g1, g2, g3, g4, g5, g6⟩ := p
          obtain ⟨rfl, hx⟩ := y
          obtain ⟨z, hz, rfl⟩ := ints_at hx
          have hzr := hrin.2 z (List.mem_of_getElem? hz)
          have htk : R.take (j + 1) = R.take j ++ [z] := by rw [List.take_add_one, hz]; rfl
          have skip : (z ∈ ks ∨ bar = some z) → Srch1 nb bar s x (j + 1) ks ws := fun hh => ⟨g4.nd, g4.sub, g4.rng, g4.rch, g4.src, g4.me, g4.cls, fun y hy hb => by
            rw [hR, htk] at hy
            rcases List.mem_append.mp hy with m | m
            · exact g4.done y (by rw [hR]; exact m) hb
            · rw [List.mem_singleton.mp m] at hb ⊢
              exact hh.elim id fun e => absurd e hb⟩
          walk_at "rd"
          refine ⟨fd, _, rfl, DGet.k (k := Sum.inl z) g1, ?_⟩
          rw [keyI_has g2]
          walk_at "rd"
          refine w_decN (fun hnk => ?_) (fun hin => ?_)
          · walk_at "rd"
            refine w_neBar ?_
            walk_at "rd"
            refine w_decN (fun hnb' => ?_) (fun hb' => ?_)
            · walk_at "rd"
              have hkl := keyI_len g2
              refine ⟨fd, _, rfl, DPut.k (k := Sum.inl z) g1 (Nat.lt_of_lt_of_le (show kvs.length < 1000000 by omega) (small2 (Nat.le_refl _))), ?_⟩
              have g3' : upd H4 fd (.dK (putK kvs (Sum.inl z) (.bl true))) wl = some (.lst (ws.map V.int)) := by rw [upd_ne (Ne.symm hfw)]; exact g3
              have hws : ws.length ≤ 1000 := by omega
              walk_at "rd"
              refine ⟨tyL g3', ?_⟩
              walk_at "rd"
              refine w_app g3' (by rw [List.length_map]; omega) ?_
              walk_at "rd"
              have nd' : (ks ++ [z]).Nodup := List.nodup_append.mpr ⟨g4.nd, by simp, fun a ha b hb e => hnk (by rw [List.mem_singleton] at hb; rw [← hb, ← e]; exact ha)⟩
              have rng' : ∀ y ∈ ks ++ [z], 0 ≤ y ∧ y < nb.length := fun y hy => (List.mem_append.mp hy).elim (g4.rng y) fun m => by rw [List.mem_singleton.mp m]; exact hzr
              have few' := few_of nd' rng'
              have fl := few'
              rw [List.length_append, List.length_singleton] at fl
              refine ⟨(e3.mut hfd).mut hwl0, (Tx.updL g3').t ((Tx.updK g1).t hra3), _, _, ks ++ [z], ws ++ [z], rfl, by rw [upd_ne hfw]; exact upd_same, keyI_new g2 hnk, by rw [upd_same, List.map_append]; rfl, ⟨nd', fun y hy => ?_, rng', fun y hy => ?_, List.mem_append_left _ g4.src, List.mem_append_left _ g4.me, fun y hy hne hyw a ha hb => ?_, fun y hy hb => ?_⟩, few', by rw [List.length_append, List.length_append, List.length_singleton]; omega⟩
              · rcases List.mem_append.mp hy with m | m
                · exact List.mem_append_left _ (g4.sub y m)
                · exact List.mem_append_right _ m
              · rcases List.mem_append.mp hy with m | m
                · exact g4.rch y m
                · rw [List.mem_singleton.mp m]
                  refine .step (g4.rch x g4.me) ?_ hnb'
                  rw [hR]
                  exact List.mem_of_getElem? hz
              · have hy' : y ∈ ks := (List.mem_append.mp hy).elim id fun m => absurd (List.mem_append_right ws m) hyw
                exact List.mem_append_left _ (g4.cls y hy' hne (fun m => hyw (List.mem_append_left _ m)) a ha hb)
              · rw [hR, htk] at hy
                rcases List.mem_append.mp hy with m | m
                · exact List.mem_append_left _ (g4.done y (by rw [hR]; exact m) hb)
                · exact List.mem_append_right _ m
            · walk_at "rd"
              exact ⟨e3, hra3, _, kvs, ks, ws, rfl, g1, g2, g3, skip (.inr hb'), g5, g6⟩
          · walk_at "rd"
            exact ⟨e3, hra3, _, kvs, ks, ws, rfl, g1, g2, g3, skip (.inl hin), g5, g6⟩
        · obtain ⟨e3, _, y5, kvs, ks, ws, rfl, g1, g2, g3, g4, g5, g6⟩ := p
          refine ⟨e3, y5, kvs, ks, ws, rfl, g1, g2, g3, ⟨g4.nd, g4.sub, g4.rng, g4.rch, g4.src, fun z hz hzw y hy hb => ?_⟩, g6⟩
          by_cases hzx : z = x
          · subst hzx
            refine g4.done y ?_ hb
            rw [hR] at hy ⊢
            rw [List.length_map, List.take_length]
            exact hy
          · exact g4.cls z hz hzx hzw y hy hb
    · have hws : ws = [] := List.length_eq_zero_iff.mp (by rw [List.length_map] at hpos; omega)
      subst hws
      walk_at "rd"
      refine ⟨fd, kvs, ks, rfl, .inl h1, h2, by have := h4.few; omega, fun ys p hperm hpw hp => ?_⟩
      walk_at "rd"
      refine ⟨p, _, rfl, .inl ⟨sqL upd_same, fun u hu => ?_⟩⟩
      exact q _ ys _ (e.trans ((Ex.new hp).trans (Ex.new hu))) (dp_row_of (sqT upd_same)) hpw (hperm.nodup_iff.mpr h4.nd) fun y => (hperm.mem_iff).trans (h4.fin y)
/-! tree_base -/
structure TrC (K : PySem.W.Frag) (C : Addr) : Prop where
  cl : Cls K C
  nT : NoAttr K C "ties"
  nP : NoAttr K C "posts"
def tf (t : V) (posts : Nat) : List (Str × V) := putF "posts" (.int (posts : Nat)) (putF "ties" t [])
theorem tf_ties {t : V} {n : Nat} : (tf t n).lookup ("ties" : Str) = some t := by
  unfold tf
  rw [lookup_putF, if_neg (by decide +kernel), lookup_putF, if_pos rfl]
theorem tf_posts {t : V} {n : Nat} : (tf t n).lookup ("posts" : Str) = some (.int (n : Nat)) := by
  unfold tf
  rw [lookup_putF, if_pos rfl]
/-- ties in order, in range -/
structure TiesOk (posts : Nat) (ts : List (Nat × Nat)) : Prop where
  len : ts.length + 1 = posts
  few : posts ≤ 24
  rng : ∀ a ∈ ts, a.1 < a.2 ∧ a.2 < posts
  ord : ts.Pairwise fun a b => a.1 < b.1 ∨ (a.1 = b.1 ∧ a.2 < b.2)
/-- the neighbours -/
def nbZ (posts : Nat) (ts : List (Nat × Nat)) : List (List Int) := (List.range posts).map (nearZ ts)
/-- a tree at v -/
def TreeAt (K : PySem.W.Frag) (C : Addr) (H : Hp) (v : V) (posts : Nat) (ts : List (Nat × Nat)) : Prop := ∃ (a dx : Addr) (t : V), v = .ref a ∧ H a = some (.ins C dx (tf t posts)) ∧ Dp K H t (tiesT ts)
theorem TreeAt.ex {C : Addr} {H H' : Hp} {v : V} {posts : Nat} {ts : List (Nat × Nat)} (h : TreeAt K C H v posts ts) (e : Ex H H') : TreeAt K C H' v posts ts := by
  obtain ⟨a, dx, t, rfl, h1, h2⟩ := h
  exact ⟨a, dx, t, rfl, e _ _ h1, e.dp h2⟩
/-! sort_ties_base -/
def leP (p q : Nat × Nat) : Bool := decide ((p.1 : Int) < q.1 ∨ ((p.1 : Int) = q.1 ∧ (p.2 : Int) ≤ q.2))
def sortP (xs : List (Nat × Nat)) : List (Nat × Nat) := xs.mergeSort leP
theorem sortP_perm (xs : List (Nat × Nat)) : (sortP xs).Perm xs := List.mergeSort_perm xs _
theorem sort_ties (xs : List (Nat × Nat)) : (xs.map tieD).mergeSort (PySem.W.dataLe false id) = (sortP xs).map tieD := by
  refine (PySem.W.sort_maps tieD fun a _ b _ => ?_).symm
  exact (congrFun (congrFun (PySem.W.dataLe_ii (fun x : Nat × Nat => (x.1 : Int)) (fun x : Nat × Nat => (x.2 : Int))) a) b).symm
theorem alike_tie (a b : Nat × Nat) : PySem.W.alike (tieD a) (tieD b) = true := by
  simp [tieD, PySem.W.alike, PySem.W.alikeAll]
theorem w_sortP {H : Hp} {Q : VK} {a : Addr} {xs : List V} {ts : List (Nat × Nat)} (h : SqL K H a xs) (hd : DpAll K H xs (ts.map tieD)) (q : ∀ p ws, H p = none → DpAll K H ws ((sortP ts).map tieD) → Q (.ref p) (upd H p (.lst ws))) : rSortedD K [.ref a] H Q := by
  refine ⟨a, xs, ts.map tieD, rfl, h, hd, PySem.W.AllAlike.of alike_tie, .inl fun d hd => ?_, fun d hd => ?_, fun ws p hp hw => ?_⟩
  · obtain ⟨x, _, rfl⟩ := List.mem_map.mp hd
    exact ⟨_, _, rfl⟩
  · obtain ⟨x, _, rfl⟩ := List.mem_map.mp hd
    simp [tieD, PyData.depth, PyData.depthAll]
  · rw [sort_ties] at hw
    exact q p ws hp hw
/-! nb_base -/
theorem nb_rng {posts : Nat} {ts : List (Nat × Nat)} (ok : TiesOk posts ts) : ∀ r ∈ nbZ posts ts, r.length ≤ 100000 ∧ ∀ y ∈ r, 0 ≤ y ∧ y < (nbZ posts ts).length := fun r hr => by
  obtain ⟨v, _, rfl⟩ := List.mem_map.mp hr
  have hl : (nbZ posts ts).length = posts := by simp [nbZ]
  have hp := sortZ_perm (adjZ ts v)
  refine ⟨?_, fun y hy => ?_⟩
  · have : ∀ xs : List (Nat × Nat), (adjZ xs v).length ≤ 2 * xs.length := fun xs => by
      induction xs with
      | nil => simp [adjZ]
      | cons x xs ih =>
        have e : (adjZ (x :: xs) v).length = ((if x.1 = v then [(x.2 : Int)] else []) ++ (if x.2 = v then [(x.1 : Int)] else [])).length + (adjZ xs v).length := by
          unfold adjZ
          rw [List.flatMap_cons, List.length_append]
        rw [e, List.length_cons, List.length_append]
        have h1 : (if x.1 = v then [(x.2 : Int)] else []).length ≤ 1 := by split <;> simp
        have h2 : (if x.2 = v then [(x.1 : Int)] else []).length ≤ 1 := by split <;> simp
        omega
    have := this ts
    have o1 := ok.len
    have o2 := ok.few
    have e : (nearZ ts v).length = (adjZ ts v).length := hp.length_eq
    omega
  · have hy' : y ∈ adjZ ts v := hp.mem_iff.mp hy
    obtain ⟨a, ha, hm⟩ := List.mem_flatMap.mp hy'
    have := ok.rng a ha
    rw [hl]
    rcases List.mem_append.mp hm with m | m
    · split at m
      · rw [List.mem_singleton.mp m]; omega
      · cases m
    · split at m
      · rw [List.mem_singleton.mp m]; omega
      · cases m
/-! whole trees -/
def TreeOk (posts : Nat) (ts : List (Nat × Nat)) : Prop := TiesOk posts ts ∧ ∃ pa rk r, LT.Rooted posts ts pa rk r
theorem mem_adjZ {ts : List (Nat × Nat)} {v : Nat} {y : Int} : y ∈ adjZ ts v ↔ LT.Adj ts v y := by
  unfold adjZ LT.Adj
  rw [List.mem_flatMap]
  constructor
  · rintro ⟨a, ha, hm⟩
    refine ⟨a, ha, ?_⟩
    rcases List.mem_append.mp hm with m | m
    · split at m
      · next e => exact .inl ⟨by rw [e], List.mem_singleton.mp m⟩
      · cases m
    · split at m
      · next e => exact .inr ⟨by rw [e], List.mem_singleton.mp m⟩
      · cases m
  · rintro ⟨a, ha, h⟩
    refine ⟨a, ha, List.mem_append.mpr ?_⟩
    rcases h with ⟨h1, h2⟩ | ⟨h1, h2⟩
    · refine .inl ?_
      rw [if_pos (by omega), h2]
      exact List.mem_singleton.mpr rfl
    · refine .inr ?_
      rw [if_pos (by omega), h2]
      exact List.mem_singleton.mpr rfl
theorem mem_nearZ {ts : List (Nat × Nat)} {v : Nat} {y : Int} : y ∈ nearZ ts v ↔ LT.Adj ts v y := ((sortZ_perm _).mem_iff).trans mem_adjZ
theorem nbZ_len {posts : Nat} {ts : List (Nat × Nat)} : (nbZ posts ts).length = posts := by simp [nbZ]
theorem nbZ_at {posts : Nat} {ts : List (Nat × Nat)} {x : Int} (h0 : 0 ≤ x) (h1 : x < posts) : (nbZ posts ts).getD x.toNat [] = nearZ ts x.toNat := by
  unfold nbZ
  rw [List.getD_eq_getElem?_getD, List.getElem?_map, List.getElem?_range (by omega)]
  rfl
theorem rch_rc {posts : Nat} {ts : List (Nat × Nat)} (ok : TreeOk posts ts) {bar : Option Int} {s y : Int} (h0 : 0 ≤ s) (h1 : s < posts) : Rch (nbZ posts ts) bar s y ↔ LT.Rc ts bar s y := by
  obtain ⟨_, pa, rk, r, R⟩ := ok
  constructor
  · intro h
    refine (show LT.Rc ts bar s y ∧ 0 ≤ y ∧ y < posts from ?_).1
    induction h with
    | base => exact ⟨.base, h0, h1⟩
    | @step x y g1 g2 g3 ih =>
      obtain ⟨i1, i2, i3⟩ := ih
      rw [nbZ_at i2 i3] at g2
      have a := mem_nearZ.mp g2
      have e : ((x.toNat : Nat) : Int) = x := by omega
      rw [e] at a
      exact ⟨i1.step a g3, R.rng _ _ a.symm⟩
  · intro h
    induction h with
    | base => exact .base
    | @step x y g1 g2 g3 ih =>
      refine ih.step ?_ g3
      obtain ⟨k1, k2⟩ := R.rng _ _ g2
      rw [nbZ_at k1 k2]
      have e : ((x.toNat : Nat) : Int) = x := by omega
      exact mem_nearZ.mpr (by rw [e]; exact g2)
theorem len_of_rng {N : Nat} {ks : List Int} (nd : ks.Nodup) (h : ∀ x, x ∈ ks ↔ 0 ≤ x ∧ x < N) : ks.length = N := by
  have h1 := few_of nd fun x hx => (h x).mp hx
  have h2 := LA.nodup_le (M := (List.range N).map fun i => ((i : Nat) : Int)) (by
    refine List.pairwise_map.mpr (List.nodup_range.imp fun hne e => hne (by omega))) fun k hk => by
    obtain ⟨i, hi, rfl⟩ := List.mem_map.mp hk
    have := List.mem_range.mp hi
    exact (h _).mpr ⟨by omega, by omega⟩
  rw [List.length_map, List.length_range] at h2
  omega
/-! Tree.__init__(ties) -/
def sp_tree_init (K : PySem.W.Frag) (C : Addr) : Sp := fun vs H Q _ => ∃ (s dx : Addr) (t : V) (posts : Nat) (ts : List (Nat × Nat)), vs = [.ref s, t] ∧ H s = some (.ins C dx []) ∧ Dp K H t (tiesT ts) ∧ TreeOk posts ts ∧
  ∀ H', (∀ a, a ≠ s → ∀ o, H a = some o → H' a = some o) → H' s = some (.ins C dx (tf t posts)) → Dp K H' t (tiesT ts) → Q .non H'
theorem ok_tree_init {C f : Addr} {fd : FuncData} (M : Mk K C f) (hm : mg "Tree" = some (.ref C)) (F : C8.Fun K "__init__" "Tree.__init__" s_Tree_init f fd) (b : Binds K fd ["self", "ties"] []) (T : Txt mg) (TC : TrC K C)
    (c_is_tie : C8.Cal P w K mg base 3 "is_tie" (sp_is_tie K) []) (c_all_tied : C8.Cal P w K mg base 1 "all_tied" (sp_all_tied K) []) (c_reached : C8.Cal P w K mg base 1 "reached" (sp_reached K) []) : C8.Mak P w K mg base 4 "Tree" C (sp_tree_init K C) [] := by
  refine C8.mak0 M hm F b .nil sc_Tree_init (fun vs H Q E h => ?_) (fun cdv A outer s H vs Q E hr h => ?_)
  · obtain ⟨s, dx, t, posts, ts, rfl, _⟩ := h
    rfl
  · obtain ⟨s, dx, t, posts, ts, rfl, hs, ht, ok, q⟩ := h
    obtain ⟨ta, tv, rfl, hta, htv⟩ := dp_tup ht
    have hu64 := hu64_of hr
    have htvl : tv.length = ts.length := by rw [dpa_len htv, List.length_map]
    have o1 := ok.1.len
    have o2 := ok.1.few
    refine ⟨_, (pss_cons (ps_if (PW.pt (pw_or (pt_not (pt_val (pe_callB (TH.kcall_isi (K := K)) (by rfl) T.b_isinstance (by decide +kernel) (pa_cons (pv 1) (pa_cons (pe_bltn (v := .ty "tuple") (by rfl) T.b_tuple (by decide +kernel) rfl) pa_nil))))) (pw_or1 (pt_cmpR op_gt (pe_callB (TH.kcall_len (K := K)) (by rfl) T.b_len (by decide +kernel) (pa_cons (pv 1) pa_nil)) (C8.pe_gc (by rfl) T.g_MOST_TIES) (nomark _))))) (pss_one ps_never) pss_nil)
      (pss_cons (ps_set (i := 2) sc_Tree_init.nd rfl (Or.inl rfl) (pe_op op_add (pe_callB (TH.kcall_len (K := K)) (by rfl) T.b_len (by decide +kernel) (pa_cons (pv 1) pa_nil)) pe_int))
      (pss_cons (ps_for PassesOwn.never rfl (TH.kpi_enum (K := K) (by rfl) T.b_enumerate (pa_cons (pv 1) pa_nil)) (TH.kpg_tup (K := K) (n := 2) rfl (pgs_cons (pg_name (i := 3) sc_Tree_init.nd rfl (Or.inl rfl) (Or.inr rfl)) (pgs_cons (pg_name (i := 4) sc_Tree_init.nd rfl (Or.inl rfl) (Or.inr rfl)) pgs_nil))) (pss_one (ps_if (PW.pt (pw_or (pt_not (pt_val (C8.pe_c c_is_tie hr (by first | decide | exact Nat.le_refl _) (by rfl) (pa_cons (pv 2) (pa_cons (pv 4) pa_nil))))) (pw_or1 (PW.pt (pw_and (pt_cmpR op_gt (pv 3) pe_int (nomark _)) (pw_and1 (pt_not (pt_cmpR (TH.kop_ltT (K := K) hu64) (pe_ix (TH.kix_tup (K := K)) (pv 1) (pe_op op_sub (pv 3) pe_int) (fun _ _ => rfl)) (pv 4) (nomark _))))))))) (pss_one ps_never) pss_nil)))
      (pss_cons (ps_if (pt_cmpR op_lt (pe_callB (TH.kcall_len (K := K)) (by rfl) T.b_len (by decide +kernel) (pa_cons (C8.pe_c c_reached hr (by first | decide | exact Nat.le_refl _) (by rfl) (pa_cons (C8.pe_c c_all_tied hr (by first | decide | exact Nat.le_refl _) (by rfl) (pa_cons (pv 2) (pa_cons (pv 1) pa_nil))) (pa_cons pe_int (pa_cons pe_non pa_nil)))) pa_nil)) (pv 2) (nomark _)) (pss_one ps_never) pss_nil)
      (pss_cons (ps_fld (pv 0) (pv 1) rfl)
      (pss_one (ps_fld (pv 0) (pv 2) rfl))))))), ?_⟩
    refine w_start (σ' := [some (.ref s), some (.ref ta), none, none, none]) rfl ?_
    walk_at "rd"
    refine w_isTup ht ?_
    have e0 : isTup (tiesT ts) = true := rfl
    rw [e0]
    walk_at "rd"
    refine ⟨ta, _, rfl, .inr hta, ?_⟩
    walk_at "rd"
    rw [decide_eq_false (show ¬ ((tv.length : Int) > 23) by omega)]
    walk_at "rd"
    refine ⟨ta, _, rfl, .inr hta, ?_⟩
    walk_at "rd"
    have ep : ((tv.length : Nat) : Int) + 1 = (posts : Nat) := by omega
    rw [ep]
    refine ⟨ta, tv, rfl, .inr ⟨hta, ?_⟩⟩
    refine for_go walk_enumT (fun i σ H2 => Ex H H2 ∧ ∃ y3 y4, σ = [some (.ref s), some (.ref ta), some (.int posts), y3, y4]) ⟨Ex.refl _, _, _, rfl⟩ (fun i σ H2 _ p => p.1.t hta) (fun i x σ H2 H3 hi p y => ?_) (fun σ H2 p => ?_)
    · obtain ⟨e, y3, y4, rfl⟩ := p
      obtain ⟨tp, x1, x2, rfl, htp, rfl, k1, k2⟩ := y
      cases k1
      have e3 : Ex H (upd H2 tp (.tup [.int (i : Nat), x2])) := e.trans (Ex.new htp)
      have u3 : upd H2 tp (.tup [.int (i : Nat), x2]) tp = some (.tup [.int (i : Nat), x2]) := upd_same
      generalize upd H2 tp (.tup [.int (i : Nat), x2]) = H3 at e3 u3 ⊢
      refine w_gtup2 u3 ?_
      walk_at "rd"
      obtain ⟨a, ha1, ha2⟩ := dpa_ties (e3.dpa htv) k2
      obtain ⟨h1, h2⟩ := ok.1.rng a (List.mem_of_getElem? ha1)
      refine ⟨posts, x2, a, rfl, ha2, h1, h2, ?_⟩
      walk_at "rd"
      refine w_dec (fun hpos => ?_) (fun _ => ?_)
      · walk_at "rd"
        obtain ⟨x0, hx0⟩ : ∃ x0, tv[i - 1]? = some x0 := ⟨_, List.getElem?_eq_getElem (by omega)⟩
        obtain ⟨a0, ha01, ha02⟩ := dpa_ties (e3.dpa htv) hx0
        obtain ⟨t0, rfl, ht0⟩ := dp_tie ha02
        obtain ⟨t2, rfl, ht2⟩ := dp_tie ha2
        have ei : (i : Int) - 1 = ((i - 1 : Nat) : Int) := by omega
        rw [ei]
        refine w_ixT (e3.t hta) (atI_at hx0) ?_
        walk_at "rd"
        refine ⟨t0, t2, [(a0.1 : Int), (a0.2 : Int)], [(a.1 : Int), (a.2 : Int)], rfl, rfl, ht0, ht2, ?_⟩
        have hlt : HT.lexLt [(a0.1 : Int), (a0.2 : Int)] [(a.1 : Int), (a.2 : Int)] = true := by
          obtain ⟨g1, g2⟩ := List.getElem?_eq_some_iff.mp ha01
          obtain ⟨g3, g4⟩ := List.getElem?_eq_some_iff.mp ha1
          have := List.pairwise_iff_getElem.mp ok.1.ord (i - 1) i g1 g3 (by omega)
          rw [g2, g4] at this
          rw [HT.lexLt_cons]
          by_cases e : (a0.1 : Int) = (a.1 : Int)
          · rw [if_pos e, HT.lexLt_cons, if_neg (by omega), decide_eq_true (by omega)]
          · rw [if_neg e, decide_eq_true (by omega)]
        rw [hlt]
        walk_at "rd"
        exact ⟨e3, _, _, rfl⟩
      · walk_at "rd"
        exact ⟨e3, _, _, rfl⟩
    · obtain ⟨e, y3, y4, rfl⟩ := p
      walk_at "rd"
      refine ⟨posts, .ref ta, ts, rfl, e.dp ht, by omega, by omega, ok.1.rng, fun l H3 e3 hl => ?_⟩
      walk_at "rd"
      obtain ⟨l', xs, el, hl1, hl2⟩ := dp_lst hl
      cases el
      have hl3 : DpAll K H3 xs ((nbZ posts ts).map row) := by
        unfold nbZ
        rw [List.map_map]
        exact hl2
      have hnl := nbZ_len (posts := posts) (ts := ts)
      refine ⟨l, xs, nbZ posts ts, 0, none, rfl, hl1, hl3, by omega, by omega, nb_rng ok.1, fun u ys H4 e4 hu p1 p2 p3 => ?_⟩
      obtain ⟨ua, rfl, hua⟩ := dp_row hu
      walk_at "rd"
      refine ⟨ua, _, rfl, .inr hua, ?_⟩
      walk_at "rd"
      have hyl : ys.length = posts := len_of_rng p2 fun x => by
        rw [p3, rch_rc ok (by omega) (by omega)]
        obtain ⟨_, pa, rk, r, R⟩ := ok
        exact ⟨fun h => R.rc_rng h (by omega) (by omega), fun h => R.all (by omega) (by omega) h.1 h.2⟩
      rw [List.length_map, hyl, decide_eq_false (show ¬ ((posts : Int) < posts) by omega)]
      walk_at "rd"
      have e5 := e.trans (e3.trans e4)
      refine ⟨s, C, dx, [], rfl, e5 _ _ hs, TC.cl, TC.nT, by decide, ?_⟩
      walk_at "rd"
      refine ⟨s, C, dx, _, rfl, upd_same, TC.cl, TC.nP, Nat.lt_of_le_of_lt (length_putF _ _ _) (by decide), ?_⟩
      rw [upd_upd]
      have tx : Tx H4 (upd H4 s (.ins C dx (tf (.ref ta) posts))) := Tx.wr (e5 _ _ hs) (fun _ z => nomatch z) (fun _ _ z => nomatch z)
      refine q _ (fun a ha o ho => ?_) upd_same (tx.dp (by unfold tiesT imm; exact imm_ties ts) (e5.dp ht))
      rw [upd_ne ha]
      exact e5 _ _ ho
/-! sorted(a tuple of numbers) -/
theorem sortZ_self {ns : List Int} (h : ns.Pairwise (· ≤ ·)) : sortZ ns = ns :=
  List.Perm.eq_of_pairwise (le := fun a b : Int => a ≤ b) (fun a b _ _ h1 h2 => Int.le_antisymm h1 h2) (sortZ_pw ns) h (sortZ_perm ns)
theorem sortZ_pair (u v : Nat) : sortZ [(u : Int), (v : Int)] = [((LT.srt u v).1 : Int), ((LT.srt u v).2 : Int)] := by
  unfold LT.srt
  split
  · exact sortZ_self (by simp; omega)
  · refine (sortZ_of_perm (bs := [(v : Int), (u : Int)]) (.swap _ _ _)).trans ?_
    exact sortZ_self (by simp; omega)
theorem w_sortTI {H : Hp} {Q : VK} {a : Addr} {ns : List Int} (h : SqT K H a (ns.map V.int)) (q : ∀ p, H p = none → Q (.ref p) (upd H p (.lst ((sortZ ns).map V.int)))) : rSortedTD K [.ref a] H Q := by
  refine ⟨a, _, ns.map PyData.int, rfl, h, dpa_ints ns, PySem.W.AllAlike.of (enc := PyData.int) fun a b => by simp [PySem.W.alike], .inr fun d hd => ?_, fun d hd => ?_, fun ws p hp hw => ?_⟩
  · obtain ⟨x, _, rfl⟩ := List.mem_map.mp hd
    exact ⟨(fun e => nomatch e), (fun xs e => nomatch e)⟩
  · obtain ⟨x, _, rfl⟩ := List.mem_map.mp hd
    simp [PyData.depth]
  · rw [sort_ints] at hw
    rw [dpa_ints_inv hw]
    exact q p hp
theorem plain_ties : ∀ ts : List (Nat × Nat), PyData.plainAll (ts.map tieD) = true
  | [] => rfl
  | t :: ts => by
    show (true && PyData.plainAll (ts.map tieD)) = true
    rw [plain_ties ts]
    rfl
theorem eqv_tie (a b : Nat × Nat) : PyData.eqv (tieD a) (tieD b) = decide (a = b) := by
  have e : PyData.eqv (tieD a) (tieD b) = (decide ((a.1 : Int) = b.1) && decide ((a.2 : Int) = b.2)) := by
    simp [tieD, PyData.eqv, PyData.eqvAll]
    rfl
  rw [e]
  by_cases h : a = b
  · subst h
    simp
  · rw [decide_eq_false h]
    rw [Bool.and_eq_false_iff]
    by_cases h1 : a.1 = b.1
    · right
      rw [decide_eq_false]
      intro h2
      exact h (Prod.ext h1 (by omega))
    · left
      rw [decide_eq_false]
      omega
/-! treeok_base -/
theorem perm_of_map {α β : Type} (f : α → β) {ys zs : List β} (p : ys.Perm zs) : ∀ {xs : List α}, zs = xs.map f → ∃ ws : List α, ws.Perm xs ∧ ys = ws.map f := by
  induction p with
  | nil =>
    intro xs h
    refine ⟨[], ?_, rfl⟩
    cases xs with
    | nil => exact .nil
    | cons x xs => cases h
  | cons x _ ih =>
    intro xs h
    cases xs with
    | nil => cases h
    | cons a xs =>
      rw [List.map_cons] at h
      injection h with h1 h2
      obtain ⟨ws, p1, p2⟩ := ih h2
      exact ⟨a :: ws, .cons _ p1, by rw [List.map_cons, p2, h1]⟩
  | swap x y l =>
    intro xs h
    match xs, h with
    | [], h => cases h
    | [a], h => cases h
    | a :: b :: xs, h =>
      rw [List.map_cons, List.map_cons] at h
      injection h with h1 h2
      injection h2 with h2 h3
      exact ⟨b :: a :: xs, .swap _ _ _, by rw [List.map_cons, List.map_cons, h1, h2, h3]⟩
  | trans _ _ ih1 ih2 =>
    intro xs h
    obtain ⟨ws, p1, p2⟩ := ih2 h
    obtain ⟨vs, p3, p4⟩ := ih1 p2
    exact ⟨vs, p3.trans p1, p4⟩
theorem sortP_pw (xs : List (Nat × Nat)) : (sortP xs).Pairwise fun a b => a.1 < b.1 ∨ (a.1 = b.1 ∧ a.2 ≤ b.2) :=
  (List.pairwise_mergeSort (le := leP) (fun a b c h1 h2 => by
    have h1 := of_decide_eq_true h1
    have h2 := of_decide_eq_true h2
    exact decide_eq_true (by omega)) (fun a b => by
    rw [Bool.or_eq_true]
    by_cases h : (a.1 : Int) < b.1 ∨ ((a.1 : Int) = b.1 ∧ (a.2 : Int) ≤ b.2)
    · exact .inl (decide_eq_true h)
    · exact .inr (decide_eq_true (by omega))) xs).imp fun h => by
    have := of_decide_eq_true h
    omega
theorem treeOk_made {n : Nat} {nm : List Nat} (hp : nm.Perm (List.range n)) {ps : List (Nat × Nat)} (hl : ps.length + 1 = n) (h : ∀ j a, ps[j]? = some a → ∃ o, o ≤ j ∧ a = LT.srt (nm.getD (j + 1) 0) (nm.getD o 0)) (hn : n ≤ 24) : TreeOk n (sortP ps) := by
  obtain ⟨h1, h2, pa, rk, r, R⟩ := LT.ties_made hp hl h
  have p := sortP_perm ps
  refine ⟨⟨by rw [p.length_eq]; exact hl, hn, fun a ha => h1 a (p.mem_iff.mp ha), ?_⟩, pa, rk, r, R.perm p⟩
  have nd : (sortP ps).Nodup := p.nodup_iff.mpr h2
  refine ((sortP_pw ps).and nd).imp fun {a b} h => ?_
  obtain ⟨h3, h4⟩ := h
  by_cases e : a.1 = b.1
  · refine .inr ⟨e, ?_⟩
    have : a.2 ≠ b.2 := fun e2 => h4 (Prod.ext e e2)
    omega
  · exact .inl (by omega)
/-! nz_base -/
def nz (l : List Nat) : List Int := l.map fun x : Nat => (x : Int)
theorem nz_len (l : List Nat) : (nz l).length = l.length := by simp [nz]
theorem nz_sum : ∀ l : List Nat, (nz l).sum = (l.sum : Nat)
  | [] => rfl
  | x :: l => by
    show (x : Int) + (nz l).sum = ((x + l.sum : Nat) : Int)
    rw [nz_sum l]
    omega
theorem nz_at {l : List Nat} {i : Nat} {x : Nat} (h : l[i]? = some x) : (nz l)[i]? = some (x : Int) := by
  unfold nz
  rw [List.getElem?_map, h]
  rfl
theorem nz_take (l : List Nat) (k : Nat) : (nz l).take k = nz (l.take k) := by
  unfold nz
  rw [List.map_take]
/-! all of some bools -/
theorem w_all {H : Hp} {Q : VK} {Dl : Addr} {ws : List V} {n : Nat} {f : Nat → Bool} (hw : H Dl = some (.lst ws)) (hd : DpAll K H ws (made n (fun _ => true) fun i => .bool (f i))) (hf : ∀ i, i < n → f i = true) (q : Q (.bl true) H) : rAll K [.ref Dl] H Q := by
  rw [made_all] at hd
  have e2 : (List.range n).map (fun i => PyData.bool (f i)) = ((List.range n).map f).map PyData.bool := by rw [List.map_map]; rfl
  rw [e2] at hd
  have e3 := dpa_bools_inv hd
  subst e3
  refine ⟨Dl, _, rfl, sqL hw, ?_⟩
  have e4 : ((List.range n).map f).all id = true := by
    rw [List.all_eq_true]
    intro b hb
    obtain ⟨i, hi, rfl⟩ := List.mem_map.mp hb
    exact hf i (List.mem_range.mp hi)
  rw [e4]
  exact q
end TK

namespace TK
open PySem PySem.Spec PyProof.Rows L2 TH
local macro_rules | `(tactic| walk_at "rd1") => `(tactic| first
  | (with_reducible refine TH.w_seq ?_)
  | (with_reducible refine TH.w_asg ?_)
  | (with_reducible refine TH.w_ret ?_)
  | (with_reducible refine TH.w_drop ?_)
  | (with_reducible refine TH.w_ifS ?_)
  | (with_reducible refine TH.w_next ?_)
  | ((with_reducible refine TH.w_var (v := ?vv) ?hv ?_); (case hv => rfl))
  | (with_reducible refine TH.w_c ?_)
  | ((with_reducible refine TH.w_gname (σ' := ?ss) ?hs ?_); (case hs => (dsimp only [List.set]; rfl)))
  | (with_reducible refine TH.w_op ?_)
  | (with_reducible refine TH.w_un ?_)
  | (with_reducible refine TH.w_chain ?_)
  | (with_reducible refine TH.w_I0 ?_)
  | ((with_reducible refine TH.w_I ?hm ?_); (case hm => first | (exact TH.CMul.l (by omega) (by omega)) | (exact TH.CMul.r (by omega) (by omega)) | (exact TH.CDiv.mk (by omega) (by omega)) | (show (0 : Int) < _; omega) | (exact TH.CPow.mk (by omega) (by omega) (by decide))))
  | (with_reducible refine TH.w_U ?_)
  | (with_reducible refine TH.w_eqI ?_)
  | (with_reducible refine TH.w_neI ?_)
  | (with_reducible refine TH.w_eqB ?_)
  | (with_reducible refine TH.w_isN ?_)
  | (with_reducible refine TH.w_nil ?_)
  | (with_reducible refine TH.w_cons ?_)
  | (with_reducible refine TH.w_test ?_)
  | (with_reducible refine TH.w_B ?_)
  | (with_reducible refine TH.w_bl ?_)
  | (with_reducible refine TH.w_and ?_)
  | (with_reducible refine TH.w_or ?_)
  | (with_reducible refine TH.w_not ?_)
  | (with_reducible refine TH.w_andV ?_)
  | (with_reducible refine TH.w_orV ?_)
  | (with_reducible refine TH.w_notV ?_)
  | (with_reducible refine TH.w_if ?_)
  | (with_reducible refine TH.w_parT ?_)
  | (with_reducible refine TH.w_par ?_)
  | (with_reducible refine TH.w_parT3 ?_)
  | (with_reducible refine TH.w_par3 ?_)
  | (with_reducible refine TH.w_cb ?_)
  | (with_reducible refine TH.w_call ?_)
  | ((with_reducible refine TH.w_aug (v := ?vv) ?hv ?_); (case hv => rfl))
  | (with_reducible refine TH.w_ip ?_)
  | (with_reducible refine TH.w_bm ?_)
  | (with_reducible refine TH.w_sl ?_)
  | (with_reducible refine TH.w_np ?_)
  | (with_reducible refine TH.w_pt ?_)
  | (with_reducible refine TH.w_pti ?_)
  | (with_reducible refine TH.w_gsub ?_)
  | (with_reducible refine TH.w_int ?_)
  | (with_reducible refine TH.w_tupT ?_)
  | (with_reducible refine TH.w_lstT ?_)
  | ((with_reducible show L2.rIxL _ _ _ _ _); (first | (refine TH.w_ixL (TH.sqL upd_same) rfl ?_) | (refine TH.w_ixL (TH.sqL (by assumption)) rfl ?_)))
  | ((with_reducible show L2.rSetL _ _ _ _ _); (first | (refine TH.w_set1 upd_same ?_) | (refine TH.w_set2 upd_same ?_) | (refine TH.w_set3 upd_same ?_) | (refine TH.w_set4 upd_same ?_) | (refine TH.w_set1 (by assumption) ?_) | (refine TH.w_set2 (by assumption) ?_) | (refine TH.w_set3 (by assumption) ?_) | (refine TH.w_set4 (by assumption) ?_)))
  | (with_reducible refine TH.w_lc ?_)
  | (with_reducible refine TH.w_dc ?_)
  | (with_reducible refine TH.w_itup ?_)
  | (with_reducible refine TH.w_ilist ?_)
  | (with_reducible refine TH.w_ienum ?_)
  | (with_reducible refine TH.w_izip ?_)
  | (with_reducible refine TH.w_irng1 ?_)
  | (with_reducible refine TH.w_irng2 ?_)
  | (with_reducible refine TH.w_for ?_)
  | (with_reducible refine TH.w_gcons ?_)
  | (with_reducible refine TH.w_gnil ?_)
  | (with_reducible refine TH.w_yes ?_)
  | (with_reducible refine TH.w_gtup2 upd_same ?_)
  | (with_reducible refine TH.w_gtup3 upd_same ?_)
  | (with_reducible refine TH.w_dput ?_)
  | (with_reducible refine TH.w_bm0 ?_)
  | (with_reducible refine TH.w_din ?_)
  | (with_reducible refine TH.w_dnotin ?_)
  | (with_reducible refine TH.w_dispK ?_)
  | (with_reducible refine TH.w_lock ?_)
  | (with_reducible refine TH.w_ikeys ?_)
  | (with_reducible refine TH.w_iitems ?_)
  | (with_reducible refine TH.w_dispT1 ?_)
  | (with_reducible refine TH.w_dnewT ?_)
  | (with_reducible refine TH.w_dnewK ?_)
  | (with_reducible refine TH.w_fld ?_)
  | (with_reducible refine TH.w_sfld ?_)
  | (with_reducible refine TH.w_meth ?_)
  | (with_reducible refine TH.w_make ?_)
  | (with_reducible refine TH.w_dget2 ?_)
  | (with_reducible refine TH.w_revL ?_)
  | (with_reducible refine TH.w_revT ?_)
  | (with_reducible refine TH.w_lstRg ?_)
  | (with_reducible refine TH.w_tupRg ?_)
  | (with_reducible refine TH.w_rg1 ?_)
  | (with_reducible refine TH.w_rg2 ?_)
  | (with_reducible refine TH.w_T ?_)
  | (with_reducible refine TH.w_F ?_))
local macro_rules | `(tactic| walk_at "rd") => `(tactic| repeat (first | walk_at "rd1" | (dsimp only [List.set, L2.wipe, List.map, TH.isInt, TH.isBool, TH.isTup, TH.isLst, TH.bo_f, TH.bo_t, TH.ba_f, TH.ba_t, TH.bn_t, TH.bn_f, List.append_nil, List.cons_append, List.nil_append])))

variable {P : Program} {w : World} {K : PySem.W.Frag} {mg : Str → Option Value} {base : Heap}
/-! are_counts(tree, thing), check_counts, what is right -/
structure CntOk (posts : Nat) (hs : List Nat) : Prop where
  len : hs.length = posts
  h8 : ∀ x ∈ hs, x ≤ 8
  h60 : hs.sum ≤ 60
def sp_are_counts (K : PySem.W.Frag) (C : Addr) : Sp := fun vs H Q _ => ∃ (t v : V) (posts : Nat) (ts : List (Nat × Nat)) (hs : List Nat), vs = [t, v] ∧ TreeAt K C H t posts ts ∧ posts ≤ 100 ∧ Dp K H v (row (nz hs)) ∧ CntOk posts hs ∧ ∀ H', Ex H H' → Q (.bl true) H'
theorem ok_are_counts {C f : Addr} {fd : FuncData} (F : C8.Def K mg "are_counts" s_are_counts f fd) (b : Binds K fd ["tree", "thing"] []) (T : Txt mg) (TC : TrC K C)
    (c_is_within : C8.Cal P w K mg base 2 "is_within" (sp_is_within K) []) : C8.Cal P w K mg base 3 "are_counts" (sp_are_counts K C) [] := by
  refine C8.cal0 F b .nil sc_are_counts (fun vs H Q E h => ?_) (fun cdv A outer s H vs Q E hr h => ?_)
  · obtain ⟨t, v, posts, ts, hs, rfl, _⟩ := h
    rfl
  · obtain ⟨t, v, posts, ts, hs, rfl, ⟨ta, dx, tt, rfl, hta, htt⟩, hp, hd, ⟨hl, h8, h60⟩, q⟩ := h
    refine ⟨_, (pss_cons (ps_if (PW.pt (pw_or (pt_not (pt_val (pe_callB (TH.kcall_isi (K := K)) (by rfl) T.b_isinstance (by decide +kernel) (pa_cons (pv 1) (pa_cons (pe_bltn (v := .ty "tuple") (by rfl) T.b_tuple (by decide +kernel) rfl) pa_nil))))) (pw_or1 (pt_cmpR op_ne (pe_callB (TH.kcall_len (K := K)) (by rfl) T.b_len (by decide +kernel) (pa_cons (pv 1) pa_nil)) (TH.kpe_fld (K := K) (pv 0) rfl) (nomark _))))) (pss_one (ps_ret pe_bl)) pss_nil)
      (pss_one (ps_ret (pe_and (pe_callB (TH.kcr_all (K := K) rfl) (by rfl) T.b_all (by decide +kernel) (pa_cons (pe_lc (own := [("many", 2)]) (g := gName 2) (tt := tYes) rfl sc_are_counts.nd (TH.kpi_tup (K := K) (pv 1)) (blkOk_by (own := [("many", 2)]) (N := N_are_counts) (sc := C8.fnScope s_are_counts) (by decide +kernel)) (fun _ _ _ _ _ => (pg_name (i := 2) sc_are_counts.nd rfl (Or.inl rfl) (Or.inr rfl))) (fun _ _ _ _ _ => pts_nil) (fun _ _ _ _ _ => (C8.pe_c c_is_within hr (by first | decide | exact Nat.le_refl _) (by rfl) (pa_cons (pv 2) (pa_cons pe_int (pa_cons (C8.pe_gc (by rfl) T.g_MOST_AT) pa_nil)))))) pa_nil)) (pe_one (pe_cmpR op_le (pe_callB (TH.kcr_sumT (K := K) rfl) (by rfl) T.b_sum (by decide +kernel) (pa_cons (pv 1) pa_nil)) (C8.pe_gc (by rfl) T.g_MOST_NUMBERS) (nomark _))))))), ?_⟩
    refine w_start (σ' := [some (.ref ta), some v, none]) rfl ?_
    walk_at "rd"
    refine w_isTup hd ?_
    have e0 : isTup (row (nz hs)) = true := rfl
    rw [e0]
    obtain ⟨a, rfl, ha⟩ := dp_row hd
    walk_at "rd"
    refine ⟨a, _, rfl, .inr ha, ?_⟩
    walk_at "rd"
    refine ⟨ta, C, dx, _, _, rfl, hta, TC.cl, TC.nP, tf_posts, ?_⟩
    walk_at "rd"
    have e1 : ((((nz hs).map V.int).length : Nat) : Int) = (posts : Nat) := by rw [List.length_map, nz_len, hl]
    rw [e1, decide_eq_true rfl]
    walk_at "rd"
    refine ⟨a, rfl, ⟨_, ha⟩, fun Dl hD => ?_⟩
    refine lc_data (K := K) walk_tup (fun _ => true) (fun i => .bool true) (fun _ => rfl) (fun H' e => e.t ha) hD (by rw [List.length_map, nz_len]; omega) (fun i x H' H'' hi e y R R0 k _ => ?_) (fun H1 ws e1 hws hda => ?_)
    · obtain ⟨rfl, hx⟩ := y
      obtain ⟨z, hz, rfl⟩ := ints_at hx
      obtain ⟨n, hn, rfl⟩ := List.mem_map.mp (List.mem_of_getElem? hz)
      have := h8 n hn
      walk_at "rd"
      refine ⟨rfl, ?_⟩
      walk_at "rd"
      refine ⟨_, _, _, _, rfl, .int _, ?_⟩
      rw [inR_int, decide_eq_true (by omega), decide_eq_true (by omega)]
      exact k rfl _ _ (Ex.refl _) (.bl true)
    · walk_at "rd"
      refine w_all hws hda (fun _ _ => rfl) ?_
      walk_at "rd"
      refine w_sumT (e1.t ha) ?_
      walk_at "rd"
      rw [nz_sum, decide_eq_true (by omega)]
      exact q H1 e1
def sp_check_counts (K : PySem.W.Frag) (C : Addr) : Sp := fun vs H Q _ => ∃ (t v : V) (posts : Nat) (ts : List (Nat × Nat)) (hs : List Nat), vs = [t, v] ∧ TreeAt K C H t posts ts ∧ posts ≤ 100 ∧ Dp K H v (row (nz hs)) ∧ CntOk posts hs ∧ ∀ H', Ex H H' → Q .non H'
theorem ok_check_counts {C f : Addr} {fd : FuncData} (F : C8.Def K mg "check_counts" s_check_counts f fd) (b : Binds K fd ["tree", "thing"] []) (T : Txt mg)
    (c_are_counts : C8.Cal P w K mg base 3 "are_counts" (sp_are_counts K C) []) : C8.Cal P w K mg base 4 "check_counts" (sp_check_counts K C) [] := by
  refine C8.cal0 F b .nil sc_check_counts (fun vs H Q E h => ?_) (fun cdv A outer s H vs Q E hr h => ?_)
  · obtain ⟨t, v, posts, ts, hs, rfl, _⟩ := h
    rfl
  · obtain ⟨t, v, posts, ts, hs, rfl, ht, hp, hd, hc, q⟩ := h
    refine ⟨_, (pss_one (ps_if (pt_not (pt_val (C8.pe_c c_are_counts hr (by first | decide | exact Nat.le_refl _) (by rfl) (pa_cons (pv 0) (pa_cons (pv 1) pa_nil))))) (pss_one ps_never) pss_nil)), ?_⟩
    refine w_start (σ' := [some t, some v]) rfl ?_
    walk_at "rd"
    refine ⟨t, v, posts, ts, hs, rfl, ht, hp, hd, hc, fun H' e => ?_⟩
    walk_at "rd"
    exact q H' e
/-! power(base, many), _law_power(p, many) -/
def sp_power (K : PySem.W.Frag) : Sp := fun vs H Q _ => ∃ (p n : Nat), vs = [.int (p : Nat), .int (n : Nat)] ∧ p ≤ 1000000 ∧ n ≤ 1000000 ∧ Q (.int ((p : Int) ^ n)) H
theorem ok_power {f : Addr} {fd : FuncData} (F : C8.Def K mg "power" s_power f fd) (b : Binds K fd ["base", "many"] []) (T : Txt mg) : C8.Cal P w K mg base 1 "power" (sp_power K) [] := by
  refine C8.cal0 F b .nil sc_power (fun vs H Q E h => ?_) (fun cdv A outer s H vs Q E hr h => ?_)
  · obtain ⟨p, n, rfl, _⟩ := h
    rfl
  · obtain ⟨p, n, rfl, hp, hn, q⟩ := h
    refine ⟨_, (pss_cons (ps_set (i := 2) sc_power.nd rfl (Or.inl rfl) pe_int)
      (pss_cons (ps_for PassesOwn.never rfl (pi_range1 (by rfl) T.b_range (pa_cons (pv 1) pa_nil)) (pg_name (i := 3) sc_power.nd rfl (Or.inl rfl) (Or.inr rfl)) (pss_one (ps_aug (i := 2) sc_power.nd rfl (Or.inl rfl) (pv 0) iop_mul)))
      (pss_one (ps_ret (pv 2))))), ?_⟩
    refine w_start (σ' := [some (.int p), some (.int n), none, none]) rfl ?_
    walk_at "rd"
    refine w_isrng (by omega) (by omega) ?_
    refine for_go walk_rng (fun i σ H' => H' = H ∧ ∃ y, σ = [some (.int p), some (.int n), some (.int ((p : Int) ^ i)), y]) ⟨rfl, _, rfl⟩ (fun _ _ _ _ _ => trivial) (fun i x σ H' H'' hi pp y => ?_) (fun σ H' pp => ?_)
    · obtain ⟨rfl, y3, rfl⟩ := pp
      obtain ⟨rfl, rfl⟩ := y
      walk_at "rd"
      exact ⟨rfl, _, by rw [Int.pow_succ]⟩
    · obtain ⟨rfl, y3, rfl⟩ := pp
      walk_at "rd"
      exact q
theorem ok_law_power {f : Addr} {fd : FuncData} (F : C8.Def K mg "_law_power" s_law_power f fd) (b : Binds K fd ["p", "many"] []) (T : Txt mg) : C8.Cal P w K mg base 1 "_law_power" (sp_power K) [] := by
  refine C8.cal0 F b .nil sc_law_power (fun vs H Q E h => ?_) (fun cdv A outer s H vs Q E hr h => ?_)
  · obtain ⟨p, n, rfl, _⟩ := h
    rfl
  · obtain ⟨p, n, rfl, hp, hn, q⟩ := h
    refine ⟨_, (pss_cons (ps_set (i := 2) sc_law_power.nd rfl (Or.inl rfl) pe_int)
      (pss_cons (ps_for PassesOwn.never rfl (pi_range1 (by rfl) T.b_range (pa_cons (pv 1) pa_nil)) (pg_name (i := 3) sc_law_power.nd rfl (Or.inl rfl) (Or.inr rfl)) (pss_one (ps_set (i := 2) sc_law_power.nd rfl (Or.inl rfl) (pe_op op_mul (pv 2) (pv 0)))))
      (pss_one (ps_ret (pv 2))))), ?_⟩
    refine w_start (σ' := [some (.int p), some (.int n), none, none]) rfl ?_
    walk_at "rd"
    refine w_isrng (by omega) (by omega) ?_
    refine for_go walk_rng (fun i σ H' => H' = H ∧ ∃ y, σ = [some (.int p), some (.int n), some (.int ((p : Int) ^ i)), y]) ⟨rfl, _, rfl⟩ (fun _ _ _ _ _ => trivial) (fun i x σ H' H'' hi pp y => ?_) (fun σ H' pp => ?_)
    · obtain ⟨rfl, y3, rfl⟩ := pp
      obtain ⟨rfl, rfl⟩ := y
      walk_at "rd"
      exact ⟨rfl, _, by rw [Int.pow_succ]⟩
    · obtain ⟨rfl, y3, rfl⟩ := pp
      walk_at "rd"
      exact q
/-! tables_of_rank(p, rows, wide, rank) -/
def aboveZ (p r w : Nat) : Nat → Int
  | 0 => 1
  | k + 1 => aboveZ p r w k * (((p : Int) ^ r - (p : Int) ^ k) * ((p : Int) ^ w - (p : Int) ^ k))
def belowZ (p n : Nat) : Nat → Int
  | 0 => 1
  | k + 1 => belowZ p n k * ((p : Int) ^ n - (p : Int) ^ k)
def tabZ (p r w k : Nat) : Int := if k > min r w then 0 else aboveZ p r w k / belowZ p k k
theorem above_bits {p r w : Nat} (hp : p ≤ 1000000) (hr : r ≤ 8) (hw : w ≤ 8) : ∀ k, k ≤ 8 → Bits (aboveZ p r w k) (322 * k)
  | 0, _ => by show (1 : Nat) ≤ 2 ^ 0; decide
  | k + 1, h => by
    have a := above_bits hp hr hw k (by omega)
    have b1 := ((Bits.pow hp r).mono (show 20 * r ≤ 160 by omega)).sub ((Bits.pow hp k).mono (show 20 * k ≤ 160 by omega))
    have b2 := ((Bits.pow hp w).mono (show 20 * w ≤ 160 by omega)).sub ((Bits.pow hp k).mono (show 20 * k ≤ 160 by omega))
    exact (a.mul (b1.mul b2)).mono (by omega)
theorem below_bits {p n : Nat} (hp : p ≤ 1000000) (hn : n ≤ 8) : ∀ k, k ≤ 8 → Bits (belowZ p n k) (161 * k)
  | 0, _ => by show (1 : Nat) ≤ 2 ^ 0; decide
  | k + 1, h => by
    have a := below_bits hp hn k (by omega)
    have b1 := ((Bits.pow hp n).mono (show 20 * n ≤ 160 by omega)).sub ((Bits.pow hp k).mono (show 20 * k ≤ 160 by omega))
    exact (a.mul b1).mono (by omega)
theorem below_pos {p n : Nat} (hp : 2 ≤ p) : ∀ k, k ≤ n → 0 < belowZ p n k
  | 0, _ => by show (0 : Int) < 1; decide
  | k + 1, h => by
    have a := below_pos (n := n) hp k (by omega)
    have : p ^ k < p ^ n := Nat.pow_lt_pow_right (by omega) (by omega)
    have h2 : (p : Int) ^ k < (p : Int) ^ n := by exact_mod_cast this
    exact Int.mul_pos a (by omega)
theorem tab_bits {p r w k : Nat} (hp2 : 2 ≤ p) (hp : p ≤ 1000000) (hr : r ≤ 8) (hw : w ≤ 8) : Bits (tabZ p r w k) 2600 := by
  unfold tabZ
  split
  · show (0 : Nat) ≤ _
    exact Nat.zero_le _
  · next h =>
    have h1 := above_bits (p := p) (r := r) (w := w) hp hr hw k (by omega)
    have h2 := below_pos (n := k) hp2 k (Nat.le_refl _)
    refine (show Bits _ (322 * k) from ?_).mono (by omega)
    refine Nat.le_trans ?_ h1
    exact Int.natAbs_ediv_le_natAbs _ _
def sp_tables (K : PySem.W.Frag) : Sp := fun vs H Q _ => ∃ (p r w k : Nat), vs = [.int (p : Nat), .int (r : Nat), .int (w : Nat), .int (k : Nat)] ∧ 2 ≤ p ∧ p ≤ 1000000 ∧ r ≤ 8 ∧ w ≤ 8 ∧ k ≤ 1000 ∧ ∀ H', Ex H H' → Q (.int (tabZ p r w k)) H'
theorem ok_tables_of_rank {f : Addr} {fd : FuncData} (F : C8.Def K mg "tables_of_rank" s_tables_of_rank f fd) (b : Binds K fd ["p", "rows", "wide", "rank"] []) (T : Txt mg)
    (c_power : C8.Cal P w K mg base 1 "power" (sp_power K) []) : C8.Cal P w K mg base 2 "tables_of_rank" (sp_tables K) [] := by
  refine C8.cal0 F b .nil sc_tables_of_rank (fun vs H Q E h => ?_) (fun cdv A outer s H vs Q E hr h => ?_)
  · obtain ⟨p, r, w, k, rfl, _⟩ := h
    rfl
  · obtain ⟨p, r, wd, k, rfl, hp2, hp, hrr, hw, hk, q⟩ := h
    refine ⟨_, (pss_cons (ps_if (pt_cmpR op_gt (pv 3) (pe_callB (call_min2 rfl) (by rfl) T.b_min (by decide +kernel) (pa_cons (pv 1) (pa_cons (pv 2) pa_nil))) (nomark _)) (pss_one (ps_ret pe_int)) pss_nil)
      (pss_cons (ps_asg (pe_tup (pa_cons pe_int (pa_cons pe_int pa_nil))) (TH.kpg_tup (K := K) (n := 2) rfl (pgs_cons (pg_name (i := 5) sc_tables_of_rank.nd rfl (Or.inl rfl) (Or.inr rfl)) (pgs_cons (pg_name (i := 6) sc_tables_of_rank.nd rfl (Or.inl rfl) (Or.inr rfl)) pgs_nil))))
      (pss_cons (ps_for PassesOwn.never rfl (pi_range1 (by rfl) T.b_range (pa_cons (pv 3) pa_nil)) (pg_name (i := 4) sc_tables_of_rank.nd rfl (Or.inl rfl) (Or.inr rfl)) (pss_cons (ps_aug (i := 5) sc_tables_of_rank.nd rfl (Or.inl rfl) (pe_op op_mulW (pe_op op_sub (C8.pe_c c_power hr (by first | decide | exact Nat.le_refl _) (by rfl) (pa_cons (pv 0) (pa_cons (pv 1) pa_nil))) (C8.pe_c c_power hr (by first | decide | exact Nat.le_refl _) (by rfl) (pa_cons (pv 0) (pa_cons (pv 4) pa_nil)))) (pe_op op_sub (C8.pe_c c_power hr (by first | decide | exact Nat.le_refl _) (by rfl) (pa_cons (pv 0) (pa_cons (pv 2) pa_nil))) (C8.pe_c c_power hr (by first | decide | exact Nat.le_refl _) (by rfl) (pa_cons (pv 0) (pa_cons (pv 4) pa_nil))))) TH.iop_mulW)
      (pss_one (ps_aug (i := 6) sc_tables_of_rank.nd rfl (Or.inl rfl) (pe_op op_sub (C8.pe_c c_power hr (by first | decide | exact Nat.le_refl _) (by rfl) (pa_cons (pv 0) (pa_cons (pv 3) pa_nil))) (C8.pe_c c_power hr (by first | decide | exact Nat.le_refl _) (by rfl) (pa_cons (pv 0) (pa_cons (pv 4) pa_nil)))) TH.iop_mulW))))
      (pss_one (ps_ret (pe_op op_fdivW (pv 5) (pv 6))))))), ?_⟩
    refine w_start (σ' := [some (.int p), some (.int r), some (.int wd), some (.int k), none, none, none]) rfl ?_
    walk_at "rd"
    refine ⟨_, _, rfl, ?_⟩
    walk_at "rd"
    have em : (if (wd : Int) < r then (wd : Int) else r) = ((min r wd : Nat) : Int) := by split <;> omega
    rw [em]
    refine w_dec (fun h => ?_) (fun h => ?_)
    · walk_at "rd"
      have e : tabZ p r wd k = 0 := by
        unfold tabZ
        rw [if_pos (by omega)]
      rw [e] at q
      exact q _ (Ex.refl _)
    · have hk8 : k ≤ 8 := by omega
      walk_at "rd"
      refine w_dispT (by simp) fun tp htp => ?_
      refine w_gtup2 upd_same ?_
      have e0 : Ex H (upd H tp (.tup [V.int 1, V.int 1])) := Ex.new htp
      generalize upd H tp (.tup [V.int 1, V.int 1]) = H0 at e0 ⊢
      walk_at "rd"
      refine w_isrng (by omega) (by omega) ?_
      refine for_go walk_rng (fun i σ H' => H' = H0 ∧ ∃ y, σ = [some (.int p), some (.int r), some (.int wd), some (.int k), y, some (.int (aboveZ p r wd i)), some (.int (belowZ p k i))]) ⟨rfl, _, rfl⟩ (fun _ _ _ _ _ => trivial) (fun i x σ H' H'' hi pp y => ?_) (fun σ H' pp => ?_)
      · obtain ⟨rfl, y3, rfl⟩ := pp
        obtain ⟨rfl, rfl⟩ := y
        rw [Int.toNat_natCast] at hi
        have a := above_bits (p := p) (r := r) (w := wd) hp hrr hw i (by omega)
        have c := below_bits (p := p) (n := k) hp hk8 i (by omega)
        have b1 := ((Bits.pow hp r).mono (show 20 * r ≤ 160 by omega)).sub ((Bits.pow hp i).mono (show 20 * i ≤ 160 by omega))
        have b2 := ((Bits.pow hp wd).mono (show 20 * wd ≤ 160 by omega)).sub ((Bits.pow hp i).mono (show 20 * i ≤ 160 by omega))
        have b3 := ((Bits.pow hp k).mono (show 20 * k ≤ 160 by omega)).sub ((Bits.pow hp i).mono (show 20 * i ≤ 160 by omega))
        walk_at "rd"
        refine ⟨p, r, rfl, hp, by omega, ?_⟩
        walk_at "rd"
        refine ⟨p, i, rfl, hp, by omega, ?_⟩
        walk_at "rd"
        refine ⟨p, wd, rfl, hp, by omega, ?_⟩
        walk_at "rd"
        refine ⟨p, i, rfl, hp, by omega, ?_⟩
        walk_at "rd"
        refine w_I (b1.mulW b2 (by omega)) ?_
        refine w_I (a.mulW (b1.mul b2) (by omega)) ?_
        walk_at "rd"
        refine ⟨p, k, rfl, hp, by omega, ?_⟩
        walk_at "rd"
        refine ⟨p, i, rfl, hp, by omega, ?_⟩
        walk_at "rd"
        refine w_I (c.mulW b3 (by omega)) ?_
        walk_at "rd"
        exact ⟨rfl, _, rfl⟩
      · obtain ⟨rfl, y3, rfl⟩ := pp
        rw [Int.toNat_natCast]
        walk_at "rd"
        refine w_I ((below_bits hp hk8 k hk8).divW (by omega) (below_pos hp2 k (Nat.le_refl _))) ?_
        have e : tabZ p r wd k = aboveZ p r wd k / belowZ p k k := by
          unfold tabZ
          rw [if_neg (by omega)]
        rw [e] at q
        exact q _ e0
end TK

namespace TK
open PySem PySem.Spec PyProof.Rows L2 TH
local macro_rules | `(tactic| walk_at "rd1") => `(tactic| first
  | (with_reducible refine TH.w_seq ?_)
  | (with_reducible refine TH.w_asg ?_)
  | (with_reducible refine TH.w_ret ?_)
  | (with_reducible refine TH.w_drop ?_)
  | (with_reducible refine TH.w_ifS ?_)
  | (with_reducible refine TH.w_next ?_)
  | ((with_reducible refine TH.w_var (v := ?vv) ?hv ?_); (case hv => rfl))
  | (with_reducible refine TH.w_c ?_)
  | ((with_reducible refine TH.w_gname (σ' := ?ss) ?hs ?_); (case hs => (dsimp only [List.set]; rfl)))
  | (with_reducible refine TH.w_op ?_)
  | (with_reducible refine TH.w_un ?_)
  | (with_reducible refine TH.w_chain ?_)
  | (with_reducible refine TH.w_I0 ?_)
  | ((with_reducible refine TH.w_I ?hm ?_); (case hm => first | (exact TH.CMul.l (by omega) (by omega)) | (exact TH.CMul.r (by omega) (by omega)) | (exact TH.CDiv.mk (by omega) (by omega)) | (show (0 : Int) < _; omega) | (exact TH.CPow.mk (by omega) (by omega) (by decide))))
  | (with_reducible refine TH.w_U ?_)
  | (with_reducible refine TH.w_eqI ?_)
  | (with_reducible refine TH.w_neI ?_)
  | (with_reducible refine TH.w_eqB ?_)
  | (with_reducible refine TH.w_isN ?_)
  | (with_reducible refine TH.w_nil ?_)
  | (with_reducible refine TH.w_cons ?_)
  | (with_reducible refine TH.w_test ?_)
  | (with_reducible refine TH.w_B ?_)
  | (with_reducible refine TH.w_bl ?_)
  | (with_reducible refine TH.w_and ?_)
  | (with_reducible refine TH.w_or ?_)
  | (with_reducible refine TH.w_not ?_)
  | (with_reducible refine TH.w_andV ?_)
  | (with_reducible refine TH.w_orV ?_)
  | (with_reducible refine TH.w_notV ?_)
  | (with_reducible refine TH.w_if ?_)
  | (with_reducible refine TH.w_parT ?_)
  | (with_reducible refine TH.w_par ?_)
  | (with_reducible refine TH.w_parT3 ?_)
  | (with_reducible refine TH.w_par3 ?_)
  | (with_reducible refine TH.w_cb ?_)
  | (with_reducible refine TH.w_call ?_)
  | ((with_reducible refine TH.w_aug (v := ?vv) ?hv ?_); (case hv => rfl))
  | (with_reducible refine TH.w_ip ?_)
  | (with_reducible refine TH.w_bm ?_)
  | (with_reducible refine TH.w_sl ?_)
  | (with_reducible refine TH.w_np ?_)
  | (with_reducible refine TH.w_pt ?_)
  | (with_reducible refine TH.w_pti ?_)
  | (with_reducible refine TH.w_gsub ?_)
  | (with_reducible refine TH.w_int ?_)
  | (with_reducible refine TH.w_tupT ?_)
  | (with_reducible refine TH.w_lstT ?_)
  | ((with_reducible show L2.rIxL _ _ _ _ _); (first | (refine TH.w_ixL (TH.sqL upd_same) rfl ?_) | (refine TH.w_ixL (TH.sqL (by assumption)) rfl ?_)))
  | ((with_reducible show L2.rSetL _ _ _ _ _); (first | (refine TH.w_set1 upd_same ?_) | (refine TH.w_set2 upd_same ?_) | (refine TH.w_set3 upd_same ?_) | (refine TH.w_set4 upd_same ?_) | (refine TH.w_set1 (by assumption) ?_) | (refine TH.w_set2 (by assumption) ?_) | (refine TH.w_set3 (by assumption) ?_) | (refine TH.w_set4 (by assumption) ?_)))
  | (with_reducible refine TH.w_lc ?_)
  | (with_reducible refine TH.w_dc ?_)
  | (with_reducible refine TH.w_itup ?_)
  | (with_reducible refine TH.w_ilist ?_)
  | (with_reducible refine TH.w_ienum ?_)
  | (with_reducible refine TH.w_izip ?_)
  | (with_reducible refine TH.w_irng1 ?_)
  | (with_reducible refine TH.w_irng2 ?_)
  | (with_reducible refine TH.w_for ?_)
  | (with_reducible refine TH.w_gcons ?_)
  | (with_reducible refine TH.w_gnil ?_)
  | (with_reducible refine TH.w_yes ?_)
  | (with_reducible refine TH.w_gtup2 upd_same ?_)
  | (with_reducible refine TH.w_gtup3 upd_same ?_)
  | (with_reducible refine TH.w_dput ?_)
  | (with_reducible refine TH.w_bm0 ?_)
  | (with_reducible refine TH.w_din ?_)
  | (with_reducible refine TH.w_dnotin ?_)
  | (with_reducible refine TH.w_dispK ?_)
  | (with_reducible refine TH.w_lock ?_)
  | (with_reducible refine TH.w_ikeys ?_)
  | (with_reducible refine TH.w_iitems ?_)
  | (with_reducible refine TH.w_dispT1 ?_)
  | (with_reducible refine TH.w_dnewT ?_)
  | (with_reducible refine TH.w_dnewK ?_)
  | (with_reducible refine TH.w_fld ?_)
  | (with_reducible refine TH.w_sfld ?_)
  | (with_reducible refine TH.w_meth ?_)
  | (with_reducible refine TH.w_make ?_)
  | (with_reducible refine TH.w_dget2 ?_)
  | (with_reducible refine TH.w_revL ?_)
  | (with_reducible refine TH.w_revT ?_)
  | (with_reducible refine TH.w_lstRg ?_)
  | (with_reducible refine TH.w_tupRg ?_)
  | (with_reducible refine TH.w_rg1 ?_)
  | (with_reducible refine TH.w_rg2 ?_)
  | (with_reducible refine TH.w_T ?_)
  | (with_reducible refine TH.w_F ?_))
local macro_rules | `(tactic| walk_at "rd") => `(tactic| repeat (first | walk_at "rd1" | (dsimp only [List.set, L2.wipe, List.map, TH.isInt, TH.isBool, TH.isTup, TH.isLst, TH.bo_f, TH.bo_t, TH.ba_f, TH.ba_t, TH.bn_t, TH.bn_f, List.append_nil, List.cons_append, List.nil_append])))

variable {P : Program} {w : World} {K : PySem.W.Frag} {mg : Str → Option Value} {base : Heap}
/-! tolls_in_all(p, holds, wants, there, back) -/
theorem sortP_one (a : Nat × Nat) : sortP [a] = [a] := by simp [sortP]
theorem two_ok : TreeOk 2 [(0, 1)] := by
  have h := treeOk_made (n := 2) (nm := [0, 1]) (.refl _) (ps := [(0, 1)]) rfl (fun j a h => by
    match j, h with
    | 0, h => exact ⟨0, Nat.le_refl _, (Option.some.inj h).symm⟩
    | j + 1, h => simp at h) (by decide)
  rw [sortP_one] at h
  exact h
theorem ex_made {H H1 : Hp} {x dx C : Addr} (hx : H x = none) (hdx : H dx = none) (h : ∀ a, a ≠ x → ∀ o, upd (upd H dx (.own x)) x (.ins C dx []) a = some o → H1 a = some o) : Ex H H1 := fun a o ha => h a (fun z => by rw [z, hx] at ha; cases ha) o (by
  rw [upd_ne (ne_of_none ha hx), upd_ne (ne_of_none ha hdx)]
  exact ha)
theorem ex_two {H : Hp} {x dx C : Addr} (hx : H x = none) (hdx : H dx = none) : Ex H (upd (upd H dx (.own x)) x (.ins C dx [])) := ex_made hx hdx fun a ha o ho => ho
theorem clockB_two {p : Int} (h : clockB (.int p) = true) : 2 ≤ p ∧ p ≤ 1000000 := by
  have h' : (decide (2 ≤ p) && decide (p ≤ 1000000) && primeB p) = true := h
  rw [Bool.and_eq_true, Bool.and_eq_true] at h'
  exact ⟨of_decide_eq_true h'.1.1, of_decide_eq_true h'.1.2⟩
def tollsZ (p h0 h1 w0 w1 t b : Nat) : Int := tabZ p w1 h0 t * tabZ p w0 h1 b * (p : Int) ^ (h0 * w0 + h1 * w1)
theorem cnt2 {a b : Nat} (ha : a ≤ 8) (hb : b ≤ 8) : CntOk 2 [a, b] := ⟨rfl, fun x hx => by
  simp only [List.mem_cons, List.not_mem_nil, or_false] at hx
  omega, by simp; omega⟩
theorem prod8 {a b : Nat} (ha : a ≤ 8) (hb : b ≤ 8) : a * b ≤ 64 := Nat.mul_le_mul ha hb
def sp_tolls_in_all (K : PySem.W.Frag) : Sp := fun vs H Q _ => ∃ (p : Nat) (hv wv : V) (h0 h1 w0 w1 t b : Nat), vs = [.int (p : Nat), hv, wv, .int (t : Nat), .int (b : Nat)] ∧ clockB (.int (p : Nat)) = true ∧ Dp K H hv (row (nz [h0, h1])) ∧ Dp K H wv (row (nz [w0, w1])) ∧ h0 ≤ 8 ∧ h1 ≤ 8 ∧ w0 ≤ 8 ∧ w1 ≤ 8 ∧ t ≤ 60 ∧ b ≤ 60 ∧
  ∀ H', Ex H H' → Q (.int (tollsZ p h0 h1 w0 w1 t b)) H'
theorem ok_tolls_in_all {C f : Addr} {fd : FuncData} (F : C8.Def K mg "tolls_in_all" s_tolls_in_all f fd) (b : Binds K fd ["p", "holds", "wants", "there", "back"] []) (T : Txt mg)
    (c_check_clock : C8.Cal P w K mg base 4 "check_clock" (sp_check_clock K) []) (c_Tree : C8.Mak P w K mg base 4 "Tree" C (sp_tree_init K C) []) (c_check_counts : C8.Cal P w K mg base 4 "check_counts" (sp_check_counts K C) [])
    (c_check_number : C8.Cal P w K mg base 3 "check_number" (sp_check_number K) []) (c_tables_of_rank : C8.Cal P w K mg base 2 "tables_of_rank" (sp_tables K) []) (c_power : C8.Cal P w K mg base 1 "power" (sp_power K) []) : C8.Cal P w K mg base 6 "tolls_in_all" (sp_tolls_in_all K) [] := by
  refine C8.cal0 F b .nil sc_tolls_in_all (fun vs H Q E h => ?_) (fun cdv A outer s H vs Q E hr h => ?_)
  · obtain ⟨p, hv, wv, h0, h1, w0, w1, t, b, rfl, _⟩ := h
    rfl
  · obtain ⟨p, hv, wv, h0, h1, w0, w1, t, bk, rfl, hclk, hhv, hwv, i0, i1, j0, j1, ht, hb, q⟩ := h
    obtain ⟨p2, pm⟩ := clockB_two hclk
    refine ⟨_, (pss_cons (ps_expr (C8.pe_c c_check_clock hr (by first | decide | exact Nat.le_refl _) (by rfl) (pa_cons (pv 0) pa_nil)))
      (pss_cons (ps_set (i := 5) sc_tolls_in_all.nd rfl (Or.inl rfl) (C8.pe_mk c_Tree hr (by first | decide | exact Nat.le_refl _) (by rfl) (pa_cons (pe_tup (pa_cons (pe_tup (pa_cons pe_int (pa_cons pe_int pa_nil))) pa_nil)) pa_nil)))
      (pss_cons (ps_expr (C8.pe_c c_check_counts hr (by first | decide | exact Nat.le_refl _) (by rfl) (pa_cons (pv 5) (pa_cons (pv 1) pa_nil))))
      (pss_cons (ps_expr (C8.pe_c c_check_counts hr (by first | decide | exact Nat.le_refl _) (by rfl) (pa_cons (pv 5) (pa_cons (pv 2) pa_nil))))
      (pss_cons (ps_expr (C8.pe_c c_check_number hr (by first | decide | exact Nat.le_refl _) (by rfl) (pa_cons (pv 3) (pa_cons pe_int (pa_cons (C8.pe_gc (by rfl) T.g_MOST_TOLL) pa_nil)))))
      (pss_cons (ps_expr (C8.pe_c c_check_number hr (by first | decide | exact Nat.le_refl _) (by rfl) (pa_cons (pv 4) (pa_cons pe_int (pa_cons (C8.pe_gc (by rfl) T.g_MOST_TOLL) pa_nil)))))
      (pss_cons (ps_set (i := 6) sc_tolls_in_all.nd rfl (Or.inl rfl) (pe_op op_mulW (C8.pe_c c_tables_of_rank hr (by first | decide | exact Nat.le_refl _) (by rfl) (pa_cons (pv 0) (pa_cons (pe_ix (TH.kix_tup (K := K)) (pv 2) pe_int (fun _ _ => rfl)) (pa_cons (pe_ix (TH.kix_tup (K := K)) (pv 1) pe_int (fun _ _ => rfl)) (pa_cons (pv 3) pa_nil))))) (C8.pe_c c_tables_of_rank hr (by first | decide | exact Nat.le_refl _) (by rfl) (pa_cons (pv 0) (pa_cons (pe_ix (TH.kix_tup (K := K)) (pv 2) pe_int (fun _ _ => rfl)) (pa_cons (pe_ix (TH.kix_tup (K := K)) (pv 1) pe_int (fun _ _ => rfl)) (pa_cons (pv 4) pa_nil)))))))
      (pss_one (ps_ret (pe_op op_mulW (pv 6) (C8.pe_c c_power hr (by first | decide | exact Nat.le_refl _) (by rfl) (pa_cons (pv 0) (pa_cons (pe_op op_add (pe_op op_mul (pe_ix (TH.kix_tup (K := K)) (pv 1) pe_int (fun _ _ => rfl)) (pe_ix (TH.kix_tup (K := K)) (pv 2) pe_int (fun _ _ => rfl))) (pe_op op_mul (pe_ix (TH.kix_tup (K := K)) (pv 1) pe_int (fun _ _ => rfl)) (pe_ix (TH.kix_tup (K := K)) (pv 2) pe_int (fun _ _ => rfl)))) pa_nil))))))))))))), ?_⟩
    refine w_start (σ' := [some (.int p), some hv, some wv, some (.int t), some (.int bk), none, none]) rfl ?_
    walk_at "rd"
    refine ⟨_, _, rfl, .int _, hclk, ?_⟩
    walk_at "rd"
    refine w_dispT (by simp) fun ta hta => ?_
    walk_at "rd"
    refine w_dispT (by simp) fun tb htb => ?_
    have e0 : Ex H (upd (upd H ta (.tup [V.int 0, V.int 1])) tb (.tup [.ref ta])) := (Ex.new hta).trans (Ex.new htb)
    have u0 : Dp K (upd (upd H ta (.tup [V.int 0, V.int 1])) tb (.tup [.ref ta])) (.ref tb) (tiesT [(0, 1)]) := .tup (sqT upd_same) (.cons (dp_tie_of (a := (0, 1)) (sqT ((Ex.new htb) _ _ upd_same))) .nil)
    generalize upd (upd H ta (.tup [V.int 0, V.int 1])) tb (.tup [.ref ta]) = H0 at e0 u0 ⊢
    walk_at "rd"
    intro x dx hx hdx hne
    refine ⟨x, dx, .ref tb, 2, [(0, 1)], rfl, upd_same, (ex_two hx hdx).dp u0, two_ok, fun H1 h1' h2 h3 => ⟨rfl, ?_⟩⟩
    have e1 := e0.trans (ex_made hx hdx h1')
    have htr : TreeAt K C H1 (.ref x) 2 [(0, 1)] := ⟨x, dx, .ref tb, rfl, h2, h3⟩
    walk_at "rd"
    refine ⟨.ref x, hv, 2, [(0, 1)], [h0, h1], rfl, htr, by omega, e1.dp hhv, cnt2 i0 i1, fun H2 e2 => ?_⟩
    walk_at "rd"
    refine ⟨.ref x, wv, 2, [(0, 1)], [w0, w1], rfl, htr.ex e2, by omega, (e1.trans e2).dp hwv, cnt2 j0 j1, fun H3 e3 => ?_⟩
    walk_at "rd"
    refine ⟨_, _, _, _, rfl, .int _, by rw [inR_int, decide_eq_true (by omega), decide_eq_true (by omega)] <;> rfl, ?_⟩
    walk_at "rd"
    refine ⟨_, _, _, _, rfl, .int _, by rw [inR_int, decide_eq_true (by omega), decide_eq_true (by omega)] <;> rfl, ?_⟩
    have e13 := e1.trans (e2.trans e3)
    obtain ⟨ha, rfl, hha⟩ := dp_row hhv
    obtain ⟨wa, rfl, hwa⟩ := dp_row hwv
    walk_at "rd"
    refine w_ixT (e13.t hwa) (atI_at (j := 1) rfl) ?_
    walk_at "rd"
    refine w_ixT (e13.t hha) (atI_at (j := 0) rfl) ?_
    walk_at "rd"
    refine ⟨p, w1, h0, t, rfl, by omega, by omega, j1, i0, by omega, fun H4 e4 => ?_⟩
    walk_at "rd"
    refine w_ixT ((e13.trans e4).t hwa) (atI_at (j := 0) rfl) ?_
    walk_at "rd"
    refine w_ixT ((e13.trans e4).t hha) (atI_at (j := 1) rfl) ?_
    walk_at "rd"
    refine ⟨p, w0, h1, bk, rfl, by omega, by omega, j0, i1, by omega, fun H5 e5 => ?_⟩
    have e15 := e13.trans (e4.trans e5)
    have t1 := tab_bits (p := p) (r := w1) (w := h0) (k := t) (by omega) (by omega) j1 i0
    have t2 := tab_bits (p := p) (r := w0) (w := h1) (k := bk) (by omega) (by omega) j0 i1
    walk_at "rd"
    refine w_I (t1.mulW t2 (by omega)) ?_
    walk_at "rd"
    refine w_ixT (e15.t hha) (atI_at (j := 0) rfl) ?_
    walk_at "rd"
    refine w_ixT (e15.t hwa) (atI_at (j := 0) rfl) ?_
    walk_at "rd"
    refine w_ixT (e15.t hha) (atI_at (j := 1) rfl) ?_
    walk_at "rd"
    refine w_ixT (e15.t hwa) (atI_at (j := 1) rfl) ?_
    walk_at "rd"
    have n1 := prod8 i0 j0
    have n2 := prod8 i1 j1
    have en : ((h0 : Int) * (w0 : Int) + (h1 : Int) * (w1 : Int)) = ((h0 * w0 + h1 * w1 : Nat) : Int) := by push_cast; rfl
    rw [en]
    refine ⟨p, h0 * w0 + h1 * w1, rfl, by omega, by omega, ?_⟩
    have t3 := Bits.pow (p := p) (by omega) (h0 * w0 + h1 * w1)
    refine w_I ((t1.mul t2).mulW t3 (by omega)) ?_
    exact q _ e15
/-! sheets_in_all(p, tree, holds, wants) -/
def sp_sheets_in_all (K : PySem.W.Frag) (C : Addr) : Sp := fun vs H Q _ => ∃ (p : Nat) (tv hv wv : V) (posts : Nat) (ts : List (Nat × Nat)) (hs ws : List Nat), vs = [.int (p : Nat), tv, hv, wv] ∧ clockB (.int (p : Nat)) = true ∧ TreeAt K C H tv posts ts ∧ posts ≤ 100 ∧ Dp K H hv (row (nz hs)) ∧ Dp K H wv (row (nz ws)) ∧ CntOk posts hs ∧ CntOk posts ws ∧
  ∀ H', Ex H H' → Q (.int ((p : Int) ^ (hs.sum * ws.sum))) H'
theorem ok_sheets_in_all {C f : Addr} {fd : FuncData} (F : C8.Def K mg "sheets_in_all" s_sheets_in_all f fd) (b : Binds K fd ["p", "tree", "holds", "wants"] []) (T : Txt mg)
    (c_check_clock : C8.Cal P w K mg base 4 "check_clock" (sp_check_clock K) []) (c_check_counts : C8.Cal P w K mg base 4 "check_counts" (sp_check_counts K C) []) (c_power : C8.Cal P w K mg base 1 "power" (sp_power K) []) : C8.Cal P w K mg base 5 "sheets_in_all" (sp_sheets_in_all K C) [] := by
  refine C8.cal0 F b .nil sc_sheets_in_all (fun vs H Q E h => ?_) (fun cdv A outer s H vs Q E hr h => ?_)
  · obtain ⟨p, tv, hv, wv, posts, ts, hs, ws, rfl, _⟩ := h
    rfl
  · obtain ⟨p, tv, hv, wv, posts, ts, hs, ws, rfl, hclk, htr, hp, hhv, hwv, c1, c2, q⟩ := h
    obtain ⟨p2, pm⟩ := clockB_two hclk
    have s1 := c1.h60
    have s2 := c2.h60
    refine ⟨_, (pss_cons (ps_expr (C8.pe_c c_check_clock hr (by first | decide | exact Nat.le_refl _) (by rfl) (pa_cons (pv 0) pa_nil)))
      (pss_cons (ps_expr (C8.pe_c c_check_counts hr (by first | decide | exact Nat.le_refl _) (by rfl) (pa_cons (pv 1) (pa_cons (pv 2) pa_nil))))
      (pss_cons (ps_expr (C8.pe_c c_check_counts hr (by first | decide | exact Nat.le_refl _) (by rfl) (pa_cons (pv 1) (pa_cons (pv 3) pa_nil))))
      (pss_one (ps_ret (C8.pe_c c_power hr (by first | decide | exact Nat.le_refl _) (by rfl) (pa_cons (pv 0) (pa_cons (pe_op op_mul (pe_callB (TH.kcr_sumT (K := K) rfl) (by rfl) T.b_sum (by decide +kernel) (pa_cons (pv 2) pa_nil)) (pe_callB (TH.kcr_sumT (K := K) rfl) (by rfl) T.b_sum (by decide +kernel) (pa_cons (pv 3) pa_nil))) pa_nil)))))))), ?_⟩
    refine w_start (σ' := [some (.int p), some tv, some hv, some wv]) rfl ?_
    walk_at "rd"
    refine ⟨_, _, rfl, .int _, hclk, ?_⟩
    walk_at "rd"
    refine ⟨tv, hv, posts, ts, hs, rfl, htr, hp, hhv, c1, fun H1 e1 => ?_⟩
    walk_at "rd"
    refine ⟨tv, wv, posts, ts, ws, rfl, htr.ex e1, hp, e1.dp hwv, c2, fun H2 e2 => ?_⟩
    have e12 := e1.trans e2
    obtain ⟨ha, rfl, hha⟩ := dp_row hhv
    obtain ⟨wa, rfl, hwa⟩ := dp_row hwv
    walk_at "rd"
    refine w_sumT (e12.t hha) ?_
    walk_at "rd"
    refine w_sumT (e12.t hwa) ?_
    rw [nz_sum, nz_sum]
    walk_at "rd"
    have en : ((hs.sum : Nat) : Int) * ((ws.sum : Nat) : Int) = ((hs.sum * ws.sum : Nat) : Int) := by push_cast; rfl
    rw [en]
    have : hs.sum * ws.sum ≤ 60 * 60 := Nat.mul_le_mul s1 s2
    exact ⟨p, hs.sum * ws.sum, rfl, by omega, by omega, q _ e12⟩
/-! _law_bag(script), _law_pick(bag, many) -/
def BagW (g : Addr) (xs : List V) : Prop := ∃ (sd tn : Int) (al : V), xs = [.int sd, .int tn, .ref g, al] ∧ 0 ≤ sd ∧ sd ≤ 2147483647 ∧ 0 ≤ tn ∧ (al = .non ∨ ∃ n : Int, al = .int n)
def GreatW (xs : List V) : Prop := ∃ ns : List Int, xs = ns.map V.int ∧ ns.length ≤ 1000000
def BagAt (H : Hp) (v : V) : Prop := ∃ b g : Addr, v = .ref b ∧ H b = some (LstP b (BagW g)) ∧ H g = some (LstP g GreatW) ∧ b ≠ g
theorem BagAt.ex {H H' : Hp} {v : V} (x : BagAt H v) (e : Ex H H') : BagAt H' v := by
  obtain ⟨b, g, rfl, h1, h2, h3⟩ := x
  exact ⟨b, g, rfl, e _ _ h1, e _ _ h2, h3⟩
def sp_pick1 (K : PySem.W.Frag) : Sp := fun vs H Q _ => ∃ (b g : Addr) (xs ys : List V) (many : Int), vs = [.ref b, .int many] ∧ b ≠ g ∧ H b = some (.lst xs) ∧ BagW g xs ∧ H g = some (.lst ys) ∧ GreatW ys ∧ 0 < many ∧ many ≤ 1000000000 ∧
  ∀ (r : Int) (xs' ys' : List V), 0 ≤ r → r < many → BagW g xs' → GreatW ys' → Q (.int r) (upd (upd H b (.lst xs')) g (.lst ys'))
theorem upd_id {H : Hp} {a : Addr} {o : HO} (h : H a = some o) : upd H a o = H := by
  funext c
  by_cases e : c = a
  · rw [e, upd_same, h]
  · rw [upd_ne e]
theorem ok_pick1 {f : Addr} {fd : FuncData} (F : C8.Def K mg "_law_pick" s_law_pick f fd) (b : Binds K fd ["bag", "many"] []) (T : Txt mg) : C8.Cal P w K mg base 1 "_law_pick" (sp_pick1 K) [] := by
  refine C8.cal0 F b .nil sc_law_pick (fun vs H Q E h => ?_) (fun cdv A outer s H vs Q E hr h => ?_)
  · obtain ⟨b, g, xs, ys, many, rfl, _⟩ := h
    rfl
  · obtain ⟨b, g, xs, ys, many, rfl, hbg, hb, ⟨sd, tn, al, rfl, s0, s1, t0, hal⟩, hg, ⟨ns, rfl, hnl⟩, m0, m1, q⟩ := h
    refine ⟨_, (pss_cons (ps_if (pt_cmpR op_notN (pe_ix (TH.kix_list (K := K)) (pv 0) pe_int (fun _ _ => rfl)) pe_non (nomark _)) (pss_one (ps_ret (pe_op op_mod (pe_callTy call_int1 (by rfl) T.b_int (by decide +kernel) (pa_cons (pe_ix (TH.kix_list (K := K)) (pv 0) pe_int (fun _ _ => rfl)) pa_nil)) (pv 1)))) pss_nil)
      (pss_cons (ps_asg (pe_op op_add (pe_ix (TH.kix_list (K := K)) (pv 0) pe_int (fun _ _ => rfl)) pe_int) (pg_sub (pv 0) pe_int set_list))
      (pss_cons (ps_set (i := 2) sc_law_pick.nd rfl (Or.inl rfl) (pe_ix (TH.kix_list (K := K)) (pv 0) pe_int (fun _ _ => rfl)))
      (pss_cons (ps_if (pt_cmpR op_gt (pe_callB (TH.kcall_len (K := K)) (by rfl) T.b_len (by decide +kernel) (pa_cons (pv 2) pa_nil)) pe_int (nomark _)) (pss_cons (ps_set (i := 4) sc_law_pick.nd rfl (Or.inl rfl) (pe_op op_mod (pe_callTy call_int1 (by rfl) T.b_int (by decide +kernel) (pa_cons (pe_ix (TH.kix_list (K := K)) (pv 2) pe_int (fun _ _ => rfl)) pa_nil)) (pv 1)))
      (pss_cons (ps_asg (pe_op op_fdiv (pe_callTy call_int1 (by rfl) T.b_int (by decide +kernel) (pa_cons (pe_ix (TH.kix_list (K := K)) (pv 2) pe_int (fun _ _ => rfl)) pa_nil)) (pv 1)) (pg_sub (pv 2) pe_int set_list))
      (pss_cons (ps_if (pt_cmpR op_eq (pe_ix (TH.kix_list (K := K)) (pv 2) pe_int (fun _ _ => rfl)) pe_int (nomark _)) (pss_one (ps_expr (TH.kpe_bm (K := K) PySem.F.plainAttrs_list PySem.F.slot_list_pop PySem.F.type_list_pop mt_popAt (pv 2) (pa_cons pe_int pa_nil)))) pss_nil)
      (pss_one (ps_ret (pv 4)))))) pss_nil)
      (pss_cons (ps_set (i := 3) sc_law_pick.nd rfl (Or.inl rfl) (pe_op op_mod (pe_callTy call_int1 (by rfl) T.b_int (by decide +kernel) (pa_cons (pe_op op_mul (pe_op op_add (pe_ix (TH.kix_list (K := K)) (pv 0) pe_int (fun _ _ => rfl)) (pe_op op_mul pe_int (pe_ix (TH.kix_list (K := K)) (pv 0) pe_int (fun _ _ => rfl)))) pe_int) pa_nil)) pe_int))
      (pss_cons (ps_set (i := 3) sc_law_pick.nd rfl (Or.inl rfl) (pe_op op_mod (pe_callTy call_int1 (by rfl) T.b_int (by decide +kernel) (pa_cons (pe_op op_mul (pv 3) (pe_op op_add (pe_op op_fdiv (pv 3) pe_int) pe_int)) pa_nil)) pe_int))
      (pss_cons (ps_set (i := 3) sc_law_pick.nd rfl (Or.inl rfl) (pe_op op_mod (pe_callTy call_int1 (by rfl) T.b_int (by decide +kernel) (pa_cons (pe_op op_mul (pv 3) (pe_op op_add (pe_op op_fdiv (pv 3) pe_int) pe_int)) pa_nil)) pe_int))
      (pss_one (ps_ret (pe_op op_mod (pe_callTy call_int1 (by rfl) T.b_int (by decide +kernel) (pa_cons (pe_op op_fdiv (pv 3) pe_int) pa_nil)) (pv 1))))))))))), ?_⟩
    refine w_start (σ' := [some (.ref b), some (.int many), none, none, none]) rfl ?_
    walk_at "rd"
    have fin : ∀ n : Int, Q (.int (n % many)) H := fun n => by
      have := q (n % many) _ _ (Int.emod_nonneg _ (by omega)) (Int.emod_lt_of_pos _ m0) ⟨sd, tn, al, rfl, s0, s1, t0, hal⟩ ⟨ns, rfl, hnl⟩
      rw [upd_id hb, upd_id hg] at this
      exact this
    rcases hal with rfl | ⟨n, rfl⟩
    · rw [decide_eq_true (show V.non = V.non from rfl)]
      walk_at "rd"
      refine w_setN (j := 1) hb (by simp) ?_
      have hb1 : upd H b (.lst ([V.int sd, V.int tn, V.ref g, V.non].set 1 (.int (tn + 1)))) b = some (.lst [V.int sd, V.int (tn + 1), V.ref g, V.non]) := upd_same
      have hg1 : upd H b (.lst ([V.int sd, V.int tn, V.ref g, V.non].set 1 (.int (tn + 1)))) g = some (.lst (ns.map V.int)) := by rw [upd_ne (Ne.symm hbg)]; exact hg
      have q1 : ∀ (r : Int) (ys' : List V), 0 ≤ r → r < many → GreatW ys' → Q (.int r) (upd (upd H b (.lst ([V.int sd, V.int tn, V.ref g, V.non].set 1 (.int (tn + 1))))) g (.lst ys')) := fun r ys' r0 r1 hy => q r [V.int sd, V.int (tn + 1), V.ref g, V.non] ys' r0 r1 ⟨sd, tn + 1, .non, rfl, s0, s1, by omega, .inl rfl⟩ hy
      generalize upd H b (.lst ([V.int sd, V.int tn, V.ref g, V.non].set 1 (.int (tn + 1)))) = H1 at hb1 hg1 q1 ⊢
      walk_at "rd"
      refine ⟨g, _, rfl, .inl (sqL hg1), ?_⟩
      walk_at "rd"
      refine w_dec (fun hpos => ?_) (fun hpos => ?_)
      · rw [List.length_map] at hpos
        have h0 : ns[0]? = some (ns.getD 0 0) := getD_at (by omega)
        walk_at "rd"
        refine w_ixL (sqL hg1) (atI_int (j := 0) h0) ?_
        walk_at "rd"
        refine w_ixL (sqL hg1) (atI_int (j := 0) h0) ?_
        walk_at "rd"
        refine w_setN (j := 0) hg1 (by rw [List.length_map]; omega) ?_
        have e1 : (ns.map V.int).set 0 (.int (ns.getD 0 0 / many)) = (ns.set 0 (ns.getD 0 0 / many)).map V.int := by rw [List.map_set]
        rw [e1]
        have r0 := Int.emod_nonneg (ns.getD 0 0) (show many ≠ 0 by omega)
        have r1 := Int.emod_lt_of_pos (ns.getD 0 0) m0
        walk_at "rd"
        have h2 : (ns.set 0 (ns.getD 0 0 / many))[0]? = some (ns.getD 0 0 / many) := by rw [List.getElem?_set_self (by omega)]
        refine w_ixL (sqL upd_same) (atI_int (j := 0) h2) ?_
        walk_at "rd"
        refine w_dec (fun _ => ?_) (fun _ => ?_)
        · walk_at "rd"
          refine ⟨tyL upd_same, ?_⟩
          walk_at "rd"
          refine w_popAt (j := 0) upd_same (by rw [List.getElem?_map, h2]; rfl) (by rw [List.length_map, List.length_set]; omega) ?_
          walk_at "rd"
          rw [upd_upd]
          refine q1 _ _ r0 r1 ⟨(ns.set 0 (ns.getD 0 0 / many)).eraseIdx 0, (erase_map _ _ _).symm, ?_⟩
          have := List.length_eraseIdx_le (ns.set 0 (ns.getD 0 0 / many)) 0
          rw [List.length_set] at this
          omega
        · walk_at "rd"
          exact q1 _ _ r0 r1 ⟨_, rfl, by rw [List.length_set]; omega⟩
      · walk_at "rd"
        have b1 : 0 ≤ (sd + 7919 * (tn + 1)) * 48271 % 2147483647 := Int.emod_nonneg _ (by decide)
        have b2 := Int.emod_lt_of_pos ((sd + 7919 * (tn + 1)) * 48271) (show (0 : Int) < 2147483647 by decide)
        generalize (sd + 7919 * (tn + 1)) * 48271 % 2147483647 = n1 at b1 b2 ⊢
        walk_at "rd"
        have b3 : 0 ≤ n1 * (n1 / 1009 + 69621) % 2147483647 := Int.emod_nonneg _ (by decide)
        have b4 := Int.emod_lt_of_pos (n1 * (n1 / 1009 + 69621)) (show (0 : Int) < 2147483647 by decide)
        generalize n1 * (n1 / 1009 + 69621) % 2147483647 = n2 at b3 b4 ⊢
        walk_at "rd"
        have := q1 (n2 * (n2 / 2003 + 40692) % 2147483399 / 16 % many) _ (Int.emod_nonneg _ (by omega)) (Int.emod_lt_of_pos _ m0) ⟨ns, rfl, hnl⟩
        rw [upd_id hg1] at this
        exact this
    · rw [decide_eq_false (show ¬ V.int n = V.non from fun z => nomatch z)]
      walk_at "rd"
      exact fin n
def sp_pick2 (K : PySem.W.Frag) : Sp := fun vs H Q _ => ∃ (b g : Addr) (xs : List V) (many : Int), vs = [.ref b, .int many] ∧ b ≠ g ∧ H b = some (.lst xs) ∧ BagW g xs ∧ H g = some (LstP g GreatW) ∧ 0 < many ∧ many ≤ 1000000000 ∧
  ∀ (r : Int) (xs' : List V), 0 ≤ r → r < many → BagW g xs' → Q (.int r) (upd H b (.lst xs'))
def sp_pick (K : PySem.W.Frag) : Sp := fun vs H Q _ => ∃ (v : V) (many : Int), vs = [v, .int many] ∧ BagAt H v ∧ 0 < many ∧ many ≤ 1000000000 ∧ ∀ r : Int, 0 ≤ r → r < many → Q (.int r) H
theorem ok_law_pick {f : Addr} {fd : FuncData} (F : C8.Def K mg "_law_pick" s_law_pick f fd) (b : Binds K fd ["bag", "many"] []) (T : Txt mg) : C8.Cal P w K mg base 1 "_law_pick" (sp_pick K) [] := by
  refine cal_hide (sp := sp_pick2 K) (cal_hide (ok_pick1 F b T) fun vs H Q E h => ?_) fun vs H Q E h => ?_
  · obtain ⟨b, g, xs, many, rfl, hbg, hb, hx, hg, m0, m1, q⟩ := h
    refine ⟨g, GreatW, hg, ⟨[], [], rfl, by simp⟩, fun ys hy => ?_⟩
    refine ⟨b, g, xs, ys, many, rfl, hbg, by rw [upd_ne hbg]; exact hb, hx, upd_same, hy, m0, m1, fun r xs' ys' r0 r1 hx' hy' => ⟨ys', hy', upd_same, ?_⟩⟩
    rw [upd_upd, upd_comm' hbg, upd_upd]
    have : upd (upd H b (.lst xs')) g (LstP g GreatW) = upd H b (.lst xs') := upd_id (by rw [upd_ne (Ne.symm hbg)]; exact hg)
    rw [this]
    exact q r xs' r0 r1 hx'
  · obtain ⟨v, many, rfl, ⟨b, g, rfl, hb, hg, hbg⟩, m0, m1, q⟩ := h
    refine ⟨b, BagW g, hb, ⟨_, 0, 0, .non, rfl, by omega, by omega, by omega, .inl rfl⟩, fun xs hx => ?_⟩
    refine ⟨b, g, xs, many, rfl, hbg, upd_same, hx, by rw [upd_ne (Ne.symm hbg)]; exact hg, m0, m1, fun r xs' r0 r1 hx' => ⟨xs', hx', upd_same, ?_⟩⟩
    rw [upd_upd, upd_upd, upd_id hb]
    exact q r r0 r1
/-! _law_some(bag, things) -/
def sp_some (K : PySem.W.Frag) : Sp := fun vs H Q _ => ∃ (v : V) (a : Addr) (xs : List V), vs = [v, .ref a] ∧ BagAt H v ∧ SqL K H a xs ∧ xs ≠ [] ∧ xs.length ≤ 1000000 ∧ ∀ x ∈ xs, Q x H
theorem ok_law_some {f : Addr} {fd : FuncData} (F : C8.Def K mg "_law_some" s_law_some f fd) (b : Binds K fd ["bag", "things"] []) (T : Txt mg)
    (c_law_pick : C8.Cal P w K mg base 1 "_law_pick" (sp_pick K) []) : C8.Cal P w K mg base 2 "_law_some" (sp_some K) [] := by
  refine C8.cal0 F b .nil sc_law_some (fun vs H Q E h => ?_) (fun cdv A outer s H vs Q E hr h => ?_)
  · obtain ⟨v, a, xs, rfl, _⟩ := h
    rfl
  · obtain ⟨v, a, xs, rfl, hv, ha, hne, hl, q⟩ := h
    refine ⟨_, (pss_one (ps_ret (pe_ix (TH.kix_list (K := K)) (pv 1) (C8.pe_c c_law_pick hr (by first | decide | exact Nat.le_refl _) (by rfl) (pa_cons (pv 0) (pa_cons (pe_callB (TH.kcall_len (K := K)) (by rfl) T.b_len (by decide +kernel) (pa_cons (pv 1) pa_nil)) pa_nil))) (fun _ _ => rfl)))), ?_⟩
    refine w_start (σ' := [some v, some (.ref a)]) rfl ?_
    have hpos := List.length_pos_iff.mpr hne
    walk_at "rd"
    refine ⟨a, _, rfl, .inl ha, ?_⟩
    walk_at "rd"
    refine ⟨v, _, rfl, hv, by omega, by omega, fun r r0 r1 => ?_⟩
    obtain ⟨n, rfl⟩ : ∃ n : Nat, r = n := ⟨r.toNat, by omega⟩
    have hn : n < xs.length := by omega
    exact w_ixL ha (atI_at (List.getElem?_eq_getElem hn)) (q _ (List.getElem_mem hn))
end TK

namespace TK
open PySem PySem.Spec PyProof.Rows L2 TH
local macro_rules | `(tactic| walk_at "rd1") => `(tactic| first
  | (with_reducible refine TH.w_seq ?_)
  | (with_reducible refine TH.w_asg ?_)
  | (with_reducible refine TH.w_ret ?_)
  | (with_reducible refine TH.w_drop ?_)
  | (with_reducible refine TH.w_ifS ?_)
  | (with_reducible refine TH.w_next ?_)
  | ((with_reducible refine TH.w_var (v := ?vv) ?hv ?_); (case hv => rfl))
  | (with_reducible refine TH.w_c ?_)
  | ((with_reducible refine TH.w_gname (σ' := ?ss) ?hs ?_); (case hs => (dsimp only [List.set]; rfl)))
  | (with_reducible refine TH.w_op ?_)
  | (with_reducible refine TH.w_un ?_)
  | (with_reducible refine TH.w_chain ?_)
  | (with_reducible refine TH.w_I0 ?_)
  | ((with_reducible refine TH.w_I ?hm ?_); (case hm => first | (exact TH.CMul.l (by omega) (by omega)) | (exact TH.CMul.r (by omega) (by omega)) | (exact TH.CDiv.mk (by omega) (by omega)) | (show (0 : Int) < _; omega) | (exact TH.CPow.mk (by omega) (by omega) (by decide))))
  | (with_reducible refine TH.w_U ?_)
  | (with_reducible refine TH.w_eqI ?_)
  | (with_reducible refine TH.w_neI ?_)
  | (with_reducible refine TH.w_eqB ?_)
  | (with_reducible refine TH.w_isN ?_)
  | (with_reducible refine TH.w_nil ?_)
  | (with_reducible refine TH.w_cons ?_)
  | (with_reducible refine TH.w_test ?_)
  | (with_reducible refine TH.w_B ?_)
  | (with_reducible refine TH.w_bl ?_)
  | (with_reducible refine TH.w_and ?_)
  | (with_reducible refine TH.w_or ?_)
  | (with_reducible refine TH.w_not ?_)
  | (with_reducible refine TH.w_andV ?_)
  | (with_reducible refine TH.w_orV ?_)
  | (with_reducible refine TH.w_notV ?_)
  | (with_reducible refine TH.w_if ?_)
  | (with_reducible refine TH.w_parT ?_)
  | (with_reducible refine TH.w_par ?_)
  | (with_reducible refine TH.w_parT3 ?_)
  | (with_reducible refine TH.w_par3 ?_)
  | (with_reducible refine TH.w_cb ?_)
  | (with_reducible refine TH.w_call ?_)
  | ((with_reducible refine TH.w_aug (v := ?vv) ?hv ?_); (case hv => rfl))
  | (with_reducible refine TH.w_ip ?_)
  | (with_reducible refine TH.w_bm ?_)
  | (with_reducible refine TH.w_sl ?_)
  | (with_reducible refine TH.w_np ?_)
  | (with_reducible refine TH.w_pt ?_)
  | (with_reducible refine TH.w_pti ?_)
  | (with_reducible refine TH.w_gsub ?_)
  | (with_reducible refine TH.w_int ?_)
  | (with_reducible refine TH.w_tupT ?_)
  | (with_reducible refine TH.w_lstT ?_)
  | ((with_reducible show L2.rIxL _ _ _ _ _); (first | (refine TH.w_ixL (TH.sqL upd_same) rfl ?_) | (refine TH.w_ixL (TH.sqL (by assumption)) rfl ?_)))
  | ((with_reducible show L2.rSetL _ _ _ _ _); (first | (refine TH.w_set1 upd_same ?_) | (refine TH.w_set2 upd_same ?_) | (refine TH.w_set3 upd_same ?_) | (refine TH.w_set4 upd_same ?_) | (refine TH.w_set1 (by assumption) ?_) | (refine TH.w_set2 (by assumption) ?_) | (refine TH.w_set3 (by assumption) ?_) | (refine TH.w_set4 (by assumption) ?_)))
  | (with_reducible refine TH.w_lc ?_)
  | (with_reducible refine TH.w_dc ?_)
  | (with_reducible refine TH.w_itup ?_)
  | (with_reducible refine TH.w_ilist ?_)
  | (with_reducible refine TH.w_ienum ?_)
  | (with_reducible refine TH.w_izip ?_)
  | (with_reducible refine TH.w_irng1 ?_)
  | (with_reducible refine TH.w_irng2 ?_)
  | (with_reducible refine TH.w_for ?_)
  | (with_reducible refine TH.w_gcons ?_)
  | (with_reducible refine TH.w_gnil ?_)
  | (with_reducible refine TH.w_yes ?_)
  | (with_reducible refine TH.w_gtup2 upd_same ?_)
  | (with_reducible refine TH.w_gtup3 upd_same ?_)
  | (with_reducible refine TH.w_dput ?_)
  | (with_reducible refine TH.w_bm0 ?_)
  | (with_reducible refine TH.w_din ?_)
  | (with_reducible refine TH.w_dnotin ?_)
  | (with_reducible refine TH.w_dispK ?_)
  | (with_reducible refine TH.w_lock ?_)
  | (with_reducible refine TH.w_ikeys ?_)
  | (with_reducible refine TH.w_iitems ?_)
  | (with_reducible refine TH.w_dispT1 ?_)
  | (with_reducible refine TH.w_dnewT ?_)
  | (with_reducible refine TH.w_dnewK ?_)
  | (with_reducible refine TH.w_fld ?_)
  | (with_reducible refine TH.w_sfld ?_)
  | (with_reducible refine TH.w_meth ?_)
  | (with_reducible refine TH.w_make ?_)
  | (with_reducible refine TH.w_dget2 ?_)
  | (with_reducible refine TH.w_revL ?_)
  | (with_reducible refine TH.w_revT ?_)
  | (with_reducible refine TH.w_lstRg ?_)
  | (with_reducible refine TH.w_tupRg ?_)
  | (with_reducible refine TH.w_rg1 ?_)
  | (with_reducible refine TH.w_rg2 ?_)
  | (with_reducible refine TH.w_T ?_)
  | (with_reducible refine TH.w_F ?_))
local macro_rules | `(tactic| walk_at "rd") => `(tactic| repeat (first | walk_at "rd1" | (dsimp only [List.set, L2.wipe, List.map, TH.isInt, TH.isBool, TH.isTup, TH.isLst, TH.bo_f, TH.bo_t, TH.ba_f, TH.ba_t, TH.bn_t, TH.bn_f, List.append_nil, List.cons_append, List.nil_append])))

variable {P : Program} {w : World} {K : PySem.W.Frag} {mg : Str → Option Value} {base : Heap}
/-! _law_bag(script) -/
def absI (x : Int) : Int := if x < 0 then -x else x
theorem filter_data {α : Type} (d : α) (p : α → Bool) (f : α → D) : ∀ xs : List α, made xs.length (fun i => p (xs.getD i d)) (fun i => f (xs.getD i d)) = (xs.filter p).map f := fun xs => by
  unfold made
  have h1 : ((List.range xs.length).map fun i => xs.getD i d) = xs := by
    have := range_map d (fun x : α => x) xs
    rwa [List.map_id'] at this
  have h2 : xs.filter p = (((List.range xs.length).filter fun i => p (xs.getD i d)).map fun i => xs.getD i d) := by
    conv => lhs; rw [← h1]
    rw [List.filter_map]
    rfl
  rw [h2, List.map_map]
  rfl
theorem cut_ints (ns : List Int) (lo hi : Option Int) : ∃ ms : List Int, cutV (ns.map V.int) lo hi = ms.map V.int ∧ ms.length ≤ ns.length := by
  refine ⟨(ns.drop (HT.sIx ns.length 0 lo)).take (HT.sIx ns.length ns.length hi - HT.sIx ns.length 0 lo), ?_, ?_⟩
  · unfold cutV
    rw [List.map_take, List.map_drop, List.length_map]
  · rw [List.length_take, List.length_drop]
    omega
def sp_bag1 (K : PySem.W.Frag) : Sp := fun vs H Q _ => ∃ (a : Addr) (ns : List Int), vs = [.ref a] ∧ SqL K H a (ns.map V.int) ∧ ns.length ≤ 1000000 ∧
  ∀ (b g : Addr) (sd : Int) (al : V) (ms : List Int) (H' : Hp), Ex H H' → H b = none → H g = none → b ≠ g → H' b = some (.lst [.int sd, .int 1, .ref g, al]) → H' g = some (.lst (ms.map V.int)) → 0 ≤ sd → sd ≤ 2147483647 → (al = .non ∨ ∃ n : Int, al = .int n) → ms.length ≤ 1000000 → Q (.ref b) H'
theorem ok_bag1 {f : Addr} {fd : FuncData} (F : C8.Def K mg "_law_bag" s_law_bag f fd) (b : Binds K fd ["script"] []) (T : Txt mg) : C8.Cal P w K mg base 1 "_law_bag" (sp_bag1 K) [] := by
  refine C8.cal0 F b .nil sc_law_bag (fun vs H Q E h => ?_) (fun cdv A outer s H vs Q E hr h => ?_)
  · obtain ⟨a, ns, rfl, _⟩ := h
    rfl
  · obtain ⟨a, ns, rfl, ha, hl, q⟩ := h
    refine ⟨_, (pss_cons (ps_set (i := 1) sc_law_bag.nd rfl (Or.inl rfl) (pe_op op_add pe_int (pe_callB (TH.kcall_len (K := K)) (by rfl) T.b_len (by decide +kernel) (pa_cons (pv 0) pa_nil))))
      (pss_cons (ps_for PassesOwn.never rfl (TH.kpi_list (K := K) (pe_slice (TH.ksl_list (K := K)) (pv 0) po_none (po_some pe_int))) (pg_name (i := 2) sc_law_bag.nd rfl (Or.inl rfl) (Or.inr rfl)) (pss_one (ps_set (i := 1) sc_law_bag.nd rfl (Or.inl rfl) (pe_op op_mod (pe_callTy call_int1 (by rfl) T.b_int (by decide +kernel) (pa_cons (pe_op op_add (pe_op op_add (pe_op op_mul (pv 1) pe_int) (pe_op op_mod (pe_callTy call_int1 (by rfl) T.b_int (by decide +kernel) (pa_cons (pv 2) pa_nil)) pe_int)) pe_int) pa_nil)) pe_int))))
      (pss_cons (ps_setLc (i := 3) (own := [("cell", 2)]) (g := gName 2) rfl sc_law_bag.nd rfl rfl (sw_true rfl rfl rfl (by decide +kernel)) (TH.kpi_list (K := K) (pe_slice (TH.ksl_list (K := K)) (pv 0) po_none (po_some pe_int))) (blkOk_by (own := [("cell", 2)]) (N := N_law_bag) (sc := C8.fnScope s_law_bag) (by decide +kernel)) (fun _ _ _ _ _ => (pg_name (i := 2) sc_law_bag.nd rfl (Or.inl rfl) (Or.inr rfl))) (fun _ _ _ _ _ => (pts_one (pt_cmpR op_ge (pe_callB call_abs (by rfl) T.b_abs (by decide +kernel) (pa_cons (pe_callTy call_int1 (by rfl) T.b_int (by decide +kernel) (pa_cons (pv 2) pa_nil)) pa_nil)) (pe_op op_pow pe_int pe_int) (nomark _)))) (fun _ _ _ _ _ => (pe_callB call_abs (by rfl) T.b_abs (by decide +kernel) (pa_cons (pe_callTy call_int1 (by rfl) T.b_int (by decide +kernel) (pa_cons (pv 2) pa_nil)) pa_nil))))
      (pss_cons (ps_set (i := 4) sc_law_bag.nd rfl (Or.inl rfl) pe_non)
      (pss_cons (ps_if (PW.pt (pw_and (pt_cmpR op_lt (pe_callB (TH.kcall_len (K := K)) (by rfl) T.b_len (by decide +kernel) (pa_cons (pv 0) pa_nil)) pe_int (nomark _)) (pw_and1 (pt_cmpR op_eq (pe_callB (TH.kcall_len (K := K)) (by rfl) T.b_len (by decide +kernel) (pa_cons (pv 3) pa_nil)) pe_int (nomark _))))) (pss_one (ps_set (i := 4) sc_law_bag.nd rfl (Or.inl rfl) (pe_callB call_abs (by rfl) T.b_abs (by decide +kernel) (pa_cons (pe_callB (TH.kcr_sum (K := K) rfl) (by rfl) T.b_sum (by decide +kernel) (pa_cons (pe_lc (own := [("cell", 2)]) (g := gName 2) (tt := tYes) rfl sc_law_bag.nd (TH.kpi_list (K := K) (pv 0)) (blkOk_by (own := [("cell", 2)]) (N := N_law_bag) (sc := C8.fnScope s_law_bag) (by decide +kernel)) (fun _ _ _ _ _ => (pg_name (i := 2) sc_law_bag.nd rfl (Or.inl rfl) (Or.inr rfl))) (fun _ _ _ _ _ => pts_nil) (fun _ _ _ _ _ => (pe_callTy call_int1 (by rfl) T.b_int (by decide +kernel) (pa_cons (pv 2) pa_nil)))) pa_nil)) pa_nil)))) pss_nil)
      (pss_one (ps_ret (pe_lst (pa_cons (pv 1) (pa_cons pe_int (pa_cons (pv 3) (pa_cons (pv 4) pa_nil)))))))))))), ?_⟩
    refine w_start (σ' := [some (.ref a), none, none, none, none]) rfl ?_
    walk_at "rd"
    refine ⟨a, _, rfl, .inl ha, ?_⟩
    walk_at "rd"
    obtain ⟨ms, e1, e2⟩ := cut_ints ns none (some 63)
    refine ⟨a, _, rfl, ha, fun p hp => ?_⟩
    rw [e1]
    have e0 : Ex H (upd H p (.lst (ms.map V.int))) := Ex.new hp
    have u0 : upd H p (.lst (ms.map V.int)) p = some (.lst (ms.map V.int)) := upd_same
    generalize upd H p (.lst (ms.map V.int)) = H0 at e0 u0 ⊢
    refine ⟨p, rfl, ⟨_, sqL u0⟩, ?_⟩
    refine for_go walk_list (fun i σ H' => H' = H0 ∧ ∃ (sd : Int) (y : Option V), σ = [some (.ref a), some (.int sd), y, none, none] ∧ 0 ≤ sd ∧ sd ≤ 2147483647) ⟨rfl, _, _, rfl, by omega, by rw [List.length_map]; omega⟩ (fun i σ H' _ p => by rw [p.1]; exact sqL u0) (fun i x σ H' H'' hi pp y => ?_) (fun σ H' pp => ?_)
    · obtain ⟨rfl, sd, y2, rfl, s0, s1⟩ := pp
      obtain ⟨rfl, hx⟩ := y
      obtain ⟨c, hc, rfl⟩ := ints_at hx
      walk_at "rd"
      have m0 := Int.emod_nonneg (sd * 69621 + c % 1000003 + 7) (show (2147483647 : Int) ≠ 0 by decide)
      have m1 := Int.emod_lt_of_pos (sd * 69621 + c % 1000003 + 7) (show (0 : Int) < 2147483647 by decide)
      exact ⟨rfl, _, _, rfl, m0, by omega⟩
    · obtain ⟨rfl, sd, y, rfl, s0, s1⟩ := pp
      walk_at "rd"
      refine ⟨a, _, rfl, e0.l ha, fun p2 hp2 => ?_⟩
      rw [e1]
      have e3 : Ex H' (upd H' p2 (.lst (ms.map V.int))) := Ex.new hp2
      have u3 : upd H' p2 (.lst (ms.map V.int)) p2 = some (.lst (ms.map V.int)) := upd_same
      generalize upd H' p2 (.lst (ms.map V.int)) = H3 at e3 u3 ⊢
      refine ⟨p2, rfl, ⟨_, sqL u3⟩, fun Dl hD => ?_⟩
      refine lc_data (K := K) walk_list (fun i => decide (absI (ms.getD i 0) ≥ 10 ^ Int.toNat 18)) (fun i => .int (absI (ms.getD i 0))) (fun _ => rfl) (fun H' e => e.l (sqL u3)) hD (by rw [List.length_map]; omega) (fun i x H4 H5 hi e y R R0 k k0 => ?_) (fun H4 ws e4 hws hda => ?_)
      · obtain ⟨rfl, hx⟩ := y
        obtain ⟨c, hc, rfl⟩ := ints_at hx
        have eg := getD_of (d := 0) hc
        walk_at "rd"
        refine ⟨rfl, ?_⟩
        walk_at "rd"
        refine ⟨c, rfl, ?_⟩
        walk_at "rd"
        refine w_dec (fun hh => ?_) (fun hh => ?_)
        · walk_at "rd"
          refine ⟨c, rfl, ?_⟩
          refine k ?_ _ _ (Ex.refl _) ?_
          · rw [eg]
            exact decide_eq_true hh
          · rw [eg]
            exact .int _
        · refine k0 ?_ _ (Ex.refl _)
          rw [eg]
          exact decide_eq_false hh
      · rw [List.length_map, filter_data 0 (fun c : Int => decide (absI c ≥ 10 ^ Int.toNat 18)) (fun c => PyData.int (absI c))] at hda
        have e5 : (ms.filter fun c : Int => decide (absI c ≥ 10 ^ Int.toNat 18)).map (fun c => PyData.int (absI c)) = ((ms.filter fun c : Int => decide (absI c ≥ 10 ^ Int.toNat 18)).map absI).map PyData.int := by rw [List.map_map]; rfl
        rw [e5] at hda
        have e6 := dpa_ints_inv hda
        have hgl : ((ms.filter fun c : Int => decide (absI c ≥ 10 ^ Int.toNat 18)).map absI).length ≤ 1000000 := by
          rw [List.length_map]
          exact Nat.le_trans (List.length_filter_le _ _) (by omega)
        generalize (ms.filter fun c : Int => decide (absI c ≥ 10 ^ Int.toNat 18)).map absI = gs at e6 hgl
        subst e6
        have e04 := e0.trans (e3.trans e4)
        have hD0 : H Dl = none := (e0.trans e3).fresh hD
        have fin : ∀ (al : V) (H5 : Hp), Ex H4 H5 → (al = .non ∨ ∃ n : Int, al = .int n) → ∀ p, H5 p = none → Q (.ref p) (upd H5 p (.lst [.int sd, .int 1, .ref Dl, al])) := fun al H5 e5 hal p hp => by
          have hne : p ≠ Dl := fun z => by rw [z, e5 _ _ hws] at hp; cases hp
          exact q p Dl sd al gs _ ((e04.trans e5).trans (Ex.new hp)) ((e04.trans e5).fresh hp) hD0 hne upd_same ((Ex.new hp) _ _ (e5 _ _ hws)) s0 s1 hal hgl
        walk_at "rd"
        refine ⟨a, _, rfl, .inl (e04.l ha), ?_⟩
        walk_at "rd"
        refine w_dec (fun _ => ?_) (fun _ => ?_)
        · walk_at "rd"
          refine ⟨Dl, _, rfl, .inl (sqL hws), ?_⟩
          walk_at "rd"
          refine w_dec (fun _ => ?_) (fun _ => ?_)
          · walk_at "rd"
            refine ⟨a, rfl, ⟨_, e04.l ha⟩, fun D2 hD2 => ?_⟩
            refine lc_data (K := K) walk_list (fun _ => true) (fun i => .int (ns.getD i 0)) (fun _ => rfl) (fun H' e => e.l (e04.l ha)) hD2 (by rw [List.length_map]; omega) (fun i x H5 H6 hi e y R R0 k _ => ?_) (fun H5 ws2 e5 hws2 hda2 => ?_)
            · obtain ⟨rfl, hx⟩ := y
              obtain ⟨c, hc, rfl⟩ := ints_at hx
              walk_at "rd"
              refine ⟨rfl, ?_⟩
              walk_at "rd"
              refine k rfl _ _ (Ex.refl _) ?_
              rw [getD_of hc]
              exact .int _
            · walk_at "rd"
              rw [made_all, List.length_map, range_map 0 (fun c : Int => PyData.int c)] at hda2
              have e7 := dpa_ints_inv hda2
              subst e7
              refine ⟨D2, _, rfl, sqL hws2, ?_⟩
              walk_at "rd"
              refine ⟨_, rfl, ?_⟩
              walk_at "rd"
              refine w_dispT (by simp) fun p hp => ?_
              exact fin _ _ e5 (.inr ⟨_, rfl⟩) p hp
          · walk_at "rd"
            refine w_dispT (by simp) fun p hp => ?_
            exact fin _ _ (Ex.refl _) (.inl rfl) p hp
        · walk_at "rd"
          refine w_dispT (by simp) fun p hp => ?_
          exact fin _ _ (Ex.refl _) (.inl rfl) p hp
def sp_bag2 (K : PySem.W.Frag) : Sp := fun vs H Q _ => ∃ (a : Addr) (ns : List Int), vs = [.ref a] ∧ SqL K H a (ns.map V.int) ∧ ns.length ≤ 1000000 ∧
  ∀ (b g : Addr) (sd : Int) (al : V) (H' : Hp), Ex H H' → H b = none → b ≠ g → H' b = some (.lst [.int sd, .int 1, .ref g, al]) → H' g = some (LstP g GreatW) → 0 ≤ sd → sd ≤ 2147483647 → (al = .non ∨ ∃ n : Int, al = .int n) → Q (.ref b) H'
def sp_bag (K : PySem.W.Frag) : Sp := fun vs H Q _ => ∃ (a : Addr) (ns : List Int), vs = [.ref a] ∧ SqL K H a (ns.map V.int) ∧ ns.length ≤ 1000000 ∧ ∀ v H', Ex H H' → BagAt H' v → Q v H'
theorem ok_law_bag {f : Addr} {fd : FuncData} (F : C8.Def K mg "_law_bag" s_law_bag f fd) (b : Binds K fd ["script"] []) (T : Txt mg) : C8.Cal P w K mg base 1 "_law_bag" (sp_bag K) [] := by
  refine cal_seal (sp := sp_bag2 K) (cal_seal (ok_bag1 F b T) fun vs H Q E h => ?_) fun vs H Q E h => ?_
  · obtain ⟨a, ns, rfl, ha, hl, q⟩ := h
    refine ⟨a, ns, rfl, ha, hl, fun b g sd al ms H' e hb hg hbg h1 h2 s0 s1 hal hml => ?_⟩
    exact ⟨g, GreatW, _, hg, ⟨ms, rfl, hml⟩, h2, q b g sd al _ (e.mut hg) hb hbg (by rw [upd_ne hbg]; exact h1) upd_same s0 s1 hal⟩
  · obtain ⟨a, ns, rfl, ha, hl, q⟩ := h
    refine ⟨a, ns, rfl, ha, hl, fun b g sd al H' e hb hbg h1 h2 s0 s1 hal => ?_⟩
    exact ⟨b, BagW g, _, hb, ⟨sd, 1, al, rfl, s0, s1, by omega, hal⟩, h1, q _ _ (e.mut hb) ⟨b, g, rfl, upd_same, by rw [upd_ne (Ne.symm hbg)]; exact h2, hbg⟩⟩
/-! _law_clock(bag) -/
def clks : List Nat := [5, 2, 3, 7, 101, 999983]
def sp_clock (K : PySem.W.Frag) : Sp := fun vs H Q _ => ∃ (v : V), vs = [v] ∧ BagAt H v ∧ ∀ (p : Nat) (H' : Hp), Ex H H' → p ∈ clks → Q (.int (p : Nat)) H'
theorem ok_law_clock {f : Addr} {fd : FuncData} (F : C8.Def K mg "_law_clock" s_law_clock f fd) (b : Binds K fd ["bag"] []) (T : Txt mg)
    (c_law_some : C8.Cal P w K mg base 2 "_law_some" (sp_some K) []) : C8.Cal P w K mg base 3 "_law_clock" (sp_clock K) [] := by
  refine C8.cal0 F b .nil sc_law_clock (fun vs H Q E h => ?_) (fun cdv A outer s H vs Q E hr h => ?_)
  · obtain ⟨v, rfl, _⟩ := h
    rfl
  · obtain ⟨v, rfl, hv, q⟩ := h
    refine ⟨_, (pss_one (ps_ret (C8.pe_c c_law_some hr (by first | decide | exact Nat.le_refl _) (by rfl) (pa_cons (pv 0) (pa_cons (pe_lst (pa_cons pe_int (pa_cons pe_int (pa_cons pe_int (pa_cons pe_int (pa_cons pe_int (pa_cons pe_int pa_nil))))))) pa_nil))))), ?_⟩
    refine w_start (σ' := [some v]) rfl ?_
    walk_at "rd"
    refine w_dispT (by simp) fun l hl => ?_
    refine ⟨v, l, _, rfl, hv.ex (Ex.new hl), sqL upd_same, by simp, by simp, fun x hx => ?_⟩
    simp only [List.mem_cons, List.not_mem_nil, or_false] at hx
    rcases hx with rfl | rfl | rfl | rfl | rfl | rfl
    · exact q 5 _ (Ex.new hl) (by decide)
    · exact q 2 _ (Ex.new hl) (by decide)
    · exact q 3 _ (Ex.new hl) (by decide)
    · exact q 7 _ (Ex.new hl) (by decide)
    · exact q 101 _ (Ex.new hl) (by decide)
    · exact q 999983 _ (Ex.new hl) (by decide)
theorem clks_ok {p : Nat} (h : p ∈ clks) : clockB (.int (p : Nat)) = true := by
  simp only [clks, List.mem_cons, List.not_mem_nil, or_false] at h
  rcases h with rfl | rfl | rfl | rfl | rfl | rfl <;> decide +kernel
end TK

namespace TK
open PySem PySem.Spec PyProof.Rows L2 TH
local macro_rules | `(tactic| walk_at "rd1") => `(tactic| first
  | (with_reducible refine TH.w_seq ?_)
  | (with_reducible refine TH.w_asg ?_)
  | (with_reducible refine TH.w_ret ?_)
  | (with_reducible refine TH.w_drop ?_)
  | (with_reducible refine TH.w_ifS ?_)
  | (with_reducible refine TH.w_next ?_)
  | ((with_reducible refine TH.w_var (v := ?vv) ?hv ?_); (case hv => rfl))
  | (with_reducible refine TH.w_c ?_)
  | ((with_reducible refine TH.w_gname (σ' := ?ss) ?hs ?_); (case hs => (dsimp only [List.set]; rfl)))
  | (with_reducible refine TH.w_op ?_)
  | (with_reducible refine TH.w_un ?_)
  | (with_reducible refine TH.w_chain ?_)
  | (with_reducible refine TH.w_I0 ?_)
  | ((with_reducible refine TH.w_I ?hm ?_); (case hm => first | (exact TH.CMul.l (by omega) (by omega)) | (exact TH.CMul.r (by omega) (by omega)) | (exact TH.CDiv.mk (by omega) (by omega)) | (show (0 : Int) < _; omega) | (exact TH.CPow.mk (by omega) (by omega) (by decide))))
  | (with_reducible refine TH.w_U ?_)
  | (with_reducible refine TH.w_eqI ?_)
  | (with_reducible refine TH.w_neI ?_)
  | (with_reducible refine TH.w_eqB ?_)
  | (with_reducible refine TH.w_isN ?_)
  | (with_reducible refine TH.w_nil ?_)
  | (with_reducible refine TH.w_cons ?_)
  | (with_reducible refine TH.w_test ?_)
  | (with_reducible refine TH.w_B ?_)
  | (with_reducible refine TH.w_bl ?_)
  | (with_reducible refine TH.w_and ?_)
  | (with_reducible refine TH.w_or ?_)
  | (with_reducible refine TH.w_not ?_)
  | (with_reducible refine TH.w_andV ?_)
  | (with_reducible refine TH.w_orV ?_)
  | (with_reducible refine TH.w_notV ?_)
  | (with_reducible refine TH.w_if ?_)
  | (with_reducible refine TH.w_parT ?_)
  | (with_reducible refine TH.w_par ?_)
  | (with_reducible refine TH.w_parT3 ?_)
  | (with_reducible refine TH.w_par3 ?_)
  | (with_reducible refine TH.w_cb ?_)
  | (with_reducible refine TH.w_call ?_)
  | ((with_reducible refine TH.w_aug (v := ?vv) ?hv ?_); (case hv => rfl))
  | (with_reducible refine TH.w_ip ?_)
  | (with_reducible refine TH.w_bm ?_)
  | (with_reducible refine TH.w_sl ?_)
  | (with_reducible refine TH.w_np ?_)
  | (with_reducible refine TH.w_pt ?_)
  | (with_reducible refine TH.w_pti ?_)
  | (with_reducible refine TH.w_gsub ?_)
  | (with_reducible refine TH.w_int ?_)
  | (with_reducible refine TH.w_tupT ?_)
  | (with_reducible refine TH.w_lstT ?_)
  | ((with_reducible show L2.rIxL _ _ _ _ _); (first | (refine TH.w_ixL (TH.sqL upd_same) rfl ?_) | (refine TH.w_ixL (TH.sqL (by assumption)) rfl ?_)))
  | ((with_reducible show L2.rSetL _ _ _ _ _); (first | (refine TH.w_set1 upd_same ?_) | (refine TH.w_set2 upd_same ?_) | (refine TH.w_set3 upd_same ?_) | (refine TH.w_set4 upd_same ?_) | (refine TH.w_set1 (by assumption) ?_) | (refine TH.w_set2 (by assumption) ?_) | (refine TH.w_set3 (by assumption) ?_) | (refine TH.w_set4 (by assumption) ?_)))
  | (with_reducible refine TH.w_lc ?_)
  | (with_reducible refine TH.w_dc ?_)
  | (with_reducible refine TH.w_itup ?_)
  | (with_reducible refine TH.w_ilist ?_)
  | (with_reducible refine TH.w_ienum ?_)
  | (with_reducible refine TH.w_izip ?_)
  | (with_reducible refine TH.w_irng1 ?_)
  | (with_reducible refine TH.w_irng2 ?_)
  | (with_reducible refine TH.w_for ?_)
  | (with_reducible refine TH.w_gcons ?_)
  | (with_reducible refine TH.w_gnil ?_)
  | (with_reducible refine TH.w_yes ?_)
  | (with_reducible refine TH.w_gtup2 upd_same ?_)
  | (with_reducible refine TH.w_gtup3 upd_same ?_)
  | (with_reducible refine TH.w_dput ?_)
  | (with_reducible refine TH.w_bm0 ?_)
  | (with_reducible refine TH.w_din ?_)
  | (with_reducible refine TH.w_dnotin ?_)
  | (with_reducible refine TH.w_dispK ?_)
  | (with_reducible refine TH.w_lock ?_)
  | (with_reducible refine TH.w_ikeys ?_)
  | (with_reducible refine TH.w_iitems ?_)
  | (with_reducible refine TH.w_dispT1 ?_)
  | (with_reducible refine TH.w_dnewT ?_)
  | (with_reducible refine TH.w_dnewK ?_)
  | (with_reducible refine TH.w_fld ?_)
  | (with_reducible refine TH.w_sfld ?_)
  | (with_reducible refine TH.w_meth ?_)
  | (with_reducible refine TH.w_make ?_)
  | (with_reducible refine TH.w_dget2 ?_)
  | (with_reducible refine TH.w_revL ?_)
  | (with_reducible refine TH.w_revT ?_)
  | (with_reducible refine TH.w_lstRg ?_)
  | (with_reducible refine TH.w_tupRg ?_)
  | (with_reducible refine TH.w_rg1 ?_)
  | (with_reducible refine TH.w_rg2 ?_)
  | (with_reducible refine TH.w_T ?_)
  | (with_reducible refine TH.w_F ?_))
local macro_rules | `(tactic| walk_at "rd") => `(tactic| repeat (first | walk_at "rd1" | (dsimp only [List.set, L2.wipe, List.map, TH.isInt, TH.isBool, TH.isTup, TH.isLst, TH.bo_f, TH.bo_t, TH.ba_f, TH.ba_t, TH.bn_t, TH.bn_f, List.append_nil, List.cons_append, List.nil_append])))

variable {P : Program} {w : World} {K : PySem.W.Frag} {mg : Str → Option Value} {base : Heap}
/-! _law_ties(bag, most) -/
theorem list_of {α : Type} (f : α → D) {Pr : Nat → α → Prop} : ∀ (ds : List D), (∀ i d, ds[i]? = some d → ∃ a, d = f a ∧ Pr i a) → ∃ as : List α, ds = as.map f ∧ ∀ i a, as[i]? = some a → Pr i a
  | [], _ => ⟨[], rfl, fun i a h => by simp at h⟩
  | d :: ds, h => by
    obtain ⟨a, rfl, ha⟩ := h 0 d rfl
    obtain ⟨as, rfl, has⟩ := list_of f (Pr := fun i => Pr (i + 1)) ds fun i d hd => h (i + 1) d hd
    refine ⟨a :: as, rfl, fun i y hy => ?_⟩
    cases i with
    | zero => cases hy; exact ha
    | succ i => exact has i y hy
def sp_law_ties (K : PySem.W.Frag) : Sp := fun vs H Q _ => ∃ (v : V) (most : Nat), vs = [v, .int (most : Nat)] ∧ BagAt H v ∧ 1 ≤ most ∧ most ≤ 24 ∧ ∀ (u : V) (posts : Nat) (ts : List (Nat × Nat)) (H' : Hp), Ex H H' → Dp K H' u (tiesT ts) → TreeOk posts ts → Q u H'
theorem ok_law_ties {f : Addr} {fd : FuncData} (F : C8.Def K mg "_law_ties" s_law_ties f fd) (b : Binds K fd ["bag", "most"] []) (T : Txt mg)
    (c_law_pick : C8.Cal P w K mg base 1 "_law_pick" (sp_pick K) []) (c_law_some : C8.Cal P w K mg base 2 "_law_some" (sp_some K) []) : C8.Cal P w K mg base 3 "_law_ties" (sp_law_ties K) [] := by
  refine C8.cal0 F b .nil sc_law_ties (fun vs H Q E h => ?_) (fun cdv A outer s H vs Q E hr h => ?_)
  · obtain ⟨v, most, rfl, _⟩ := h
    rfl
  · obtain ⟨v, most, rfl, hv, hm1, hm2, q⟩ := h
    have hu64 := hu64_of hr
    refine ⟨_, (pss_cons (ps_set (i := 2) sc_law_ties.nd rfl (Or.inl rfl) (pe_op op_add pe_int (C8.pe_c c_law_pick hr (by first | decide | exact Nat.le_refl _) (by rfl) (pa_cons (pv 0) (pa_cons (pv 1) pa_nil)))))
      (pss_one (ps_ret (pe_callTy (TH.kcall_tuple (K := K)) (by rfl) T.b_tuple (by decide +kernel) (pa_cons (pe_callB (TH.call_sortedD (K := K) hu64) (by rfl) T.b_sorted (by decide +kernel) (pa_cons (pe_lc (own := [("post", 3)]) (g := gName 3) (tt := tYes) rfl sc_law_ties.nd (pi_range2 (by rfl) T.b_range (pa_cons pe_int (pa_cons (pv 2) pa_nil))) (blkOk_by (own := [("post", 3)]) (N := N_law_ties) (sc := C8.fnScope s_law_ties) (by decide +kernel)) (fun _ _ _ _ _ => (pg_name (i := 3) sc_law_ties.nd rfl (Or.inl rfl) (Or.inr rfl))) (fun _ _ _ _ _ => pts_nil) (fun _ _ _ _ _ => (pe_tup (pa_cons (C8.pe_c c_law_some hr (by first | decide | exact Nat.le_refl _) (by rfl) (pa_cons (pv 0) (pa_cons (pe_lst (pa_cons (pe_op op_sub (pv 3) pe_int) (pa_cons pe_int (pa_cons (C8.pe_c c_law_pick hr (by first | decide | exact Nat.le_refl _) (by rfl) (pa_cons (pv 0) (pa_cons (pv 3) pa_nil))) pa_nil)))) pa_nil))) (pa_cons (pv 3) pa_nil))))) pa_nil)) pa_nil))))), ?_⟩
    refine w_start (σ' := [some v, some (.int most), none, none]) rfl ?_
    walk_at "rd"
    refine ⟨v, _, rfl, hv, by omega, by omega, fun r r0 r1 => ?_⟩
    obtain ⟨n, rfl⟩ : ∃ n : Nat, r = n := ⟨r.toNat, by omega⟩
    walk_at "rd"
    refine ⟨1, 1 + n, rfl, ⟨by omega, by omega, by omega, by omega⟩, fun Dl hD => ?_⟩
    refine lc_some (K := K) walk_range (fun i d => ∃ a : Nat × Nat, d = tieD a ∧ a.2 = i + 1 ∧ a.1 ≤ i) (fun i d hd => by obtain ⟨a, rfl, _⟩ := hd; rfl) (fun _ _ => trivial) hD (by omega) (fun i x H' H'' hi e y R k => ?_) (fun H1 ws ds e1 hws hdl hφ hda => ?_)
    · obtain ⟨rfl, rfl⟩ := y
      walk_at "rd"
      refine ⟨rfl, ?_⟩
      walk_at "rd"
      refine ⟨v, _, rfl, hv.ex e, by omega, by omega, fun d d0 d1 => ?_⟩
      walk_at "rd"
      refine w_dispT (by simp) fun l hl => ?_
      have fin : ∀ o : Nat, o ≤ i → ∀ H5 : Hp, Ex H'' H5 → ∀ p, H5 p = none → R (.ref p) (upd H5 p (.tup [.int (o : Nat), .int (1 + (i : Int))])) := fun o ho H5 e5 p hp => by
        refine k _ (tieD (o, i + 1)) _ (e5.trans (Ex.new hp)) ⟨(o, i + 1), rfl, rfl, ho⟩ (dp_tie_of (sqT ?_))
        have en : ((i + 1 : Nat) : Int) = 1 + (i : Int) := by omega
        show upd H5 p _ p = some (.tup [.int (o : Nat), .int ((i + 1 : Nat) : Int)])
        rw [en]
        exact upd_same
      refine ⟨v, l, _, rfl, (hv.ex e).ex (Ex.new hl), sqL upd_same, by simp, by simp, fun x hx => ?_⟩
      have hx' : ∃ o : Nat, x = .int (o : Nat) ∧ o ≤ i := by
        simp only [List.mem_cons, List.not_mem_nil, or_false] at hx
        rcases hx with rfl | rfl | rfl
        · exact ⟨i, by rw [show 1 + (i : Int) - 1 = i by omega], Nat.le_refl _⟩
        · exact ⟨0, rfl, Nat.zero_le _⟩
        · exact ⟨d.toNat, by rw [Int.toNat_of_nonneg d0], by omega⟩
      obtain ⟨o, rfl, ho⟩ := hx'
      walk_at "rd"
      refine w_dispT (by simp) fun p hp => ?_
      exact fin o ho _ (Ex.new hl) p hp
    · obtain ⟨ps, rfl, hps⟩ := list_of tieD (Pr := fun i a => a.2 = i + 1 ∧ a.1 ≤ i) ds hφ
      rw [List.length_map] at hdl
      walk_at "rd"
      refine w_sortP (sqL hws) hda fun p ws' hp hw' => ?_
      walk_at "rd"
      refine ⟨p, _, rfl, .inl ⟨sqL upd_same, fun t ht => ?_⟩⟩
      refine q _ (n + 1) (sortP ps) _ (e1.trans ((Ex.new hp).trans (Ex.new ht))) (.tup (sqT upd_same) (((Ex.new hp).trans (Ex.new ht)).dpa hw')) (treeOk_made (nm := List.range (n + 1)) (.refl _) (by omega) (fun j a h => ?_) (by omega))
      obtain ⟨h1, h2⟩ := hps j a h
      have hj := (List.getElem?_eq_some_iff.mp h).1
      refine ⟨a.1, h2, ?_⟩
      have gg : ∀ m, m < n + 1 → (List.range (n + 1)).getD m 0 = m := fun m hm => by
        rw [List.getD_eq_getElem?_getD, List.getElem?_range hm]
        rfl
      rw [gg (j + 1) (by omega), gg a.1 (by omega)]
      unfold LT.srt
      rw [if_neg (by omega)]
      exact Prod.ext rfl h1
/-! _law_dealt(bag, posts, many) -/
theorem sum_set : ∀ {hs : List Nat} {i x : Nat}, hs[i]? = some x → (hs.set i (x + 1)).sum = hs.sum + 1
  | [], i, x, h => by simp at h
  | y :: hs, 0, x, h => by
    have : y = x := Option.some.inj h
    subst this
    simp only [List.set_cons_zero, List.sum_cons]
    omega
  | y :: hs, i + 1, x, h => by
    have := sum_set (hs := hs) (i := i) (x := x) (by simpa using h)
    simp only [List.set_cons_succ, List.sum_cons]
    omega
def sp_dealt (K : PySem.W.Frag) : Sp := fun vs H Q _ => ∃ (v : V) (posts many : Nat), vs = [v, .int (posts : Nat), .int (many : Nat)] ∧ BagAt H v ∧ 1 ≤ posts ∧ posts ≤ 100 ∧ many ≤ 60 ∧ ∀ (u : V) (hs : List Nat) (H' : Hp), Ex H H' → Dp K H' u (row (nz hs)) → CntOk posts hs → Q u H'
theorem ok_law_dealt {f : Addr} {fd : FuncData} (F : C8.Def K mg "_law_dealt" s_law_dealt f fd) (b : Binds K fd ["bag", "posts", "many"] []) (T : Txt mg)
    (c_law_pick : C8.Cal P w K mg base 1 "_law_pick" (sp_pick K) []) : C8.Cal P w K mg base 2 "_law_dealt" (sp_dealt K) [] := by
  refine C8.cal0 F b .nil sc_law_dealt (fun vs H Q E h => ?_) (fun cdv A outer s H vs Q E hr h => ?_)
  · obtain ⟨v, posts, many, rfl, _⟩ := h
    rfl
  · obtain ⟨v, posts, many, rfl, hv, hp1, hp2, hm, q⟩ := h
    refine ⟨_, (pss_cons (ps_set (i := 3) sc_law_dealt.nd rfl (Or.inl rfl) (pe_op op_rep (pe_lst (pa_cons pe_int pa_nil)) (pv 1)))
      (pss_cons (ps_for PassesOwn.never rfl (pi_range1 (by rfl) T.b_range (pa_cons (pv 2) pa_nil)) (pg_name (i := 4) sc_law_dealt.nd rfl (Or.inl rfl) (Or.inr rfl)) (pss_cons (ps_set (i := 5) sc_law_dealt.nd rfl (Or.inl rfl) (C8.pe_c c_law_pick hr (by first | decide | exact Nat.le_refl _) (by rfl) (pa_cons (pv 0) (pa_cons (pv 1) pa_nil))))
      (pss_one (ps_if (pt_cmpR op_lt (pe_ix (TH.kix_list (K := K)) (pv 3) (pv 5) (fun _ _ => rfl)) pe_int (nomark _)) (pss_one (ps_asg (pe_op op_add (pe_ix (TH.kix_list (K := K)) (pv 3) (pv 5) (fun _ _ => rfl)) pe_int) (pg_sub (pv 3) (pv 5) set_list))) pss_nil))))
      (pss_one (ps_ret (pe_callTy (TH.kcall_tuple (K := K)) (by rfl) T.b_tuple (by decide +kernel) (pa_cons (pv 3) pa_nil)))))), ?_⟩
    refine w_start (σ' := [some v, some (.int posts), some (.int many), none, none, none]) rfl ?_
    walk_at "rd"
    refine w_dispT (by simp) fun zl hzl => ?_
    walk_at "rd"
    refine ⟨zl, posts, _, rfl, rfl, upd_same, by omega, by omega, small2 (by simp; omega), fun l hl => ?_⟩
    rw [Int.toNat_natCast, rep_one]
    have e0 : Ex H (upd (upd H zl (.lst [V.int 0])) l (.lst (List.replicate posts (V.int 0)))) := (Ex.new hzl).trans (Ex.new hl)
    have hl0 : H l = none := (Ex.new hzl).fresh hl
    have u0 : upd (upd H zl (.lst [V.int 0])) l (.lst (List.replicate posts (V.int 0))) l = some (.lst ((nz (List.replicate posts 0)).map V.int)) := by
      rw [upd_same]
      unfold nz
      rw [List.map_map, List.map_replicate]
      rfl
    generalize upd (upd H zl (.lst [V.int 0])) l (.lst (List.replicate posts (V.int 0))) = H0 at e0 u0 ⊢
    walk_at "rd"
    refine w_isrng (by omega) (by omega) ?_
    refine for_go walk_rng (fun i σ H' => Ex H H' ∧ ∃ (hs : List Nat) (y4 y5 : Option V), σ = [some v, some (.int posts), some (.int many), some (.ref l), y4, y5] ∧ H' l = some (.lst ((nz hs).map V.int)) ∧ hs.length = posts ∧ (∀ x ∈ hs, x ≤ 8) ∧ hs.sum ≤ i) ⟨e0, _, _, _, rfl, u0, by simp, fun x hx => by rw [(List.mem_replicate.mp hx).2]; omega, by simp⟩ (fun _ _ _ _ _ => trivial) (fun i x σ H' H'' hi pp y => ?_) (fun σ H' pp => ?_)
    · obtain ⟨e, hs, y4, y5, rfl, g1, g2, g3, g4⟩ := pp
      obtain ⟨rfl, rfl⟩ := y
      walk_at "rd"
      refine ⟨v, _, rfl, hv.ex e, by omega, by omega, fun r r0 r1 => ?_⟩
      obtain ⟨n, rfl⟩ : ∃ n : Nat, r = n := ⟨r.toNat, by omega⟩
      have hg : hs[n]? = some (hs.getD n 0) := getD_at (by omega)
      walk_at "rd"
      refine w_ixL (sqL g1) (atI_int (nz_at hg)) ?_
      walk_at "rd"
      refine w_dec (fun h8 => ?_) (fun h8 => ?_)
      · walk_at "rd"
        refine w_ixL (sqL g1) (atI_int (nz_at hg)) ?_
        walk_at "rd"
        refine w_setN g1 (by rw [List.length_map, nz_len]; omega) ?_
        have es : ((nz hs).map V.int).set n (.int ((hs.getD n 0 : Nat) + 1 : Int)) = (nz (hs.set n (hs.getD n 0 + 1))).map V.int := by
          unfold nz
          rw [List.map_set, List.map_set]
          rfl
        rw [es]
        refine ⟨e.mut hl0, _, _, _, rfl, upd_same, by rw [List.length_set]; exact g2, fun x hx => ?_, by rw [sum_set hg]; omega⟩
        rcases List.mem_or_eq_of_mem_set hx with m | m
        · exact g3 x m
        · rw [m]
          omega
      · walk_at "rd"
        exact ⟨e, hs, _, _, rfl, g1, g2, g3, by omega⟩
    · obtain ⟨e, hs, y4, y5, rfl, g1, g2, g3, g4⟩ := pp
      rw [Int.toNat_natCast] at g4
      walk_at "rd"
      refine ⟨l, _, rfl, .inl ⟨sqL g1, fun t ht => ?_⟩⟩
      exact q _ hs _ (e.trans (Ex.new ht)) (dp_row_of (sqT upd_same)) ⟨g2, g3, by omega⟩
/-! _law_of_rank(p, rows, wide, rank) -/
def stepN (f : Nat → Nat) (p w a k : Nat) : Nat := (if k < a then f k * p ^ k else 0) + (if 1 ≤ k ∧ k - 1 < a then f (k - 1) * (p ^ w - p ^ (k - 1)) else 0)
def FN (p w rows : Nat) : Nat → Nat → Nat
  | 0, k => if k = 0 then 1 else 0
  | t + 1, k => stepN (FN p w rows t) p w (rows + 1) k
def ofRankN (p r w k : Nat) : Nat := if k < r + 2 then FN p w r r k else 0
def lstN (n : Nat) (f : Nat → Nat) : List V := (List.range n).map fun k => V.int (f k : Nat)
theorem lstN_at {n k : Nat} {f : Nat → Nat} (h : k < n) : (lstN n f)[k]? = some (.int (f k : Nat)) := by
  unfold lstN
  rw [List.getElem?_map, List.getElem?_range h]
  rfl
theorem lstN_set {n a : Nat} {f g : Nat → Nat} {v : Nat} (ha : g a = v) (hne : ∀ k, k ≠ a → g k = f k) : (lstN n f).set a (.int (v : Nat)) = lstN n g := by
  unfold lstN
  apply List.ext_getElem?
  intro i
  rw [List.getElem?_set]
  by_cases h : a = i
  · subst h
    rw [if_pos rfl]
    by_cases hl : a < n
    · rw [if_pos (by simpa using hl), List.getElem?_map, List.getElem?_range hl]
      show _ = some (V.int (g a : Nat))
      rw [ha]
    · rw [if_neg (by simpa using hl), List.getElem?_map, List.getElem?_eq_none (by simpa using Nat.le_of_not_lt hl)]
      rfl
  · rw [if_neg h, List.getElem?_map, List.getElem?_map]
    cases e : (List.range n)[i]? with
    | none => rfl
    | some x =>
      have : x = i := by
        obtain ⟨h1, h2⟩ := List.getElem?_eq_some_iff.mp e
        simpa using h2.symm
      subst this
      show some (V.int (f x : Nat)) = some (V.int (g x : Nat))
      rw [hne x (fun z => h z.symm)]
theorem FN_bits {p w rows : Nat} (hp : p ≤ 1000000) (hw : w ≤ 8) (hr : rows ≤ 8) : ∀ t k, k ≤ 9 → FN p w rows t k ≤ 2 ^ (190 * t)
  | 0, k, _ => by
    show (if k = 0 then 1 else 0) ≤ 1
    split <;> omega
  | t + 1, k, hk => by
    show stepN _ _ _ _ _ ≤ _
    have e1 : p ^ k ≤ 2 ^ 180 := by
      have h1 : p ^ k ≤ (2 ^ 20) ^ k := Nat.pow_le_pow_left (by omega) k
      rw [← Nat.pow_mul] at h1
      exact Nat.le_trans h1 (Nat.pow_le_pow_right (by decide) (by omega))
    have e2 : p ^ w ≤ 2 ^ 180 := by
      have h1 : p ^ w ≤ (2 ^ 20) ^ w := Nat.pow_le_pow_left (by omega) w
      rw [← Nat.pow_mul] at h1
      exact Nat.le_trans h1 (Nat.pow_le_pow_right (by decide) (by omega))
    have a1 : FN p w rows t k * p ^ k ≤ 2 ^ (190 * t) * 2 ^ 180 := Nat.mul_le_mul (FN_bits hp hw hr t k hk) e1
    have a2 : FN p w rows t (k - 1) * (p ^ w - p ^ (k - 1)) ≤ 2 ^ (190 * t) * 2 ^ 180 := Nat.mul_le_mul (FN_bits hp hw hr t (k - 1) (by omega)) (Nat.le_trans (Nat.sub_le _ _) e2)
    have e3 : 2 ^ (190 * (t + 1)) = 2 ^ (190 * t) * 2 ^ 180 * 2 ^ 10 := by rw [← Nat.pow_add, ← Nat.pow_add, show 190 * (t + 1) = 190 * t + 180 + 10 by omega]
    have e4 : 2 ^ (190 * t) * 2 ^ 180 * 2 ≤ 2 ^ (190 * t) * 2 ^ 180 * 2 ^ 10 := Nat.mul_le_mul_left _ (by decide)
    rw [e3]
    unfold stepN
    generalize 2 ^ (190 * t) * 2 ^ 180 = M at *
    split <;> split <;> omega
def sp_of_rank (K : PySem.W.Frag) : Sp := fun vs H Q _ => ∃ (p r w k : Nat), vs = [.int (p : Nat), .int (r : Nat), .int (w : Nat), .int (k : Nat)] ∧ p ≤ 1000000 ∧ r ≤ 8 ∧ w ≤ 8 ∧ k ≤ 1000 ∧ ∀ H', Ex H H' → Q (.int (ofRankN p r w k : Nat)) H'
theorem ok_law_of_rank {f : Addr} {fd : FuncData} (F : C8.Def K mg "_law_of_rank" s_law_of_rank f fd) (b : Binds K fd ["p", "rows", "wide", "rank"] []) (T : Txt mg)
    (c_law_power : C8.Cal P w K mg base 1 "_law_power" (sp_power K) []) : C8.Cal P w K mg base 2 "_law_of_rank" (sp_of_rank K) [] := by
  refine C8.cal0 F b .nil sc_law_of_rank (fun vs H Q E h => ?_) (fun cdv A outer s H vs Q E hr h => ?_)
  · obtain ⟨p, r, w, k, rfl, _⟩ := h
    rfl
  · obtain ⟨p, r, wd, k, rfl, hp, hrr, hw, hk, q⟩ := h
    refine ⟨_, (pss_cons (ps_set (i := 4) sc_law_of_rank.nd rfl (Or.inl rfl) (pe_op op_cat (pe_lst (pa_cons pe_int pa_nil)) (pe_op op_rep (pe_lst (pa_cons pe_int pa_nil)) (pe_op op_add (pv 1) pe_int))))
      (pss_cons (ps_for PassesOwn.never rfl (pi_range1 (by rfl) T.b_range (pa_cons (pv 1) pa_nil)) (pg_name (i := 5) sc_law_of_rank.nd rfl (Or.inl rfl) (Or.inr rfl)) (pss_cons (ps_set (i := 6) sc_law_of_rank.nd rfl (Or.inl rfl) (pe_op op_rep (pe_lst (pa_cons pe_int pa_nil)) (pe_op op_add (pv 1) pe_int)))
      (pss_cons (ps_for PassesOwn.never rfl (pi_range1 (by rfl) T.b_range (pa_cons (pe_op op_add (pv 1) pe_int) pa_nil)) (pg_name (i := 7) sc_law_of_rank.nd rfl (Or.inl rfl) (Or.inr rfl)) (pss_cons (ps_par (i := 8) (j := 9) rfl sc_law_of_rank.nd rfl rfl (by decide) rfl rfl (pa_cons (C8.pe_c c_law_power hr (by first | decide | exact Nat.le_refl _) (by rfl) (pa_cons (pv 0) (pa_cons (pv 7) pa_nil))) (pa_cons (C8.pe_c c_law_power hr (by first | decide | exact Nat.le_refl _) (by rfl) (pa_cons (pv 0) (pa_cons (pv 2) pa_nil))) pa_nil)) (by rfl))
      (pss_cons (ps_asg (pe_op op_add (pe_ix (TH.kix_list (K := K)) (pv 6) (pv 7) (fun _ _ => rfl)) (pe_op op_mulW (pe_ix (TH.kix_list (K := K)) (pv 4) (pv 7) (fun _ _ => rfl)) (pv 8))) (pg_sub (pv 6) (pv 7) set_list))
      (pss_one (ps_asg (pe_op op_add (pe_ix (TH.kix_list (K := K)) (pv 6) (pe_op op_add (pv 7) pe_int) (fun _ _ => rfl)) (pe_op op_mulW (pe_ix (TH.kix_list (K := K)) (pv 4) (pv 7) (fun _ _ => rfl)) (pe_callB (call_max2 rfl) (by rfl) T.b_max (by decide +kernel) (pa_cons pe_int (pa_cons (pe_op op_sub (pv 9) (pv 8)) pa_nil))))) (pg_sub (pv 6) (pe_op op_add (pv 7) pe_int) set_list))))))
      (pss_one (ps_set (i := 4) sc_law_of_rank.nd rfl (Or.inl rfl) (pv 6))))))
      (pss_one (ps_ret (pe_ifExp (pt_cmpR op_lt (pv 3) (pe_callB (TH.kcall_len (K := K)) (by rfl) T.b_len (by decide +kernel) (pa_cons (pv 4) pa_nil)) (nomark _)) (pe_ix (TH.kix_list (K := K)) (pv 4) (pv 3) (fun _ _ => rfl)) pe_int))))), ?_⟩
    refine w_start (σ' := [some (.int p), some (.int r), some (.int wd), some (.int k), none, none, none, none, none, none]) rfl ?_
    walk_at "rd"
    refine w_dispT (by simp) fun l1 hl1 => ?_
    walk_at "rd"
    refine w_dispT (by simp) fun l2 hl2 => ?_
    walk_at "rd"
    have hne : l1 ≠ l2 := fun z => by rw [z, upd_same] at hl2; cases hl2
    refine ⟨l2, (r : Int) + 1, _, rfl, rfl, upd_same, by omega, by omega, small2 (by simp; omega), fun l3 hl3 => ?_⟩
    have hn3 : l1 ≠ l3 := fun z => by rw [z, upd_ne (z ▸ hne : l3 ≠ l2), upd_same] at hl3; cases hl3
    refine ⟨l1, l3, [V.int 1], _, rfl, rfl, by rw [upd_ne hn3, upd_ne hne]; exact upd_same, upd_same, small2 (by rw [rep_one]; simp; omega), fun cl hcl => ?_⟩
    have e0 : Ex H (upd (upd (upd (upd H l1 (.lst [V.int 1])) l2 (.lst [V.int 0])) l3 (.lst (List.replicate ((r : Int) + 1).toNat [V.int 0]).flatten)) cl (.lst ([V.int 1] ++ (List.replicate ((r : Int) + 1).toNat [V.int 0]).flatten))) := (Ex.new hl1).trans ((Ex.new hl2).trans ((Ex.new hl3).trans (Ex.new hcl)))
    have ec : [V.int 1] ++ (List.replicate ((r : Int) + 1).toNat [V.int 0]).flatten = lstN (r + 2) (FN p wd r 0) := by
      rw [rep_one, show ((r : Int) + 1).toNat = r + 1 by omega]
      unfold lstN
      rw [show r + 2 = (r + 1) + 1 from rfl, List.range_succ_eq_map, List.map_cons, List.map_map]
      show V.int 1 :: List.replicate (r + 1) (V.int 0) = V.int 1 :: _
      refine congrArg _ ?_
      have : (fun k : Nat => V.int (FN p wd r 0 k : Nat)) ∘ Nat.succ = fun _ => V.int 0 := by
        funext k
        show V.int (((if k + 1 = 0 then 1 else 0 : Nat)) : Int) = V.int 0
        rw [if_neg (by omega)]
        rfl
      rw [this, List.map_const', List.length_range]
    have u0 : upd (upd (upd (upd H l1 (.lst [V.int 1])) l2 (.lst [V.int 0])) l3 (.lst (List.replicate ((r : Int) + 1).toNat [V.int 0]).flatten)) cl (.lst ([V.int 1] ++ (List.replicate ((r : Int) + 1).toNat [V.int 0]).flatten)) cl = some (.lst (lstN (r + 2) (FN p wd r 0))) := by rw [upd_same, ec]
    generalize upd (upd (upd (upd H l1 (.lst [V.int 1])) l2 (.lst [V.int 0])) l3 (.lst (List.replicate ((r : Int) + 1).toNat [V.int 0]).flatten)) cl (.lst ([V.int 1] ++ (List.replicate ((r : Int) + 1).toNat [V.int 0]).flatten)) = H0 at e0 u0 ⊢
    walk_at "rd"
    refine w_isrng (by omega) (by omega) ?_
    refine for_go walk_rng (fun t σ H' => Ex H H' ∧ ∃ (c : Addr) (y5 y6 y7 y8 y9 : Option V), σ = [some (.int p), some (.int r), some (.int wd), some (.int k), some (.ref c), y5, y6, y7, y8, y9] ∧ H' c = some (.lst (lstN (r + 2) (FN p wd r t)))) ⟨e0, _, _, _, _, _, _, rfl, u0⟩ (fun _ _ _ _ _ => trivial) (fun t x σ H1 H1' hi pp y => ?_) (fun σ H1 pp => ?_)
    · obtain ⟨e1, c, y5, y6, y7, y8, y9, rfl, hc⟩ := pp
      obtain ⟨rfl, rfl⟩ := y
      rw [Int.toNat_natCast] at hi
      walk_at "rd"
      refine w_dispT (by simp) fun z1 hz1 => ?_
      walk_at "rd"
      refine ⟨z1, (r : Int) + 2, _, rfl, rfl, upd_same, by omega, by omega, small2 (by simp; omega), fun ll hll => ?_⟩
      have hcl : c ≠ ll := fun z => by rw [← z, upd_ne (fun z2 => by rw [z2] at hc; rw [hc] at hz1; cases hz1), hc] at hll; cases hll
      have e2 : Ex H1' (upd (upd H1' z1 (.lst [V.int 0])) ll (.lst (List.replicate ((r : Int) + 2).toNat [V.int 0]).flatten)) := (Ex.new hz1).trans (Ex.new hll)
      have hll0 : H1' ll = none := (Ex.new hz1).fresh hll
      have u2 : upd (upd H1' z1 (.lst [V.int 0])) ll (.lst (List.replicate ((r : Int) + 2).toNat [V.int 0]).flatten) ll = some (.lst (lstN (r + 2) (stepN (FN p wd r t) p wd 0))) := by
        rw [upd_same, rep_one, show ((r : Int) + 2).toNat = r + 2 by omega]
        unfold lstN
        have : (fun k : Nat => V.int (stepN (FN p wd r t) p wd 0 k : Nat)) = fun _ => V.int 0 := by
          funext k
          unfold stepN
          rw [if_neg (by omega), if_neg (by omega)]
          rfl
        rw [this, List.map_const', List.length_range]
      generalize upd (upd H1' z1 (.lst [V.int 0])) ll (.lst (List.replicate ((r : Int) + 2).toNat [V.int 0]).flatten) = H2 at e2 u2 ⊢
      walk_at "rd"
      refine w_isrng (by omega) (by omega) ?_
      refine for_go walk_rng (fun a σ H' => Ex H1' H' ∧ ∃ (y7 y8 y9 : Option V), σ = [some (.int p), some (.int r), some (.int wd), some (.int k), some (.ref c), some (.int t), some (.ref ll), y7, y8, y9] ∧ H' ll = some (.lst (lstN (r + 2) (stepN (FN p wd r t) p wd a)))) ⟨e2, _, _, _, rfl, u2⟩ (fun _ _ _ _ _ => trivial) (fun a x σ H3 H3' ha pp y => ?_) (fun σ H3 pp => ?_)
      · obtain ⟨e3, y7, y8, y9, rfl, hl⟩ := pp
        obtain ⟨rfl, rfl⟩ := y
        have ha' : a ≤ r := by omega
        have hc3 := e3 _ _ hc
        walk_at "rd"
        refine ⟨p, a, rfl, hp, by omega, ?_⟩
        walk_at "rd"
        refine ⟨p, wd, rfl, hp, by omega, ?_⟩
        walk_at "rd"
        have ep : ∀ n : Nat, ((p : Int) ^ n) = ((p ^ n : Nat) : Int) := fun n => by push_cast; rfl
        rw [ep a, ep wd]
        have fb := FN_bits (p := p) (w := wd) (rows := r) hp hw hrr t a (by omega)
        have b0 : Bits ((FN p wd r t a : Nat) : Int) (190 * t) := by
          unfold Bits
          rw [Int.natAbs_natCast]
          exact fb
        have b1 : Bits ((p ^ a : Nat) : Int) 180 := by rw [← ep]; exact (Bits.pow hp a).mono (by omega)
        have b2 : Bits ((p ^ wd - p ^ a : Nat) : Int) 180 := by
          have : Bits ((p ^ wd : Nat) : Int) 180 := by rw [← ep]; exact (Bits.pow hp wd).mono (by omega)
          unfold Bits at *
          rw [Int.natAbs_natCast] at *
          exact Nat.le_trans (Nat.sub_le _ _) this
        have hbnd : 190 * t + 180 < 1000000 := by omega
        refine w_ixL (sqL hl) (atI_at (lstN_at (by omega))) ?_
        walk_at "rd"
        refine w_ixL (sqL hc3) (atI_at (lstN_at (by omega))) ?_
        walk_at "rd"
        refine w_I (b0.mulW b1 hbnd) ?_
        walk_at "rd"
        refine w_setN hl (by unfold lstN; rw [List.length_map, List.length_range]; omega) ?_
        have s1 : ((stepN (FN p wd r t) p wd a a : Nat) : Int) + ((FN p wd r t a : Nat) : Int) * ((p ^ a : Nat) : Int) = ((stepN (FN p wd r t) p wd a a + FN p wd r t a * p ^ a : Nat) : Int) := by push_cast; rfl
        rw [s1, lstN_set (g := fun k => if k = a then stepN (FN p wd r t) p wd a a + FN p wd r t a * p ^ a else stepN (FN p wd r t) p wd a k) (if_pos rfl) (fun k hk => if_neg hk)]
        have hc4 : upd H3' ll (.lst (lstN (r + 2) fun k => if k = a then stepN (FN p wd r t) p wd a a + FN p wd r t a * p ^ a else stepN (FN p wd r t) p wd a k)) c = some (.lst (lstN (r + 2) (FN p wd r t))) := by rw [upd_ne hcl]; exact hc3
        walk_at "rd"
        have ea : (a : Int) + 1 = ((a + 1 : Nat) : Int) := by omega
        rw [ea]
        refine w_ixL (sqL upd_same) (atI_at (lstN_at (by omega))) ?_
        walk_at "rd"
        refine w_ixL (sqL hc4) (atI_at (lstN_at (by omega))) ?_
        walk_at "rd"
        refine ⟨_, _, rfl, ?_⟩
        have em : (if ((p ^ wd : Nat) : Int) - ((p ^ a : Nat) : Int) > 0 then ((p ^ wd : Nat) : Int) - ((p ^ a : Nat) : Int) else 0) = ((p ^ wd - p ^ a : Nat) : Int) := by
          split <;> omega
        rw [em]
        refine w_I (b0.mulW b2 hbnd) ?_
        walk_at "rd"
        rw [ea]
        refine w_setN upd_same (by unfold lstN; rw [List.length_map, List.length_range]; omega) ?_
        refine ⟨(e3.mut hll0).mut hll0, _, _, _, rfl, ?_⟩
        rw [upd_same]
        have s2 : (((if a + 1 = a then stepN (FN p wd r t) p wd a a + FN p wd r t a * p ^ a else stepN (FN p wd r t) p wd a (a + 1)) : Nat) : Int) + ((FN p wd r t a : Nat) : Int) * ((p ^ wd - p ^ a : Nat) : Int) = ((stepN (FN p wd r t) p wd a (a + 1) + FN p wd r t a * (p ^ wd - p ^ a) : Nat) : Int) := by
          rw [if_neg (by omega)]
          push_cast
          rfl
        rw [s2]
        rw [lstN_set (g := stepN (FN p wd r t) p wd (a + 1)) ?_ (fun k hk => ?_)]
        · show stepN _ _ _ _ _ = _
          unfold stepN
          have c1 : ¬ (a + 1 < a + 1) := by omega
          have c2 : 1 ≤ a + 1 ∧ a + 1 - 1 < a + 1 := by omega
          have c3 : ¬ (a + 1 < a) := by omega
          have c4 : ¬ (1 ≤ a + 1 ∧ a + 1 - 1 < a) := by omega
          rw [if_neg c1, if_pos c2, if_neg c3, if_neg c4]
          simp
        · show stepN _ _ _ _ _ = if k = a then _ else _
          unfold stepN
          by_cases hka : k = a
          · subst hka
            rw [if_pos rfl, if_pos (show k < k + 1 by omega), if_neg (show ¬ k < k by omega)]
            by_cases h1 : 1 ≤ k
            · rw [if_pos (show 1 ≤ k ∧ k - 1 < k + 1 by omega), if_pos (show 1 ≤ k ∧ k - 1 < k by omega)]
              omega
            · rw [if_neg (show ¬ (1 ≤ k ∧ k - 1 < k + 1) by omega), if_neg (show ¬ (1 ≤ k ∧ k - 1 < k) by omega)]
              omega
          · rw [if_neg hka]
            have c1 : (k < a + 1) = (k < a) := propext ⟨fun _ => by omega, fun _ => by omega⟩
            have c2 : (1 ≤ k ∧ k - 1 < a + 1) = (1 ≤ k ∧ k - 1 < a) := propext ⟨fun _ => by omega, fun _ => by omega⟩
            simp only [c1, c2]
      · obtain ⟨e3, y7, y8, y9, rfl, hl⟩ := pp
        walk_at "rd"
        refine ⟨e1.trans e3, _, _, _, _, _, _, rfl, ?_⟩
        have en : ((r : Int) + 1).toNat = r + 1 := by omega
        rw [en] at hl
        exact hl
    · obtain ⟨e1, c, y5, y6, y7, y8, y9, rfl, hc⟩ := pp
      rw [Int.toNat_natCast] at hc
      walk_at "rd"
      refine ⟨c, _, rfl, .inl (sqL hc), ?_⟩
      have el : (lstN (r + 2) (FN p wd r r)).length = r + 2 := by unfold lstN; simp
      rw [el]
      walk_at "rd"
      refine w_dec (fun h => ?_) (fun h => ?_)
      · walk_at "rd"
        have e : ofRankN p r wd k = FN p wd r r k := by
          unfold ofRankN
          rw [if_pos (by omega)]
        rw [e] at q
        exact w_ixL (sqL hc) (atI_at (lstN_at (by omega))) (q _ e1)
      · walk_at "rd"
        have e : ofRankN p r wd k = 0 := by
          unfold ofRankN
          rw [if_neg (by omega)]
        rw [e] at q
        exact q _ e1
end TK

namespace TK
open PySem PySem.Spec PyProof.Rows L2 TH
local macro_rules | `(tactic| walk_at "rd1") => `(tactic| first
  | (with_reducible refine TH.w_seq ?_)
  | (with_reducible refine TH.w_asg ?_)
  | (with_reducible refine TH.w_ret ?_)
  | (with_reducible refine TH.w_drop ?_)
  | (with_reducible refine TH.w_ifS ?_)
  | (with_reducible refine TH.w_next ?_)
  | ((with_reducible refine TH.w_var (v := ?vv) ?hv ?_); (case hv => rfl))
  | (with_reducible refine TH.w_c ?_)
  | ((with_reducible refine TH.w_gname (σ' := ?ss) ?hs ?_); (case hs => (dsimp only [List.set]; rfl)))
  | (with_reducible refine TH.w_op ?_)
  | (with_reducible refine TH.w_un ?_)
  | (with_reducible refine TH.w_chain ?_)
  | (with_reducible refine TH.w_I0 ?_)
  | ((with_reducible refine TH.w_I ?hm ?_); (case hm => first | (exact TH.CMul.l (by omega) (by omega)) | (exact TH.CMul.r (by omega) (by omega)) | (exact TH.CDiv.mk (by omega) (by omega)) | (show (0 : Int) < _; omega) | (exact TH.CPow.mk (by omega) (by omega) (by decide))))
  | (with_reducible refine TH.w_U ?_)
  | (with_reducible refine TH.w_eqI ?_)
  | (with_reducible refine TH.w_neI ?_)
  | (with_reducible refine TH.w_eqB ?_)
  | (with_reducible refine TH.w_isN ?_)
  | (with_reducible refine TH.w_nil ?_)
  | (with_reducible refine TH.w_cons ?_)
  | (with_reducible refine TH.w_test ?_)
  | (with_reducible refine TH.w_B ?_)
  | (with_reducible refine TH.w_bl ?_)
  | (with_reducible refine TH.w_and ?_)
  | (with_reducible refine TH.w_or ?_)
  | (with_reducible refine TH.w_not ?_)
  | (with_reducible refine TH.w_andV ?_)
  | (with_reducible refine TH.w_orV ?_)
  | (with_reducible refine TH.w_notV ?_)
  | (with_reducible refine TH.w_if ?_)
  | (with_reducible refine TH.w_parT ?_)
  | (with_reducible refine TH.w_par ?_)
  | (with_reducible refine TH.w_parT3 ?_)
  | (with_reducible refine TH.w_par3 ?_)
  | (with_reducible refine TH.w_cb ?_)
  | (with_reducible refine TH.w_call ?_)
  | ((with_reducible refine TH.w_aug (v := ?vv) ?hv ?_); (case hv => rfl))
  | (with_reducible refine TH.w_ip ?_)
  | (with_reducible refine TH.w_bm ?_)
  | (with_reducible refine TH.w_sl ?_)
  | (with_reducible refine TH.w_np ?_)
  | (with_reducible refine TH.w_pt ?_)
  | (with_reducible refine TH.w_pti ?_)
  | (with_reducible refine TH.w_gsub ?_)
  | (with_reducible refine TH.w_int ?_)
  | (with_reducible refine TH.w_tupT ?_)
  | (with_reducible refine TH.w_lstT ?_)
  | ((with_reducible show L2.rIxL _ _ _ _ _); (first | (refine TH.w_ixL (TH.sqL upd_same) rfl ?_) | (refine TH.w_ixL (TH.sqL (by assumption)) rfl ?_)))
  | ((with_reducible show L2.rSetL _ _ _ _ _); (first | (refine TH.w_set1 upd_same ?_) | (refine TH.w_set2 upd_same ?_) | (refine TH.w_set3 upd_same ?_) | (refine TH.w_set4 upd_same ?_) | (refine TH.w_set1 (by assumption) ?_) | (refine TH.w_set2 (by assumption) ?_) | (refine TH.w_set3 (by assumption) ?_) | (refine TH.w_set4 (by assumption) ?_)))
  | (with_reducible refine TH.w_lc ?_)
  | (with_reducible refine TH.w_dc ?_)
  | (with_reducible refine TH.w_itup ?_)
  | (with_reducible refine TH.w_ilist ?_)
  | (with_reducible refine TH.w_ienum ?_)
  | (with_reducible refine TH.w_izip ?_)
  | (with_reducible refine TH.w_irng1 ?_)
  | (with_reducible refine TH.w_irng2 ?_)
  | (with_reducible refine TH.w_for ?_)
  | (with_reducible refine TH.w_gcons ?_)
  | (with_reducible refine TH.w_gnil ?_)
  | (with_reducible refine TH.w_yes ?_)
  | (with_reducible refine TH.w_gtup2 upd_same ?_)
  | (with_reducible refine TH.w_gtup3 upd_same ?_)
  | (with_reducible refine TH.w_dput ?_)
  | (with_reducible refine TH.w_bm0 ?_)
  | (with_reducible refine TH.w_din ?_)
  | (with_reducible refine TH.w_dnotin ?_)
  | (with_reducible refine TH.w_dispK ?_)
  | (with_reducible refine TH.w_lock ?_)
  | (with_reducible refine TH.w_ikeys ?_)
  | (with_reducible refine TH.w_iitems ?_)
  | (with_reducible refine TH.w_dispT1 ?_)
  | (with_reducible refine TH.w_dnewT ?_)
  | (with_reducible refine TH.w_dnewK ?_)
  | (with_reducible refine TH.w_fld ?_)
  | (with_reducible refine TH.w_sfld ?_)
  | (with_reducible refine TH.w_meth ?_)
  | (with_reducible refine TH.w_make ?_)
  | (with_reducible refine TH.w_dget2 ?_)
  | (with_reducible refine TH.w_revL ?_)
  | (with_reducible refine TH.w_revT ?_)
  | (with_reducible refine TH.w_lstRg ?_)
  | (with_reducible refine TH.w_tupRg ?_)
  | (with_reducible refine TH.w_rg1 ?_)
  | (with_reducible refine TH.w_rg2 ?_)
  | (with_reducible refine TH.w_T ?_)
  | (with_reducible refine TH.w_F ?_))
local macro_rules | `(tactic| walk_at "rd") => `(tactic| repeat (first | walk_at "rd1" | (dsimp only [List.set, L2.wipe, List.map, TH.isInt, TH.isBool, TH.isTup, TH.isLst, TH.bo_f, TH.bo_t, TH.ba_f, TH.ba_t, TH.bn_t, TH.bn_f, List.append_nil, List.cons_append, List.nil_append])))

variable {P : Program} {w : World} {K : PySem.W.Frag} {mg : Str → Option Value} {base : Heap}
/-! _law_in_all(p, holds, wants, there, back) -/
theorem ofRank_bits {p r w k : Nat} (hp : p ≤ 1000000) (hr : r ≤ 8) (hw : w ≤ 8) : Bits ((ofRankN p r w k : Nat) : Int) 1520 := by
  unfold Bits ofRankN
  rw [Int.natAbs_natCast]
  split
  · exact Nat.le_trans (FN_bits hp hw hr r k (by omega)) (Nat.pow_le_pow_right (by decide) (by omega))
  · exact Nat.zero_le _
def inAllZ (p h0 h1 w0 w1 t b : Nat) : Int := (p : Int) ^ (h0 * w0 + h1 * w1) * (ofRankN p w1 h0 t : Nat) * (ofRankN p w0 h1 b : Nat)
def sp_in_all (K : PySem.W.Frag) : Sp := fun vs H Q _ => ∃ (p : Nat) (hv wv : V) (h0 h1 w0 w1 t b : Nat), vs = [.int (p : Nat), hv, wv, .int (t : Nat), .int (b : Nat)] ∧ p ≤ 1000000 ∧ Dp K H hv (row (nz [h0, h1])) ∧ Dp K H wv (row (nz [w0, w1])) ∧ h0 ≤ 8 ∧ h1 ≤ 8 ∧ w0 ≤ 8 ∧ w1 ≤ 8 ∧ t ≤ 60 ∧ b ≤ 60 ∧
  ∀ H', Ex H H' → Q (.int (inAllZ p h0 h1 w0 w1 t b)) H'
theorem ok_law_in_all {f : Addr} {fd : FuncData} (F : C8.Def K mg "_law_in_all" s_law_in_all f fd) (b : Binds K fd ["p", "holds", "wants", "there", "back"] []) (T : Txt mg)
    (c_law_power : C8.Cal P w K mg base 1 "_law_power" (sp_power K) []) (c_law_of_rank : C8.Cal P w K mg base 2 "_law_of_rank" (sp_of_rank K) []) : C8.Cal P w K mg base 3 "_law_in_all" (sp_in_all K) [] := by
  refine C8.cal0 F b .nil sc_law_in_all (fun vs H Q E h => ?_) (fun cdv A outer s H vs Q E hr h => ?_)
  · obtain ⟨p, hv, wv, h0, h1, w0, w1, t, b, rfl, _⟩ := h
    rfl
  · obtain ⟨p, hv, wv, h0, h1, w0, w1, t, bk, rfl, pm, hhv, hwv, i0, i1, j0, j1, ht, hb, q⟩ := h
    obtain ⟨ha, rfl, hha⟩ := dp_row hhv
    obtain ⟨wa, rfl, hwa⟩ := dp_row hwv
    refine ⟨_, (pss_cons (ps_set (i := 5) sc_law_in_all.nd rfl (Or.inl rfl) (C8.pe_c c_law_power hr (by first | decide | exact Nat.le_refl _) (by rfl) (pa_cons (pv 0) (pa_cons (pe_op op_add (pe_op op_mul (pe_ix (TH.kix_tup (K := K)) (pv 1) pe_int (fun _ _ => rfl)) (pe_ix (TH.kix_tup (K := K)) (pv 2) pe_int (fun _ _ => rfl))) (pe_op op_mul (pe_ix (TH.kix_tup (K := K)) (pv 1) pe_int (fun _ _ => rfl)) (pe_ix (TH.kix_tup (K := K)) (pv 2) pe_int (fun _ _ => rfl)))) pa_nil))))
      (pss_one (ps_ret (pe_op op_mulW (pe_op op_mulW (pv 5) (C8.pe_c c_law_of_rank hr (by first | decide | exact Nat.le_refl _) (by rfl) (pa_cons (pv 0) (pa_cons (pe_ix (TH.kix_tup (K := K)) (pv 2) pe_int (fun _ _ => rfl)) (pa_cons (pe_ix (TH.kix_tup (K := K)) (pv 1) pe_int (fun _ _ => rfl)) (pa_cons (pv 3) pa_nil)))))) (C8.pe_c c_law_of_rank hr (by first | decide | exact Nat.le_refl _) (by rfl) (pa_cons (pv 0) (pa_cons (pe_ix (TH.kix_tup (K := K)) (pv 2) pe_int (fun _ _ => rfl)) (pa_cons (pe_ix (TH.kix_tup (K := K)) (pv 1) pe_int (fun _ _ => rfl)) (pa_cons (pv 4) pa_nil))))))))), ?_⟩
    refine w_start (σ' := [some (.int p), some (.ref ha), some (.ref wa), some (.int t), some (.int bk), none]) rfl ?_
    walk_at "rd"
    refine w_ixT hha (atI_at (j := 0) rfl) ?_
    walk_at "rd"
    refine w_ixT hwa (atI_at (j := 0) rfl) ?_
    walk_at "rd"
    refine w_ixT hha (atI_at (j := 1) rfl) ?_
    walk_at "rd"
    refine w_ixT hwa (atI_at (j := 1) rfl) ?_
    walk_at "rd"
    have n1 := prod8 i0 j0
    have n2 := prod8 i1 j1
    have en : ((h0 : Int) * (w0 : Int) + (h1 : Int) * (w1 : Int)) = ((h0 * w0 + h1 * w1 : Nat) : Int) := by push_cast; rfl
    rw [en]
    refine ⟨p, h0 * w0 + h1 * w1, rfl, by omega, by omega, ?_⟩
    have t3 := Bits.pow (p := p) (by omega) (h0 * w0 + h1 * w1)
    have t1 := ofRank_bits (p := p) (r := w1) (w := h0) (k := t) pm j1 i0
    have t2 := ofRank_bits (p := p) (r := w0) (w := h1) (k := bk) pm j0 i1
    walk_at "rd"
    refine w_ixT hwa (atI_at (j := 1) rfl) ?_
    walk_at "rd"
    refine w_ixT hha (atI_at (j := 0) rfl) ?_
    walk_at "rd"
    refine ⟨p, w1, h0, t, rfl, pm, j1, i0, by omega, fun H4 e4 => ?_⟩
    refine w_I (t3.mulW t1 (by omega)) ?_
    walk_at "rd"
    refine w_ixT (e4.t hwa) (atI_at (j := 0) rfl) ?_
    walk_at "rd"
    refine w_ixT (e4.t hha) (atI_at (j := 1) rfl) ?_
    walk_at "rd"
    refine ⟨p, w0, h1, bk, rfl, pm, j0, i1, by omega, fun H5 e5 => ?_⟩
    refine w_I ((t3.mul t1).mulW t2 (by omega)) ?_
    exact q _ (e4.trans e5)
/-! _law_is(thing, due), two numbers -/
def sp_no : Sp := fun _ _ _ _ => False
theorem ok_law_is_no {f : Addr} {fd : FuncData} (F : C8.Def K mg "_law_is" s_law_is f fd) (b : Binds K fd ["thing", "due"] []) : C8.Cal P w K mg base 1 "_law_is" sp_no [] :=
  C8.cal0 F b .nil sc_law_is (fun vs H Q E h => False.elim h) (fun cdv A outer s H vs Q E hr h => False.elim h)
def sp_isI (K : PySem.W.Frag) : Sp := fun vs H Q _ => ∃ (x y : Int), vs = [.int x, .int y] ∧ ∀ H', Ex H H' → Q (.bl (decide (x = y))) H'
theorem ok_law_isI {f : Addr} {fd : FuncData} (F : C8.Def K mg "_law_is" s_law_is f fd) (b : Binds K fd ["thing", "due"] []) (T : Txt mg)
    (c_law_is : C8.Cal P w K mg base 1 "_law_is" sp_no []) : C8.Cal P w K mg base 2 "_law_is" (sp_isI K) [] := by
  refine C8.cal0 F b .nil sc_law_is (fun vs H Q E h => ?_) (fun cdv A outer s H vs Q E hr h => ?_)
  · obtain ⟨x, y, rfl, _⟩ := h
    rfl
  · obtain ⟨x, y, rfl, q⟩ := h
    refine ⟨_, (pss_cons (ps_if (pt_val (pe_callB (TH.kcall_isiT (K := K)) (by rfl) T.b_isinstance (by decide +kernel) (pa_cons (pv 1) (pa_cons (pe_tup (pa_cons (pe_bltn (v := .ty "tuple") (by rfl) T.b_tuple (by decide +kernel) rfl) (pa_cons (pe_bltn (v := .ty "list") (by rfl) T.b_list (by decide +kernel) rfl) pa_nil))) pa_nil)))) (pss_cons (ps_if (PW.pt (pw_or (pt_cmpR op_ne (pe_callB (TH.kcall_isi (K := K)) (by rfl) T.b_isinstance (by decide +kernel) (pa_cons (pv 0) (pa_cons (pe_bltn (v := .ty "tuple") (by rfl) T.b_tuple (by decide +kernel) rfl) pa_nil))) (pe_callB (TH.kcall_isi (K := K)) (by rfl) T.b_isinstance (by decide +kernel) (pa_cons (pv 1) (pa_cons (pe_bltn (v := .ty "tuple") (by rfl) T.b_tuple (by decide +kernel) rfl) pa_nil))) (nomark _)) (pw_or1 (pt_cmpR op_ne (pe_callB (TH.kcall_isi (K := K)) (by rfl) T.b_isinstance (by decide +kernel) (pa_cons (pv 0) (pa_cons (pe_bltn (v := .ty "list") (by rfl) T.b_list (by decide +kernel) rfl) pa_nil))) (pe_callB (TH.kcall_isi (K := K)) (by rfl) T.b_isinstance (by decide +kernel) (pa_cons (pv 1) (pa_cons (pe_bltn (v := .ty "list") (by rfl) T.b_list (by decide +kernel) rfl) pa_nil))) (nomark _))))) (pss_one (ps_ret pe_bl)) pss_nil)
      (pss_one (ps_ret (pe_and (pe_cmpR op_eq (pe_callB (TH.kcall_len (K := K)) (by rfl) T.b_len (by decide +kernel) (pa_cons (pv 0) pa_nil)) (pe_callB (TH.kcall_len (K := K)) (by rfl) T.b_len (by decide +kernel) (pa_cons (pv 1) pa_nil)) (nomark _)) (pe_one (pe_callB (TH.kcr_all (K := K) rfl) (by rfl) T.b_all (by decide +kernel) (pa_cons (pe_lc (own := [("one", 2), ("other", 3)]) (g := gTup K 2 (gCons (gName 2) (gCons (gName 3) gNil))) (tt := tYes) rfl sc_law_is.nd (TH.kpi_zip (K := K) (by rfl) T.b_zip (pa_cons (pv 0) (pa_cons (pv 1) pa_nil))) (blkOk_by (own := [("one", 2), ("other", 3)]) (N := N_law_is) (sc := C8.fnScope s_law_is) (by decide +kernel)) (fun _ _ _ _ _ => (TH.kpg_tup (K := K) (n := 2) rfl (pgs_cons (pg_name (i := 2) sc_law_is.nd rfl (Or.inl rfl) (Or.inr rfl)) (pgs_cons (pg_name (i := 3) sc_law_is.nd rfl (Or.inl rfl) (Or.inr rfl)) pgs_nil)))) (fun _ _ _ _ _ => pts_nil) (fun _ _ _ _ _ => (C8.pe_c c_law_is hr (by first | decide | exact Nat.le_refl _) (by rfl) (pa_cons (pv 2) (pa_cons (pv 3) pa_nil))))) pa_nil))))))) pss_nil)
      (pss_one (ps_ret (pe_and (pe_cmpR op_eq (pe_callB (TH.kcall_isi (K := K)) (by rfl) T.b_isinstance (by decide +kernel) (pa_cons (pv 0) (pa_cons (pe_bltn (v := .ty "bool") (by rfl) T.b_bool (by decide +kernel) rfl) pa_nil))) (pe_callB (TH.kcall_isi (K := K)) (by rfl) T.b_isinstance (by decide +kernel) (pa_cons (pv 1) (pa_cons (pe_bltn (v := .ty "bool") (by rfl) T.b_bool (by decide +kernel) rfl) pa_nil))) (nomark _)) (pe_one (pe_cmpR op_eq (pv 0) (pv 1) (nomark _))))))), ?_⟩
    refine w_start (σ' := [some (.int x), some (.int y), none, none]) rfl ?_
    walk_at "rd"
    refine w_dispT (by decide) fun p hp => ?_
    walk_at "rd"
    refine w_isTL (.int _) upd_same ?_
    have e1 := Ex.new (o := .tup [.ty "tuple", .ty "list"]) hp
    walk_at "rd"
    refine w_isBool (.int _) ?_
    walk_at "rd"
    refine w_isBool (.int _) ?_
    walk_at "rd"
    refine w_dec (fun _ => ?_) (fun z => absurd rfl z)
    walk_at "rd"
    exact q _ e1
/-! _law_turned(p, value), small clocks -/
def sp_turned (K : PySem.W.Frag) : Sp := fun vs H Q _ => ∃ (p v : Int), vs = [.int p, .int v] ∧ (p = 2 ∨ p = 3) ∧ 1 ≤ v ∧ v < p ∧ ∀ H', Ex H H' → Q (.int v) H'
theorem ok_law_turned {f : Addr} {fd : FuncData} (F : C8.Def K mg "_law_turned" s_law_turned f fd) (b : Binds K fd ["p", "value"] []) (T : Txt mg) : C8.Cal P w K mg base 1 "_law_turned" (sp_turned K) [] := by
  refine C8.cal0 F b .nil sc_law_turned (fun vs H Q E h => ?_) (fun cdv A outer s H vs Q E hr h => ?_)
  · obtain ⟨p, v, rfl, _⟩ := h
    rfl
  · obtain ⟨p, v, rfl, hp, v1, v2, q⟩ := h
    refine ⟨_, (pss_cons (ps_asg (pe_tup (pa_cons (pv 0) (pa_cons (pe_op op_mod (pe_callTy call_int1 (by rfl) T.b_int (by decide +kernel) (pa_cons (pv 1) pa_nil)) (pv 0)) (pa_cons pe_int (pa_cons pe_int pa_nil))))) (TH.kpg_tup (K := K) (n := 4) rfl (pgs_cons (pg_name (i := 2) sc_law_turned.nd rfl (Or.inl rfl) (Or.inr rfl)) (pgs_cons (pg_name (i := 3) sc_law_turned.nd rfl (Or.inl rfl) (Or.inr rfl)) (pgs_cons (pg_name (i := 4) sc_law_turned.nd rfl (Or.inl rfl) (Or.inr rfl)) (pgs_cons (pg_name (i := 5) sc_law_turned.nd rfl (Or.inl rfl) (Or.inr rfl)) pgs_nil))))))
      (pss_cons (ps_while PassesOwn.never (pt_cmpR op_gt (pv 3) pe_int (nomark _)) (pss_cons (ps_set (i := 6) sc_law_turned.nd rfl (Or.inl rfl) (pe_op op_fdiv (pv 2) (pv 3)))
      (pss_one (ps_asg (pe_tup (pa_cons (pv 3) (pa_cons (pe_op op_mod (pe_callTy call_int1 (by rfl) T.b_int (by decide +kernel) (pa_cons (pv 2) pa_nil)) (pv 3)) (pa_cons (pv 5) (pa_cons (pe_op op_mod (pe_callTy call_int1 (by rfl) T.b_int (by decide +kernel) (pa_cons (pe_op op_sub (pv 4) (pe_op op_mul (pv 6) (pv 5))) pa_nil)) (pv 0)) pa_nil))))) (TH.kpg_tup (K := K) (n := 4) rfl (pgs_cons (pg_name (i := 2) sc_law_turned.nd rfl (Or.inl rfl) (Or.inr rfl)) (pgs_cons (pg_name (i := 3) sc_law_turned.nd rfl (Or.inl rfl) (Or.inr rfl)) (pgs_cons (pg_name (i := 4) sc_law_turned.nd rfl (Or.inl rfl) (Or.inr rfl)) (pgs_cons (pg_name (i := 5) sc_law_turned.nd rfl (Or.inl rfl) (Or.inr rfl)) pgs_nil)))))))))
      (pss_one (ps_ret (pv 5))))), ?_⟩
    refine w_start (σ' := [some (.int p), some (.int v), none, none, none, none, none]) rfl ?_
    walk_at "rd"
    have em : v % p = v := Int.emod_eq_of_lt (by omega) v2
    rw [em]
    refine w_dispT (by simp) fun t0 ht0 => ?_
    refine w_gtup (sqT upd_same) rfl ?_
    have e0 : Ex H (upd H t0 (.tup [V.int p, V.int v, V.int 0, V.int 1])) := Ex.new ht0
    generalize upd H t0 (.tup [V.int p, V.int v, V.int 0, V.int 1]) = H0 at e0 ⊢
    walk_at "rd"
    refine ⟨fun m σ H' => Ex H H' ∧ ((m = 0 ∧ ∃ (y2 y4 y6 : Option V), σ = [some (.int p), some (.int v), y2, some (.int 1), y4, some (.int v), y6]) ∨ (m = 1 ∧ p = 3 ∧ v = 2 ∧ ∃ y6 : Option V, σ = [some (.int 3), some (.int 2), some (.int 3), some (.int 2), some (.int 0), some (.int 1), y6])), ?_, fun m σ H' hw => ?_⟩
    · by_cases hv1 : v = 1
      · subst hv1
        exact ⟨0, e0, .inl ⟨rfl, _, _, _, rfl⟩⟩
      · have h3 : p = 3 := by omega
        have h2 : v = 2 := by omega
        subst h3 h2
        exact ⟨1, e0, .inr ⟨rfl, rfl, rfl, _, rfl⟩⟩
    obtain ⟨e, hh⟩ := hw
    rcases hh with ⟨rfl, y2, y4, y6, rfl⟩ | ⟨rfl, rfl, rfl, y6, rfl⟩
    · walk_at "rd"
      refine w_dec (fun h => absurd h (by decide)) (fun _ => ?_)
      walk_at "rd"
      exact q _ e
    · walk_at "rd"
      refine w_dec (fun _ => ?_) (fun h => absurd (show (2 : Int) > 1 by decide) h)
      refine ⟨fun σ' H'' => Ex H H'' ∧ ∃ (y2 y4 y6 : Option V), σ' = [some (.int 3), some (.int 2), y2, some (.int 1), y4, some (.int 2), y6], fun σ' H'' hh => ⟨0, by omega, hh.1, .inl ⟨rfl, hh.2⟩⟩, ?_⟩
      walk_at "rd"
      refine w_dispT (by simp) fun t1 ht1 => ?_
      refine w_gtup (sqT upd_same) rfl ?_
      walk_at "rd"
      exact ⟨e.trans (Ex.new ht1), _, _, _, rfl⟩
/-! _law_without(p, row, head, place) -/
def rowL (r : List Int) : D := .list (r.map .int)
def woZ (p : Int) (r h : List Int) (place : Nat) : List Int := if r.getD place 0 = 0 then r else List.zipWith (fun x y => (x - r.getD place 0 * y) % p) r h
theorem dp_rowL {H : Hp} {v : V} {r : List Int} (h : Dp K H v (rowL r)) : ∃ a, v = .ref a ∧ SqL K H a (r.map V.int) := by
  obtain ⟨a, xs, rfl, h1, h2⟩ := dp_lst h
  rw [dpa_ints_inv h2] at h1
  exact ⟨a, rfl, h1⟩
theorem dp_rowL_of {H : Hp} {a : Addr} {r : List Int} (h : SqL K H a (r.map V.int)) : Dp K H (.ref a) (rowL r) := .lst h (dpa_ints r)
def sp_without (K : PySem.W.Frag) : Sp := fun vs H Q _ => ∃ (p : Int) (v u : V) (r h : List Int) (place : Nat), vs = [.int p, v, u, .int (place : Nat)] ∧ 2 ≤ p ∧ p ≤ 1000000 ∧ Dp K H v (rowL r) ∧ Dp K H u (rowL h) ∧ place < r.length ∧ h.length = r.length ∧ r.length ≤ 1000 ∧ (∀ x ∈ r, 0 ≤ x ∧ x < p) ∧ ∀ x H', Ex H H' → Dp K H' x (rowL (woZ p r h place)) → Q x H'
theorem ok_law_without {f : Addr} {fd : FuncData} (F : C8.Def K mg "_law_without" s_law_without f fd) (b : Binds K fd ["p", "row", "head", "place"] []) (T : Txt mg) : C8.Cal P w K mg base 1 "_law_without" (sp_without K) [] := by
  refine C8.cal0 F b .nil sc_law_without (fun vs H Q E h => ?_) (fun cdv A outer s H vs Q E hr h => ?_)
  · obtain ⟨p, v, u, r, h, place, rfl, _⟩ := h
    rfl
  · obtain ⟨p, v, u, r, h, place, rfl, p2, pm, hv, hu, hpl, hhl, hrl, hin, q⟩ := h
    obtain ⟨ra, rfl, hra⟩ := dp_rowL hv
    obtain ⟨ha, rfl, hha⟩ := dp_rowL hu
    have hg : r[place]? = some (r.getD place 0) := getD_at hpl
    have hgr := hin _ (List.mem_of_getElem? hg)
    refine ⟨_, (pss_cons (ps_if (pt_cmpR op_eq (pe_ix (TH.kix_list (K := K)) (pv 1) (pv 3) (fun _ _ => rfl)) pe_int (nomark _)) (pss_one (ps_ret (pv 1))) pss_nil)
      (pss_one (ps_ret (pe_lc (own := [("one", 4), ("two", 5)]) (g := gTup K 2 (gCons (gName 4) (gCons (gName 5) gNil))) (tt := tYes) rfl sc_law_without.nd (TH.kpi_zip (K := K) (by rfl) T.b_zip (pa_cons (pv 1) (pa_cons (pv 2) pa_nil))) (blkOk_by (own := [("one", 4), ("two", 5)]) (N := N_law_without) (sc := C8.fnScope s_law_without) (by decide +kernel)) (fun _ _ _ _ _ => (TH.kpg_tup (K := K) (n := 2) rfl (pgs_cons (pg_name (i := 4) sc_law_without.nd rfl (Or.inl rfl) (Or.inr rfl)) (pgs_cons (pg_name (i := 5) sc_law_without.nd rfl (Or.inl rfl) (Or.inr rfl)) pgs_nil)))) (fun _ _ _ _ _ => pts_nil) (fun _ _ _ _ _ => (pe_op op_mod (pe_callTy call_int1 (by rfl) T.b_int (by decide +kernel) (pa_cons (pe_op op_sub (pv 4) (pe_op op_mul (pe_ix (TH.kix_list (K := K)) (pv 1) (pv 3) (fun _ _ => rfl)) (pv 5))) pa_nil)) (pv 0))))))), ?_⟩
    refine w_start (σ' := [some (.int p), some (.ref ra), some (.ref ha), some (.int place), none, none]) rfl ?_
    walk_at "rd"
    refine w_ixL hra (atI_int hg) ?_
    walk_at "rd"
    refine w_dec (fun h0 => ?_) (fun h0 => ?_)
    · walk_at "rd"
      refine q _ H (Ex.refl _) ?_
      unfold woZ
      rw [if_pos h0]
      exact hv
    · walk_at "rd"
      refine ⟨ra, ha, _, _, rfl, .inl ⟨hra, hha, fun Dl hD => ?_⟩⟩
      refine lc_data (K := K) (walk_zip (n := r.length) (by simp [hhl])) (fun _ => true) (fun i => .int ((r.getD i 0 - r.getD place 0 * h.getD i 0) % p)) (fun _ => rfl) (fun H' e => ⟨e.l hra, e.l hha⟩) hD (by omega) (fun i x H' H'' hi e y R R0 k _ => ?_) (fun H1 ws e1 hws hda => ?_)
      · obtain ⟨tp, x1, x2, rfl, htp, rfl, k1, k2⟩ := y
        obtain ⟨z1, hz1, rfl⟩ := ints_at k1
        obtain ⟨z2, hz2, rfl⟩ := ints_at k2
        have e2 : Ex H' (upd H' tp (.tup [.int z1, .int z2])) := Ex.new htp
        refine w_gtup2 upd_same ?_
        walk_at "rd"
        refine ⟨rfl, ?_⟩
        walk_at "rd"
        refine w_ixL ((e.trans e2).l hra) (atI_int hg) ?_
        walk_at "rd"
        refine k rfl _ _ e2 ?_
        rw [getD_of hz1, getD_of hz2]
        exact .int _
      · rw [made_all] at hda
        have e5 : (List.range r.length).map (fun i => PyData.int ((r.getD i 0 - r.getD place 0 * h.getD i 0) % p)) = (woZ p r h place).map PyData.int := by
          unfold woZ
          rw [if_neg h0]
          have := range_zip (0 : Int) (0 : Int) (fun x y : Int => PyData.int ((x - r.getD place 0 * y) % p)) r h
          rw [hhl, Nat.min_self] at this
          rw [this, List.map_zipWith]
        rw [e5] at hda
        have e6 := dpa_ints_inv hda
        subst e6
        exact q _ H1 e1 (dp_rowL_of (sqL hws))
end TK

namespace TK
open PySem PySem.Spec PyProof.Rows L2 TH
local macro_rules | `(tactic| walk_at "rd1") => `(tactic| first
  | (with_reducible refine TH.w_seq ?_)
  | (with_reducible refine TH.w_asg ?_)
  | (with_reducible refine TH.w_ret ?_)
  | (with_reducible refine TH.w_drop ?_)
  | (with_reducible refine TH.w_ifS ?_)
  | (with_reducible refine TH.w_next ?_)
  | ((with_reducible refine TH.w_var (v := ?vv) ?hv ?_); (case hv => rfl))
  | (with_reducible refine TH.w_c ?_)
  | ((with_reducible refine TH.w_gname (σ' := ?ss) ?hs ?_); (case hs => (dsimp only [List.set]; rfl)))
  | (with_reducible refine TH.w_op ?_)
  | (with_reducible refine TH.w_un ?_)
  | (with_reducible refine TH.w_chain ?_)
  | (with_reducible refine TH.w_I0 ?_)
  | ((with_reducible refine TH.w_I ?hm ?_); (case hm => first | (exact TH.CMul.l (by omega) (by omega)) | (exact TH.CMul.r (by omega) (by omega)) | (exact TH.CDiv.mk (by omega) (by omega)) | (show (0 : Int) < _; omega) | (exact TH.CPow.mk (by omega) (by omega) (by decide))))
  | (with_reducible refine TH.w_U ?_)
  | (with_reducible refine TH.w_eqI ?_)
  | (with_reducible refine TH.w_neI ?_)
  | (with_reducible refine TH.w_eqB ?_)
  | (with_reducible refine TH.w_isN ?_)
  | (with_reducible refine TH.w_nil ?_)
  | (with_reducible refine TH.w_cons ?_)
  | (with_reducible refine TH.w_test ?_)
  | (with_reducible refine TH.w_B ?_)
  | (with_reducible refine TH.w_bl ?_)
  | (with_reducible refine TH.w_and ?_)
  | (with_reducible refine TH.w_or ?_)
  | (with_reducible refine TH.w_not ?_)
  | (with_reducible refine TH.w_andV ?_)
  | (with_reducible refine TH.w_orV ?_)
  | (with_reducible refine TH.w_notV ?_)
  | (with_reducible refine TH.w_if ?_)
  | (with_reducible refine TH.w_parT ?_)
  | (with_reducible refine TH.w_par ?_)
  | (with_reducible refine TH.w_parT3 ?_)
  | (with_reducible refine TH.w_par3 ?_)
  | (with_reducible refine TH.w_cb ?_)
  | (with_reducible refine TH.w_call ?_)
  | ((with_reducible refine TH.w_aug (v := ?vv) ?hv ?_); (case hv => rfl))
  | (with_reducible refine TH.w_ip ?_)
  | (with_reducible refine TH.w_bm ?_)
  | (with_reducible refine TH.w_sl ?_)
  | (with_reducible refine TH.w_np ?_)
  | (with_reducible refine TH.w_pt ?_)
  | (with_reducible refine TH.w_pti ?_)
  | (with_reducible refine TH.w_gsub ?_)
  | (with_reducible refine TH.w_int ?_)
  | (with_reducible refine TH.w_tupT ?_)
  | (with_reducible refine TH.w_lstT ?_)
  | ((with_reducible show L2.rIxL _ _ _ _ _); (first | (refine TH.w_ixL (TH.sqL upd_same) rfl ?_) | (refine TH.w_ixL (TH.sqL (by assumption)) rfl ?_)))
  | ((with_reducible show L2.rSetL _ _ _ _ _); (first | (refine TH.w_set1 upd_same ?_) | (refine TH.w_set2 upd_same ?_) | (refine TH.w_set3 upd_same ?_) | (refine TH.w_set4 upd_same ?_) | (refine TH.w_set1 (by assumption) ?_) | (refine TH.w_set2 (by assumption) ?_) | (refine TH.w_set3 (by assumption) ?_) | (refine TH.w_set4 (by assumption) ?_)))
  | (with_reducible refine TH.w_lc ?_)
  | (with_reducible refine TH.w_dc ?_)
  | (with_reducible refine TH.w_itup ?_)
  | (with_reducible refine TH.w_ilist ?_)
  | (with_reducible refine TH.w_ienum ?_)
  | (with_reducible refine TH.w_izip ?_)
  | (with_reducible refine TH.w_irng1 ?_)
  | (with_reducible refine TH.w_irng2 ?_)
  | (with_reducible refine TH.w_for ?_)
  | (with_reducible refine TH.w_gcons ?_)
  | (with_reducible refine TH.w_gnil ?_)
  | (with_reducible refine TH.w_yes ?_)
  | (with_reducible refine TH.w_gtup2 upd_same ?_)
  | (with_reducible refine TH.w_gtup3 upd_same ?_)
  | (with_reducible refine TH.w_dput ?_)
  | (with_reducible refine TH.w_bm0 ?_)
  | (with_reducible refine TH.w_din ?_)
  | (with_reducible refine TH.w_dnotin ?_)
  | (with_reducible refine TH.w_dispK ?_)
  | (with_reducible refine TH.w_lock ?_)
  | (with_reducible refine TH.w_ikeys ?_)
  | (with_reducible refine TH.w_iitems ?_)
  | (with_reducible refine TH.w_dispT1 ?_)
  | (with_reducible refine TH.w_dnewT ?_)
  | (with_reducible refine TH.w_dnewK ?_)
  | (with_reducible refine TH.w_fld ?_)
  | (with_reducible refine TH.w_sfld ?_)
  | (with_reducible refine TH.w_meth ?_)
  | (with_reducible refine TH.w_make ?_)
  | (with_reducible refine TH.w_dget2 ?_)
  | (with_reducible refine TH.w_revL ?_)
  | (with_reducible refine TH.w_revT ?_)
  | (with_reducible refine TH.w_lstRg ?_)
  | (with_reducible refine TH.w_tupRg ?_)
  | (with_reducible refine TH.w_rg1 ?_)
  | (with_reducible refine TH.w_rg2 ?_)
  | (with_reducible refine TH.w_T ?_)
  | (with_reducible refine TH.w_F ?_))
local macro_rules | `(tactic| walk_at "rd") => `(tactic| repeat (first | walk_at "rd1" | (dsimp only [List.set, L2.wipe, List.map, TH.isInt, TH.isBool, TH.isTup, TH.isLst, TH.bo_f, TH.bo_t, TH.ba_f, TH.ba_t, TH.bn_t, TH.bn_f, List.append_nil, List.cons_append, List.nil_append])))

variable {P : Program} {w : World} {K : PySem.W.Frag} {mg : Str → Option Value} {base : Heap}
/-! lists of lists of numbers -/
def AllRef (ws : List V) : Prop := ∀ x ∈ ws, ∃ a : Addr, x = .ref a
theorem upd_self {H : Hp} {a : Addr} {o : HO} (h : H a = some o) : upd H a o = H := by
  funext c
  by_cases e : c = a
  · rw [e, upd_same, h]
  · rw [upd_ne e]
theorem rowL_away {H : Hp} {Dl : Addr} {ws : List V} {v : V} {r : List Int} (h : Dp K H v (rowL r)) (hr : r ≠ []) (hD : H Dl = some (.lst ws)) (hw : AllRef ws) (o : HO) : Dp K (upd H Dl o) v (rowL r) := by
  obtain ⟨a, rfl, ha⟩ := dp_rowL h
  refine dp_rowL_of ?_
  rcases ha with (ha | ⟨ob, ha⟩) | ha
  · refine sqL ?_
    rw [upd_ne fun e => ?_]
    · exact ha
    · rw [e, hD] at ha
      injection ha with ha
      injection ha with ha
      cases r with
      | nil => exact hr rfl
      | cons x r =>
        rw [ha, List.map_cons] at hw
        obtain ⟨a', e'⟩ := hw _ List.mem_cons_self
        cases e'
  · refine .inl (.inr ⟨ob, ?_⟩)
    rw [upd_ne fun e => by rw [e, hD] at ha; cases ha]
    exact ha
  · exact .inr ha
theorem dpa_away {H : Hp} {Dl : Addr} {ws : List V} (hD : H Dl = some (.lst ws)) (hw : AllRef ws) (o : HO) : ∀ {rs : List (List Int)} {vs : List V}, (∀ r ∈ rs, r ≠ []) → DpAll K H vs (rs.map rowL) → DpAll K (upd H Dl o) vs (rs.map rowL)
  | [], _, _, h => by cases h; exact .nil
  | r :: rs, _, hr, h => by
    cases h with
    | cons h1 h2 => exact .cons (rowL_away h1 (hr r List.mem_cons_self) hD hw o) (dpa_away hD hw o (fun x hx => hr x (List.mem_cons_of_mem _ hx)) h2)
theorem dpa_refs {H : Hp} : ∀ {rs : List (List Int)} {vs : List V}, DpAll K H vs (rs.map rowL) → AllRef vs
  | [], _, h => by cases h; exact fun x hx => nomatch hx
  | r :: rs, _, h => by
    cases h with
    | cons h1 h2 =>
      intro x hx
      rcases List.mem_cons.mp hx with e | e
      · obtain ⟨a, e2, _⟩ := dp_rowL h1
        exact ⟨a, by rw [e, e2]⟩
      · exact dpa_refs h2 x e
theorem rowsL_at {H : Hp} {vs : List V} {rs : List (List Int)} {i : Nat} {v : V} (h : DpAll K H vs (rs.map rowL)) (hv : vs[i]? = some v) : ∃ r, rs[i]? = some r ∧ Dp K H v (rowL r) := by
  obtain ⟨d, h1, h2⟩ := dpa_get h hv
  rw [List.getElem?_map] at h1
  cases e : rs[i]? with
  | none => rw [e] at h1; cases h1
  | some r => rw [e] at h1; cases h1; exact ⟨r, rfl, h2⟩
def madeR (n : Nat) (keep : Nat → Bool) (g : Nat → List Int) : List (List Int) := ((List.range n).filter keep).map g
theorem madeR_yes {n : Nat} {f : Nat → Bool} {v : Nat → List Int} (h : f n = true) : madeR (n + 1) f v = madeR n f v ++ [v n] := by
  unfold madeR
  rw [List.range_succ, List.filter_append, List.map_append, List.filter_cons, if_pos h] <;> rfl
theorem madeR_no {n : Nat} {f : Nat → Bool} {v : Nat → List Int} (h : f n = false) : madeR (n + 1) f v = madeR n f v := by
  unfold madeR
  rw [List.range_succ, List.filter_append, List.map_append, List.filter_cons, if_neg (by rw [h]; decide)]
  show _ ++ [] = _
  rw [List.append_nil]
theorem madeR_len (n : Nat) (f : Nat → Bool) (v : Nat → List Int) : (madeR n f v).length ≤ n := by
  unfold madeR
  rw [List.length_map]
  have h := List.length_filter_le f (List.range n)
  rw [List.length_range] at h
  exact h
section
variable {J : It} {n : Nat} {G : Hp → Prop} {Y : Nat → Hp → V → Hp → Prop} {g : TG} {tt : TT} {te : TE} {H1 : Hp} {Dl : Addr}
/-- a comprehension that makes a list of lists of numbers -/
theorem lc_rowX {σ0 : L2.St} {C : L2.St → Prop} {Qd : Hp → Prop} (w : Walk J n G Y) (keep : Nat → Bool) (gd : Nat → List Int) (hG : ∀ H', Ex H1 H' → G H') (hD : H1 Dl = none) (hn : n ≤ 1000000)
    (hs : ∀ i x H' H'' ws, i < n → Ex H1 H' → H' Dl = some (.lst ws) → AllRef ws → Y i H' x H'' → ∀ (R : VK) (R0 : Hp → Prop), (keep i = true → ∀ v H3, Ex H' H3 → (∀ o, Dp K (upd H3 Dl o) v (rowL (gd i))) → R v H3) → (keep i = false → ∀ H3, Ex H' H3 → R0 H3) →
      g x σ0 H'' fun σ2 H2 => C σ2 ∧ tt σ2 H2 fun b H3 => if b = true then te σ2 H3 R else R0 H3)
    (k : ∀ H' ws, Ex H1 H' → H' Dl = some (.lst ws) → AllRef ws → DpAll K H' ws ((madeR n keep gd).map rowL) → Qd H') :
    ∃ W : Nat → Nat → Hp → Prop, (∃ m, W 0 m (upd H1 Dl (.lst []))) ∧ ∀ i m H, W i m H →
      (J.stop i H ∧ Qd H) ∨ (J.go i H ∧ ∃ Nx : Hp → Prop, (∀ H', Nx H' → ∃ m', m' < m ∧ W (i + 1) m' H') ∧ ∀ x H', J.yld i H x H' → g x σ0 H' fun σ2 H2 => C σ2 ∧ tt σ2 H2 fun b H3 =>
        if b = true then te σ2 H3 fun y H4 => ∃ acc, H4 Dl = some (.lst acc) ∧ acc.length < sizeLine ∧ Nx (upd H4 Dl (.lst (acc ++ [y]))) else Nx H3) := by
  refine lc_it' w (fun i H' => Ex H1 H' ∧ ∃ ws, H' Dl = some (.lst ws) ∧ AllRef ws ∧ ∀ o, DpAll K (upd H' Dl o) ws ((madeR i keep gd).map rowL)) ⟨Ex.new hD, [], upd_same, (fun x hx => nomatch hx), fun _ => .nil⟩ (fun i H' _ p => hG H' p.1) (fun i x H' H'' hi p y => ?_) (fun H' p => ?_)
  · obtain ⟨p1, ws, p2, p3, p4⟩ := p
    refine hs i x H' H'' ws hi p1 p2 p3 y _ _ (fun hk v H3 e3 hv => ?_) (fun hk H3 e3 => ?_)
    · have q2 : H3 Dl = some (.lst ws) := e3 _ _ p2
      have hl : ws.length = (madeR i keep gd).length := by rw [dpa_len (p4 (.lst [])), List.length_map]
      refine ⟨ws, q2, Nat.lt_of_le_of_lt (by rw [hl]; exact madeR_len i keep gd) (Nat.lt_of_lt_of_le hi (small2 hn)), (p1.trans e3).mut hD, ws ++ [v], upd_same, fun z hz => ?_, fun o => ?_⟩
      · rcases List.mem_append.mp hz with m | m
        · exact p3 z m
        · obtain ⟨a, e, _⟩ := dp_rowL (hv (.lst []))
          rw [List.mem_singleton.mp m]
          exact ⟨a, e⟩
      · rw [upd_upd, madeR_yes hk, List.map_append]
        exact dpa_snoc ((Ex.both e3).dpa (p4 o)) (hv o)
    · refine ⟨p1.trans e3, ws, e3 _ _ p2, p3, fun o => ?_⟩
      rw [madeR_no hk]
      exact (Ex.both e3).dpa (p4 o)
  · obtain ⟨p1, ws, p2, p3, p4⟩ := p
    have := p4 (.lst ws)
    rw [upd_self p2] at this
    exact k H' ws p1 p2 p3 this
end
theorem madeR_filter (p : List Int → Bool) (f : List Int → List Int) : ∀ xs : List (List Int), madeR xs.length (fun i => p (xs.getD i [])) (fun i => f (xs.getD i [])) = (xs.filter p).map f := fun xs => by
  unfold madeR
  have h1 : ((List.range xs.length).map fun i => xs.getD i []) = xs := by
    have := range_map [] (fun x : List Int => x) xs
    rwa [List.map_id'] at this
  have h2 : xs.filter p = (((List.range xs.length).filter fun i => p (xs.getD i [])).map fun i => xs.getD i []) := by
    conv => lhs; rw [← h1]
    rw [List.filter_map]
    rfl
  rw [h2, List.map_map]
  rfl
theorem madeR_all (n : Nat) (v : Nat → List Int) : madeR n (fun _ => true) v = (List.range n).map v := by
  unfold madeR
  rw [List.filter_eq_self.mpr (fun _ _ => rfl)]
/-! equal lists of numbers -/
theorem eqvAll_ints : ∀ a b : List Int, PyData.eqvAll (a.map .int) (b.map .int) = decide (a = b)
  | [], [] => by simp [PyData.eqvAll]
  | [], _ :: _ => by simp [PyData.eqvAll]
  | _ :: _, [] => by simp [PyData.eqvAll]
  | x :: a, y :: b => by
    have ih := eqvAll_ints a b
    have e : PyData.eqvAll (PyData.int x :: a.map .int) (PyData.int y :: b.map .int) = (PyData.eqv (.int x) (.int y) && PyData.eqvAll (a.map .int) (b.map .int)) := by simp [PyData.eqvAll]
    rw [List.map_cons, List.map_cons, e, ih]
    have e2 : PyData.eqv (.int x) (.int y) = decide (x = y) := by
      simp [PyData.eqv]
      try rfl
    rw [e2]
    by_cases h : x = y
    · subst h
      simp
    · simp [h]
theorem eqv_rowL (a b : List Int) : PyData.eqv (rowL a) (rowL b) = decide (a = b) := by
  have e : PyData.eqv (rowL a) (rowL b) = PyData.eqvAll (a.map .int) (b.map .int) := by
    unfold rowL
    simp [PyData.eqv]
  rw [e, eqvAll_ints]
theorem plain_ints : ∀ a : List Int, PyData.plainAll (a.map .int) = true
  | [] => rfl
  | x :: a => by
    show (true && PyData.plainAll (a.map .int)) = true
    rw [plain_ints a]
    rfl
theorem plain_rowsL : ∀ rs : List (List Int), PyData.plainAll (rs.map rowL) = true
  | [] => rfl
  | r :: rs => by
    show (PyData.plainAll (r.map .int) && PyData.plainAll (rs.map rowL)) = true
    rw [plain_ints, plain_rowsL rs]
    rfl
/-! _law_ladder(p, rows), small clocks -/
def nzAt (place : Nat) (r : List Int) : Bool := decide (r.getD place 0 ≠ 0)
def headZ (p : Int) (place : Nat) (r : List Int) : List Int := r.map fun v => (r.getD place 0 * v) % p
def stepL (p : Int) (place : Nat) (st : List (List Int) × List (List Int)) : List (List Int) × List (List Int) := match st.1.findIdx? (nzAt place) with
  | none => st
  | some j => ((st.1.eraseIdx j).map fun r => woZ p r (headZ p place (st.1.getD j [])) place, st.2.map (fun r => woZ p r (headZ p place (st.1.getD j [])) place) ++ [headZ p place (st.1.getD j [])])
def ladSt (p : Int) (rs : List (List Int)) : Nat → List (List Int) × List (List Int)
  | 0 => (rs, [])
  | i + 1 => stepL p i (ladSt p rs i)
def wideOf (rs : List (List Int)) : Nat := (rs.getD 0 []).length
def ladZ (p : Int) (rs : List (List Int)) : List (List Int) := (ladSt p rs (wideOf rs)).2
def LRow (p : Int) (wide : Nat) (r : List Int) : Prop := r.length = wide ∧ ∀ x ∈ r, 0 ≤ x ∧ x < p
theorem headZ_row {p : Int} {wide place : Nat} {r : List Int} (hp : 0 < p) (h : LRow p wide r) : LRow p wide (headZ p place r) := ⟨by simp [headZ, h.1], fun x hx => by
  obtain ⟨v, _, rfl⟩ := List.mem_map.mp hx
  exact ⟨Int.emod_nonneg _ (by omega), Int.emod_lt_of_pos _ hp⟩⟩
theorem woZ_row {p : Int} {wide place : Nat} {r h : List Int} (hp : 0 < p) (hr : LRow p wide r) (hh : LRow p wide h) : LRow p wide (woZ p r h place) := by
  unfold woZ
  split
  · exact hr
  · refine ⟨by rw [List.length_zipWith, hr.1, hh.1, Nat.min_self], fun x hx => ?_⟩
    obtain ⟨i, hi⟩ := List.mem_iff_getElem?.mp hx
    rw [List.getElem?_zipWith] at hi
    split at hi
    · cases hi
      exact ⟨Int.emod_nonneg _ (by omega), Int.emod_lt_of_pos _ hp⟩
    · cases hi
theorem step_rows {p : Int} {wide place : Nat} {st : List (List Int) × List (List Int)} (hp : 0 < p) (h1 : ∀ r ∈ st.1, LRow p wide r) (h2 : ∀ r ∈ st.2, LRow p wide r) : (∀ r ∈ (stepL p place st).1, LRow p wide r) ∧ ∀ r ∈ (stepL p place st).2, LRow p wide r := by
  unfold stepL
  cases e : st.1.findIdx? (nzAt place) with
  | none => exact ⟨h1, h2⟩
  | some j =>
    have hj : j < st.1.length := (List.findIdx?_eq_some_iff_findIdx_eq.mp e).1
    have hh : LRow p wide (headZ p place (st.1.getD j [])) := headZ_row hp (h1 _ (List.mem_of_getElem? (getD_at hj)))
    refine ⟨fun r hr => ?_, fun r hr => ?_⟩
    · obtain ⟨r0, hr0, rfl⟩ := List.mem_map.mp hr
      exact woZ_row hp (h1 r0 (List.mem_of_mem_eraseIdx hr0)) hh
    · rcases List.mem_append.mp hr with m | m
      · obtain ⟨r0, hr0, rfl⟩ := List.mem_map.mp m
        exact woZ_row hp (h2 r0 hr0) hh
      · rw [List.mem_singleton.mp m]
        exact hh
theorem step_len {p : Int} {place : Nat} {st : List (List Int) × List (List Int)} : (stepL p place st).1.length + (stepL p place st).2.length = st.1.length + st.2.length := by
  unfold stepL
  cases e : st.1.findIdx? (nzAt place) with
  | none => rfl
  | some j =>
    have hj : j < st.1.length := (List.findIdx?_eq_some_iff_findIdx_eq.mp e).1
    simp only [List.length_map, List.length_append, List.length_singleton, List.length_eraseIdx_of_lt hj]
    omega
theorem lad_rows {p : Int} {wide : Nat} {rs : List (List Int)} (hp : 0 < p) (h : ∀ r ∈ rs, LRow p wide r) : ∀ i, (∀ r ∈ (ladSt p rs i).1, LRow p wide r) ∧ ∀ r ∈ (ladSt p rs i).2, LRow p wide r
  | 0 => ⟨h, fun r hr => nomatch hr⟩
  | i + 1 => step_rows hp (lad_rows hp h i).1 (lad_rows hp h i).2
theorem lad_len {p : Int} {rs : List (List Int)} : ∀ i, (ladSt p rs i).1.length + (ladSt p rs i).2.length = rs.length
  | 0 => by simp [ladSt]
  | i + 1 => step_len.trans (lad_len i)
/-- the first that is left over by a test, in the list -/
theorem filter_head {α : Type} (p : α → Bool) : ∀ {xs : List α} {j : Nat}, xs.findIdx? p = some j → ∃ x, xs[j]? = some x ∧ p x = true ∧ (xs.filter p)[0]? = some x
  | [], j, h => by simp at h
  | x :: xs, j, h => by
    rw [List.findIdx?_cons] at h
    by_cases hp : p x = true
    · rw [if_pos hp] at h
      cases h
      exact ⟨x, rfl, hp, by rw [List.filter_cons, if_pos hp]; rfl⟩
    · rw [if_neg hp] at h
      cases e : xs.findIdx? p with
      | none => rw [e] at h; simp at h
      | some i =>
        rw [e] at h
        simp at h
        obtain ⟨y, h1, h2, h3⟩ := filter_head p e
        refine ⟨y, by rw [← h]; simpa using h1, h2, by rw [List.filter_cons, if_neg hp]; exact h3⟩
theorem filter_none {α : Type} (p : α → Bool) : ∀ {xs : List α}, xs.findIdx? p = none → xs.filter p = []
  | [], _ => rfl
  | x :: xs, h => by
    rw [List.findIdx?_cons] at h
    by_cases hp : p x = true
    · rw [if_pos hp] at h
      cases h
    · rw [if_neg hp] at h
      rw [List.filter_cons, if_neg hp]
      refine filter_none p ?_
      cases e : xs.findIdx? p with
      | none => rfl
      | some i => rw [e] at h; simp at h
/-- the first equal one is the first one that passes -/
theorem find_eq {place : Nat} : ∀ {rs : List (List Int)} {j : Nat} {r : List Int}, rs.findIdx? (nzAt place) = some j → rs[j]? = some r → ((rs.map rowL).findIdx? fun z => PyData.eqv z (rowL r)) = some j
  | [], j, r, h, _ => by simp at h
  | x :: rs, j, r, h, hj => by
    rw [List.findIdx?_cons] at h
    rw [List.map_cons, List.findIdx?_cons, eqv_rowL]
    by_cases hp : nzAt place x = true
    · rw [if_pos hp] at h
      cases h
      have : x = r := Option.some.inj hj
      rw [if_pos (decide_eq_true this)]
    · rw [if_neg hp] at h
      cases e : rs.findIdx? (nzAt place) with
      | none => rw [e] at h; simp at h
      | some i =>
        rw [e] at h
        simp at h
        subst h
        have hr : rs[i]? = some r := by simpa using hj
        obtain ⟨y, h1, h2, _⟩ := filter_head _ e
        rw [hr] at h1
        cases h1
        have hne : ¬ x = r := fun z => hp (z ▸ h2)
        rw [if_neg (by rw [decide_eq_false hne]; exact Bool.false_ne_true), find_eq e hr]
        rfl
theorem dpa_eraseL {H : Hp} {vs : List V} {rs : List (List Int)} (j : Nat) (h : DpAll K H vs (rs.map rowL)) : DpAll K H (vs.eraseIdx j) ((rs.eraseIdx j).map rowL) := by
  rw [erase_map]
  exact dpa_erase j h
end TK

namespace TK
open PySem PySem.Spec PyProof.Rows L2 TH
local macro_rules | `(tactic| walk_at "rd1") => `(tactic| first
  | (with_reducible refine TH.w_seq ?_)
  | (with_reducible refine TH.w_asg ?_)
  | (with_reducible refine TH.w_ret ?_)
  | (with_reducible refine TH.w_drop ?_)
  | (with_reducible refine TH.w_ifS ?_)
  | (with_reducible refine TH.w_next ?_)
  | ((with_reducible refine TH.w_var (v := ?vv) ?hv ?_); (case hv => rfl))
  | (with_reducible refine TH.w_c ?_)
  | ((with_reducible refine TH.w_gname (σ' := ?ss) ?hs ?_); (case hs => (dsimp only [List.set]; rfl)))
  | (with_reducible refine TH.w_op ?_)
  | (with_reducible refine TH.w_un ?_)
  | (with_reducible refine TH.w_chain ?_)
  | (with_reducible refine TH.w_I0 ?_)
  | ((with_reducible refine TH.w_I ?hm ?_); (case hm => first | (exact TH.CMul.l (by omega) (by omega)) | (exact TH.CMul.r (by omega) (by omega)) | (exact TH.CDiv.mk (by omega) (by omega)) | (show (0 : Int) < _; omega) | (exact TH.CPow.mk (by omega) (by omega) (by decide))))
  | (with_reducible refine TH.w_U ?_)
  | (with_reducible refine TH.w_eqI ?_)
  | (with_reducible refine TH.w_neI ?_)
  | (with_reducible refine TH.w_eqB ?_)
  | (with_reducible refine TH.w_isN ?_)
  | (with_reducible refine TH.w_nil ?_)
  | (with_reducible refine TH.w_cons ?_)
  | (with_reducible refine TH.w_test ?_)
  | (with_reducible refine TH.w_B ?_)
  | (with_reducible refine TH.w_bl ?_)
  | (with_reducible refine TH.w_and ?_)
  | (with_reducible refine TH.w_or ?_)
  | (with_reducible refine TH.w_not ?_)
  | (with_reducible refine TH.w_andV ?_)
  | (with_reducible refine TH.w_orV ?_)
  | (with_reducible refine TH.w_notV ?_)
  | (with_reducible refine TH.w_if ?_)
  | (with_reducible refine TH.w_parT ?_)
  | (with_reducible refine TH.w_par ?_)
  | (with_reducible refine TH.w_parT3 ?_)
  | (with_reducible refine TH.w_par3 ?_)
  | (with_reducible refine TH.w_cb ?_)
  | (with_reducible refine TH.w_call ?_)
  | ((with_reducible refine TH.w_aug (v := ?vv) ?hv ?_); (case hv => rfl))
  | (with_reducible refine TH.w_ip ?_)
  | (with_reducible refine TH.w_bm ?_)
  | (with_reducible refine TH.w_sl ?_)
  | (with_reducible refine TH.w_np ?_)
  | (with_reducible refine TH.w_pt ?_)
  | (with_reducible refine TH.w_pti ?_)
  | (with_reducible refine TH.w_gsub ?_)
  | (with_reducible refine TH.w_int ?_)
  | (with_reducible refine TH.w_tupT ?_)
  | (with_reducible refine TH.w_lstT ?_)
  | ((with_reducible show L2.rIxL _ _ _ _ _); (first | (refine TH.w_ixL (TH.sqL upd_same) rfl ?_) | (refine TH.w_ixL (TH.sqL (by assumption)) rfl ?_)))
  | ((with_reducible show L2.rSetL _ _ _ _ _); (first | (refine TH.w_set1 upd_same ?_) | (refine TH.w_set2 upd_same ?_) | (refine TH.w_set3 upd_same ?_) | (refine TH.w_set4 upd_same ?_) | (refine TH.w_set1 (by assumption) ?_) | (refine TH.w_set2 (by assumption) ?_) | (refine TH.w_set3 (by assumption) ?_) | (refine TH.w_set4 (by assumption) ?_)))
  | (with_reducible refine TH.w_lc ?_)
  | (with_reducible refine TH.w_dc ?_)
  | (with_reducible refine TH.w_itup ?_)
  | (with_reducible refine TH.w_ilist ?_)
  | (with_reducible refine TH.w_ienum ?_)
  | (with_reducible refine TH.w_izip ?_)
  | (with_reducible refine TH.w_irng1 ?_)
  | (with_reducible refine TH.w_irng2 ?_)
  | (with_reducible refine TH.w_for ?_)
  | (with_reducible refine TH.w_gcons ?_)
  | (with_reducible refine TH.w_gnil ?_)
  | (with_reducible refine TH.w_yes ?_)
  | (with_reducible refine TH.w_gtup2 upd_same ?_)
  | (with_reducible refine TH.w_gtup3 upd_same ?_)
  | (with_reducible refine TH.w_dput ?_)
  | (with_reducible refine TH.w_bm0 ?_)
  | (with_reducible refine TH.w_din ?_)
  | (with_reducible refine TH.w_dnotin ?_)
  | (with_reducible refine TH.w_dispK ?_)
  | (with_reducible refine TH.w_lock ?_)
  | (with_reducible refine TH.w_ikeys ?_)
  | (with_reducible refine TH.w_iitems ?_)
  | (with_reducible refine TH.w_dispT1 ?_)
  | (with_reducible refine TH.w_dnewT ?_)
  | (with_reducible refine TH.w_dnewK ?_)
  | (with_reducible refine TH.w_fld ?_)
  | (with_reducible refine TH.w_sfld ?_)
  | (with_reducible refine TH.w_meth ?_)
  | (with_reducible refine TH.w_make ?_)
  | (with_reducible refine TH.w_dget2 ?_)
  | (with_reducible refine TH.w_revL ?_)
  | (with_reducible refine TH.w_revT ?_)
  | (with_reducible refine TH.w_lstRg ?_)
  | (with_reducible refine TH.w_tupRg ?_)
  | (with_reducible refine TH.w_rg1 ?_)
  | (with_reducible refine TH.w_rg2 ?_)
  | (with_reducible refine TH.w_T ?_)
  | (with_reducible refine TH.w_F ?_))
local macro_rules | `(tactic| walk_at "rd") => `(tactic| repeat (first | walk_at "rd1" | (dsimp only [List.set, L2.wipe, List.map, TH.isInt, TH.isBool, TH.isTup, TH.isLst, TH.bo_f, TH.bo_t, TH.ba_f, TH.ba_t, TH.bn_t, TH.bn_f, List.append_nil, List.cons_append, List.nil_append])))

variable {P : Program} {w : World} {K : PySem.W.Frag} {mg : Str → Option Value} {base : Heap}
theorem rowsAt_get {H : Hp} {vs : List V} {rs : List (List Int)} {i : Nat} {v : V} (h : DpAll K H vs (rs.map row)) (hv : vs[i]? = some v) : ∃ r, rs[i]? = some r ∧ Dp K H v (row r) := by
  obtain ⟨d, h1, h2⟩ := dpa_get h hv
  rw [List.getElem?_map] at h1
  cases e : rs[i]? with
  | none => rw [e] at h1; cases h1
  | some r => rw [e] at h1; cases h1; exact ⟨r, rfl, h2⟩
/-! _law_ladder(p, rows), the walk -/
def sp_ladder (K : PySem.W.Frag) : Sp := fun vs H Q _ => ∃ (p : Int) (a : Addr) (xs : List V) (rs : List (List Int)) (wide : Nat), vs = [.int p, .ref a] ∧ (p = 2 ∨ p = 3) ∧ SqL K H a xs ∧ DpAll K H xs (rs.map row) ∧ (∀ r ∈ rs, LRow p wide r) ∧ rs.length ≤ 100 ∧ wide ≤ 100 ∧
  ∀ u H', Ex H H' → Dp K H' u (rowsT (ladZ p rs)) → Q u H'
theorem ok_law_ladder {f : Addr} {fd : FuncData} (F : C8.Def K mg "_law_ladder" s_law_ladder f fd) (b : Binds K fd ["p", "rows"] []) (T : Txt mg)
    (c_law_turned : C8.Cal P w K mg base 1 "_law_turned" (sp_turned K) []) (c_law_without : C8.Cal P w K mg base 1 "_law_without" (sp_without K) []) : C8.Cal P w K mg base 2 "_law_ladder" (sp_ladder K) [] := by
  refine C8.cal0 F b .nil sc_law_ladder (fun vs H Q E h => ?_) (fun cdv A outer s H vs Q E hr h => ?_)
  · obtain ⟨p, a, xs, rs, wide, rfl, _⟩ := h
    rfl
  · obtain ⟨p, a, xs, rs, wide, rfl, hp, ha, hda, hrs, hrl, hwl, q⟩ := h
    have hu64 := hu64_of hr
    have p0 : 0 < p := by omega
    have hxl : xs.length = rs.length := by rw [dpa_len hda, List.length_map]
    refine ⟨_, (pss_cons (ps_par (i := 4) (j := 5) rfl sc_law_ladder.nd rfl rfl (by decide) rfl rfl (pa_cons (pe_lc (own := [("row", 9)]) (g := gName 9) (tt := tYes) rfl sc_law_ladder.nd (TH.kpi_list (K := K) (pv 1)) (blkOk_by (own := [("row", 9)]) (N := N_law_ladder) (sc := C8.fnScope s_law_ladder) (by decide +kernel)) (fun _ _ _ _ _ => (pg_name (i := 9) sc_law_ladder.nd rfl (Or.inl rfl) (Or.inr rfl))) (fun _ _ _ _ _ => pts_nil) (fun _ _ _ _ _ => (pe_callTy (TH.kcall_list (K := K)) (by rfl) T.b_list (by decide +kernel) (pa_cons (pv 9) pa_nil)))) (pa_cons (pe_lst pa_nil) pa_nil)) (by rfl))
      (C8.pss_cut (ps_set (i := 2) sc_law_ladder.nd rfl (Or.inl rfl) (pe_ifExp (pt_cmpR op_gt (pe_callB (TH.kcall_len (K := K)) (by rfl) T.b_len (by decide +kernel) (pa_cons (pv 4) pa_nil)) pe_int (nomark _)) (pe_callB (TH.kcall_len (K := K)) (by rfl) T.b_len (by decide +kernel) (pa_cons (pe_ix (TH.kix_list (K := K)) (pv 4) pe_int (fun _ _ => rfl)) pa_nil)) pe_int))
      (pss_cons (ps_for PassesOwn.never rfl (pi_range1 (by rfl) T.b_range (pa_cons (pv 2) pa_nil)) (pg_name (i := 3) sc_law_ladder.nd rfl (Or.inr rfl) (Or.inl rfl)) (pss_cons (ps_setLc (i := 6) (own := [("row", 9)]) (g := gName 9) rfl sc_law_ladder.nd rfl rfl (sw_true rfl rfl rfl (by decide +kernel)) (TH.kpi_list (K := K) (pv 4)) (blkOk_by (own := [("row", 9)]) (N := N_law_ladder) (sc := C8.fnScope s_law_ladder) (by decide +kernel)) (fun _ _ _ _ _ => (pg_name (i := 9) sc_law_ladder.nd rfl (Or.inl rfl) (Or.inr rfl))) (fun _ _ _ _ _ => (pts_one (pt_cmpR op_ne (pe_ix (TH.kix_list (K := K)) (pv 9) (pv 3) (fun _ _ => rfl)) pe_int (nomark _)))) (fun _ _ _ _ _ => (pv 9)))
      (pss_one (ps_if (pt_cmpR op_gt (pe_callB (TH.kcall_len (K := K)) (by rfl) T.b_len (by decide +kernel) (pa_cons (pv 6) pa_nil)) pe_int (nomark _)) (pss_cons (ps_expr (TH.kpe_bm (K := K) PySem.F.plainAttrs_list PySem.F.slot_list_remove PySem.F.type_list_remove (TH.mt_removeD (K := K) hu64) (pv 4) (pa_cons (pe_ix (TH.kix_list (K := K)) (pv 6) pe_int (fun _ _ => rfl)) pa_nil)))
      (pss_cons (ps_set (i := 7) sc_law_ladder.nd rfl (Or.inr rfl) (C8.pe_c c_law_turned hr (by first | decide | exact Nat.le_refl _) (by rfl) (pa_cons (pv 0) (pa_cons (pe_ix (TH.kix_list (K := K)) (pe_ix (TH.kix_list (K := K)) (pv 6) pe_int (fun _ _ => rfl)) (pv 3) (fun _ _ => rfl)) pa_nil))))
      (pss_cons (ps_set (i := 8) sc_law_ladder.nd rfl (Or.inr rfl) (pe_lc (own := [("value", 10)]) (g := gName 10) (tt := tYes) rfl sc_law_ladder.nd (TH.kpi_list (K := K) (pe_ix (TH.kix_list (K := K)) (pv 6) pe_int (fun _ _ => rfl))) (blkOk_by (own := [("value", 10)]) (N := N_law_ladder) (sc := C8.fnScope s_law_ladder) (by decide +kernel)) (fun _ _ _ _ _ => (pg_name (i := 10) sc_law_ladder.nd rfl (Or.inl rfl) (Or.inr rfl))) (fun _ _ _ _ _ => pts_nil) (fun _ _ _ _ _ => (pe_op op_mod (pe_callTy call_int1 (by rfl) T.b_int (by decide +kernel) (pa_cons (pe_op op_mul (pv 7) (pv 10)) pa_nil)) (pv 0)))))
      (pss_cons (ps_setLc (i := 4) (own := [("row", 9)]) (g := gName 9) (tt := tYes) rfl sc_law_ladder.nd rfl rfl (sw_true rfl rfl rfl (by decide +kernel)) (TH.kpi_list (K := K) (pv 4)) (blkOk_by (own := [("row", 9)]) (N := N_law_ladder) (sc := C8.fnScope s_law_ladder) (by decide +kernel)) (fun _ _ _ _ _ => (pg_name (i := 9) sc_law_ladder.nd rfl (Or.inl rfl) (Or.inr rfl))) (fun _ _ _ _ _ => pts_nil) (fun _ _ _ _ _ => (C8.pe_c c_law_without hr (by first | decide | exact Nat.le_refl _) (by rfl) (pa_cons (pv 0) (pa_cons (pv 9) (pa_cons (pv 8) (pa_cons (pv 3) pa_nil)))))))
      (pss_one (ps_set (i := 5) sc_law_ladder.nd rfl (Or.inl rfl) (pe_op op_cat (pe_lc (own := [("row", 9)]) (g := gName 9) (tt := tYes) rfl sc_law_ladder.nd (TH.kpi_list (K := K) (pv 5)) (blkOk_by (own := [("row", 9)]) (N := N_law_ladder) (sc := C8.fnScope s_law_ladder) (by decide +kernel)) (fun _ _ _ _ _ => (pg_name (i := 9) sc_law_ladder.nd rfl (Or.inl rfl) (Or.inr rfl))) (fun _ _ _ _ _ => pts_nil) (fun _ _ _ _ _ => (C8.pe_c c_law_without hr (by first | decide | exact Nat.le_refl _) (by rfl) (pa_cons (pv 0) (pa_cons (pv 9) (pa_cons (pv 8) (pa_cons (pv 3) pa_nil))))))) (pe_lst (pa_cons (pv 8) pa_nil))))))))) pss_nil))))
      (pss_one (ps_ret (pe_callTy (TH.kcall_tuple (K := K)) (by rfl) T.b_tuple (by decide +kernel) (pa_cons (pe_lc (own := [("row", 9)]) (g := gName 9) (tt := tYes) rfl sc_law_ladder.nd (TH.kpi_list (K := K) (pv 5)) (blkOk_by (own := [("row", 9)]) (N := N_law_ladder) (sc := C8.fnScope s_law_ladder) (by decide +kernel)) (fun _ _ _ _ _ => (pg_name (i := 9) sc_law_ladder.nd rfl (Or.inl rfl) (Or.inr rfl))) (fun _ _ _ _ _ => pts_nil) (fun _ _ _ _ _ => (pe_callTy (TH.kcall_tuple (K := K)) (by rfl) T.b_tuple (by decide +kernel) (pa_cons (pv 9) pa_nil)))) pa_nil))))))), ?_⟩
    refine w_start (σ' := [some (.int p), some (.ref a), none, none, none, none, none, none, none, none, none]) rfl ?_
    walk_at "rd"
    refine ⟨a, rfl, ⟨_, ha⟩, fun Dl hD => ?_⟩
    refine lc_rowX (K := K) walk_list (fun _ => true) (fun i => rs.getD i []) (fun H' e => e.l ha) hD (by omega) (fun i x H' H'' ws hi e hDl hrf y R R0 k _ => ?_) (fun H1 lv e1 hl hrf hdl => ?_)
    · obtain ⟨rfl, hx⟩ := y
      obtain ⟨r, hr1, hr2⟩ := rowsAt_get (e.dpa hda) hx
      obtain ⟨ra, rfl, hra⟩ := dp_row hr2
      walk_at "rd"
      refine ⟨rfl, ?_⟩
      walk_at "rd"
      refine ⟨ra, _, rfl, .inr hra, fun l hl => ?_⟩
      refine k rfl _ _ (Ex.new hl) fun o => ?_
      rw [getD_of hr1]
      refine dp_rowL_of (sqL ?_)
      rw [upd_ne (fun z => by rw [z, hDl] at hl; cases hl)]
      exact upd_same
    rw [madeR_all, hxl] at hdl
    have eid : (List.range rs.length).map (fun i => rs.getD i []) = rs := by
      have := range_map [] (fun x : List Int => x) rs
      rwa [List.map_id'] at this
    rw [eid] at hdl
    walk_at "rd"
    refine w_dispT (by simp) fun ml hml => ?_
    have hD1 : H Dl = none := hD
    have hml0 := e1.fresh hml
    have hne : Dl ≠ ml := fun z => by rw [z] at hl; rw [hl] at hml; cases hml
    have e2 : Ex H (upd H1 ml (.lst [])) := e1.trans (Ex.new hml)
    have l2 : upd H1 ml (.lst []) Dl = some (.lst lv) := (Ex.new hml) _ _ hl
    have d2 : DpAll K (upd H1 ml (.lst [])) lv (rs.map rowL) := (Ex.new hml).dpa hdl
    have m2 : upd H1 ml (.lst []) ml = some (.lst []) := upd_same
    generalize upd H1 ml (.lst []) = H2 at e2 l2 d2 m2 ⊢
    have hlv : lv.length = rs.length := by rw [dpa_len d2, List.length_map]
    have hW0 : rs = [] ∨ wideOf rs = wide := by
      cases rs with
      | nil => exact .inl rfl
      | cons r rs => exact .inr (hrs r List.mem_cons_self).1
    have cut : ∀ (X : Int), X = (wideOf rs : Nat) → ∃ W : Nat, X = (W : Nat) ∧ W = wideOf rs := fun X h => ⟨_, h, rfl⟩
    walk_at "rd"
    refine ⟨fun σ' H' => H' = H2 ∧ σ' = [some (.int p), some (.ref a), some (.int (wideOf rs : Nat)), none, some (.ref Dl), some (.ref ml), none, none, none, none, none], ?_, ?_⟩
    · walk_at "rd"
      refine ⟨Dl, _, rfl, .inl (sqL l2), ?_⟩
      walk_at "rd"
      refine w_dec (fun hpos => ?_) (fun hpos => ?_)
      · obtain ⟨v0, hv0, hd0⟩ := dpa_getD (i := 0) (d := rowL (rs.getD 0 [])) d2 (by rw [List.getElem?_map, getD_at (d := []) (by omega)]; rfl)
        obtain ⟨ra, rfl, hra⟩ := dp_rowL hd0
        walk_at "rd"
        refine w_ixL (sqL l2) (atI_at (j := 0) hv0) ?_
        walk_at "rd"
        refine ⟨ra, _, rfl, .inl hra, ?_⟩
        walk_at "rd"
        refine ⟨rfl, ?_⟩
        rw [List.length_map]
        rfl
      · have : rs = [] := List.length_eq_zero_iff.mp (by omega)
        subst this
        walk_at "rd"
        exact ⟨rfl, rfl⟩
    rintro σ' H' ⟨rfl, rfl⟩
    generalize hW : wideOf rs = W
    have hWw : W ≤ 100 := by
      rcases hW0 with h | h
      · rw [h] at hW
        rw [← hW]
        exact Nat.zero_le _
      · omega
    walk_at "rd"
    refine w_isrng (by omega) (by omega) ?_
    refine for_go walk_rng (fun i σ H' => Ex H H' ∧ ∃ (ll ml : Addr) (lv mv : List V) (y3 y6 y7 y8 : Option V), σ = [some (.int p), some (.ref a), some (.int W), y3, some (.ref ll), some (.ref ml), y6, y7, y8, none, none] ∧ H ll = none ∧ ll ≠ ml ∧ H' ll = some (.lst lv) ∧ DpAll K H' lv ((ladSt p rs i).1.map rowL) ∧ H' ml = some (.lst mv) ∧ DpAll K H' mv ((ladSt p rs i).2.map rowL))
      ⟨e2, Dl, ml, lv, [], _, _, _, _, rfl, hD1, hne, l2, d2, m2, .nil⟩ (fun _ _ _ _ _ => trivial) (fun i x σ H3 H3' hi pp y => ?_) (fun σ H3 pp => ?_)
    · obtain ⟨e3, ll, ml, lv, mv, y3, y6, y7, y8, rfl, hll0, hlm, g1, g2, g3, g4⟩ := pp
      obtain ⟨rfl, rfl⟩ := y
      rw [Int.toNat_natCast] at hi
      have hwide : W = wide := by
        rcases hW0 with h | h
        · rw [h] at hW
          have : wideOf ([] : List (List Int)) = 0 := rfl
          omega
        · omega
      have hst : ladSt p rs (i + 1) = stepL p i (ladSt p rs i) := rfl
      obtain ⟨r1, r2⟩ := lad_rows p0 hrs i
      have llen := lad_len (p := p) (rs := rs) i
      rw [hst]
      generalize ladSt p rs i = st at g2 g4 r1 r2 llen
      obtain ⟨L, M⟩ := st
      have r1 : ∀ r ∈ L, LRow p wide r := r1
      have r2 : ∀ r ∈ M, LRow p wide r := r2
      have llen : L.length + M.length = rs.length := llen
      have g2 : DpAll K H3' lv (L.map rowL) := g2
      have g4 : DpAll K H3' mv (M.map rowL) := g4
      have nn : ∀ {r : List Int}, LRow p wide r → r ≠ [] := fun hr z => by
        have := hr.1
        rw [z] at this
        simp at this
        omega
      have hlvl : lv.length = L.length := by rw [dpa_len g2, List.length_map]
      have hmvl : mv.length = M.length := by rw [dpa_len g4, List.length_map]
      walk_at "rd"
      refine ⟨ll, rfl, ⟨_, sqL g1⟩, fun D2 hD2 => ?_⟩
      refine lc_rowX (K := K) walk_list (fun k => nzAt i (L.getD k [])) (fun k => L.getD k []) (fun H' e => e.l (sqL g1)) hD2 (by omega) (fun k x H4 H5 ws hk e hDl hrf y R R0 kk kn => ?_) (fun H4 sv e4 hs4 hrf4 hd4 => ?_)
      · obtain ⟨rfl, hx⟩ := y
        obtain ⟨r, hr1, hr2⟩ := rowsL_at g2 hx
        have hrr := r1 r (List.mem_of_getElem? hr1)
        obtain ⟨ra, rfl, hra⟩ := dp_rowL (e.dp hr2)
        have eg := getD_of (d := []) hr1
        have hri : r[i]? = some (r.getD i 0) := getD_at (by rw [hrr.1]; omega)
        walk_at "rd"
        refine ⟨rfl, ?_⟩
        walk_at "rd"
        refine w_ixL hra (atI_int hri) ?_
        walk_at "rd"
        refine w_decN (fun hnz => ?_) (fun hz => ?_)
        · walk_at "rd"
          refine kk ?_ _ _ (Ex.refl _) fun o => ?_
          · rw [eg]
            exact decide_eq_true hnz
          · rw [eg]
            exact (e.mut hD2).dp hr2
        · refine kn ?_ _ (Ex.refl _)
          rw [eg]
          exact decide_eq_false fun z => z hz
      rw [hlvl, madeR_filter (nzAt i) (fun r => r), List.map_id'] at hd4
      have e34 := e3.trans e4
      have g14 := e4 _ _ g1
      have g24 := e4.dpa g2
      have g34 := e4 _ _ g3
      have g44 := e4.dpa g4
      have hD2l : D2 ≠ ll := fun z => by rw [z, g1] at hD2; cases hD2
      have hsl : sv.length = (L.filter (nzAt i)).length := by rw [dpa_len hd4, List.length_map]
      walk_at "rd"
      refine ⟨D2, _, rfl, .inl (sqL hs4), ?_⟩
      walk_at "rd"
      cases ef : L.findIdx? (nzAt i) with
      | none =>
        have e0 := filter_none _ ef
        rw [e0] at hsl
        rw [hsl]
        refine w_dec (fun h => absurd h (by simp)) (fun _ => ?_)
        walk_at "rd"
        refine ⟨e34, ll, ml, lv, mv, _, _, _, _, rfl, hll0, hlm, g14, ?_, g34, ?_⟩
        · have : stepL p i (L, M) = (L, M) := by
            unfold stepL
            rw [show ((L, M) : List (List Int) × List (List Int)).1 = L from rfl, ef]
          rw [this]
          exact g24
        · have : stepL p i (L, M) = (L, M) := by
            unfold stepL
            rw [show ((L, M) : List (List Int) × List (List Int)).1 = L from rfl, ef]
          rw [this]
          exact g44
      | some j =>
        obtain ⟨r, hj, hnz, hf0⟩ := filter_head _ ef
        have hstep : stepL p i (L, M) = ((L.eraseIdx j).map (fun x => woZ p x (headZ p i r) i), M.map (fun x => woZ p x (headZ p i r) i) ++ [headZ p i r]) := by
          unfold stepL
          rw [show ((L, M) : List (List Int) × List (List Int)).1 = L from rfl, ef]
          show ((L.eraseIdx j).map _, M.map _ ++ [_]) = _
          rw [getD_of hj]
        have hrr := r1 r (List.mem_of_getElem? hj)
        have hri : r[i]? = some (r.getD i 0) := getD_at (by rw [hrr.1]; omega)
        have hrv := hrr.2 _ (List.mem_of_getElem? hri)
        have hrnz : r.getD i 0 ≠ 0 := of_decide_eq_true hnz
        have hpos : 0 < (L.filter (nzAt i)).length := (List.getElem?_eq_some_iff.mp hf0).1
        rw [hsl]
        refine w_dec (fun _ => ?_) (fun h => absurd (show ((L.filter (nzAt i)).length : Int) > 0 by omega) h)
        obtain ⟨v0, hv0, hd0⟩ := dpa_getD (i := 0) (d := rowL r) hd4 (by rw [List.getElem?_map, hf0]; rfl)
        walk_at "rd"
        refine ⟨tyL g14, ?_⟩
        walk_at "rd"
        refine w_ixL (sqL hs4) (atI_at (j := 0) hv0) ?_
        walk_at "rd"
        refine ⟨ll, lv, v0, L.map rowL, rowL r, j, rfl, rfl, g14, g24, hd0, plain_rowsL L, (show PyData.plainAll (r.map .int) = true from plain_ints r), ?_, find_eq ef hj, ?_⟩
        · show PyData.depthAll (r.map .int) + 1 ≤ 50
          rw [PySem.W.depth_ints]
          omega
        have aw := dpa_away (K := K) g14 (dpa_refs g24) (.lst (lv.eraseIdx j)) (fun x hx => nn (r1 x hx)) g24
        have am := dpa_away (K := K) g14 (dpa_refs g24) (.lst (lv.eraseIdx j)) (fun x hx => nn (r2 x hx)) g44
        have av := rowL_away (K := K) hd0 (nn hrr) g14 (dpa_refs g24) (.lst (lv.eraseIdx j))
        have eH5 : Ex H (upd H4 ll (.lst (lv.eraseIdx j))) := e34.mut hll0
        have u1 : upd H4 ll (.lst (lv.eraseIdx j)) ll = some (.lst (lv.eraseIdx j)) := upd_same
        have u2 : upd H4 ll (.lst (lv.eraseIdx j)) D2 = some (.lst sv) := by rw [upd_ne hD2l]; exact hs4
        have u3 : upd H4 ll (.lst (lv.eraseIdx j)) ml = some (.lst mv) := by rw [upd_ne (Ne.symm hlm)]; exact g34
        have ae := dpa_eraseL j aw
        generalize upd H4 ll (.lst (lv.eraseIdx j)) = H5 at aw am av eH5 u1 u2 u3 ae ⊢
        obtain ⟨va, rfl, hva⟩ := dp_rowL av
        walk_at "rd"
        refine w_ixL (sqL u2) (atI_at (j := 0) hv0) ?_
        walk_at "rd"
        refine w_ixL hva (atI_int hri) ?_
        walk_at "rd"
        refine ⟨p, _, rfl, hp, by omega, hrv.2, fun H6 e6 => ?_⟩
        walk_at "rd"
        refine w_ixL (sqL (e6 _ _ u2)) (atI_at (j := 0) hv0) ?_
        refine ⟨va, rfl, ⟨_, e6.l hva⟩, fun D3 hD3 => ?_⟩
        refine lc_data (K := K) walk_list (fun _ => true) (fun k => .int ((r.getD i 0 * r.getD k 0) % p)) (fun _ => rfl) (fun H' e => e.l (e6.l hva)) hD3 (by rw [List.length_map, hrr.1]; omega) (fun k x H7 H8 hk e y R R0 kk _ => ?_) (fun H7 hw e7 hh7 hd7 => ?_)
        · obtain ⟨rfl, hx⟩ := y
          obtain ⟨z, hz, rfl⟩ := ints_at hx
          have hzr := hrr.2 z (List.mem_of_getElem? hz)
          walk_at "rd"
          refine ⟨rfl, ?_⟩
          walk_at "rd"
          refine kk rfl _ _ (Ex.refl _) ?_
          rw [getD_of hz]
          exact .int _
        rw [made_all, List.length_map, range_map 0 (fun v : Int => PyData.int ((r.getD i 0 * v) % p))] at hd7
        have ehd : r.map (fun v : Int => PyData.int ((r.getD i 0 * v) % p)) = (headZ p i r).map PyData.int := by
          unfold headZ
          rw [List.map_map]
          rfl
        rw [ehd] at hd7
        have ehw := dpa_ints_inv hd7
        subst ehw
        have hhr : LRow p wide (headZ p i r) := headZ_row p0 hrr
        generalize headZ p i r = hd at hh7 hhr hstep
        have e67 := e6.trans e7
        have hhd : Dp K H7 (.ref D3) (rowL hd) := dp_rowL_of (sqL hh7)
        walk_at "rd"
        refine ⟨ll, rfl, ⟨_, sqL (e67 _ _ u1)⟩, fun D4 hD4 => ?_⟩
        have hev : (lv.eraseIdx j).length = (L.eraseIdx j).length := by rw [dpa_len ae, List.length_map]
        have hel : (L.eraseIdx j).length ≤ L.length := List.length_eraseIdx_le _ _
        refine lc_rowX (K := K) walk_list (fun _ => true) (fun k => woZ p ((L.eraseIdx j).getD k []) hd i) (fun H' e => e.l (sqL (e67 _ _ u1))) hD4 (by omega) (fun k x H8 H9 ws hk e hDl hrf y R R0 kk _ => ?_) (fun H8 lv8 e8 hl8 hrf8 hd8 => ?_)
        · obtain ⟨rfl, hx⟩ := y
          obtain ⟨r', hr1, hr2⟩ := rowsL_at ae hx
          have hrr' := r1 r' (List.mem_of_mem_eraseIdx (List.mem_of_getElem? hr1))
          walk_at "rd"
          refine ⟨rfl, ?_⟩
          walk_at "rd"
          refine ⟨p, x, .ref D3, r', hd, i, rfl, by omega, by omega, (e67.trans e).dp hr2, e.dp hhd, by rw [hrr'.1]; omega, by rw [hhr.1, hrr'.1], by rw [hrr'.1]; omega, hrr'.2, fun u H10 e10 hu => ?_⟩
          refine kk rfl _ _ e10 fun o => ?_
          rw [getD_of hr1]
          exact rowL_away hu (nn (woZ_row p0 hrr' hhr)) (e10 _ _ hDl) hrf o
        rw [madeR_all, hev] at hd8
        have er8 : (List.range (L.eraseIdx j).length).map (fun k => woZ p ((L.eraseIdx j).getD k []) hd i) = (L.eraseIdx j).map fun x => woZ p x hd i := range_map [] (fun x => woZ p x hd i) (L.eraseIdx j)
        rw [er8] at hd8
        have e78 := e67.trans e8
        have hD40 : H D4 = none := (eH5.trans e67).fresh hD4
        walk_at "rd"
        refine ⟨ml, rfl, ⟨_, sqL (e78 _ _ u3)⟩, fun D5 hD5 => ?_⟩
        refine lc_rowX (K := K) walk_list (fun _ => true) (fun k => woZ p (M.getD k []) hd i) (fun H' e => e.l (sqL (e78 _ _ u3))) hD5 (by omega) (fun k x H9 H10 ws hk e hDl hrf y R R0 kk _ => ?_) (fun H9 mv9 e9 hm9 hrf9 hd9 => ?_)
        · obtain ⟨rfl, hx⟩ := y
          obtain ⟨r', hr1, hr2⟩ := rowsL_at am hx
          have hrr' := r2 r' (List.mem_of_getElem? hr1)
          walk_at "rd"
          refine ⟨rfl, ?_⟩
          walk_at "rd"
          refine ⟨p, x, .ref D3, r', hd, i, rfl, by omega, by omega, (e78.trans e).dp hr2, (e8.trans e).dp hhd, by rw [hrr'.1]; omega, by rw [hhr.1, hrr'.1], by rw [hrr'.1]; omega, hrr'.2, fun u H11 e11 hu => ?_⟩
          refine kk rfl _ _ e11 fun o => ?_
          rw [getD_of hr1]
          exact rowL_away hu (nn (woZ_row p0 hrr' hhr)) (e11 _ _ hDl) hrf o
        rw [madeR_all, hmvl] at hd9
        have er9 : (List.range M.length).map (fun k => woZ p (M.getD k []) hd i) = M.map fun x => woZ p x hd i := range_map [] (fun x => woZ p x hd i) M
        rw [er9] at hd9
        have hm9l : mv9.length = M.length := by rw [dpa_len hd9, List.length_map, List.length_map]
        walk_at "rd"
        refine w_dispT (by simp) fun l5 hl5 => ?_
        have e10 : Ex H9 (upd H9 l5 (.lst [.ref D3])) := Ex.new hl5
        have u10 : upd H9 l5 (.lst [.ref D3]) l5 = some (.lst [.ref D3]) := upd_same
        generalize upd H9 l5 (.lst [.ref D3]) = H10 at e10 u10 ⊢
        walk_at "rd"
        refine ⟨D5, l5, _, _, rfl, rfl, e10 _ _ hm9, u10, small2 (by rw [List.length_singleton]; omega), fun nl hnl => ?_⟩
        have e11 : Ex H10 (upd H10 nl (.lst (mv9 ++ [.ref D3]))) := Ex.new hnl
        have u11 : upd H10 nl (.lst (mv9 ++ [.ref D3])) nl = some (.lst (mv9 ++ [.ref D3])) := upd_same
        have hne4 : D4 ≠ nl := fun z => by rw [← z, e10 _ _ (e9 _ _ hl8)] at hnl; cases hnl
        generalize upd H10 nl (.lst (mv9 ++ [.ref D3])) = H11 at e11 u11 ⊢
        have e1011 := e10.trans e11
        have e911 := e9.trans e1011
        walk_at "rd"
        refine ⟨eH5.trans (e78.trans e911), D4, nl, lv8, _, _, _, _, _, rfl, hD40, hne4, e911 _ _ hl8, ?_, u11, ?_⟩
        · rw [hstep]
          exact e911.dpa hd8
        · rw [hstep]
          show DpAll K H11 _ ((M.map _ ++ [hd]).map rowL)
          rw [List.map_append]
          exact dpa_snoc (e1011.dpa hd9) ((e8.trans e911).dp hhd)
    · obtain ⟨e3, ll, ml, lv, mv, y3, y6, y7, y8, rfl, hll0, hlm, g1, g2, g3, g4⟩ := pp
      rw [Int.toNat_natCast] at g4
      have eL : (ladSt p rs W).2 = ladZ p rs := by
        unfold ladZ
        rw [hW]
      rw [eL] at g4
      have llen := lad_len (p := p) (rs := rs) W
      rw [eL] at llen
      have hmvl : mv.length = (ladZ p rs).length := by rw [dpa_len g4, List.length_map]
      walk_at "rd"
      refine ⟨ml, rfl, ⟨_, sqL g3⟩, fun D2 hD2 => ?_⟩
      refine lc_data (K := K) walk_list (fun _ => true) (fun k => row ((ladZ p rs).getD k [])) (fun _ => imm_row _) (fun H' e => e.l (sqL g3)) hD2 (by omega) (fun k x H4 H5 hk e y R R0 kk _ => ?_) (fun H4 ws e4 hws hd4 => ?_)
      · obtain ⟨rfl, hx⟩ := y
        obtain ⟨r, hr1, hr2⟩ := rowsL_at (e.dpa g4) hx
        obtain ⟨ra, rfl, hra⟩ := dp_rowL hr2
        walk_at "rd"
        refine ⟨rfl, ?_⟩
        walk_at "rd"
        refine ⟨ra, _, rfl, .inl ⟨hra, fun l hl => ?_⟩⟩
        refine kk rfl _ _ (Ex.new hl) ?_
        rw [getD_of hr1]
        exact dp_row_of (sqT upd_same)
      · rw [made_all, hmvl, range_map [] (fun r : List Int => row r)] at hd4
        walk_at "rd"
        refine ⟨D2, _, rfl, .inl ⟨sqL hws, fun l hl => ?_⟩⟩
        exact q _ _ (e3.trans (e4.trans (Ex.new hl))) (.tup (sqT upd_same) ((Ex.new hl).dpa hd4))
end TK

namespace TK
open PySem PySem.Spec PyProof.Rows L2 TH
local macro_rules | `(tactic| walk_at "rd1") => `(tactic| first
  | (with_reducible refine TH.w_seq ?_)
  | (with_reducible refine TH.w_asg ?_)
  | (with_reducible refine TH.w_ret ?_)
  | (with_reducible refine TH.w_drop ?_)
  | (with_reducible refine TH.w_ifS ?_)
  | (with_reducible refine TH.w_next ?_)
  | ((with_reducible refine TH.w_var (v := ?vv) ?hv ?_); (case hv => rfl))
  | (with_reducible refine TH.w_c ?_)
  | ((with_reducible refine TH.w_gname (σ' := ?ss) ?hs ?_); (case hs => (dsimp only [List.set]; rfl)))
  | (with_reducible refine TH.w_op ?_)
  | (with_reducible refine TH.w_un ?_)
  | (with_reducible refine TH.w_chain ?_)
  | (with_reducible refine TH.w_I0 ?_)
  | ((with_reducible refine TH.w_I ?hm ?_); (case hm => first | (exact TH.CMul.l (by omega) (by omega)) | (exact TH.CMul.r (by omega) (by omega)) | (exact TH.CDiv.mk (by omega) (by omega)) | (show (0 : Int) < _; omega) | (exact TH.CPow.mk (by omega) (by omega) (by decide))))
  | (with_reducible refine TH.w_U ?_)
  | (with_reducible refine TH.w_eqI ?_)
  | (with_reducible refine TH.w_neI ?_)
  | (with_reducible refine TH.w_eqB ?_)
  | (with_reducible refine TH.w_isN ?_)
  | (with_reducible refine TH.w_nil ?_)
  | (with_reducible refine TH.w_cons ?_)
  | (with_reducible refine TH.w_test ?_)
  | (with_reducible refine TH.w_B ?_)
  | (with_reducible refine TH.w_bl ?_)
  | (with_reducible refine TH.w_and ?_)
  | (with_reducible refine TH.w_or ?_)
  | (with_reducible refine TH.w_not ?_)
  | (with_reducible refine TH.w_andV ?_)
  | (with_reducible refine TH.w_orV ?_)
  | (with_reducible refine TH.w_notV ?_)
  | (with_reducible refine TH.w_if ?_)
  | (with_reducible refine TH.w_parT ?_)
  | (with_reducible refine TH.w_par ?_)
  | (with_reducible refine TH.w_parT3 ?_)
  | (with_reducible refine TH.w_par3 ?_)
  | (with_reducible refine TH.w_cb ?_)
  | (with_reducible refine TH.w_call ?_)
  | ((with_reducible refine TH.w_aug (v := ?vv) ?hv ?_); (case hv => rfl))
  | (with_reducible refine TH.w_ip ?_)
  | (with_reducible refine TH.w_bm ?_)
  | (with_reducible refine TH.w_sl ?_)
  | (with_reducible refine TH.w_np ?_)
  | (with_reducible refine TH.w_pt ?_)
  | (with_reducible refine TH.w_pti ?_)
  | (with_reducible refine TH.w_gsub ?_)
  | (with_reducible refine TH.w_int ?_)
  | (with_reducible refine TH.w_tupT ?_)
  | (with_reducible refine TH.w_lstT ?_)
  | ((with_reducible show L2.rIxL _ _ _ _ _); (first | (refine TH.w_ixL (TH.sqL upd_same) rfl ?_) | (refine TH.w_ixL (TH.sqL (by assumption)) rfl ?_)))
  | ((with_reducible show L2.rSetL _ _ _ _ _); (first | (refine TH.w_set1 upd_same ?_) | (refine TH.w_set2 upd_same ?_) | (refine TH.w_set3 upd_same ?_) | (refine TH.w_set4 upd_same ?_) | (refine TH.w_set1 (by assumption) ?_) | (refine TH.w_set2 (by assumption) ?_) | (refine TH.w_set3 (by assumption) ?_) | (refine TH.w_set4 (by assumption) ?_)))
  | (with_reducible refine TH.w_lc ?_)
  | (with_reducible refine TH.w_dc ?_)
  | (with_reducible refine TH.w_itup ?_)
  | (with_reducible refine TH.w_ilist ?_)
  | (with_reducible refine TH.w_ienum ?_)
  | (with_reducible refine TH.w_izip ?_)
  | (with_reducible refine TH.w_irng1 ?_)
  | (with_reducible refine TH.w_irng2 ?_)
  | (with_reducible refine TH.w_for ?_)
  | (with_reducible refine TH.w_gcons ?_)
  | (with_reducible refine TH.w_gnil ?_)
  | (with_reducible refine TH.w_yes ?_)
  | (with_reducible refine TH.w_gtup2 upd_same ?_)
  | (with_reducible refine TH.w_gtup3 upd_same ?_)
  | (with_reducible refine TH.w_dput ?_)
  | (with_reducible refine TH.w_bm0 ?_)
  | (with_reducible refine TH.w_din ?_)
  | (with_reducible refine TH.w_dnotin ?_)
  | (with_reducible refine TH.w_dispK ?_)
  | (with_reducible refine TH.w_lock ?_)
  | (with_reducible refine TH.w_ikeys ?_)
  | (with_reducible refine TH.w_iitems ?_)
  | (with_reducible refine TH.w_dispT1 ?_)
  | (with_reducible refine TH.w_dnewT ?_)
  | (with_reducible refine TH.w_dnewK ?_)
  | (with_reducible refine TH.w_fld ?_)
  | (with_reducible refine TH.w_sfld ?_)
  | (with_reducible refine TH.w_meth ?_)
  | (with_reducible refine TH.w_make ?_)
  | (with_reducible refine TH.w_dget2 ?_)
  | (with_reducible refine TH.w_revL ?_)
  | (with_reducible refine TH.w_revT ?_)
  | (with_reducible refine TH.w_lstRg ?_)
  | (with_reducible refine TH.w_tupRg ?_)
  | (with_reducible refine TH.w_rg1 ?_)
  | (with_reducible refine TH.w_rg2 ?_)
  | (with_reducible refine TH.w_T ?_)
  | (with_reducible refine TH.w_F ?_))
local macro_rules | `(tactic| walk_at "rd") => `(tactic| repeat (first | walk_at "rd1" | (dsimp only [List.set, L2.wipe, List.map, TH.isInt, TH.isBool, TH.isTup, TH.isLst, TH.bo_f, TH.bo_t, TH.ba_f, TH.ba_t, TH.bn_t, TH.bn_f, List.append_nil, List.cons_append, List.nil_append])))

variable {P : Program} {w : World} {K : PySem.W.Frag} {mg : Str → Option Value} {base : Heap}
/-! _law_tied(ties, post) -/
def sp_law_tied (K : PySem.W.Frag) : Sp := fun vs H Q _ => ∃ (v : V) (ts : List (Nat × Nat)) (x : Nat), vs = [v, .int (x : Nat)] ∧ Dp K H v (tiesT ts) ∧ ts.length ≤ 1000 ∧ ∀ l H', Ex H H' → H l = none → H' l = some (.lst ((nearZ ts x).map V.int)) → Q (.ref l) H'
theorem map_filter_flat {α β : Type} (p : α → Bool) (f : α → β) : ∀ xs : List α, (xs.filter p).map f = xs.flatMap fun a => if p a = true then [f a] else []
  | [] => rfl
  | x :: xs => by
    rw [List.flatMap_cons, ← map_filter_flat p f xs, List.filter_cons]
    split <;> rfl
theorem flat_perm {α β : Type} (f g : α → List β) : ∀ xs : List α, (xs.flatMap f ++ xs.flatMap g).Perm (xs.flatMap fun a => f a ++ g a)
  | [] => .refl _
  | x :: xs => by
    rw [List.flatMap_cons, List.flatMap_cons, List.flatMap_cons]
    have ih := flat_perm f g xs
    refine .trans ?_ (List.Perm.append_left (f x ++ g x) ih)
    rw [List.append_assoc, List.append_assoc]
    refine List.Perm.append_left (f x) ?_
    rw [← List.append_assoc, ← List.append_assoc]
    exact List.Perm.append_right _ List.perm_append_comm
theorem tied_perm (ts : List (Nat × Nat)) (x : Nat) : (((ts.filter fun a => decide (a.1 = x)).map fun a => (a.2 : Int)) ++ ((ts.filter fun a => decide (a.2 = x)).map fun a => (a.1 : Int))).Perm (adjZ ts x) := by
  rw [map_filter_flat, map_filter_flat]
  refine (flat_perm _ _ ts).trans ?_
  unfold adjZ
  have e : ∀ a : Nat × Nat, ((if decide (a.1 = x) = true then [(a.2 : Int)] else []) ++ (if decide (a.2 = x) = true then [(a.1 : Int)] else [])) = ((if a.1 = x then [(a.2 : Int)] else []) ++ (if a.2 = x then [(a.1 : Int)] else [])) := fun a => by simp
  exact List.Perm.of_eq (congrArg (fun f => ts.flatMap f) (funext e))
theorem made_filter {α : Type} (d : α) (p : α → Bool) (f : α → D) : ∀ xs : List α, made xs.length (fun i => p (xs.getD i d)) (fun i => f (xs.getD i d)) = (xs.filter p).map f := fun xs => by
  unfold made
  have h1 : ((List.range xs.length).map fun i => xs.getD i d) = xs := by
    have := range_map d (fun x : α => x) xs
    rwa [List.map_id'] at this
  have h2 : xs.filter p = (((List.range xs.length).filter fun i => p (xs.getD i d)).map fun i => xs.getD i d) := by
    conv => lhs; rw [← h1]
    rw [List.filter_map]
    rfl
  rw [h2, List.map_map]
  rfl
theorem ok_law_tied {f : Addr} {fd : FuncData} (F : C8.Def K mg "_law_tied" s_law_tied f fd) (b : Binds K fd ["ties", "post"] []) (T : Txt mg) : C8.Cal P w K mg base 1 "_law_tied" (sp_law_tied K) [] := by
  refine C8.cal0 F b .nil sc_law_tied (fun vs H Q E h => ?_) (fun cdv A outer s H vs Q E hr h => ?_)
  · obtain ⟨v, ts, x, rfl, _⟩ := h
    rfl
  · obtain ⟨v, ts, x, rfl, ht, hl, q⟩ := h
    have hu64 := hu64_of hr
    obtain ⟨ta, tv, rfl, hta, htv⟩ := dp_tup ht
    have htl : tv.length = ts.length := by rw [dpa_len htv, List.length_map]
    refine ⟨_, (pss_one (ps_ret (pe_callB (TH.call_sortedD (K := K) hu64) (by rfl) T.b_sorted (by decide +kernel) (pa_cons (pe_op op_cat (pe_lc (own := [("one", 2), ("other", 3)]) (g := gTup K 2 (gCons (gName 2) (gCons (gName 3) gNil))) rfl sc_law_tied.nd (TH.kpi_tup (K := K) (pv 0)) (blkOk_by (own := [("one", 2), ("other", 3)]) (N := N_law_tied) (sc := C8.fnScope s_law_tied) (by decide +kernel)) (fun _ _ _ _ _ => (TH.kpg_tup (K := K) (n := 2) rfl (pgs_cons (pg_name (i := 2) sc_law_tied.nd rfl (Or.inl rfl) (Or.inr rfl)) (pgs_cons (pg_name (i := 3) sc_law_tied.nd rfl (Or.inl rfl) (Or.inr rfl)) pgs_nil)))) (fun _ _ _ _ _ => (pts_one (pt_cmpR op_eq (pv 2) (pv 1) (nomark _)))) (fun _ _ _ _ _ => (pv 3))) (pe_lc (own := [("one", 2), ("other", 3)]) (g := gTup K 2 (gCons (gName 2) (gCons (gName 3) gNil))) rfl sc_law_tied.nd (TH.kpi_tup (K := K) (pv 0)) (blkOk_by (own := [("one", 2), ("other", 3)]) (N := N_law_tied) (sc := C8.fnScope s_law_tied) (by decide +kernel)) (fun _ _ _ _ _ => (TH.kpg_tup (K := K) (n := 2) rfl (pgs_cons (pg_name (i := 2) sc_law_tied.nd rfl (Or.inl rfl) (Or.inr rfl)) (pgs_cons (pg_name (i := 3) sc_law_tied.nd rfl (Or.inl rfl) (Or.inr rfl)) pgs_nil)))) (fun _ _ _ _ _ => (pts_one (pt_cmpR op_eq (pv 3) (pv 1) (nomark _)))) (fun _ _ _ _ _ => (pv 2)))) pa_nil)))), ?_⟩
    refine w_start (σ' := [some (.ref ta), some (.int x), none, none]) rfl ?_
    walk_at "rd"
    refine ⟨ta, rfl, ⟨_, hta⟩, fun D1 hD1 => ?_⟩
    refine lc_data (K := K) walk_tup (fun i => decide ((ts.getD i (0, 0)).1 = x)) (fun i => .int ((ts.getD i (0, 0)).2 : Nat)) (fun _ => rfl) (fun H' e => e.t hta) hD1 (by omega) (fun i z H' H'' hi e y R R0 k k0 => ?_) (fun H1 ws e1 hws hda => ?_)
    · obtain ⟨rfl, hx⟩ := y
      obtain ⟨c, hc1, hc2⟩ := dpa_ties (e.dpa htv) hx
      obtain ⟨tt, rfl, htt⟩ := dp_tie hc2
      refine w_gtup htt rfl ?_
      walk_at "rd"
      refine ⟨rfl, ?_⟩
      walk_at "rd"
      have eg := getD_of (d := (0, 0)) hc1
      refine w_dec (fun hh => ?_) (fun hh => ?_)
      · walk_at "rd"
        refine k ?_ _ _ (Ex.refl _) ?_
        · rw [eg]
          exact decide_eq_true (by omega)
        · rw [eg]
          exact .int _
      · refine k0 ?_ _ (Ex.refl _)
        rw [eg]
        exact decide_eq_false (by omega)
    · rw [htl, made_filter (0, 0) (fun a : Nat × Nat => decide (a.1 = x)) (fun a => PyData.int (a.2 : Nat))] at hda
      walk_at "rd"
      refine ⟨ta, rfl, ⟨_, e1.t hta⟩, fun D2 hD2 => ?_⟩
      refine lc_data (K := K) walk_tup (fun i => decide ((ts.getD i (0, 0)).2 = x)) (fun i => .int ((ts.getD i (0, 0)).1 : Nat)) (fun _ => rfl) (fun H' e => e.t (e1.t hta)) hD2 (by omega) (fun i z H' H'' hi e y R R0 k k0 => ?_) (fun H2 ws2 e2 hws2 hda2 => ?_)
      · obtain ⟨rfl, hx⟩ := y
        obtain ⟨c, hc1, hc2⟩ := dpa_ties ((e1.trans e).dpa htv) hx
        obtain ⟨tt, rfl, htt⟩ := dp_tie hc2
        refine w_gtup htt rfl ?_
        walk_at "rd"
        refine ⟨rfl, ?_⟩
        walk_at "rd"
        have eg := getD_of (d := (0, 0)) hc1
        refine w_dec (fun hh => ?_) (fun hh => ?_)
        · walk_at "rd"
          refine k ?_ _ _ (Ex.refl _) ?_
          · rw [eg]
            exact decide_eq_true (by omega)
          · rw [eg]
            exact .int _
        · refine k0 ?_ _ (Ex.refl _)
          rw [eg]
          exact decide_eq_false (by omega)
      · rw [htl, made_filter (0, 0) (fun a : Nat × Nat => decide (a.2 = x)) (fun a => PyData.int (a.1 : Nat))] at hda2
        have m1 : ∀ (p : Nat × Nat → Bool) (f : Nat × Nat → Nat), (ts.filter p).map (fun a => PyData.int (f a : Nat)) = ((ts.filter p).map fun a => ((f a : Nat) : Int)).map PyData.int := fun p f => by
          rw [List.map_map]
          rfl
        rw [m1 _ (fun a => a.2)] at hda
        rw [m1 _ (fun a => a.1)] at hda2
        have e6 := dpa_ints_inv hda
        have e7 := dpa_ints_inv hda2
        have len : ∀ (p : Nat × Nat → Bool), (ts.filter p).length ≤ 1000 := fun p => Nat.le_trans (List.length_filter_le _ _) hl
        subst e6 e7
        refine ⟨D1, D2, _, _, rfl, rfl, e2 _ _ hws, hws2, small2 (by
          have l1 := len fun a => decide (a.1 = x)
          have l2 := len fun a => decide (a.2 = x)
          simp only [List.length_map]
          omega), fun l3 hl3 => ?_⟩
        walk_at "rd"
        refine w_sortI (ns := ((ts.filter fun a => decide (a.1 = x)).map fun a => (a.2 : Int)) ++ ((ts.filter fun a => decide (a.2 = x)).map fun a => (a.1 : Int))) (sqL ?_) fun p hp => ?_
        · rw [List.map_append]
          exact upd_same
        · have e3 := e1.trans (e2.trans (Ex.new (o := .lst (List.map V.int ((ts.filter fun a => decide (a.1 = x)).map fun a => (a.2 : Int)) ++ List.map V.int ((ts.filter fun a => decide (a.2 = x)).map fun a => (a.1 : Int)))) hl3))
          refine q p _ (e3.trans (Ex.new hp)) (e3.fresh hp) ?_
          rw [upd_same, sortZ_of_perm (tied_perm ts x)]
          rfl
def swapP (a : Nat × Nat) : Nat × Nat := (a.2, a.1)
def waysP (ts : List (Nat × Nat)) : List (Nat × Nat) := sortP (ts ++ ts.map swapP)
/-! _law_ways(ties) -/
def sp_law_ways (K : PySem.W.Frag) : Sp := fun vs H Q _ => ∃ (v : V) (ts : List (Nat × Nat)), vs = [v] ∧ Dp K H v (tiesT ts) ∧ ts.length ≤ 1000 ∧ ∀ l ws H', Ex H H' → H l = none → H' l = some (.lst ws) → DpAll K H' ws ((waysP ts).map tieD) → Q (.ref l) H'
theorem ok_law_ways {f : Addr} {fd : FuncData} (F : C8.Def K mg "_law_ways" s_law_ways f fd) (b : Binds K fd ["ties"] []) (T : Txt mg) : C8.Cal P w K mg base 1 "_law_ways" (sp_law_ways K) [] := by
  refine C8.cal0 F b .nil sc_law_ways (fun vs H Q E h => ?_) (fun cdv A outer s H vs Q E hr h => ?_)
  · obtain ⟨v, ts, rfl, _⟩ := h
    rfl
  · obtain ⟨v, ts, rfl, ht, hl, q⟩ := h
    have hu64 := hu64_of hr
    obtain ⟨ta, tv, rfl, hta, htv⟩ := dp_tup ht
    have htl : tv.length = ts.length := by rw [dpa_len htv, List.length_map]
    refine ⟨_, (pss_one (ps_ret (pe_callB (TH.call_sortedD (K := K) hu64) (by rfl) T.b_sorted (by decide +kernel) (pa_cons (pe_op op_cat (pe_callTy (TH.kcall_list (K := K)) (by rfl) T.b_list (by decide +kernel) (pa_cons (pv 0) pa_nil)) (pe_lc (own := [("one", 1), ("other", 2)]) (g := gTup K 2 (gCons (gName 1) (gCons (gName 2) gNil))) (tt := tYes) rfl sc_law_ways.nd (TH.kpi_tup (K := K) (pv 0)) (blkOk_by (own := [("one", 1), ("other", 2)]) (N := N_law_ways) (sc := C8.fnScope s_law_ways) (by decide +kernel)) (fun _ _ _ _ _ => (TH.kpg_tup (K := K) (n := 2) rfl (pgs_cons (pg_name (i := 1) sc_law_ways.nd rfl (Or.inl rfl) (Or.inr rfl)) (pgs_cons (pg_name (i := 2) sc_law_ways.nd rfl (Or.inl rfl) (Or.inr rfl)) pgs_nil)))) (fun _ _ _ _ _ => pts_nil) (fun _ _ _ _ _ => (pe_tup (pa_cons (pv 2) (pa_cons (pv 1) pa_nil)))))) pa_nil)))), ?_⟩
    refine w_start (σ' := [some (.ref ta), none, none]) rfl ?_
    walk_at "rd"
    refine ⟨ta, tv, rfl, .inr hta, fun l1 hl1 => ?_⟩
    have e1 : Ex H (upd H l1 (.lst tv)) := Ex.new hl1
    have u1 : upd H l1 (.lst tv) l1 = some (.lst tv) := upd_same
    generalize upd H l1 (.lst tv) = H1 at e1 u1 ⊢
    walk_at "rd"
    refine ⟨ta, rfl, ⟨_, e1.t hta⟩, fun Dl hD => ?_⟩
    refine lc_data (K := K) walk_tup (fun _ => true) (fun i => tieD (swapP (ts.getD i (0, 0)))) (fun _ => rfl) (fun H' e => e.t (e1.t hta)) hD (by omega) (fun i x H' H'' hi e y R R0 k _ => ?_) (fun H2 ws e2 hws hdw => ?_)
    · obtain ⟨rfl, hx⟩ := y
      obtain ⟨c, hc1, hc2⟩ := dpa_ties ((e1.trans e).dpa htv) hx
      obtain ⟨tt, rfl, htt⟩ := dp_tie hc2
      refine w_gtup htt rfl ?_
      walk_at "rd"
      refine ⟨rfl, ?_⟩
      walk_at "rd"
      refine w_dispT (by simp) fun p hp => ?_
      refine k rfl _ _ (Ex.new hp) ?_
      rw [getD_of hc1]
      exact dp_tie_of (sqT upd_same)
    · have e3 : (List.range tv.length).map (fun i => tieD (swapP (ts.getD i (0, 0)))) = (ts.map swapP).map tieD := by
        rw [htl, List.map_map]
        exact range_map (0, 0) (fun c => tieD (swapP c)) ts
      rw [made_all, e3] at hdw
      have hwl : ws.length = ts.length := by rw [dpa_len hdw, List.length_map, List.length_map]
      refine ⟨l1, Dl, _, _, rfl, rfl, e2 _ _ u1, hws, small2 (by omega), fun l3 hl3 => ?_⟩
      have e13 := e1.trans (e2.trans (Ex.new (o := .lst (tv ++ ws)) hl3))
      have hd3 : DpAll K (upd H2 l3 (.lst (tv ++ ws))) (tv ++ ws) ((ts ++ ts.map swapP).map tieD) := by
        rw [List.map_append]
        exact (Ex.new hl3).dpa (dpa_append ((e1.trans e2).dpa htv) hdw)
      have u3 : upd H2 l3 (.lst (tv ++ ws)) l3 = some (.lst (tv ++ ws)) := upd_same
      generalize upd H2 l3 (.lst (tv ++ ws)) = H3 at e13 hd3 u3 ⊢
      walk_at "rd"
      refine w_sortP (sqL u3) hd3 fun p ws' hp hw' => ?_
      exact q p ws' _ (e13.trans (Ex.new hp)) (e13.fresh hp) upd_same ((Ex.new hp).dpa hw')
theorem w_cutT {H : Hp} {Q : VK} {a : Addr} {xs : List V} {k : Nat} (h : SqT K H a xs) (hk : k ≤ xs.length) (q : ∀ b H', Ex H H' → SqT K H' b (xs.take k) → Q (.ref b) H') : rSlA K (.ref a) none (some (k : Int)) H Q := by
  refine ⟨a, xs, rfl, h, fun hw => ?_, fun hw p hp => ?_⟩
  · rw [HT.sIx_nat] at hw
    have e : k = xs.length := by omega
    refine q a H (Ex.refl _) ?_
    rw [e, List.take_length]
    exact h
  · have e : cutV xs none (some (k : Int)) = xs.take k := by
      unfold cutV
      rw [HT.sIx_nat, HT.sIx_none, List.drop_zero]
      have : min k xs.length - 0 = k := by omega
      rw [this]
    rw [e]
    exact q p _ (Ex.new hp) (sqT upd_same)
/-! held_by(sheet, post), held(sheet, post) -/
def lotZ (hs : List Nat) (y : Nat) : List Int := rgZ ((hs.take y).sum : Nat) ((hs.take (y + 1)).sum : Nat)
theorem take_sum {hs : List Nat} {y h : Nat} (e : hs[y]? = some h) : (hs.take (y + 1)).sum = (hs.take y).sum + h := by
  rw [List.take_add_one, e, List.sum_append]
  simp
theorem take_sum_le : ∀ (hs : List Nat) (k : Nat), (hs.take k).sum ≤ hs.sum
  | [], k => by simp
  | h :: hs, 0 => by simp
  | h :: hs, k + 1 => by
    have := take_sum_le hs k
    simp only [List.take_succ_cons, List.sum_cons]
    omega
def lotsZ (hs : List Nat) (ys : List Int) : List Int := ys.flatMap fun y => lotZ hs y.toNat
theorem lotZ_len (hs : List Nat) (y : Nat) : (lotZ hs y).length ≤ hs.sum := by
  unfold lotZ
  rw [rgZ_len]
  have := take_sum_le hs (y + 1)
  omega
theorem lotsZ_len (hs : List Nat) : ∀ ys : List Int, (lotsZ hs ys).length ≤ ys.length * hs.sum
  | [] => by simp [lotsZ]
  | y :: ys => by
    have h1 := lotZ_len hs y.toNat
    have h2 := lotsZ_len hs ys
    have e : (lotsZ hs (y :: ys)).length = (lotZ hs y.toNat).length + (lotsZ hs ys).length := by
      unfold lotsZ
      rw [List.flatMap_cons, List.length_append]
    rw [e, List.length_cons, Nat.succ_mul]
    omega
theorem lotsZ_snoc {hs : List Nat} {ys : List Int} {i : Nat} {y : Int} (h : ys[i]? = some y) : lotsZ hs (ys.take (i + 1)) = lotsZ hs (ys.take i) ++ lotZ hs y.toNat := by
  unfold lotsZ
  rw [List.take_add_one, h, List.flatMap_append]
  simp
/-! _law_numbers_of(holds, posts) -/
def sp_law_numbers_of (K : PySem.W.Frag) : Sp := fun vs H Q _ => ∃ (h : V) (hs : List Nat) (a : Addr) (ys : List Int), vs = [h, .ref a] ∧ Dp K H h (row (nz hs)) ∧ SqL K H a (ys.map V.int) ∧ hs.sum ≤ 1000 ∧ ys.length ≤ 100 ∧ (∀ y ∈ ys, 0 ≤ y ∧ y < hs.length) ∧
  ∀ (l : Addr) (H' : Hp), Ex H H' → H l = none → H' l = some (.lst ((lotsZ hs ys).map V.int)) → Q (.ref l) H'
theorem ok_law_numbers_of {f : Addr} {fd : FuncData} (F : C8.Def K mg "_law_numbers_of" s_law_numbers_of f fd) (b : Binds K fd ["holds", "posts"] []) (T : Txt mg) : C8.Cal P w K mg base 1 "_law_numbers_of" (sp_law_numbers_of K) [] := by
  refine C8.cal0 F b .nil sc_law_numbers_of (fun vs H Q E h => ?_) (fun cdv A outer s H vs Q E hr h => ?_)
  · obtain ⟨h, hs, a, ys, rfl, _⟩ := h
    rfl
  · obtain ⟨h, hs, a, ys, rfl, hh, ha, hsum, hyl, hyr, q⟩ := h
    have hu64 := hu64_of hr
    obtain ⟨ha', rfl, hha⟩ := dp_row hh
    refine ⟨_, (pss_cons (ps_set (i := 2) sc_law_numbers_of.nd rfl (Or.inl rfl) (pe_lst pa_nil))
      (pss_cons (ps_for PassesOwn.never rfl (TH.kpi_list (K := K) (pv 1)) (pg_name (i := 3) sc_law_numbers_of.nd rfl (Or.inl rfl) (Or.inr rfl)) (pss_one (ps_expr (TH.kpe_bm (K := K) PySem.F.plainAttrs_list PySem.F.slot_list_extend PySem.F.type_list_extend mt_extend (pv 2) (pa_cons (pe_listRg rfl (by rfl) T.b_list (prg_2 (by rfl) T.b_range (pe_callB (TH.kcr_sumT (K := K) rfl) (by rfl) T.b_sum (by decide +kernel) (pa_cons (pe_slice (TH.ksl_tup (K := K)) (pv 0) po_none (po_some (pv 3))) pa_nil)) (pe_callB (TH.kcr_sumT (K := K) rfl) (by rfl) T.b_sum (by decide +kernel) (pa_cons (pe_slice (TH.ksl_tup (K := K)) (pv 0) po_none (po_some (pe_op op_add (pv 3) pe_int))) pa_nil)))) pa_nil)))))
      (pss_one (ps_ret (pv 2))))), ?_⟩
    refine w_start (σ' := [some (.ref ha'), some (.ref a), none, none]) rfl ?_
    walk_at "rd"
    refine w_dispT (by simp) fun fl hfl => ?_
    have e0 : Ex H (upd H fl (.lst [])) := Ex.new hfl
    have u0 : upd H fl (.lst []) fl = some (.lst []) := upd_same
    generalize upd H fl (.lst []) = H0 at e0 u0 ⊢
    walk_at "rd"
    refine ⟨a, rfl, ⟨_, e0.l ha⟩, ?_⟩
    refine for_go walk_list (fun i σ H2 => Ex H H2 ∧ H2 fl = some (.lst ((lotsZ hs (ys.take i)).map V.int)) ∧ ∃ y3, σ = [some (.ref ha'), some (.ref a), some (.ref fl), y3]) ⟨e0, u0, _, rfl⟩ (fun i σ H2 _ p => p.1.l ha) (fun i x σ H2 H3 hi p y => ?_) (fun σ H2 p => ?_)
    · obtain ⟨e, g2, y3, rfl⟩ := p
      obtain ⟨rfl, hx⟩ := y
      obtain ⟨z, hz, rfl⟩ := ints_at hx
      have zr := hyr z (List.mem_of_getElem? hz)
      obtain ⟨n, rfl⟩ : ∃ n : Nat, z = n := ⟨z.toNat, by omega⟩
      have hsn := lotsZ_snoc (hs := hs) hz
      have l1 := lotsZ_len hs (ys.take i)
      have l2 := lotZ_len hs n
      have l3 : (ys.take i).length * hs.sum ≤ 100 * 1000 := Nat.mul_le_mul (by rw [List.length_take]; omega) hsum
      have t1 := take_sum_le hs n
      have t2 := take_sum_le hs (n + 1)
      rw [Int.toNat_natCast] at hsn
      walk_at "rd"
      refine ⟨tyL g2, ?_⟩
      walk_at "rd"
      refine w_cutT (e.t hha) (by rw [List.length_map, nz_len]; omega) fun c H4 e4 hc => ?_
      rw [← List.map_take, nz_take] at hc
      walk_at "rd"
      refine w_sumT hc ?_
      walk_at "rd"
      rw [nz_sum]
      have en : (n : Int) + 1 = ((n + 1 : Nat) : Int) := by omega
      rw [en]
      refine w_cutT ((e.trans e4).t hha) (by rw [List.length_map, nz_len]; omega) fun c2 H5 e5 hc2 => ?_
      rw [← List.map_take, nz_take] at hc2
      walk_at "rd"
      refine w_sumT hc2 ?_
      rw [nz_sum]
      refine ⟨_, _, rfl, rfl, .of_le (by omega) (by omega) (by omega) (by omega), fun p hp => ?_⟩
      have e6 : Ex H5 (upd H5 p (.lst (rgV ((hs.take n).sum : Nat) ((hs.take (n + 1)).sum : Nat)))) := Ex.new hp
      have u6 : upd H5 p (.lst (rgV ((hs.take n).sum : Nat) ((hs.take (n + 1)).sum : Nat))) p = some (.lst (rgV ((hs.take n).sum : Nat) ((hs.take (n + 1)).sum : Nat))) := upd_same
      generalize upd H5 p (.lst (rgV ((hs.take n).sum : Nat) ((hs.take (n + 1)).sum : Nat))) = H6 at e6 u6 ⊢
      have e36 := e4.trans (e5.trans e6)
      rw [rgV_eq] at u6
      have u6' : H6 p = some (.lst ((lotZ hs n).map V.int)) := u6
      refine ⟨fl, p, _, _, rfl, rfl, e36 _ _ g2, u6', small2 (by rw [List.length_map, List.length_map]; omega), ?_⟩
      walk_at "rd"
      refine ⟨(e.trans e36).mut hfl, ?_, _, rfl⟩
      rw [upd_same, hsn, List.map_append]
    · obtain ⟨e, g2, y3, rfl⟩ := p
      walk_at "rd"
      rw [List.length_map, List.take_length] at g2
      exact q fl H2 e hfl g2

end TK

namespace TK
open PySem PySem.Spec PyProof.Rows L2 TH
local macro_rules | `(tactic| walk_at "rd1") => `(tactic| first
  | (with_reducible refine TH.w_seq ?_)
  | (with_reducible refine TH.w_asg ?_)
  | (with_reducible refine TH.w_ret ?_)
  | (with_reducible refine TH.w_drop ?_)
  | (with_reducible refine TH.w_ifS ?_)
  | (with_reducible refine TH.w_next ?_)
  | ((with_reducible refine TH.w_var (v := ?vv) ?hv ?_); (case hv => rfl))
  | (with_reducible refine TH.w_c ?_)
  | ((with_reducible refine TH.w_gname (σ' := ?ss) ?hs ?_); (case hs => (dsimp only [List.set]; rfl)))
  | (with_reducible refine TH.w_op ?_)
  | (with_reducible refine TH.w_un ?_)
  | (with_reducible refine TH.w_chain ?_)
  | (with_reducible refine TH.w_I0 ?_)
  | ((with_reducible refine TH.w_I ?hm ?_); (case hm => first | (exact TH.CMul.l (by omega) (by omega)) | (exact TH.CMul.r (by omega) (by omega)) | (exact TH.CDiv.mk (by omega) (by omega)) | (show (0 : Int) < _; omega) | (exact TH.CPow.mk (by omega) (by omega) (by decide))))
  | (with_reducible refine TH.w_U ?_)
  | (with_reducible refine TH.w_eqI ?_)
  | (with_reducible refine TH.w_neI ?_)
  | (with_reducible refine TH.w_eqB ?_)
  | (with_reducible refine TH.w_isN ?_)
  | (with_reducible refine TH.w_nil ?_)
  | (with_reducible refine TH.w_cons ?_)
  | (with_reducible refine TH.w_test ?_)
  | (with_reducible refine TH.w_B ?_)
  | (with_reducible refine TH.w_bl ?_)
  | (with_reducible refine TH.w_and ?_)
  | (with_reducible refine TH.w_or ?_)
  | (with_reducible refine TH.w_not ?_)
  | (with_reducible refine TH.w_andV ?_)
  | (with_reducible refine TH.w_orV ?_)
  | (with_reducible refine TH.w_notV ?_)
  | (with_reducible refine TH.w_if ?_)
  | (with_reducible refine TH.w_parT ?_)
  | (with_reducible refine TH.w_par ?_)
  | (with_reducible refine TH.w_parT3 ?_)
  | (with_reducible refine TH.w_par3 ?_)
  | (with_reducible refine TH.w_cb ?_)
  | (with_reducible refine TH.w_call ?_)
  | ((with_reducible refine TH.w_aug (v := ?vv) ?hv ?_); (case hv => rfl))
  | (with_reducible refine TH.w_ip ?_)
  | (with_reducible refine TH.w_bm ?_)
  | (with_reducible refine TH.w_sl ?_)
  | (with_reducible refine TH.w_np ?_)
  | (with_reducible refine TH.w_pt ?_)
  | (with_reducible refine TH.w_pti ?_)
  | (with_reducible refine TH.w_gsub ?_)
  | (with_reducible refine TH.w_int ?_)
  | (with_reducible refine TH.w_tupT ?_)
  | (with_reducible refine TH.w_lstT ?_)
  | ((with_reducible show L2.rIxL _ _ _ _ _); (first | (refine TH.w_ixL (TH.sqL upd_same) rfl ?_) | (refine TH.w_ixL (TH.sqL (by assumption)) rfl ?_)))
  | ((with_reducible show L2.rSetL _ _ _ _ _); (first | (refine TH.w_set1 upd_same ?_) | (refine TH.w_set2 upd_same ?_) | (refine TH.w_set3 upd_same ?_) | (refine TH.w_set4 upd_same ?_) | (refine TH.w_set1 (by assumption) ?_) | (refine TH.w_set2 (by assumption) ?_) | (refine TH.w_set3 (by assumption) ?_) | (refine TH.w_set4 (by assumption) ?_)))
  | (with_reducible refine TH.w_lc ?_)
  | (with_reducible refine TH.w_dc ?_)
  | (with_reducible refine TH.w_itup ?_)
  | (with_reducible refine TH.w_ilist ?_)
  | (with_reducible refine TH.w_ienum ?_)
  | (with_reducible refine TH.w_izip ?_)
  | (with_reducible refine TH.w_irng1 ?_)
  | (with_reducible refine TH.w_irng2 ?_)
  | (with_reducible refine TH.w_for ?_)
  | (with_reducible refine TH.w_gcons ?_)
  | (with_reducible refine TH.w_gnil ?_)
  | (with_reducible refine TH.w_yes ?_)
  | (with_reducible refine TH.w_gtup2 upd_same ?_)
  | (with_reducible refine TH.w_gtup3 upd_same ?_)
  | (with_reducible refine TH.w_dput ?_)
  | (with_reducible refine TH.w_bm0 ?_)
  | (with_reducible refine TH.w_din ?_)
  | (with_reducible refine TH.w_dnotin ?_)
  | (with_reducible refine TH.w_dispK ?_)
  | (with_reducible refine TH.w_lock ?_)
  | (with_reducible refine TH.w_ikeys ?_)
  | (with_reducible refine TH.w_iitems ?_)
  | (with_reducible refine TH.w_dispT1 ?_)
  | (with_reducible refine TH.w_dnewT ?_)
  | (with_reducible refine TH.w_dnewK ?_)
  | (with_reducible refine TH.w_fld ?_)
  | (with_reducible refine TH.w_sfld ?_)
  | (with_reducible refine TH.w_meth ?_)
  | (with_reducible refine TH.w_make ?_)
  | (with_reducible refine TH.w_dget2 ?_)
  | (with_reducible refine TH.w_revL ?_)
  | (with_reducible refine TH.w_revT ?_)
  | (with_reducible refine TH.w_lstRg ?_)
  | (with_reducible refine TH.w_tupRg ?_)
  | (with_reducible refine TH.w_rg1 ?_)
  | (with_reducible refine TH.w_rg2 ?_)
  | (with_reducible refine TH.w_T ?_)
  | (with_reducible refine TH.w_F ?_))
local macro_rules | `(tactic| walk_at "rd") => `(tactic| repeat (first | walk_at "rd1" | (dsimp only [List.set, L2.wipe, List.map, TH.isInt, TH.isBool, TH.isTup, TH.isLst, TH.bo_f, TH.bo_t, TH.ba_f, TH.ba_t, TH.bn_t, TH.bn_f, List.append_nil, List.cons_append, List.nil_append])))

variable {P : Program} {w : World} {K : PySem.W.Frag} {mg : Str → Option Value} {base : Heap}
/-! _law_side(ties, post, barred), with one tie -/
def Two (a b : Nat) : Prop := (a = 0 ∧ b = 1) ∨ (a = 1 ∧ b = 0)
theorem sortZ_one (a : Int) : sortZ [a] = [a] := sortZ_self (by simp)
theorem near_two {a b : Nat} (h : Two a b) : nearZ [(0, 1)] a = [(b : Int)] := by
  rcases h with ⟨rfl, rfl⟩ | ⟨rfl, rfl⟩
  · exact sortZ_one 1
  · exact sortZ_one 0
def sp_law_side (K : PySem.W.Frag) : Sp := fun vs H Q _ => ∃ (v : V) (a b : Nat), vs = [v, .int (a : Nat), .int (b : Nat)] ∧ Dp K H v (tiesT [(0, 1)]) ∧ Two a b ∧ ∀ l H', Ex H H' → H l = none → H' l = some (.lst [.int (a : Nat)]) → Q (.ref l) H'
theorem ok_law_side {f : Addr} {fd : FuncData} (F : C8.Def K mg "_law_side" s_law_side f fd) (b : Binds K fd ["ties", "post", "barred"] []) (T : Txt mg)
    (c_law_tied : C8.Cal P w K mg base 1 "_law_tied" (sp_law_tied K) []) : C8.Cal P w K mg base 2 "_law_side" (sp_law_side K) [] := by
  refine C8.cal0 F b .nil sc_law_side (fun vs H Q E h => ?_) (fun cdv A outer s H vs Q E hr h => ?_)
  · obtain ⟨v, a, b, rfl, _⟩ := h
    rfl
  · obtain ⟨v, a, b, rfl, hv, hab, q⟩ := h
    have hu64 := hu64_of hr
    have hab' : ¬ ((b : Int) = a) ∧ a ≤ 1 := by
      rcases hab with ⟨rfl, rfl⟩ | ⟨rfl, rfl⟩ <;> exact ⟨by decide, by decide⟩
    refine ⟨_, (pss_cons (ps_set (i := 3) sc_law_side.nd rfl (Or.inl rfl) (pe_lst (pa_cons (pv 1) pa_nil)))
      (pss_cons (ps_for PassesOwn.never rfl (TH.kpi_list (K := K) (pe_slice (TH.ksl_list (K := K)) (pv 3) po_none (po_some pe_int))) (pg_name (i := 4) sc_law_side.nd rfl (Or.inl rfl) (Or.inr rfl)) (pss_cons (ps_set (i := 5) sc_law_side.nd rfl (Or.inl rfl) (pe_lst (pa_cons (pv 4) pa_nil)))
      (pss_one (ps_while PassesOwn.never (pt_cmpR op_gt (pe_callB (TH.kcall_len (K := K)) (by rfl) T.b_len (by decide +kernel) (pa_cons (pv 5) pa_nil)) pe_int (nomark _)) (pss_one (ps_for PassesOwn.never rfl (TH.kpi_list (K := K) (C8.pe_c c_law_tied hr (by first | decide | exact Nat.le_refl _) (by rfl) (pa_cons (pv 0) (pa_cons (TH.kpe_bm0 (K := K) PySem.F.plainAttrs_list PySem.F.slot_list_pop PySem.F.type_list_pop mt_pop (pv 5)) pa_nil)))) (pg_name (i := 6) sc_law_side.nd rfl (Or.inl rfl) (Or.inr rfl)) (pss_one (ps_if (PW.pt (pw_and (pt_cmpR op_ne (pv 6) (pv 2) (nomark _)) (pw_and1 (pt_cmpR (TH.kop_notIn (K := K)) (pv 6) (pv 3) (by rfl))))) (pss_cons (ps_expr (TH.kpe_bm (K := K) PySem.F.plainAttrs_list PySem.F.slot_list_append PySem.F.type_list_append mt_append (pv 3) (pa_cons (pv 6) pa_nil)))
      (pss_one (ps_expr (TH.kpe_bm (K := K) PySem.F.plainAttrs_list PySem.F.slot_list_append PySem.F.type_list_append mt_append (pv 5) (pa_cons (pv 6) pa_nil))))) pss_nil))))))))
      (pss_one (ps_ret (pe_callB (TH.call_sortedD (K := K) hu64) (by rfl) T.b_sorted (by decide +kernel) (pa_cons (pv 3) pa_nil)))))), ?_⟩
    refine w_start (σ' := [some v, some (.int a), some (.int b), none, none, none, none]) rfl ?_
    walk_at "rd"
    refine w_dispT (by simp) fun ml hml => ?_
    have e1 : Ex H (upd H ml (.lst [.int a])) := Ex.new hml
    have u1 : upd H ml (.lst [.int a]) ml = some (.lst [.int a]) := upd_same
    generalize upd H ml (.lst [.int a]) = H1 at e1 u1 ⊢
    walk_at "rd"
    refine ⟨ml, _, rfl, sqL u1, fun p hp => ?_⟩
    have ec : cutV [V.int (a : Nat)] none (some 1) = [V.int (a : Nat)] := rfl
    rw [ec]
    have e2 : Ex H1 (upd H1 p (.lst [.int a])) := Ex.new hp
    have u2 : upd H1 p (.lst [.int a]) p = some (.lst [.int a]) := upd_same
    have u3 := e2 _ _ u1
    generalize upd H1 p (.lst [.int a]) = H2 at e2 u2 u3 ⊢
    refine ⟨p, rfl, ⟨_, sqL u2⟩, ?_⟩
    refine for_go walk_list (fun i σ H' => Ex H H' ∧ H' ml = some (.lst [.int a]) ∧ H' p = some (.lst [.int a]) ∧ ∃ y4 y5 y6, σ = [some v, some (.int a), some (.int b), some (.ref ml), y4, y5, y6]) ⟨e1.trans e2, u3, u2, _, _, _, rfl⟩ (fun i σ H' _ p => sqL p.2.2.1) (fun i x σ H3 H3' hi pp y => ?_) (fun σ H3 pp => ?_)
    · obtain ⟨e3, g1, g2, y4, y5, y6, rfl⟩ := pp
      obtain ⟨rfl, hx⟩ := y
      have hx' : x = .int a := by
        match i, hx with
        | 0, h => exact (Option.some.inj h).symm
        | i + 1, h => simp at h
      subst hx'
      walk_at "rd"
      refine w_dispT (by simp) fun wl hwl => ?_
      have e4 : Ex H3' (upd H3' wl (.lst [.int a])) := Ex.new hwl
      have u4 : upd H3' wl (.lst [.int a]) wl = some (.lst [.int a]) := upd_same
      have hwl0 := e3.fresh hwl
      have hwm : ml ≠ wl := fun z => by rw [← z, g1] at hwl; cases hwl
      have hwp : p ≠ wl := fun z => by rw [← z, g2] at hwl; cases hwl
      have g1' := e4 _ _ g1
      have g2' := e4 _ _ g2
      have e34 := e3.trans e4
      generalize upd H3' wl (.lst [.int a]) = H4 at e34 u4 g1' g2' ⊢
      walk_at "rd"
      refine ⟨fun m σ H' => Ex H H' ∧ H' ml = some (.lst [.int a]) ∧ H' p = some (.lst [.int a]) ∧ ((m = 1 ∧ H' wl = some (.lst [.int a])) ∨ (m = 0 ∧ H' wl = some (.lst []))) ∧ ∃ y6, σ = [some v, some (.int a), some (.int b), some (.ref ml), some (.int a), some (.ref wl), y6],
        ⟨1, e34, g1', g2', .inl ⟨rfl, u4⟩, _, rfl⟩, fun m σ H' hw => ?_⟩
      obtain ⟨e5, k1, k2, k3, z6, rfl⟩ := hw
      rcases k3 with ⟨rfl, k3⟩ | ⟨rfl, k3⟩
      · walk_at "rd"
        refine ⟨wl, _, rfl, .inl (sqL k3), ?_⟩
        walk_at "rd"
        refine w_dec (fun _ => ?_) (fun h => absurd (show ((1 : Nat) : Int) > 0 by decide) h)
        refine ⟨fun σ' H'' => Ex H H'' ∧ H'' ml = some (.lst [.int a]) ∧ H'' p = some (.lst [.int a]) ∧ H'' wl = some (.lst []) ∧ ∃ y6, σ' = [some v, some (.int a), some (.int b), some (.ref ml), some (.int a), some (.ref wl), y6], fun σ' H'' hh => ?_, ?_⟩
        · obtain ⟨a1, a2, a3, a4, a5⟩ := hh
          exact ⟨0, by omega, a1, a2, a3, .inr ⟨rfl, a4⟩, a5⟩
        · walk_at "rd"
          refine ⟨tyL k3, ?_⟩
          refine w_pop (xs := []) k3 ?_
          have e6 : Ex H (upd H' wl (.lst [])) := e5.mut hwl0
          have j1 : upd H' wl (.lst []) ml = some (.lst [.int a]) := by rw [upd_ne hwm]; exact k1
          have j2 : upd H' wl (.lst []) p = some (.lst [.int a]) := by rw [upd_ne hwp]; exact k2
          have j3 : upd H' wl (.lst []) wl = some (.lst []) := upd_same
          generalize upd H' wl (.lst []) = H6 at e6 j1 j2 j3 ⊢
          refine ⟨v, [(0, 1)], a, rfl, e6.dp hv, by decide, fun l H7 e7 hl0 hl => ?_⟩
          rw [near_two hab] at hl
          refine ⟨l, rfl, ⟨_, sqL hl⟩, ?_⟩
          refine for_go walk_list (fun i σ H' => H' = H7 ∧ ∃ y6, σ = [some v, some (.int a), some (.int b), some (.ref ml), some (.int a), some (.ref wl), y6]) ⟨rfl, _, rfl⟩ (fun i σ H' _ p => by rw [p.1]; exact sqL hl) (fun i x σ H8 H8' hi pp y => ?_) (fun σ H8 pp => ?_)
          · obtain ⟨rfl, y6, rfl⟩ := pp
            obtain ⟨rfl, hx⟩ := y
            have hx' : x = .int b := by
              match i, hx with
              | 0, h => exact (Option.some.inj h).symm
              | i + 1, h => simp at h
            subst hx'
            walk_at "rd"
            refine w_decN (fun h => absurd rfl h) (fun _ => ?_)
            walk_at "rd"
            exact ⟨rfl, _, rfl⟩
          · obtain ⟨rfl, y6, rfl⟩ := pp
            walk_at "rd"
            exact ⟨e6.trans e7, e7 _ _ j1, e7 _ _ j2, e7 _ _ j3, _, rfl⟩
      · walk_at "rd"
        refine ⟨wl, _, rfl, .inl (sqL k3), ?_⟩
        walk_at "rd"
        refine w_dec (fun h => absurd h (by decide)) (fun _ => ?_)
        walk_at "rd"
        exact ⟨e5, k1, k2, _, _, _, rfl⟩
    · obtain ⟨e3, g1, g2, y4, y5, y6, rfl⟩ := pp
      walk_at "rd"
      refine w_sortI (ns := [(a : Int)]) (sqL g1) fun l hl => ?_
      rw [sortZ_one]
      exact q l _ (e3.trans (Ex.new hl)) (e3.fresh hl) upd_same
end TK

namespace TK
open PySem PySem.Spec PyProof.Rows L2 TH
local macro_rules | `(tactic| walk_at "rd1") => `(tactic| first
  | (with_reducible refine TH.w_seq ?_)
  | (with_reducible refine TH.w_asg ?_)
  | (with_reducible refine TH.w_ret ?_)
  | (with_reducible refine TH.w_drop ?_)
  | (with_reducible refine TH.w_ifS ?_)
  | (with_reducible refine TH.w_next ?_)
  | ((with_reducible refine TH.w_var (v := ?vv) ?hv ?_); (case hv => rfl))
  | (with_reducible refine TH.w_c ?_)
  | ((with_reducible refine TH.w_gname (σ' := ?ss) ?hs ?_); (case hs => (dsimp only [List.set]; rfl)))
  | (with_reducible refine TH.w_op ?_)
  | (with_reducible refine TH.w_un ?_)
  | (with_reducible refine TH.w_chain ?_)
  | (with_reducible refine TH.w_I0 ?_)
  | ((with_reducible refine TH.w_I ?hm ?_); (case hm => first | (exact TH.CMul.l (by omega) (by omega)) | (exact TH.CMul.r (by omega) (by omega)) | (exact TH.CDiv.mk (by omega) (by omega)) | (show (0 : Int) < _; omega) | (exact TH.CPow.mk (by omega) (by omega) (by decide))))
  | (with_reducible refine TH.w_U ?_)
  | (with_reducible refine TH.w_eqI ?_)
  | (with_reducible refine TH.w_neI ?_)
  | (with_reducible refine TH.w_eqB ?_)
  | (with_reducible refine TH.w_isN ?_)
  | (with_reducible refine TH.w_nil ?_)
  | (with_reducible refine TH.w_cons ?_)
  | (with_reducible refine TH.w_test ?_)
  | (with_reducible refine TH.w_B ?_)
  | (with_reducible refine TH.w_bl ?_)
  | (with_reducible refine TH.w_and ?_)
  | (with_reducible refine TH.w_or ?_)
  | (with_reducible refine TH.w_not ?_)
  | (with_reducible refine TH.w_andV ?_)
  | (with_reducible refine TH.w_orV ?_)
  | (with_reducible refine TH.w_notV ?_)
  | (with_reducible refine TH.w_if ?_)
  | (with_reducible refine TH.w_parT ?_)
  | (with_reducible refine TH.w_par ?_)
  | (with_reducible refine TH.w_parT3 ?_)
  | (with_reducible refine TH.w_par3 ?_)
  | (with_reducible refine TH.w_cb ?_)
  | (with_reducible refine TH.w_call ?_)
  | ((with_reducible refine TH.w_aug (v := ?vv) ?hv ?_); (case hv => rfl))
  | (with_reducible refine TH.w_ip ?_)
  | (with_reducible refine TH.w_bm ?_)
  | (with_reducible refine TH.w_sl ?_)
  | (with_reducible refine TH.w_np ?_)
  | (with_reducible refine TH.w_pt ?_)
  | (with_reducible refine TH.w_pti ?_)
  | (with_reducible refine TH.w_gsub ?_)
  | (with_reducible refine TH.w_int ?_)
  | (with_reducible refine TH.w_tupT ?_)
  | (with_reducible refine TH.w_lstT ?_)
  | ((with_reducible show L2.rIxL _ _ _ _ _); (first | (refine TH.w_ixL (TH.sqL upd_same) rfl ?_) | (refine TH.w_ixL (TH.sqL (by assumption)) rfl ?_)))
  | ((with_reducible show L2.rSetL _ _ _ _ _); (first | (refine TH.w_set1 upd_same ?_) | (refine TH.w_set2 upd_same ?_) | (refine TH.w_set3 upd_same ?_) | (refine TH.w_set4 upd_same ?_) | (refine TH.w_set1 (by assumption) ?_) | (refine TH.w_set2 (by assumption) ?_) | (refine TH.w_set3 (by assumption) ?_) | (refine TH.w_set4 (by assumption) ?_)))
  | (with_reducible refine TH.w_lc ?_)
  | (with_reducible refine TH.w_dc ?_)
  | (with_reducible refine TH.w_itup ?_)
  | (with_reducible refine TH.w_ilist ?_)
  | (with_reducible refine TH.w_ienum ?_)
  | (with_reducible refine TH.w_izip ?_)
  | (with_reducible refine TH.w_irng1 ?_)
  | (with_reducible refine TH.w_irng2 ?_)
  | (with_reducible refine TH.w_for ?_)
  | (with_reducible refine TH.w_gcons ?_)
  | (with_reducible refine TH.w_gnil ?_)
  | (with_reducible refine TH.w_yes ?_)
  | (with_reducible refine TH.w_gtup2 upd_same ?_)
  | (with_reducible refine TH.w_gtup3 upd_same ?_)
  | (with_reducible refine TH.w_dput ?_)
  | (with_reducible refine TH.w_bm0 ?_)
  | (with_reducible refine TH.w_din ?_)
  | (with_reducible refine TH.w_dnotin ?_)
  | (with_reducible refine TH.w_dispK ?_)
  | (with_reducible refine TH.w_lock ?_)
  | (with_reducible refine TH.w_ikeys ?_)
  | (with_reducible refine TH.w_iitems ?_)
  | (with_reducible refine TH.w_dispT1 ?_)
  | (with_reducible refine TH.w_dnewT ?_)
  | (with_reducible refine TH.w_dnewK ?_)
  | (with_reducible refine TH.w_fld ?_)
  | (with_reducible refine TH.w_sfld ?_)
  | (with_reducible refine TH.w_meth ?_)
  | (with_reducible refine TH.w_make ?_)
  | (with_reducible refine TH.w_dget2 ?_)
  | (with_reducible refine TH.w_revL ?_)
  | (with_reducible refine TH.w_revT ?_)
  | (with_reducible refine TH.w_lstRg ?_)
  | (with_reducible refine TH.w_tupRg ?_)
  | (with_reducible refine TH.w_rg1 ?_)
  | (with_reducible refine TH.w_rg2 ?_)
  | (with_reducible refine TH.w_T ?_)
  | (with_reducible refine TH.w_F ?_))
local macro_rules | `(tactic| walk_at "rd") => `(tactic| repeat (first | walk_at "rd1" | (dsimp only [List.set, L2.wipe, List.map, TH.isInt, TH.isBool, TH.isTup, TH.isLst, TH.bo_f, TH.bo_t, TH.ba_f, TH.ba_t, TH.bn_t, TH.bn_f, List.append_nil, List.cons_append, List.nil_append])))

variable {P : Program} {w : World} {K : PySem.W.Frag} {mg : Str → Option Value} {base : Heap}
/-! the law's sheet: one tie, rows -/
def wantsT (ws : List (List (List Int))) : D := .tuple (ws.map rowsT)
theorem imm_rowsTs (ws : List (List (List Int))) : immAll (ws.map rowsT) = true := immAll_iff.mpr fun d hd => by
  obtain ⟨x, _, rfl⟩ := List.mem_map.mp hd
  exact imm_rows x
def tup2 (x y : Int) : HO := .tup [.int x, .int y]
def SpecAt (K : PySem.W.Frag) (H : Hp) (v : V) (p : Nat) (hs : List Nat) (ws : List (List (List Int))) : Prop := ∃ (a ta c1 : Addr) (hv wv : V), v = .ref a ∧ SqT K H a [.int (p : Nat), .ref ta, hv, wv] ∧ SqT K H ta [.ref c1] ∧ H c1 = some (tup2 0 1) ∧ Dp K H hv (row (nz hs)) ∧ Dp K H wv (wantsT ws)
theorem SpecAt.ex {H H' : Hp} {v : V} {p : Nat} {hs : List Nat} {ws : List (List (List Int))} (h : SpecAt K H v p hs ws) (e : Ex H H') : SpecAt K H' v p hs ws := by
  obtain ⟨a, ta, c1, hv, wv, h1, h2, h3, h4, h5, h6⟩ := h
  exact ⟨a, ta, c1, hv, wv, h1, e.t h2, e.t h3, e _ _ h4, e.dp h5, e.dp h6⟩
structure WOk (p : Nat) (hs : List Nat) (ws : List (List (List Int))) : Prop where
  p23 : p = 2 ∨ p = 3
  hl : hs.length = 2
  h60 : hs.sum ≤ 60
  wl : ws.length = 2
  w8 : ∀ rs ∈ ws, rs.length ≤ 60
  rin : ∀ rs ∈ ws, ∀ r ∈ rs, LRow p hs.sum r
def cutZ (ns : List Int) (r : List Int) : List Int := ns.map fun n => r.getD n.toNat 0
def blkZ (hs : List Nat) (ws : List (List (List Int))) (a b : Nat) : List (List Int) := (ws.getD b []).map (cutZ (lotZ hs a))
/-! _law_ways(ties) -/
def sp_ways2 (K : PySem.W.Frag) : Sp := fun vs H Q _ => ∃ (ta c1 : Addr), vs = [.ref ta] ∧ SqT K H ta [.ref c1] ∧ H c1 = some (tup2 0 1) ∧
  ∀ l b1 b2 H', Ex H H' → H l = none → H' l = some (.lst [.ref b1, .ref b2]) → H' b1 = some (tup2 0 1) → H' b2 = some (tup2 1 0) → Q (.ref l) H'
theorem sort_two : [tieD (0, 1), tieD (1, 0)].mergeSort (PySem.W.dataLe false id) = [tieD (0, 1), tieD (1, 0)] := by
  have h := sort_ties [(0, 1), (1, 0)]
  have e : sortP [(0, 1), (1, 0)] = [(0, 1), (1, 0)] := List.mergeSort_of_pairwise (by simp [leP])
  rw [e] at h
  exact h
theorem perm_two {u1 u2 : V} {bs : List (V × D)} (h : bs.Perm ([u1, u2].zip [tieD (0, 1), tieD (1, 0)])) (e : bs.map (·.2) = [tieD (0, 1), tieD (1, 0)]) : bs.map (·.1) = [u1, u2] := by
  match bs, e, h with
  | [], e, _ => simp at e
  | [_], e, _ => simp at e
  | _ :: _ :: _ :: _, e, _ => simp at e
  | [(x, d), (y, f)], e, h =>
    have e1 : d = tieD (0, 1) := by
      have := congrArg (fun l : List D => l[0]?) e
      exact Option.some.inj this
    have e2 : f = tieD (1, 0) := by
      have := congrArg (fun l : List D => l[1]?) e
      exact Option.some.inj this
    have hne : tieD (0, 1) ≠ tieD (1, 0) := fun z => by
      unfold tieD at z
      injection z with z
      injection z with z1 z2
      injection z1 with z1
      cases z1
    subst e1 e2
    have m1 := h.mem_iff.mp (List.mem_cons_self (a := (x, tieD (0, 1))) (l := [(y, tieD (1, 0))]))
    have m2 := h.mem_iff.mp (List.mem_cons_of_mem (x, tieD (0, 1)) (List.mem_singleton.mpr (rfl : (y, tieD (1, 0)) = _)))
    have m1 : (x, tieD (0, 1)) ∈ [(u1, tieD (0, 1)), (u2, tieD (1, 0))] := m1
    have m2 : (y, tieD (1, 0)) ∈ [(u1, tieD (0, 1)), (u2, tieD (1, 0))] := m2
    have x1 : x = u1 := by
      rcases List.mem_cons.mp m1 with h | h
      · exact (Prod.mk.inj h).1
      · exact absurd (Prod.mk.inj (List.mem_singleton.mp h)).2 hne
    have y1 : y = u2 := by
      rcases List.mem_cons.mp m2 with h | h
      · exact absurd (Prod.mk.inj h).2 (Ne.symm hne)
      · exact (Prod.mk.inj (List.mem_singleton.mp h)).1
    rw [x1, y1]
    rfl
theorem ok_ways2 {f : Addr} {fd : FuncData} (F : C8.Def K mg "_law_ways" s_law_ways f fd) (b : Binds K fd ["ties"] []) (T : Txt mg) : C8.Cal P w K mg base 1 "_law_ways" (sp_ways2 K) [] := by
  refine C8.cal0 F b .nil sc_law_ways (fun vs H Q E h => ?_) (fun cdv A outer s H vs Q E hr h => ?_)
  · obtain ⟨ta, c1, rfl, _⟩ := h
    rfl
  · obtain ⟨ta, c1, rfl, hta, hc1, q⟩ := h
    have hu64 := hu64_of hr
    refine ⟨_, (pss_one (ps_ret (pe_callB (TH.call_sortedM (K := K) hu64) (by rfl) T.b_sorted (by decide +kernel) (pa_cons (pe_op op_cat (pe_callTy (TH.kcall_list (K := K)) (by rfl) T.b_list (by decide +kernel) (pa_cons (pv 0) pa_nil)) (pe_lc (own := [("one", 1), ("other", 2)]) (g := gTup K 2 (gCons (gName 1) (gCons (gName 2) gNil))) (tt := tYes) rfl sc_law_ways.nd (TH.kpi_tup (K := K) (pv 0)) (blkOk_by (own := [("one", 1), ("other", 2)]) (N := N_law_ways) (sc := C8.fnScope s_law_ways) (by decide +kernel)) (fun _ _ _ _ _ => (TH.kpg_tup (K := K) (n := 2) rfl (pgs_cons (pg_name (i := 1) sc_law_ways.nd rfl (Or.inl rfl) (Or.inr rfl)) (pgs_cons (pg_name (i := 2) sc_law_ways.nd rfl (Or.inl rfl) (Or.inr rfl)) pgs_nil)))) (fun _ _ _ _ _ => pts_nil) (fun _ _ _ _ _ => (pe_tup (pa_cons (pv 2) (pa_cons (pv 1) pa_nil)))))) pa_nil)))), ?_⟩
    refine w_start (σ' := [some (.ref ta), none, none]) rfl ?_
    walk_at "rd"
    refine ⟨ta, _, rfl, .inr hta, fun l1 hl1 => ?_⟩
    have e1 : Ex H (upd H l1 (.lst [.ref c1])) := Ex.new hl1
    have u1 : upd H l1 (.lst [.ref c1]) l1 = some (.lst [.ref c1]) := upd_same
    generalize upd H l1 (.lst [.ref c1]) = H1 at e1 u1 ⊢
    walk_at "rd"
    refine ⟨ta, rfl, ⟨_, e1.t hta⟩, fun Dl hD => ?_⟩
    refine lc_rel walk_tup (fun i H v => ∃ b, v = .ref b ∧ H b = some (tup2 1 0)) (fun i H H' v t h => by
      obtain ⟨b, h1, h2⟩ := h
      exact ⟨b, h1, (t _ _).1 h2⟩) (fun H' e => e.t (e1.t hta)) hD (by simp) (fun i x H' H'' hi e y R k => ?_) (fun H2 ws e2 hws hwl hw => ?_)
    · obtain ⟨rfl, hx⟩ := y
      have hx' : x = .ref c1 := by
        match i, hx with
        | 0, h => exact (Option.some.inj h).symm
        | i + 1, h => simp at h
      subst hx'
      have hc2 := e _ _ (e1 _ _ hc1)
      refine w_gtup2 hc2 ?_
      walk_at "rd"
      refine ⟨rfl, ?_⟩
      walk_at "rd"
      refine w_dispT (by simp) fun p hp => ?_
      exact k _ _ (Ex.new hp) ⟨p, rfl, upd_same⟩
    · obtain ⟨w0, rfl⟩ : ∃ w0, ws = [w0] := by
        match ws, hwl with
        | [w0], _ => exact ⟨w0, rfl⟩
      obtain ⟨b2, rfl, hb2⟩ := hw 0 w0 rfl
      refine ⟨l1, Dl, _, _, rfl, rfl, e2 _ _ u1, hws, small2 (by simp), fun l3 hl3 => ?_⟩
      have e13 := e1.trans (e2.trans (Ex.new (o := .lst ([.ref c1] ++ [.ref b2])) hl3))
      have u3 : upd H2 l3 (.lst ([.ref c1] ++ [.ref b2])) l3 = some (.lst [.ref c1, .ref b2]) := upd_same
      have hb3 : upd H2 l3 (.lst ([.ref c1] ++ [.ref b2])) b2 = some (tup2 1 0) := (Ex.new hl3) _ _ hb2
      generalize upd H2 l3 (.lst ([.ref c1] ++ [.ref b2])) = H3 at e13 hb3 u3 ⊢
      have hc3 := e13 _ _ hc1
      walk_at "rd"
      refine ⟨l3, [.ref c1, .ref b2], [tieD (0, 1), tieD (1, 0)], rfl, sqL u3, .cons (dp_tie_of (sqT hc3)) (.cons (dp_tie_of (sqT hb3)) .nil), PySem.W.AllAlike.of (enc := tieD) (bs := [(0, 1), (1, 0)]) alike_tie, .inl fun d hd => ?_, fun d hd => ?_, fun bs p hp hbs hbd => ?_⟩
      · rcases List.mem_cons.mp hd with h | h
        · exact ⟨_, _, h⟩
        · exact ⟨_, _, List.mem_singleton.mp h⟩
      · rcases List.mem_cons.mp hd with h | h
        · rw [h]
          decide
        · rw [List.mem_singleton.mp h]
          decide
      · rw [sort_two] at hbd
        rw [perm_two hbs hbd]
        exact q p c1 b2 _ (e13.trans (Ex.new hp)) (e13.fresh hp) upd_same ((Ex.new hp) _ _ hc3) ((Ex.new hp) _ _ hb3)
end TK

namespace TK
open PySem PySem.Spec PyProof.Rows L2 TH
local macro_rules | `(tactic| walk_at "rd1") => `(tactic| first
  | (with_reducible refine TH.w_seq ?_)
  | (with_reducible refine TH.w_asg ?_)
  | (with_reducible refine TH.w_ret ?_)
  | (with_reducible refine TH.w_drop ?_)
  | (with_reducible refine TH.w_ifS ?_)
  | (with_reducible refine TH.w_next ?_)
  | ((with_reducible refine TH.w_var (v := ?vv) ?hv ?_); (case hv => rfl))
  | (with_reducible refine TH.w_c ?_)
  | ((with_reducible refine TH.w_gname (σ' := ?ss) ?hs ?_); (case hs => (dsimp only [List.set]; rfl)))
  | (with_reducible refine TH.w_op ?_)
  | (with_reducible refine TH.w_un ?_)
  | (with_reducible refine TH.w_chain ?_)
  | (with_reducible refine TH.w_I0 ?_)
  | ((with_reducible refine TH.w_I ?hm ?_); (case hm => first | (exact TH.CMul.l (by omega) (by omega)) | (exact TH.CMul.r (by omega) (by omega)) | (exact TH.CDiv.mk (by omega) (by omega)) | (show (0 : Int) < _; omega) | (exact TH.CPow.mk (by omega) (by omega) (by decide))))
  | (with_reducible refine TH.w_U ?_)
  | (with_reducible refine TH.w_eqI ?_)
  | (with_reducible refine TH.w_neI ?_)
  | (with_reducible refine TH.w_eqB ?_)
  | (with_reducible refine TH.w_isN ?_)
  | (with_reducible refine TH.w_nil ?_)
  | (with_reducible refine TH.w_cons ?_)
  | (with_reducible refine TH.w_test ?_)
  | (with_reducible refine TH.w_B ?_)
  | (with_reducible refine TH.w_bl ?_)
  | (with_reducible refine TH.w_and ?_)
  | (with_reducible refine TH.w_or ?_)
  | (with_reducible refine TH.w_not ?_)
  | (with_reducible refine TH.w_andV ?_)
  | (with_reducible refine TH.w_orV ?_)
  | (with_reducible refine TH.w_notV ?_)
  | (with_reducible refine TH.w_if ?_)
  | (with_reducible refine TH.w_parT ?_)
  | (with_reducible refine TH.w_par ?_)
  | (with_reducible refine TH.w_parT3 ?_)
  | (with_reducible refine TH.w_par3 ?_)
  | (with_reducible refine TH.w_cb ?_)
  | (with_reducible refine TH.w_call ?_)
  | ((with_reducible refine TH.w_aug (v := ?vv) ?hv ?_); (case hv => rfl))
  | (with_reducible refine TH.w_ip ?_)
  | (with_reducible refine TH.w_bm ?_)
  | (with_reducible refine TH.w_sl ?_)
  | (with_reducible refine TH.w_np ?_)
  | (with_reducible refine TH.w_pt ?_)
  | (with_reducible refine TH.w_pti ?_)
  | (with_reducible refine TH.w_gsub ?_)
  | (with_reducible refine TH.w_int ?_)
  | (with_reducible refine TH.w_tupT ?_)
  | (with_reducible refine TH.w_lstT ?_)
  | ((with_reducible show L2.rIxL _ _ _ _ _); (first | (refine TH.w_ixL (TH.sqL upd_same) rfl ?_) | (refine TH.w_ixL (TH.sqL (by assumption)) rfl ?_)))
  | ((with_reducible show L2.rSetL _ _ _ _ _); (first | (refine TH.w_set1 upd_same ?_) | (refine TH.w_set2 upd_same ?_) | (refine TH.w_set3 upd_same ?_) | (refine TH.w_set4 upd_same ?_) | (refine TH.w_set1 (by assumption) ?_) | (refine TH.w_set2 (by assumption) ?_) | (refine TH.w_set3 (by assumption) ?_) | (refine TH.w_set4 (by assumption) ?_)))
  | (with_reducible refine TH.w_lc ?_)
  | (with_reducible refine TH.w_dc ?_)
  | (with_reducible refine TH.w_itup ?_)
  | (with_reducible refine TH.w_ilist ?_)
  | (with_reducible refine TH.w_ienum ?_)
  | (with_reducible refine TH.w_izip ?_)
  | (with_reducible refine TH.w_irng1 ?_)
  | (with_reducible refine TH.w_irng2 ?_)
  | (with_reducible refine TH.w_for ?_)
  | (with_reducible refine TH.w_gcons ?_)
  | (with_reducible refine TH.w_gnil ?_)
  | (with_reducible refine TH.w_yes ?_)
  | (with_reducible refine TH.w_gtup2 upd_same ?_)
  | (with_reducible refine TH.w_gtup3 upd_same ?_)
  | (with_reducible refine TH.w_dput ?_)
  | (with_reducible refine TH.w_bm0 ?_)
  | (with_reducible refine TH.w_din ?_)
  | (with_reducible refine TH.w_dnotin ?_)
  | (with_reducible refine TH.w_dispK ?_)
  | (with_reducible refine TH.w_lock ?_)
  | (with_reducible refine TH.w_ikeys ?_)
  | (with_reducible refine TH.w_iitems ?_)
  | (with_reducible refine TH.w_dispT1 ?_)
  | (with_reducible refine TH.w_dnewT ?_)
  | (with_reducible refine TH.w_dnewK ?_)
  | (with_reducible refine TH.w_fld ?_)
  | (with_reducible refine TH.w_sfld ?_)
  | (with_reducible refine TH.w_meth ?_)
  | (with_reducible refine TH.w_make ?_)
  | (with_reducible refine TH.w_dget2 ?_)
  | (with_reducible refine TH.w_revL ?_)
  | (with_reducible refine TH.w_revT ?_)
  | (with_reducible refine TH.w_lstRg ?_)
  | (with_reducible refine TH.w_tupRg ?_)
  | (with_reducible refine TH.w_rg1 ?_)
  | (with_reducible refine TH.w_rg2 ?_)
  | (with_reducible refine TH.w_T ?_)
  | (with_reducible refine TH.w_F ?_))
local macro_rules | `(tactic| walk_at "rd") => `(tactic| repeat (first | walk_at "rd1" | (dsimp only [List.set, L2.wipe, List.map, TH.isInt, TH.isBool, TH.isTup, TH.isLst, TH.bo_f, TH.bo_t, TH.ba_f, TH.ba_t, TH.bn_t, TH.bn_f, List.append_nil, List.cons_append, List.nil_append])))

variable {P : Program} {w : World} {K : PySem.W.Frag} {mg : Str → Option Value} {base : Heap}
theorem lotZ_rng {hs : List Nat} {y : Nat} {n : Int} (h : n ∈ lotZ hs y) : 0 ≤ n ∧ n < (hs.sum : Nat) := by
  have := mem_rgZ.mp h
  have := take_sum_le hs (y + 1)
  omega
theorem only {α : Type} {a x : α} {i : Nat} (h : [a][i]? = some x) : x = a ∧ i = 0 := by
  match i, h with
  | 0, h => exact ⟨(Option.some.inj h).symm, rfl⟩
  | i + 1, h => simp at h
/-! _law_block(spec, way) -/
def sp_law_block (K : PySem.W.Frag) : Sp := fun vs H Q _ => ∃ (v u : V) (p : Nat) (hs : List Nat) (ws : List (List (List Int))) (a b : Nat), vs = [v, u] ∧ SpecAt K H v p hs ws ∧ WOk p hs ws ∧ Dp K H u (tieD (a, b)) ∧ Two a b ∧
  ∀ l us H', Ex H H' → H l = none → H' l = some (.lst us) → DpAll K H' us ((blkZ hs ws a b).map row) → Q (.ref l) H'
theorem ok_law_block {f : Addr} {fd : FuncData} (F : C8.Def K mg "_law_block" s_law_block f fd) (b : Binds K fd ["spec", "way"] []) (T : Txt mg)
    (c_law_numbers_of : C8.Cal P w K mg base 1 "_law_numbers_of" (sp_law_numbers_of K) []) (c_law_side : C8.Cal P w K mg base 2 "_law_side" (sp_law_side K) []) : C8.Cal P w K mg base 3 "_law_block" (sp_law_block K) [] := by
  refine C8.cal0 F b .nil sc_law_block (fun vs H Q E h => ?_) (fun cdv A outer s H vs Q E hr h => ?_)
  · obtain ⟨v, u, p, hs, ws, a, b, rfl, _⟩ := h
    rfl
  · obtain ⟨v, u, p, hs, ws, a, b, rfl, ⟨sa, ta, c1, hv, wv, rfl, hsa, hta, hc1, hh, hw⟩, ok, hu, hab, q⟩ := h
    obtain ⟨ua, rfl, hua⟩ := dp_tie hu
    obtain ⟨wa, vv, rfl, hwa, hvv⟩ := dp_tup hw
    have hT : Dp K H (.ref ta) (tiesT [(0, 1)]) := .tup hta (.cons (dp_tie_of (sqT hc1)) .nil)
    have o1 := ok.h60
    have o2 := ok.hl
    have o3 := ok.wl
    have hab2 : a ≤ 1 ∧ b ≤ 1 := by
      rcases hab with ⟨rfl, rfl⟩ | ⟨rfl, rfl⟩ <;> exact ⟨by decide, by decide⟩
    have hba : Two b a := by
      rcases hab with ⟨rfl, rfl⟩ | ⟨rfl, rfl⟩
      · exact .inr ⟨rfl, rfl⟩
      · exact .inl ⟨rfl, rfl⟩
    refine ⟨_, (pss_cons (ps_set (i := 2) sc_law_block.nd rfl (Or.inr rfl) (C8.pe_c c_law_numbers_of hr (by first | decide | exact Nat.le_refl _) (by rfl) (pa_cons (pe_ix (TH.kix_tup (K := K)) (pv 0) pe_int (fun _ _ => rfl)) (pa_cons (C8.pe_c c_law_side hr (by first | decide | exact Nat.le_refl _) (by rfl) (pa_cons (pe_ix (TH.kix_tup (K := K)) (pv 0) pe_int (fun _ _ => rfl)) (pa_cons (pe_ix (TH.kix_tup (K := K)) (pv 1) pe_int (fun _ _ => rfl)) (pa_cons (pe_ix (TH.kix_tup (K := K)) (pv 1) pe_int (fun _ _ => rfl)) pa_nil)))) pa_nil))))
      (pss_cons (ps_set (i := 3) sc_law_block.nd rfl (Or.inl rfl) (pe_lst pa_nil))
      (pss_cons (ps_for PassesOwn.never rfl (TH.kpi_list (K := K) (C8.pe_c c_law_side hr (by first | decide | exact Nat.le_refl _) (by rfl) (pa_cons (pe_ix (TH.kix_tup (K := K)) (pv 0) pe_int (fun _ _ => rfl)) (pa_cons (pe_ix (TH.kix_tup (K := K)) (pv 1) pe_int (fun _ _ => rfl)) (pa_cons (pe_ix (TH.kix_tup (K := K)) (pv 1) pe_int (fun _ _ => rfl)) pa_nil))))) (pg_name (i := 4) sc_law_block.nd rfl (Or.inl rfl) (Or.inr rfl)) (pss_one (ps_expr (TH.kpe_bm (K := K) PySem.F.plainAttrs_list PySem.F.slot_list_extend PySem.F.type_list_extend mt_extend (pv 3) (pa_cons (pe_lc (own := [("row", 5)]) (g := gName 5) (tt := tYes) rfl sc_law_block.nd (TH.kpi_tup (K := K) (pe_ix (TH.kix_tup (K := K)) (pe_ix (TH.kix_tup (K := K)) (pv 0) pe_int (fun _ _ => rfl)) (pv 4) (fun _ _ => rfl))) (blkOk_by (own := [("row", 5)]) (N := N_law_block) (sc := C8.fnScope s_law_block) (by decide +kernel)) (fun _ _ _ _ _ => (pg_name (i := 5) sc_law_block.nd rfl (Or.inr rfl) (Or.inl rfl))) (fun _ _ _ _ _ => pts_nil) (fun _ _ _ _ _ => (pe_callTy (TH.kcall_tuple (K := K)) (by rfl) T.b_tuple (by decide +kernel) (pa_cons (pe_lc (own := [("number", 6)]) (g := gName 6) (tt := tYes) rfl sc_law_block.nd (TH.kpi_list (K := K) (pv 2)) (TH.blkOk_blk (own := [("number", 6)]) (N := N_law_block) rfl (by decide +kernel)) (fun _ _ _ _ _ => (pg_name (i := 6) sc_law_block.nd rfl (Or.inl rfl) (Or.inr rfl))) (fun _ _ _ _ _ => pts_nil) (fun _ _ _ _ _ => (pe_ix (TH.kix_tup (K := K)) (pv 5) (pv 6) (fun _ _ => rfl)))) pa_nil)))) pa_nil)))))
      (pss_one (ps_ret (pv 3)))))), ?_⟩
    refine w_start (σ' := [some (.ref sa), some (.ref ua), none, none, none, none, none]) rfl ?_
    walk_at "rd"
    refine w_ixT hsa (atI_at (j := 2) rfl) ?_
    walk_at "rd"
    refine w_ixT hsa (atI_at (j := 1) rfl) ?_
    walk_at "rd"
    refine w_ixT hua (atI_at (j := 0) rfl) ?_
    walk_at "rd"
    refine w_ixT hua (atI_at (j := 1) rfl) ?_
    walk_at "rd"
    refine ⟨.ref ta, a, b, rfl, hT, hab, fun l1 H1 e1 hl10 hl1 => ?_⟩
    walk_at "rd"
    refine ⟨hv, hs, l1, [(a : Int)], rfl, e1.dp hh, sqL hl1, by omega, by simp, fun y hy => ?_, fun nl H2 e2 hnl0 hnl => ?_⟩
    · rw [List.mem_singleton.mp hy]
      omega
    have en : lotsZ hs [(a : Int)] = lotZ hs a := by
      show lotZ hs (Int.toNat a) ++ [] = _
      rw [List.append_nil, Int.toNat_natCast]
    rw [en] at hnl
    have e12 := e1.trans e2
    have hll := lotZ_len hs a
    walk_at "rd"
    refine w_dispT (by simp) fun fl hfl => ?_
    have e3 : Ex H2 (upd H2 fl (.lst [])) := Ex.new hfl
    have u3 : upd H2 fl (.lst []) fl = some (.lst []) := upd_same
    generalize upd H2 fl (.lst []) = H3 at e3 u3 ⊢
    have e13 := e12.trans e3
    have hfl0 := e12.fresh hfl
    have hnl3 := e3 _ _ hnl
    walk_at "rd"
    refine w_ixT (e13.t hsa) (atI_at (j := 1) rfl) ?_
    walk_at "rd"
    refine w_ixT (e13.t hua) (atI_at (j := 1) rfl) ?_
    walk_at "rd"
    refine w_ixT (e13.t hua) (atI_at (j := 0) rfl) ?_
    walk_at "rd"
    refine ⟨.ref ta, b, a, rfl, e13.dp hT, hba, fun l4 H4 e4 hl40 hl4 => ?_⟩
    refine ⟨l4, rfl, ⟨_, sqL hl4⟩, ?_⟩
    have hf4 : l4 ≠ fl := fun z => by rw [z, u3] at hl40; cases hl40
    have hnf : nl ≠ fl := fun z => by rw [← z, hnl] at hfl; cases hfl
    refine for_go walk_list (fun i σ H' => Ex H H' ∧ H' l4 = some (.lst [.int b]) ∧ H' nl = some (.lst ((lotZ hs a).map V.int)) ∧ (∃ xs, H' fl = some (.lst xs) ∧ ((i = 0 ∧ xs = []) ∨ (i = 1 ∧ DpAll K H' xs ((blkZ hs ws a b).map row)))) ∧ ∃ y4 y5 y6, σ = [some (.ref sa), some (.ref ua), some (.ref nl), some (.ref fl), y4, y5, y6])
      ⟨e13.trans e4, hl4, e4 _ _ hnl3, ⟨[], e4 _ _ u3, .inl ⟨rfl, rfl⟩⟩, _, _, _, rfl⟩ (fun i σ H' _ p => sqL p.2.1) (fun i x σ H5 H5' hi pp y => ?_) (fun σ H5 pp => ?_)
    · obtain ⟨e5, g1, g2, ⟨xs, g3, g4⟩, y4, y5, y6, rfl⟩ := pp
      obtain ⟨rfl, hx⟩ := y
      obtain ⟨rfl, rfl⟩ := only hx
      rcases g4 with ⟨_, rfl⟩ | ⟨z, _⟩
      case inr => cases z
      walk_at "rd"
      refine ⟨tyL g3, ?_⟩
      walk_at "rd"
      refine w_ixT (e5.t hsa) (atI_at (j := 3) rfl) ?_
      walk_at "rd"
      have hrs : ws[b]? = some (ws.getD b []) := getD_at (by omega)
      obtain ⟨rv, hrv, hrd⟩ := dpa_getD (i := b) (d := rowsT (ws.getD b [])) (e5.dpa hvv) (by rw [List.getElem?_map, hrs]; rfl)
      refine w_ixT (e5.t hwa) (atI_at hrv) ?_
      obtain ⟨ra, rvs, rfl, k1, k2⟩ := dp_tup hrd
      have hrl : rvs.length = (ws.getD b []).length := by rw [dpa_len k2, List.length_map]
      have hr8 := ok.w8 _ (List.mem_of_getElem? hrs)
      have hrin := ok.rin _ (List.mem_of_getElem? hrs)
      have ebl : blkZ hs ws a b = (ws.getD b []).map (cutZ (lotZ hs a)) := rfl
      rw [ebl]
      generalize ws.getD b [] = rs at k2 hrl hr8 hrin
      refine ⟨ra, rfl, ⟨_, k1⟩, fun D1 hD1 => ?_⟩
      refine lc_data (K := K) walk_tup (fun _ => true) (fun i => row (cutZ (lotZ hs a) (rs.getD i []))) (fun _ => imm_row _) (fun H' e => e.t k1) hD1 (by omega) (fun i x H6 H7 hi e y R R0 k _ => ?_) (fun H6 us e6 hus hda => ?_)
      · obtain ⟨rfl, hx⟩ := y
        obtain ⟨r, hr1, hr2⟩ := rowsAt_get (e.dpa k2) hx
        obtain ⟨xa, rfl, hxa⟩ := dp_row hr2
        have hrr := hrin r (List.mem_of_getElem? hr1)
        walk_at "rd"
        refine ⟨rfl, ?_⟩
        walk_at "rd"
        refine ⟨nl, rfl, ⟨_, sqL (e _ _ g2)⟩, fun D2 hD2 => ?_⟩
        refine lc_data (K := K) walk_list (fun _ => true) (fun j => .int (r.getD ((lotZ hs a).getD j 0).toNat 0)) (fun _ => rfl) (fun H' e' => sqL ((e.trans e') _ _ g2)) hD2 (by rw [List.length_map]; omega) (fun j z H8 H9 hj e8 y R' R0' k' _ => ?_) (fun H8 us8 e8 hus8 hda8 => ?_)
        · obtain ⟨rfl, hz⟩ := y
          obtain ⟨n, hn, rfl⟩ := ints_at hz
          have nr := lotZ_rng (List.mem_of_getElem? hn)
          obtain ⟨m, rfl⟩ : ∃ m : Nat, n = m := ⟨n.toNat, by omega⟩
          walk_at "rd"
          refine ⟨rfl, ?_⟩
          walk_at "rd"
          refine w_ixT (e8.t hxa) (atI_int (getD_at (d := 0) (by rw [hrr.1]; omega))) ?_
          refine k' rfl _ _ (Ex.refl _) ?_
          rw [getD_of hn, Int.toNat_natCast]
          exact .int _
        · rw [made_all, List.length_map, range_map 0 (fun n : Int => PyData.int (r.getD n.toNat 0))] at hda8
          have ec : (lotZ hs a).map (fun n : Int => PyData.int (r.getD n.toNat 0)) = (cutZ (lotZ hs a) r).map PyData.int := by
            unfold cutZ
            rw [List.map_map]
            rfl
          rw [ec] at hda8
          have eu := dpa_ints_inv hda8
          subst eu
          walk_at "rd"
          refine ⟨D2, _, rfl, .inl ⟨sqL hus8, fun l hl => ?_⟩⟩
          refine k rfl _ _ (e8.trans (Ex.new hl)) ?_
          rw [getD_of hr1]
          exact dp_row_of (sqT upd_same)
      · rw [made_all, hrl, range_map [] (fun r : List Int => row (cutZ (lotZ hs a) r))] at hda
        have ec : rs.map (fun r : List Int => row (cutZ (lotZ hs a) r)) = (rs.map (cutZ (lotZ hs a))).map row := by
          rw [List.map_map]
          rfl
        rw [ec] at hda
        have hul : us.length = rs.length := by rw [dpa_len hda, List.length_map, List.length_map]
        walk_at "rd"
        refine ⟨fl, D1, _, _, rfl, rfl, e6 _ _ g3, hus, small2 (by simp only [List.length_nil]; omega), ?_⟩
        walk_at "rd"
        have tx : Tx H6 (upd H6 fl (.lst ([] ++ us))) := Tx.updL (e6 _ _ g3)
        refine ⟨(e5.trans e6).mut hfl0, by rw [upd_ne hf4]; exact e6 _ _ g1, by rw [upd_ne hnf]; exact e6 _ _ g2, ⟨_, upd_same, .inr ⟨rfl, ?_⟩⟩, _, _, _, rfl⟩
        exact tx.dpa (imm_rows _) hda
    · obtain ⟨e5, g1, g2, ⟨xs, g3, g4⟩, y4, y5, y6, rfl⟩ := pp
      walk_at "rd"
      rcases g4 with ⟨z, _⟩ | ⟨_, g4⟩
      · cases z
      · exact q fl xs H5 e5 hfl0 g3 g4
end TK

namespace TK
open PySem PySem.Spec PyProof.Rows L2 TH
local macro_rules | `(tactic| walk_at "rd1") => `(tactic| first
  | (with_reducible refine TH.w_seq ?_)
  | (with_reducible refine TH.w_asg ?_)
  | (with_reducible refine TH.w_ret ?_)
  | (with_reducible refine TH.w_drop ?_)
  | (with_reducible refine TH.w_ifS ?_)
  | (with_reducible refine TH.w_next ?_)
  | ((with_reducible refine TH.w_var (v := ?vv) ?hv ?_); (case hv => rfl))
  | (with_reducible refine TH.w_c ?_)
  | ((with_reducible refine TH.w_gname (σ' := ?ss) ?hs ?_); (case hs => (dsimp only [List.set]; rfl)))
  | (with_reducible refine TH.w_op ?_)
  | (with_reducible refine TH.w_un ?_)
  | (with_reducible refine TH.w_chain ?_)
  | (with_reducible refine TH.w_I0 ?_)
  | ((with_reducible refine TH.w_I ?hm ?_); (case hm => first | (exact TH.CMul.l (by omega) (by omega)) | (exact TH.CMul.r (by omega) (by omega)) | (exact TH.CDiv.mk (by omega) (by omega)) | (show (0 : Int) < _; omega) | (exact TH.CPow.mk (by omega) (by omega) (by decide))))
  | (with_reducible refine TH.w_U ?_)
  | (with_reducible refine TH.w_eqI ?_)
  | (with_reducible refine TH.w_neI ?_)
  | (with_reducible refine TH.w_eqB ?_)
  | (with_reducible refine TH.w_isN ?_)
  | (with_reducible refine TH.w_nil ?_)
  | (with_reducible refine TH.w_cons ?_)
  | (with_reducible refine TH.w_test ?_)
  | (with_reducible refine TH.w_B ?_)
  | (with_reducible refine TH.w_bl ?_)
  | (with_reducible refine TH.w_and ?_)
  | (with_reducible refine TH.w_or ?_)
  | (with_reducible refine TH.w_not ?_)
  | (with_reducible refine TH.w_andV ?_)
  | (with_reducible refine TH.w_orV ?_)
  | (with_reducible refine TH.w_notV ?_)
  | (with_reducible refine TH.w_if ?_)
  | (with_reducible refine TH.w_parT ?_)
  | (with_reducible refine TH.w_par ?_)
  | (with_reducible refine TH.w_parT3 ?_)
  | (with_reducible refine TH.w_par3 ?_)
  | (with_reducible refine TH.w_cb ?_)
  | (with_reducible refine TH.w_call ?_)
  | ((with_reducible refine TH.w_aug (v := ?vv) ?hv ?_); (case hv => rfl))
  | (with_reducible refine TH.w_ip ?_)
  | (with_reducible refine TH.w_bm ?_)
  | (with_reducible refine TH.w_sl ?_)
  | (with_reducible refine TH.w_np ?_)
  | (with_reducible refine TH.w_pt ?_)
  | (with_reducible refine TH.w_pti ?_)
  | (with_reducible refine TH.w_gsub ?_)
  | (with_reducible refine TH.w_int ?_)
  | (with_reducible refine TH.w_tupT ?_)
  | (with_reducible refine TH.w_lstT ?_)
  | ((with_reducible show L2.rIxL _ _ _ _ _); (first | (refine TH.w_ixL (TH.sqL upd_same) rfl ?_) | (refine TH.w_ixL (TH.sqL (by assumption)) rfl ?_)))
  | ((with_reducible show L2.rSetL _ _ _ _ _); (first | (refine TH.w_set1 upd_same ?_) | (refine TH.w_set2 upd_same ?_) | (refine TH.w_set3 upd_same ?_) | (refine TH.w_set4 upd_same ?_) | (refine TH.w_set1 (by assumption) ?_) | (refine TH.w_set2 (by assumption) ?_) | (refine TH.w_set3 (by assumption) ?_) | (refine TH.w_set4 (by assumption) ?_)))
  | (with_reducible refine TH.w_lc ?_)
  | (with_reducible refine TH.w_dc ?_)
  | (with_reducible refine TH.w_itup ?_)
  | (with_reducible refine TH.w_ilist ?_)
  | (with_reducible refine TH.w_ienum ?_)
  | (with_reducible refine TH.w_izip ?_)
  | (with_reducible refine TH.w_irng1 ?_)
  | (with_reducible refine TH.w_irng2 ?_)
  | (with_reducible refine TH.w_for ?_)
  | (with_reducible refine TH.w_gcons ?_)
  | (with_reducible refine TH.w_gnil ?_)
  | (with_reducible refine TH.w_yes ?_)
  | (with_reducible refine TH.w_gtup2 upd_same ?_)
  | (with_reducible refine TH.w_gtup3 upd_same ?_)
  | (with_reducible refine TH.w_dput ?_)
  | (with_reducible refine TH.w_bm0 ?_)
  | (with_reducible refine TH.w_din ?_)
  | (with_reducible refine TH.w_dnotin ?_)
  | (with_reducible refine TH.w_dispK ?_)
  | (with_reducible refine TH.w_lock ?_)
  | (with_reducible refine TH.w_ikeys ?_)
  | (with_reducible refine TH.w_iitems ?_)
  | (with_reducible refine TH.w_dispT1 ?_)
  | (with_reducible refine TH.w_dnewT ?_)
  | (with_reducible refine TH.w_dnewK ?_)
  | (with_reducible refine TH.w_fld ?_)
  | (with_reducible refine TH.w_sfld ?_)
  | (with_reducible refine TH.w_meth ?_)
  | (with_reducible refine TH.w_make ?_)
  | (with_reducible refine TH.w_dget2 ?_)
  | (with_reducible refine TH.w_revL ?_)
  | (with_reducible refine TH.w_revT ?_)
  | (with_reducible refine TH.w_lstRg ?_)
  | (with_reducible refine TH.w_tupRg ?_)
  | (with_reducible refine TH.w_rg1 ?_)
  | (with_reducible refine TH.w_rg2 ?_)
  | (with_reducible refine TH.w_T ?_)
  | (with_reducible refine TH.w_F ?_))
local macro_rules | `(tactic| walk_at "rd") => `(tactic| repeat (first | walk_at "rd1" | (dsimp only [List.set, L2.wipe, List.map, TH.isInt, TH.isBool, TH.isTup, TH.isLst, TH.bo_f, TH.bo_t, TH.ba_f, TH.ba_t, TH.bn_t, TH.bn_f, List.append_nil, List.cons_append, List.nil_append])))

variable {P : Program} {w : World} {K : PySem.W.Frag} {mg : Str → Option Value} {base : Heap}
/-! _law_tolls(spec) -/
def nTo (p : Nat) (hs : List Nat) (ws : List (List (List Int))) (a b : Nat) : Nat := (ladZ p (blkZ hs ws a b)).length
theorem blk_row {p : Nat} {hs : List Nat} {ws : List (List (List Int))} (ok : WOk p hs ws) {a b : Nat} (hb : b ≤ 1) : (∀ r ∈ blkZ hs ws a b, LRow p (lotZ hs a).length r) ∧ (blkZ hs ws a b).length ≤ 60 := by
  have hrs : ws[b]? = some (ws.getD b []) := getD_at (by have := ok.wl; omega)
  refine ⟨fun r hr => ?_, ?_⟩
  · obtain ⟨x, hx, rfl⟩ := List.mem_map.mp hr
    have hrr := ok.rin _ (List.mem_of_getElem? hrs) x hx
    refine ⟨by simp [cutZ], fun y hy => ?_⟩
    obtain ⟨n, hn, rfl⟩ := List.mem_map.mp hy
    have nr := lotZ_rng hn
    have : x[n.toNat]? = some (x.getD n.toNat 0) := getD_at (by rw [hrr.1]; omega)
    exact hrr.2 _ (List.mem_of_getElem? this)
  · unfold blkZ
    rw [List.length_map]
    exact ok.w8 _ (List.mem_of_getElem? hrs)
def k01 : List Key := [Sum.inl 0, Sum.inl 1]
def k10 : List Key := [Sum.inl 1, Sum.inl 0]
def sp_law_tolls (K : PySem.W.Frag) : Sp := fun vs H Q _ => ∃ (v : V) (p : Nat) (hs : List Nat) (ws : List (List (List Int))), vs = [v] ∧ SpecAt K H v p hs ws ∧ WOk p hs ws ∧
  ∀ d H', Ex H H' → H d = none → H' d = some (.dT [(k01, .int (nTo p hs ws 0 1)), (k10, .int (nTo p hs ws 1 0))]) → Q (.ref d) H'
def wayT (j : Nat) : HO := if j = 0 then tup2 0 1 else tup2 1 0
def tollRel (p : Nat) (hs : List Nat) (ws : List (List (List Int))) (j : Nat) (H : Hp) (v : V) : Prop := ∃ q b, v = .ref q ∧ H q = some (.tup [.ref b, .int (if j = 0 then nTo p hs ws 0 1 else nTo p hs ws 1 0 : Nat)]) ∧ H b = some (wayT j)
theorem ok_law_tolls {f : Addr} {fd : FuncData} (F : C8.Def K mg "_law_tolls" s_law_tolls f fd) (b : Binds K fd ["spec"] []) (T : Txt mg)
    (c_law_ways : C8.Cal P w K mg base 1 "_law_ways" (sp_ways2 K) []) (c_law_ladder : C8.Cal P w K mg base 2 "_law_ladder" (sp_ladder K) []) (c_law_block : C8.Cal P w K mg base 3 "_law_block" (sp_law_block K) []) : C8.Cal P w K mg base 4 "_law_tolls" (sp_law_tolls K) [] := by
  refine C8.cal0 F b .nil sc_law_tolls (fun vs H Q E h => ?_) (fun cdv A outer s H vs Q E hr h => ?_)
  · obtain ⟨v, p, hs, ws, rfl, _⟩ := h
    rfl
  · obtain ⟨v, p, hs, ws, rfl, hv, ok, q⟩ := h
    have hu64 := hu64_of hr
    obtain ⟨sa, ta, c1, hv', wv, rfl, hsa, hta, hc1, hh, hw⟩ := id hv
    refine ⟨_, (pss_one (ps_ret (pe_callTy (TH.call_dictPT (K := K) rfl hu64) (by rfl) T.b_dict (by decide +kernel) (pa_cons (pe_lc (own := [("way", 1)]) (g := gName 1) (tt := tYes) rfl sc_law_tolls.nd (TH.kpi_list (K := K) (C8.pe_c c_law_ways hr (by first | decide | exact Nat.le_refl _) (by rfl) (pa_cons (pe_ix (TH.kix_tup (K := K)) (pv 0) pe_int (fun _ _ => rfl)) pa_nil))) (blkOk_by (own := [("way", 1)]) (N := N_law_tolls) (sc := C8.fnScope s_law_tolls) (by decide +kernel)) (fun _ _ _ _ _ => (pg_name (i := 1) sc_law_tolls.nd rfl (Or.inl rfl) (Or.inr rfl))) (fun _ _ _ _ _ => pts_nil) (fun _ _ _ _ _ => (pe_tup (pa_cons (pv 1) (pa_cons (pe_callB (TH.kcall_len (K := K)) (by rfl) T.b_len (by decide +kernel) (pa_cons (C8.pe_c c_law_ladder hr (by first | decide | exact Nat.le_refl _) (by rfl) (pa_cons (pe_ix (TH.kix_tup (K := K)) (pv 0) pe_int (fun _ _ => rfl)) (pa_cons (C8.pe_c c_law_block hr (by first | decide | exact Nat.le_refl _) (by rfl) (pa_cons (pv 0) (pa_cons (pv 1) pa_nil))) pa_nil))) pa_nil)) pa_nil))))) pa_nil)))), ?_⟩
    refine w_start (σ' := [some (.ref sa), none]) rfl ?_
    walk_at "rd"
    refine w_ixT hsa (atI_at (j := 1) rfl) ?_
    walk_at "rd"
    refine ⟨ta, c1, rfl, hta, hc1, fun l b1 b2 H1 e1 hl0 hl hb1 hb2 => ?_⟩
    refine ⟨l, rfl, ⟨_, sqL hl⟩, fun Dl hD => ?_⟩
    refine lc_rel walk_list (tollRel p hs ws) (fun i H H' v t h => by
      obtain ⟨x, y, h1, h2, h3⟩ := h
      refine ⟨x, y, h1, (t _ _).1 h2, ?_⟩
      unfold wayT at h3 ⊢
      split
      · rename_i z
        rw [if_pos z] at h3
        exact (t _ _).1 h3
      · rename_i z
        rw [if_neg z] at h3
        exact (t _ _).1 h3) (fun H' e => sqL (e _ _ hl)) hD (by simp) (fun i x H' H'' hi e y R k => ?_) (fun H2 us e2 hus hul hu => ?_)
    · obtain ⟨rfl, hx⟩ := y
      have hxx : ∃ bx a b : Nat, x = .ref bx ∧ H'' bx = some (wayT i) ∧ Two a b ∧ (wayT i = tup2 a b) ∧ nTo p hs ws a b = (if i = 0 then nTo p hs ws 0 1 else nTo p hs ws 1 0) := by
        match i, hi, hx with
        | 0, _, h => exact ⟨b1, 0, 1, (Option.some.inj h).symm, e _ _ hb1, .inl ⟨rfl, rfl⟩, rfl, rfl⟩
        | 1, _, h => exact ⟨b2, 1, 0, (Option.some.inj h).symm, e _ _ hb2, .inr ⟨rfl, rfl⟩, rfl, rfl⟩
      obtain ⟨bx, a, b, rfl, hbx, hab, hwt, hn⟩ := hxx
      have hdx : Dp K H'' (.ref bx) (tieD (a, b)) := dp_tie_of (sqT (by rw [hbx, hwt]; rfl))
      have hb1' : b ≤ 1 := by
        rcases hab with ⟨_, rfl⟩ | ⟨_, rfl⟩ <;> decide
      have e0 := e1.trans e
      obtain ⟨br, bl⟩ := blk_row (a := a) ok hb1'
      have o1 := ok.h60
      have hll := lotZ_len hs a
      walk_at "rd"
      refine ⟨rfl, ?_⟩
      walk_at "rd"
      refine w_ixT (e0.t hsa) (atI_at (j := 0) rfl) ?_
      walk_at "rd"
      refine ⟨.ref sa, .ref bx, p, hs, ws, a, b, rfl, hv.ex e0, ok, hdx, hab, fun l2 us2 H3 e3 hl20 hl2 hd2 => ?_⟩
      walk_at "rd"
      refine ⟨p, l2, us2, blkZ hs ws a b, (lotZ hs a).length, rfl, by have := ok.p23; omega, sqL hl2, hd2, br, by omega, by omega, fun u H4 e4 hu4 => ?_⟩
      obtain ⟨ra, rvs, rfl, k1, k2⟩ := dp_tup hu4
      have hrl : rvs.length = (ladZ p (blkZ hs ws a b)).length := by rw [dpa_len k2, List.length_map]
      walk_at "rd"
      refine ⟨ra, _, rfl, .inr k1, ?_⟩
      refine w_dispT (by simp) fun pp hpp => ?_
      refine k _ _ ((e3.trans e4).trans (Ex.new hpp)) ⟨pp, bx, rfl, ?_, (Ex.new hpp) _ _ ((e3.trans e4) _ _ hbx)⟩
      rw [← hn, hrl]
      exact upd_same
    · obtain ⟨w0, w1, rfl⟩ : ∃ w0 w1, us = [w0, w1] := by
        match us, hul with
        | [w0, w1], _ => exact ⟨w0, w1, rfl⟩
      obtain ⟨p0, x0, rfl, f1, f2⟩ := hu 0 w0 rfl
      obtain ⟨p1, x1, rfl, f3, f4⟩ := hu 1 w1 rfl
      walk_at "rd"
      refine ⟨Dl, [p0, p1], [(k01, .int (nTo p hs ws 0 1)), (k10, .int (nTo p hs ws 1 0))], rfl, sqL hus, .cons ⟨x0, sqT f1, f2⟩ (.cons ⟨x1, sqT f3, f4⟩ .nil), fun d hd => ?_⟩
      exact q d _ ((e1.trans e2).trans (Ex.new hd)) ((e1.trans e2).fresh hd) upd_same
/-! _law_parted(things, counts) -/
def partZ (rs : List (List Int)) (ks : List Nat) : List (List (List Int)) := (List.range ks.length).map fun i => (rs.drop (ks.take i).sum).take ((ks.take (i + 1)).sum - (ks.take i).sum)
def sp_law_parted (K : PySem.W.Frag) : Sp := fun vs H Q _ => ∃ (a : Addr) (xs : List V) (rs : List (List Int)) (cv : V) (ks : List Nat), vs = [.ref a, cv] ∧ SqL K H a xs ∧ DpAll K H xs (rs.map row) ∧ Dp K H cv (row (nz ks)) ∧ ks.length ≤ 100 ∧ rs.length = ks.sum ∧ ks.sum ≤ 1000 ∧
  ∀ u H', Ex H H' → Dp K H' u (wantsT (partZ rs ks)) → Q u H'
theorem dpa_take {H : Hp} : ∀ {vs : List V} {ds : List D} (k : Nat), DpAll K H vs ds → DpAll K H (vs.take k) (ds.take k)
  | _, _, 0, _ => by simp only [List.take_zero]; exact .nil
  | _, _, k + 1, .nil => .nil
  | _, _, k + 1, .cons h t => .cons h (dpa_take k t)
theorem dpa_drop {H : Hp} : ∀ {vs : List V} {ds : List D} (k : Nat), DpAll K H vs ds → DpAll K H (vs.drop k) (ds.drop k)
  | _, _, 0, h => by simp only [List.drop_zero]; exact h
  | _, _, k + 1, .nil => .nil
  | _, _, k + 1, .cons _ t => by
    rw [List.drop_succ_cons, List.drop_succ_cons]
    exact dpa_drop k t
theorem ok_law_parted {f : Addr} {fd : FuncData} (F : C8.Def K mg "_law_parted" s_law_parted f fd) (b : Binds K fd ["things", "counts"] []) (T : Txt mg) : C8.Cal P w K mg base 1 "_law_parted" (sp_law_parted K) [] := by
  refine C8.cal0 F b .nil sc_law_parted (fun vs H Q E h => ?_) (fun cdv A outer s H vs Q E hr h => ?_)
  · obtain ⟨a, xs, rs, cv, ks, rfl, _⟩ := h
    rfl
  · obtain ⟨a, xs, rs, cv, ks, rfl, ha, hda, hc, hkl, hrl, hks, q⟩ := h
    have hxl : xs.length = rs.length := by rw [dpa_len hda, List.length_map]
    obtain ⟨ca, rfl, hca⟩ := dp_row hc
    refine ⟨_, (pss_cons (ps_set (i := 2) sc_law_parted.nd rfl (Or.inl rfl) (pe_lst pa_nil))
      (pss_cons (ps_for PassesOwn.never rfl (pi_range1 (by rfl) T.b_range (pa_cons (pe_callB (TH.kcall_len (K := K)) (by rfl) T.b_len (by decide +kernel) (pa_cons (pv 1) pa_nil)) pa_nil)) (pg_name (i := 3) sc_law_parted.nd rfl (Or.inl rfl) (Or.inr rfl)) (pss_one (ps_expr (TH.kpe_bm (K := K) PySem.F.plainAttrs_list PySem.F.slot_list_append PySem.F.type_list_append mt_append (pv 2) (pa_cons (pe_callTy (TH.kcall_tuple (K := K)) (by rfl) T.b_tuple (by decide +kernel) (pa_cons (pe_slice (TH.ksl_list (K := K)) (pv 0) (po_some (pe_callB (TH.kcr_sumT (K := K) rfl) (by rfl) T.b_sum (by decide +kernel) (pa_cons (pe_slice (TH.ksl_tup (K := K)) (pv 1) po_none (po_some (pv 3))) pa_nil))) (po_some (pe_callB (TH.kcr_sumT (K := K) rfl) (by rfl) T.b_sum (by decide +kernel) (pa_cons (pe_slice (TH.ksl_tup (K := K)) (pv 1) po_none (po_some (pe_op op_add (pv 3) pe_int))) pa_nil)))) pa_nil)) pa_nil)))))
      (pss_one (ps_ret (pe_callTy (TH.kcall_tuple (K := K)) (by rfl) T.b_tuple (by decide +kernel) (pa_cons (pv 2) pa_nil)))))), ?_⟩
    refine w_start (σ' := [some (.ref a), some (.ref ca), none, none]) rfl ?_
    walk_at "rd"
    refine w_dispT (by simp) fun ml hml => ?_
    have e1 : Ex H (upd H ml (.lst [])) := Ex.new hml
    have u1 : upd H ml (.lst []) ml = some (.lst []) := upd_same
    generalize upd H ml (.lst []) = H1 at e1 u1 ⊢
    walk_at "rd"
    refine ⟨ca, _, rfl, .inr (e1.t hca), ?_⟩
    rw [List.length_map, nz_len]
    walk_at "rd"
    refine w_isrng (by omega) (by omega) ?_
    refine for_go walk_rng (fun i σ H' => Ex H H' ∧ (∃ us, H' ml = some (.lst us) ∧ DpAll K H' us (((List.range i).map fun i => (rs.drop (ks.take i).sum).take ((ks.take (i + 1)).sum - (ks.take i).sum)).map rowsT)) ∧ ∃ y3, σ = [some (.ref a), some (.ref ca), some (.ref ml), y3])
      ⟨e1, ⟨[], u1, .nil⟩, _, rfl⟩ (fun _ _ _ _ _ => trivial) (fun i x σ H2 H2' hi pp y => ?_) (fun σ H2 pp => ?_)
    · obtain ⟨e2, ⟨us, g1, g2⟩, y3, rfl⟩ := pp
      obtain ⟨rfl, rfl⟩ := y
      rw [Int.toNat_natCast] at hi
      have t1 := take_sum_le ks i
      have t2 := take_sum_le ks (i + 1)
      have hul : us.length = i := by rw [dpa_len g2, List.length_map, List.length_map, List.length_range]
      walk_at "rd"
      refine ⟨tyL g1, ?_⟩
      walk_at "rd"
      refine w_cutT (e2.t hca) (by rw [List.length_map, nz_len]; omega) fun c H3 e3 hc3 => ?_
      rw [← List.map_take, nz_take] at hc3
      walk_at "rd"
      refine w_sumT hc3 ?_
      walk_at "rd"
      rw [nz_sum]
      have en : (i : Int) + 1 = ((i + 1 : Nat) : Int) := by omega
      rw [en]
      refine w_cutT ((e2.trans e3).t hca) (by rw [List.length_map, nz_len]; omega) fun c2 H4 e4 hc4 => ?_
      rw [← List.map_take, nz_take] at hc4
      walk_at "rd"
      refine w_sumT hc4 ?_
      walk_at "rd"
      rw [nz_sum]
      have e24 := e2.trans (e3.trans e4)
      refine ⟨a, xs, rfl, e24.l ha, fun p hp => ?_⟩
      have ecut : cutV xs (some ((ks.take i).sum : Nat)) (some ((ks.take (i + 1)).sum : Nat)) = (xs.drop (ks.take i).sum).take ((ks.take (i + 1)).sum - (ks.take i).sum) := by
        unfold cutV
        rw [HT.sIx_nat, HT.sIx_nat]
        have a1 : min (ks.take i).sum xs.length = (ks.take i).sum := by omega
        have a2 : min (ks.take (i + 1)).sum xs.length = (ks.take (i + 1)).sum := by omega
        rw [a1, a2]
      rw [ecut]
      have e5 := e3.trans (e4.trans (Ex.new (o := .lst ((xs.drop (ks.take i).sum).take ((ks.take (i + 1)).sum - (ks.take i).sum))) hp))
      have u5 : upd H4 p (.lst ((xs.drop (ks.take i).sum).take ((ks.take (i + 1)).sum - (ks.take i).sum))) p = some (.lst ((xs.drop (ks.take i).sum).take ((ks.take (i + 1)).sum - (ks.take i).sum))) := upd_same
      generalize upd H4 p (.lst ((xs.drop (ks.take i).sum).take ((ks.take (i + 1)).sum - (ks.take i).sum))) = H5 at e5 u5 ⊢
      have e25 := e2.trans e5
      walk_at "rd"
      refine ⟨p, _, rfl, .inl ⟨sqL u5, fun l hl => ?_⟩⟩
      have hd5 := dpa_take ((ks.take (i + 1)).sum - (ks.take i).sum) (dpa_drop (ks.take i).sum (e25.dpa hda))
      rw [← List.map_drop, ← List.map_take] at hd5
      have e6 : Ex H5 (upd H5 l (.tup ((xs.drop (ks.take i).sum).take ((ks.take (i + 1)).sum - (ks.take i).sum)))) := Ex.new hl
      have hd6 : Dp K (upd H5 l (.tup ((xs.drop (ks.take i).sum).take ((ks.take (i + 1)).sum - (ks.take i).sum)))) (.ref l) (rowsT ((rs.drop (ks.take i).sum).take ((ks.take (i + 1)).sum - (ks.take i).sum))) := .tup (sqT upd_same) (e6.dpa hd5)
      generalize upd H5 l (.tup ((xs.drop (ks.take i).sum).take ((ks.take (i + 1)).sum - (ks.take i).sum))) = H6 at e6 hd6 ⊢
      have e56 := e5.trans e6
      walk_at "rd"
      refine w_app (e56 _ _ g1) (by omega) ?_
      walk_at "rd"
      have tx : Tx H6 (upd H6 ml (.lst (us ++ [.ref l]))) := Tx.updL (e56 _ _ g1)
      refine ⟨(e2.trans e56).mut hml, ⟨_, upd_same, ?_⟩, _, rfl⟩
      rw [List.range_succ, List.map_append, List.map_append]
      exact dpa_snoc (tx.dpa (imm_rowsTs _) (e56.dpa g2)) (tx.dp (imm_rows _) hd6)
    · obtain ⟨e2, ⟨us, g1, g2⟩, y3, rfl⟩ := pp
      rw [Int.toNat_natCast] at g2
      walk_at "rd"
      refine ⟨ml, _, rfl, .inl ⟨sqL g1, fun l hl => ?_⟩⟩
      exact q _ _ (e2.trans (Ex.new hl)) (.tup (sqT upd_same) ((Ex.new hl).dpa g2))
end TK

namespace TK
open PySem PySem.Spec PyProof.Rows L2 TH
/-! plain: tables of each rank -/
def aboveN (p r w : Nat) : Nat → Nat
  | 0 => 1
  | k + 1 => aboveN p r w k * ((p ^ r - p ^ k) * (p ^ w - p ^ k))
def belowN (p n : Nat) : Nat → Nat
  | 0 => 1
  | k + 1 => belowN p n k * (p ^ n - p ^ k)
def tabN (p r w k : Nat) : Nat := if k > min r w then 0 else aboveN p r w k / belowN p k k
theorem subZ {p n k : Nat} (hp : 2 ≤ p) (h : k ≤ n) : ((p ^ n - p ^ k : Nat) : Int) = (p : Int) ^ n - (p : Int) ^ k := by
  have := Nat.pow_le_pow_right (n := p) (by omega) h
  rw [Int.ofNat_sub this]
  push_cast
  rfl
theorem aboveZ_eq {p r w : Nat} (hp : 2 ≤ p) : ∀ k, k ≤ min r w → aboveZ p r w k = (aboveN p r w k : Nat)
  | 0, _ => rfl
  | k + 1, h => by
    show aboveZ p r w k * _ = ((aboveN p r w k * _ : Nat) : Int)
    rw [aboveZ_eq hp k (by omega), Int.natCast_mul, Int.natCast_mul, subZ hp (by omega), subZ hp (by omega)]
theorem belowZ_eq {p n : Nat} (hp : 2 ≤ p) : ∀ k, k ≤ n → belowZ p n k = (belowN p n k : Nat)
  | 0, _ => rfl
  | k + 1, h => by
    show belowZ p n k * _ = ((belowN p n k * _ : Nat) : Int)
    rw [belowZ_eq hp k (by omega), Int.natCast_mul, subZ hp (by omega)]
theorem tabZ_eq {p r w k : Nat} (hp : 2 ≤ p) : tabZ p r w k = (tabN p r w k : Nat) := by
  unfold tabZ tabN
  split
  · rfl
  · next h => rw [aboveZ_eq hp k (by omega), belowZ_eq hp k (Nat.le_refl _), Int.natCast_ediv]
def okP (p : Nat) : Bool := (List.range 9).all fun r => (List.range 9).all fun w => ((List.range (r + 2)).all fun k => Nat.beq (FN p w r r k) (tabN p r w k)) && Nat.beq ((List.range 9).map (tabN p r w)).sum (p ^ (r * w))
theorem okP_all : ∀ p ∈ clks, okP p = true := by decide +kernel
theorem okP_at {p r w : Nat} (hp : okP p = true) (hr : r ≤ 8) (hw : w ≤ 8) : (∀ k, ofRankN p r w k = tabN p r w k) ∧ ((List.range 9).map (tabN p r w)).sum = p ^ (r * w) := by
  unfold okP at hp
  rw [List.all_eq_true] at hp
  have h1 := hp r (List.mem_range.mpr (by omega))
  rw [List.all_eq_true] at h1
  have h2 := h1 w (List.mem_range.mpr (by omega))
  rw [Bool.and_eq_true, List.all_eq_true] at h2
  refine ⟨fun k => ?_, Nat.eq_of_beq_eq_true h2.2⟩
  unfold ofRankN
  split
  · next h => exact Nat.eq_of_beq_eq_true (h2.1 k (List.mem_range.mpr h))
  · next h =>
    unfold tabN
    rw [if_pos (by omega)]
theorem inAll_tolls {p h0 h1 w0 w1 t b : Nat} (hp2 : 2 ≤ p) (hp : okP p = true) (i0 : h0 ≤ 8) (i1 : h1 ≤ 8) (j0 : w0 ≤ 8) (j1 : w1 ≤ 8) : inAllZ p h0 h1 w0 w1 t b = tollsZ p h0 h1 w0 w1 t b := by
  unfold inAllZ tollsZ
  rw [(okP_at hp j1 i0).1, (okP_at hp j0 i1).1, tabZ_eq hp2, tabZ_eq hp2, Int.mul_assoc, Int.mul_comm]
theorem sum_mulL (c : Int) (f : Nat → Int) : ∀ xs : List Nat, (xs.map fun j => c * f j).sum = c * (xs.map f).sum
  | [] => by simp
  | x :: xs => by
    rw [List.map_cons, List.sum_cons, sum_mulL c f xs, List.map_cons, List.sum_cons, Int.mul_add]
theorem sum_castN (f : Nat → Nat) : ∀ xs : List Nat, (xs.map fun j => ((f j : Nat) : Int)).sum = ((xs.map f).sum : Nat)
  | [] => rfl
  | x :: xs => by
    rw [List.map_cons, List.sum_cons, sum_castN f xs, List.map_cons, List.sum_cons, Int.natCast_add]
def rowSum (p h0 h1 w0 w1 t : Nat) : Int := ((List.range 9).map fun b => tollsZ p h0 h1 w0 w1 t b).sum
theorem total_eq {p h0 h1 w0 w1 : Nat} (hp2 : 2 ≤ p) (hp : okP p = true) (i0 : h0 ≤ 8) (i1 : h1 ≤ 8) (j0 : w0 ≤ 8) (j1 : w1 ≤ 8) : ((List.range 9).map (rowSum p h0 h1 w0 w1)).sum = (p : Int) ^ ((h0 + h1) * (w0 + w1)) := by
  have h : ∀ t, rowSum p h0 h1 w0 w1 t = ((p : Int) ^ (w0 * h1) * (p : Int) ^ (h0 * w0 + h1 * w1)) * tabZ p w1 h0 t := fun t => by
    unfold rowSum
    have e : (fun b => tollsZ p h0 h1 w0 w1 t b) = fun b => (tabZ p w1 h0 t * (p : Int) ^ (h0 * w0 + h1 * w1)) * ((tabN p w0 h1 b : Nat) : Int) := funext fun b => by
      unfold tollsZ
      rw [tabZ_eq (r := w0) hp2]
      simp only [Int.mul_assoc, Int.mul_comm, Int.mul_left_comm]
    rw [e, sum_mulL, sum_castN, (okP_at hp j0 i1).2]
    push_cast
    simp only [Int.mul_assoc, Int.mul_comm, Int.mul_left_comm]
  have e2 : rowSum p h0 h1 w0 w1 = fun t => ((p : Int) ^ (w0 * h1) * (p : Int) ^ (h0 * w0 + h1 * w1)) * ((tabN p w1 h0 t : Nat) : Int) := funext fun t => by rw [h, tabZ_eq hp2]
  rw [e2, sum_mulL, sum_castN, (okP_at hp j1 i0).2]
  push_cast
  rw [← Int.pow_add, ← Int.pow_add]
  congr 1
  rw [Nat.add_mul, Nat.mul_add, Nat.mul_add, Nat.mul_comm w0 h1, Nat.mul_comm w1 h0]
  omega
/-! plain: the sheets by their numbers -/
def dig (p n i : Nat) : Nat := n / p ^ i % p
/-- rank of up to two rows of up to two values -/
def rk (p : Nat) (M : Nat → Nat → Nat) (r w : Nat) : Nat :=
  if (List.range r).all (fun i => (List.range w).all fun j => M i j == 0) then 0
  else if r == 2 && w == 2 && (M 0 0 * M 1 1 + p * p - M 0 1 * M 1 0) % p != 0 then 2 else 1
def matZ (M : Nat → Nat → Nat) (r w : Nat) : List (List Int) := (List.range r).map fun i => (List.range w).map fun j => ((M i j : Nat) : Int)
def mat4 (a b c d : Nat) : Nat → Nat → Nat := fun i j => if i = 0 then (if j = 0 then a else b) else (if j = 0 then c else d)
theorem rk_all : ∀ p ∈ [2, 3], ∀ r ∈ List.range 3, ∀ w ∈ List.range 3, ∀ a ∈ List.range p, ∀ b ∈ List.range p, ∀ c ∈ List.range p, ∀ d ∈ List.range p, (ladZ p (matZ (mat4 a b c d) r w)).length = rk p (mat4 a b c d) r w := by decide +kernel
theorem matZ_4 {M : Nat → Nat → Nat} {r w : Nat} (hr : r ≤ 2) (hw : w ≤ 2) : matZ M r w = matZ (mat4 (M 0 0) (M 0 1) (M 1 0) (M 1 1)) r w := by
  unfold matZ
  refine List.map_congr_left fun i hi => List.map_congr_left fun j hj => ?_
  have hi := List.mem_range.mp hi
  have hj := List.mem_range.mp hj
  have h1 : i = 0 ∨ i = 1 := by omega
  have h2 : j = 0 ∨ j = 1 := by omega
  rcases h1 with rfl | rfl <;> rcases h2 with rfl | rfl <;> rfl
theorem rk_4 {p : Nat} {M : Nat → Nat → Nat} {r w : Nat} (hr : r ≤ 2) (hw : w ≤ 2) : rk p M r w = rk p (mat4 (M 0 0) (M 0 1) (M 1 0) (M 1 1)) r w := by
  have h1 : r = 0 ∨ r = 1 ∨ r = 2 := by omega
  have h2 : w = 0 ∨ w = 1 ∨ w = 2 := by omega
  rcases h1 with rfl | rfl | rfl <;> rcases h2 with rfl | rfl | rfl <;> rfl
theorem lad_rk {p : Nat} {M : Nat → Nat → Nat} {r w : Nat} (hp : p = 2 ∨ p = 3) (hr : r ≤ 2) (hw : w ≤ 2) (hM : ∀ i j, M i j < p) : (ladZ p (matZ M r w)).length = rk p M r w := by
  rw [matZ_4 hr hw, rk_4 hr hw]
  exact rk_all p (by rcases hp with rfl | rfl <;> decide) r (List.mem_range.mpr (by omega)) w (List.mem_range.mpr (by omega)) _ (List.mem_range.mpr (hM 0 0)) _ (List.mem_range.mpr (hM 0 1)) _ (List.mem_range.mpr (hM 1 0)) _ (List.mem_range.mpr (hM 1 1))
def tollsN (p h0 h1 w0 w1 n : Nat) : Nat × Nat :=
  let M := fun i j => dig p n (i * (h0 + h1) + j)
  (rk p (fun i j => M (w0 + i) j) w1 h0, rk p (fun i j => M i (h0 + j)) w0 h1)
def cntN (p h0 h1 w0 w1 t b : Nat) : Nat → Nat
  | 0 => 0
  | n + 1 => cntN p h0 h1 w0 w1 t b n + if (tollsN p h0 h1 w0 w1 n).1 == t && (tollsN p h0 h1 w0 w1 n).2 == b then 1 else 0
def okCfg (p h0 h1 w0 w1 : Nat) : Bool := (List.range 4).all fun t => (List.range 4).all fun b => cntN p h0 h1 w0 w1 t b (p ^ ((h0 + h1) * (w0 + w1))) == tabN p w1 h0 t * tabN p w0 h1 b * p ^ (h0 * w0 + h1 * w1)
def okAll : Bool := [2, 3].all fun p => (List.range 3).all fun h0 => (List.range 3).all fun h1 => (List.range 3).all fun w0 => (List.range 3).all fun w1 => Nat.blt 800 (p ^ ((h0 + h1) * (w0 + w1))) || okCfg p h0 h1 w0 w1
theorem okAll_yes : okAll = true := by decide +kernel
theorem cfg_at {p h0 h1 w0 w1 : Nat} (hp : p = 2 ∨ p = 3) (i0 : h0 ≤ 2) (i1 : h1 ≤ 2) (j0 : w0 ≤ 2) (j1 : w1 ≤ 2) (h : p ^ ((h0 + h1) * (w0 + w1)) ≤ 800) {t b : Nat} (ht : t < 4) (hb : b < 4) :
    tollsZ p h0 h1 w0 w1 t b = (cntN p h0 h1 w0 w1 t b (p ^ ((h0 + h1) * (w0 + w1))) : Nat) := by
  have e := okAll_yes
  unfold okAll at e
  rw [List.all_eq_true] at e
  have e1 := e p (by rcases hp with rfl | rfl <;> simp)
  rw [List.all_eq_true] at e1
  have e2 := e1 h0 (List.mem_range.mpr (by omega))
  rw [List.all_eq_true] at e2
  have e3 := e2 h1 (List.mem_range.mpr (by omega))
  rw [List.all_eq_true] at e3
  have e4 := e3 w0 (List.mem_range.mpr (by omega))
  rw [List.all_eq_true] at e4
  have e5 := e4 w1 (List.mem_range.mpr (by omega))
  have hf : Nat.blt 800 (p ^ ((h0 + h1) * (w0 + w1))) = false := by
    cases z : Nat.blt 800 (p ^ ((h0 + h1) * (w0 + w1))) with
    | false => rfl
    | true =>
      have := Nat.le_of_ble_eq_true z
      omega
  rw [hf, Bool.false_or] at e5
  unfold okCfg at e5
  rw [List.all_eq_true] at e5
  have e6 := e5 t (List.mem_range.mpr ht)
  rw [List.all_eq_true] at e6
  have e7 := e6 b (List.mem_range.mpr hb)
  rw [beq_iff_eq.mp e7]
  unfold tollsZ
  have p2 : 2 ≤ p := by omega
  rw [tabZ_eq p2, tabZ_eq p2]
  push_cast
  rfl
/-! plain: the rows of a number -/
def rowsN (p h w n : Nat) : List (List Int) := (List.range w).map fun i => (List.range h).map fun j => ((dig p n (i * h + j) : Nat) : Int)
theorem range_cut {α : Type} (f : Nat → α) (n a k : Nat) (h : a + k ≤ n) : (((List.range n).map f).drop a).take k = (List.range k).map fun i => f (a + i) := by
  refine List.ext_getElem? fun i => ?_
  rw [List.getElem?_take]
  split
  · next hi =>
    rw [List.getElem?_drop, List.getElem?_map, List.getElem?_map, List.getElem?_range (by omega), List.getElem?_range hi]
    rfl
  · next hi => rw [List.getElem?_eq_none (by simp; omega)]
theorem part_two {rs : List (List Int)} {w0 w1 : Nat} : partZ rs [w0, w1] = [rs.take w0, (rs.drop w0).take w1] := by
  show [(rs.drop 0).take (w0 + 0 - 0), (rs.drop (w0 + 0)).take (w0 + (w1 + 0) - (w0 + 0))] = _
  rw [List.drop_zero, Nat.add_zero, Nat.sub_zero, Nat.add_zero, Nat.add_sub_cancel_left]
theorem cut_row {h a k : Nat} {f : Nat → Int} (hk : a + k ≤ h) (ns : List Int) (hn : ns = (List.range k).map fun j => ((a + j : Nat) : Int)) : cutZ ns ((List.range h).map f) = (List.range k).map fun j => f (a + j) := by
  subst hn
  unfold cutZ
  rw [List.map_map]
  refine List.map_congr_left fun j hj => ?_
  have hj := List.mem_range.mp hj
  show ((List.range h).map f).getD (((a + j : Nat) : Int)).toNat 0 = _
  rw [Int.toNat_natCast, List.getD_eq_getElem?_getD, List.getElem?_map, List.getElem?_range (by omega)]
  rfl
theorem lot_0 (h0 h1 : Nat) : lotZ [h0, h1] 0 = (List.range h0).map fun j => ((0 + j : Nat) : Int) := by
  show rgZ ((0 : Nat) : Int) ((h0 + 0 : Nat) : Int) = _
  unfold rgZ
  have : (((h0 + 0 : Nat) : Int) - ((0 : Nat) : Int)).toNat = h0 := by omega
  rw [this]
  refine List.map_congr_left fun j _ => ?_
  omega
theorem lot_1 (h0 h1 : Nat) : lotZ [h0, h1] 1 = (List.range h1).map fun j => ((h0 + j : Nat) : Int) := by
  show rgZ ((h0 + 0 : Nat) : Int) ((h0 + (h1 + 0) : Nat) : Int) = _
  unfold rgZ
  have : (((h0 + (h1 + 0) : Nat) : Int) - ((h0 + 0 : Nat) : Int)).toNat = h1 := by omega
  rw [this]
  refine List.map_congr_left fun j _ => ?_
  omega
theorem blk_01 {p h0 h1 w0 w1 n : Nat} : blkZ [h0, h1] (partZ (rowsN p (h0 + h1) (w0 + w1) n) [w0, w1]) 0 1 = matZ (fun i j => dig p n ((w0 + i) * (h0 + h1) + j)) w1 h0 := by
  unfold blkZ
  rw [part_two]
  show (((rowsN p (h0 + h1) (w0 + w1) n).drop w0).take w1).map _ = _
  unfold rowsN matZ
  rw [range_cut _ _ _ _ (Nat.le_refl _), List.map_map]
  refine List.map_congr_left fun i _ => ?_
  show cutZ (lotZ [h0, h1] 0) ((List.range (h0 + h1)).map _) = _
  rw [cut_row (a := 0) (k := h0) (by omega) _ (lot_0 h0 h1)]
  refine List.map_congr_left fun j _ => ?_
  rw [Nat.zero_add]
theorem blk_10 {p h0 h1 w0 w1 n : Nat} : blkZ [h0, h1] (partZ (rowsN p (h0 + h1) (w0 + w1) n) [w0, w1]) 1 0 = matZ (fun i j => dig p n (i * (h0 + h1) + (h0 + j))) w0 h1 := by
  unfold blkZ
  rw [part_two]
  show ((rowsN p (h0 + h1) (w0 + w1) n).take w0).map _ = _
  have e : (rowsN p (h0 + h1) (w0 + w1) n).take w0 = (((List.range (w0 + w1)).map fun i => (List.range (h0 + h1)).map fun j => ((dig p n (i * (h0 + h1) + j) : Nat) : Int)).drop 0).take w0 := by
    rw [List.drop_zero]
    rfl
  rw [e, range_cut _ _ _ _ (by omega)]
  unfold matZ
  rw [List.map_map]
  refine List.map_congr_left fun i _ => ?_
  show cutZ (lotZ [h0, h1] 1) ((List.range (h0 + h1)).map _) = _
  rw [cut_row (a := h0) (k := h1) (Nat.le_refl _) _ (lot_1 h0 h1)]
  refine List.map_congr_left fun j _ => ?_
  rw [Nat.zero_add]
theorem dig_lt {p n i : Nat} (hp : 0 < p) : dig p n i < p := Nat.mod_lt _ hp
theorem nTo_eq {p h0 h1 w0 w1 n : Nat} (hp : p = 2 ∨ p = 3) (i0 : h0 ≤ 2) (i1 : h1 ≤ 2) (j0 : w0 ≤ 2) (j1 : w1 ≤ 2) :
    nTo p [h0, h1] (partZ (rowsN p (h0 + h1) (w0 + w1) n) [w0, w1]) 0 1 = (tollsN p h0 h1 w0 w1 n).1 ∧ nTo p [h0, h1] (partZ (rowsN p (h0 + h1) (w0 + w1) n) [w0, w1]) 1 0 = (tollsN p h0 h1 w0 w1 n).2 := by
  have p0 : 0 < p := by omega
  unfold nTo
  rw [blk_01, blk_10]
  exact ⟨lad_rk hp j1 i0 fun _ _ => dig_lt p0, lad_rk hp j0 i1 fun _ _ => dig_lt p0⟩
theorem rowsN_ok {p h0 h1 w0 w1 n : Nat} (hp : p = 2 ∨ p = 3) (i0 : h0 ≤ 2) (i1 : h1 ≤ 2) (j0 : w0 ≤ 2) (j1 : w1 ≤ 2) : WOk p [h0, h1] (partZ (rowsN p (h0 + h1) (w0 + w1) n) [w0, w1]) := by
  have hl : (rowsN p (h0 + h1) (w0 + w1) n).length = w0 + w1 := by simp [rowsN]
  have hr : ∀ r ∈ rowsN p (h0 + h1) (w0 + w1) n, LRow p [h0, h1].sum r := fun r hr => by
    obtain ⟨i, _, rfl⟩ := List.mem_map.mp hr
    refine ⟨by simp, fun x hx => ?_⟩
    obtain ⟨j, _, rfl⟩ := List.mem_map.mp hx
    have := dig_lt (p := p) (n := n) (i := i * (h0 + h1) + j) (by omega)
    omega
  refine ⟨hp, rfl, by simp; omega, by rw [part_two]; rfl, fun rs hrs => ?_, fun rs hrs r hr' => ?_⟩
  · rw [part_two] at hrs
    simp only [List.mem_cons, List.not_mem_nil, or_false] at hrs
    rcases hrs with rfl | rfl
    · rw [List.length_take]
      omega
    · rw [List.length_take]
      omega
  · rw [part_two] at hrs
    simp only [List.mem_cons, List.not_mem_nil, or_false] at hrs
    rcases hrs with rfl | rfl
    · exact hr r (List.mem_of_mem_take hr')
    · exact hr r (List.mem_of_mem_drop (List.mem_of_mem_take hr'))
end TK

namespace TK
open PySem PySem.Spec PyProof.Rows L2 TH
local macro_rules | `(tactic| walk_at "rd1") => `(tactic| first
  | (with_reducible refine TH.w_seq ?_)
  | (with_reducible refine TH.w_asg ?_)
  | (with_reducible refine TH.w_ret ?_)
  | (with_reducible refine TH.w_drop ?_)
  | (with_reducible refine TH.w_ifS ?_)
  | (with_reducible refine TH.w_next ?_)
  | ((with_reducible refine TH.w_var (v := ?vv) ?hv ?_); (case hv => rfl))
  | (with_reducible refine TH.w_c ?_)
  | ((with_reducible refine TH.w_gname (σ' := ?ss) ?hs ?_); (case hs => (dsimp only [List.set]; rfl)))
  | (with_reducible refine TH.w_op ?_)
  | (with_reducible refine TH.w_un ?_)
  | (with_reducible refine TH.w_chain ?_)
  | (with_reducible refine TH.w_I0 ?_)
  | ((with_reducible refine TH.w_I ?hm ?_); (case hm => first | (exact TH.CMul.l (by omega) (by omega)) | (exact TH.CMul.r (by omega) (by omega)) | (exact TH.CDiv.mk (by omega) (by omega)) | (show (0 : Int) < _; omega) | (exact TH.CPow.mk (by omega) (by omega) (by decide))))
  | (with_reducible refine TH.w_U ?_)
  | (with_reducible refine TH.w_eqI ?_)
  | (with_reducible refine TH.w_neI ?_)
  | (with_reducible refine TH.w_eqB ?_)
  | (with_reducible refine TH.w_isN ?_)
  | (with_reducible refine TH.w_nil ?_)
  | (with_reducible refine TH.w_cons ?_)
  | (with_reducible refine TH.w_test ?_)
  | (with_reducible refine TH.w_B ?_)
  | (with_reducible refine TH.w_bl ?_)
  | (with_reducible refine TH.w_and ?_)
  | (with_reducible refine TH.w_or ?_)
  | (with_reducible refine TH.w_not ?_)
  | (with_reducible refine TH.w_andV ?_)
  | (with_reducible refine TH.w_orV ?_)
  | (with_reducible refine TH.w_notV ?_)
  | (with_reducible refine TH.w_if ?_)
  | (with_reducible refine TH.w_parT ?_)
  | (with_reducible refine TH.w_par ?_)
  | (with_reducible refine TH.w_parT3 ?_)
  | (with_reducible refine TH.w_par3 ?_)
  | (with_reducible refine TH.w_cb ?_)
  | (with_reducible refine TH.w_call ?_)
  | ((with_reducible refine TH.w_aug (v := ?vv) ?hv ?_); (case hv => rfl))
  | (with_reducible refine TH.w_ip ?_)
  | (with_reducible refine TH.w_bm ?_)
  | (with_reducible refine TH.w_sl ?_)
  | (with_reducible refine TH.w_np ?_)
  | (with_reducible refine TH.w_pt ?_)
  | (with_reducible refine TH.w_pti ?_)
  | (with_reducible refine TH.w_gsub ?_)
  | (with_reducible refine TH.w_int ?_)
  | (with_reducible refine TH.w_tupT ?_)
  | (with_reducible refine TH.w_lstT ?_)
  | ((with_reducible show L2.rIxL _ _ _ _ _); (first | (refine TH.w_ixL (TH.sqL upd_same) rfl ?_) | (refine TH.w_ixL (TH.sqL (by assumption)) rfl ?_)))
  | ((with_reducible show L2.rSetL _ _ _ _ _); (first | (refine TH.w_set1 upd_same ?_) | (refine TH.w_set2 upd_same ?_) | (refine TH.w_set3 upd_same ?_) | (refine TH.w_set4 upd_same ?_) | (refine TH.w_set1 (by assumption) ?_) | (refine TH.w_set2 (by assumption) ?_) | (refine TH.w_set3 (by assumption) ?_) | (refine TH.w_set4 (by assumption) ?_)))
  | (with_reducible refine TH.w_lc ?_)
  | (with_reducible refine TH.w_dc ?_)
  | (with_reducible refine TH.w_itup ?_)
  | (with_reducible refine TH.w_ilist ?_)
  | (with_reducible refine TH.w_ienum ?_)
  | (with_reducible refine TH.w_izip ?_)
  | (with_reducible refine TH.w_irng1 ?_)
  | (with_reducible refine TH.w_irng2 ?_)
  | (with_reducible refine TH.w_for ?_)
  | (with_reducible refine TH.w_gcons ?_)
  | (with_reducible refine TH.w_gnil ?_)
  | (with_reducible refine TH.w_yes ?_)
  | (with_reducible refine TH.w_gtup2 upd_same ?_)
  | (with_reducible refine TH.w_gtup3 upd_same ?_)
  | (with_reducible refine TH.w_dput ?_)
  | (with_reducible refine TH.w_bm0 ?_)
  | (with_reducible refine TH.w_din ?_)
  | (with_reducible refine TH.w_dnotin ?_)
  | (with_reducible refine TH.w_dispK ?_)
  | (with_reducible refine TH.w_lock ?_)
  | (with_reducible refine TH.w_ikeys ?_)
  | (with_reducible refine TH.w_iitems ?_)
  | (with_reducible refine TH.w_dispT1 ?_)
  | (with_reducible refine TH.w_dnewT ?_)
  | (with_reducible refine TH.w_dnewK ?_)
  | (with_reducible refine TH.w_fld ?_)
  | (with_reducible refine TH.w_sfld ?_)
  | (with_reducible refine TH.w_meth ?_)
  | (with_reducible refine TH.w_make ?_)
  | (with_reducible refine TH.w_dget2 ?_)
  | (with_reducible refine TH.w_revL ?_)
  | (with_reducible refine TH.w_revT ?_)
  | (with_reducible refine TH.w_lstRg ?_)
  | (with_reducible refine TH.w_tupRg ?_)
  | (with_reducible refine TH.w_rg1 ?_)
  | (with_reducible refine TH.w_rg2 ?_)
  | (with_reducible refine TH.w_T ?_)
  | (with_reducible refine TH.w_F ?_))
local macro_rules | `(tactic| walk_at "rd") => `(tactic| repeat (first | walk_at "rd1" | (dsimp only [List.set, L2.wipe, List.map, TH.isInt, TH.isBool, TH.isTup, TH.isLst, TH.bo_f, TH.bo_t, TH.ba_f, TH.ba_t, TH.bn_t, TH.bn_f, List.append_nil, List.cons_append, List.nil_append])))

variable {P : Program} {w : World} {K : PySem.W.Frag} {mg : Str → Option Value} {base : Heap}
theorem w_dget {σ : L2.St} {H : Hp} {Q : VK} {td ty : TE} (k : td σ H fun x H1 => ty σ H1 fun y H2 => ∃ a v, x = .ref a ∧ DGet H2 a y (some v) ∧ Q v H2) : tDGet td ty σ H Q := k
theorem ex_dT {H H' : Hp} {d : Addr} {u : HO} (e : Ex H H') (h : H d = none) : Ex H (upd H' d u) := e.mut h
theorem nat_lt {r : Int} {n : Nat} (h0 : 0 ≤ r) (h1 : r < (n : Int)) : ∃ m : Nat, r = m ∧ m < n := ⟨r.toNat, by omega, by omega⟩
/-! _law_all_right(bag) -/
def kTB (t b : Nat) : List Key := [Sum.inl (t : Int), Sum.inl (b : Int)]
theorem kTB_inj {t b t' b' : Nat} (h : kTB t b = kTB t' b') : t = t' ∧ b = b' := by
  unfold kTB at h
  injection h with h1 h2
  injection h1 with h1
  injection h2 with h2
  injection h2 with h2
  omega
def CntAt (p h0 h1 w0 w1 i : Nat) (kvs : List (List Key × V)) : Prop := ∀ t b : Nat, valV kvs (kTB t b) = if cntN p h0 h1 w0 w1 t b i = 0 then none else some (.int (cntN p h0 h1 w0 w1 t b i : Nat))
theorem CntAt.get {p h0 h1 w0 w1 i : Nat} {kvs : List (List Key × V)} (h : CntAt p h0 h1 w0 w1 i kvs) (t b : Nat) : (valV kvs (kTB t b)).getD (.int 0) = .int (cntN p h0 h1 w0 w1 t b i : Nat) := by
  rw [h t b]
  split
  · next z => rw [z]; rfl
  · rfl
theorem CntAt.put {p h0 h1 w0 w1 i : Nat} {kvs : List (List Key × V)} (h : CntAt p h0 h1 w0 w1 i kvs) {t b : Nat} (ht : (tollsN p h0 h1 w0 w1 i).1 = t) (hb : (tollsN p h0 h1 w0 w1 i).2 = b) :
    CntAt p h0 h1 w0 w1 (i + 1) (putK kvs (kTB t b) (.int ((cntN p h0 h1 w0 w1 t b i : Nat) + 1 : Int))) := fun t' b' => by
  rw [valV_put]
  have hc : cntN p h0 h1 w0 w1 t' b' (i + 1) = cntN p h0 h1 w0 w1 t' b' i + if t == t' && b == b' then 1 else 0 := by
    show cntN p h0 h1 w0 w1 t' b' i + _ = _
    rw [ht, hb]
  rw [hc]
  by_cases z : kTB t' b' = kTB t b
  · obtain ⟨rfl, rfl⟩ := kTB_inj z
    have e1 : (if (t' == t' && b' == b') = true then 1 else 0) = 1 := by rw [beq_self_eq_true, beq_self_eq_true]; rfl
    rw [if_pos rfl, e1, if_neg (by omega), Int.natCast_add]
    rfl
  · rw [if_neg z]
    have : (t == t' && b == b') = false := by
      cases hh : (t == t' && b == b') with
      | false => rfl
      | true =>
        rw [Bool.and_eq_true, beq_iff_eq, beq_iff_eq] at hh
        exact absurd (by rw [hh.1, hh.2]) z
    rw [this, if_neg Bool.false_ne_true, Nat.add_zero]
    exact h t' b'
theorem putK_le (kvs : List (List Key × V)) (k : List Key) (y : V) : (putK kvs k y).length ≤ kvs.length + 1 := by
  unfold putK
  split
  · rw [List.length_map]
    omega
  · simp
theorem nat_gt {a : Nat} {b : Nat} (h : (a : Int) > (b : Nat)) : b < a := by omega
def sp_right (K : PySem.W.Frag) : Sp := fun vs H Q _ => ∃ (v : V), vs = [v] ∧ BagAt H v ∧ ∀ H', Ex H H' → Q (.bl true) H'
theorem ok_law_all_right {C f : Addr} {fd : FuncData} (F : C8.Def K mg "_law_all_right" s_law_all_right f fd) (b : Binds K fd ["bag"] []) (T : Txt mg)
    (c_law_some : C8.Cal P w K mg base 2 "_law_some" (sp_some K) []) (c_law_pick : C8.Cal P w K mg base 1 "_law_pick" (sp_pick K) []) (c_law_power : C8.Cal P w K mg base 1 "_law_power" (sp_power K) [])
    (c_law_tolls : C8.Cal P w K mg base 4 "_law_tolls" (sp_law_tolls K) []) (c_law_parted : C8.Cal P w K mg base 1 "_law_parted" (sp_law_parted K) []) (c_law_is : C8.Cal P w K mg base 2 "_law_is" (sp_isI K) [])
    (c_tolls_in_all : C8.Cal P w K mg base 6 "tolls_in_all" (sp_tolls_in_all K) []) (c_law_in_all : C8.Cal P w K mg base 3 "_law_in_all" (sp_in_all K) []) (c_sheets_in_all : C8.Cal P w K mg base 5 "sheets_in_all" (sp_sheets_in_all K C) [])
    (c_Tree : C8.Mak P w K mg base 4 "Tree" C (sp_tree_init K C) []) : C8.Cal P w K mg base 7 "_law_all_right" (sp_right K) [] := by
  refine C8.cal0 F b .nil sc_law_all_right (fun vs H Q E h => ?_) (fun cdv A outer s H vs Q E hr h => ?_)
  · obtain ⟨v, rfl, _⟩ := h
    rfl
  · obtain ⟨v, rfl, hv, q⟩ := h
    have hu := hu_of hr
    refine ⟨_, (pss_cons (ps_asg (pe_tup (pa_cons (C8.pe_c c_law_some hr (by first | decide | exact Nat.le_refl _) (by rfl) (pa_cons (pv 0) (pa_cons (pe_lst (pa_cons pe_int (pa_cons pe_int (pa_cons pe_int pa_nil)))) pa_nil))) (pa_cons (pe_tup (pa_cons (C8.pe_c c_law_pick hr (by first | decide | exact Nat.le_refl _) (by rfl) (pa_cons (pv 0) (pa_cons pe_int pa_nil))) (pa_cons (C8.pe_c c_law_pick hr (by first | decide | exact Nat.le_refl _) (by rfl) (pa_cons (pv 0) (pa_cons pe_int pa_nil))) pa_nil))) pa_nil))) (TH.kpg_tup (K := K) (n := 2) rfl (pgs_cons (pg_name (i := 6) sc_law_all_right.nd rfl (Or.inl rfl) (Or.inr rfl)) (pgs_cons (pg_name (i := 7) sc_law_all_right.nd rfl (Or.inr rfl) (Or.inl rfl)) pgs_nil))))
      (pss_cons (ps_set (i := 1) sc_law_all_right.nd rfl (Or.inl rfl) (pe_tup (pa_cons (C8.pe_c c_law_pick hr (by first | decide | exact Nat.le_refl _) (by rfl) (pa_cons (pv 0) (pa_cons pe_int pa_nil))) (pa_cons (C8.pe_c c_law_pick hr (by first | decide | exact Nat.le_refl _) (by rfl) (pa_cons (pv 0) (pa_cons pe_int pa_nil))) pa_nil))))
      (pss_cons (ps_set (i := 2) sc_law_all_right.nd rfl (Or.inl rfl) (pe_op op_mul (pe_callB (TH.kcr_sumT (K := K) rfl) (by rfl) T.b_sum (by decide +kernel) (pa_cons (pv 7) pa_nil)) (pe_callB (TH.kcr_sumT (K := K) rfl) (by rfl) T.b_sum (by decide +kernel) (pa_cons (pv 1) pa_nil))))
      (pss_cons (ps_while PassesOwn.never (pt_cmpR op_gt (C8.pe_c c_law_power hr (by first | decide | exact Nat.le_refl _) (by rfl) (pa_cons (pv 6) (pa_cons (pv 2) pa_nil))) pe_int (nomark _)) (pss_cons (ps_set (i := 1) sc_law_all_right.nd rfl (Or.inl rfl) (pe_ifExp (pt_cmpR op_gt (pe_ix (TH.kix_tup (K := K)) (pv 1) pe_int (fun _ _ => rfl)) pe_int (nomark _)) (pe_tup (pa_cons (pe_op op_sub (pe_ix (TH.kix_tup (K := K)) (pv 1) pe_int (fun _ _ => rfl)) pe_int) (pa_cons (pe_ix (TH.kix_tup (K := K)) (pv 1) pe_int (fun _ _ => rfl)) pa_nil))) (pe_tup (pa_cons pe_int (pa_cons (pe_op op_sub (pe_ix (TH.kix_tup (K := K)) (pv 1) pe_int (fun _ _ => rfl)) pe_int) pa_nil)))))
      (pss_one (ps_set (i := 2) sc_law_all_right.nd rfl (Or.inl rfl) (pe_op op_mul (pe_callB (TH.kcr_sumT (K := K) rfl) (by rfl) T.b_sum (by decide +kernel) (pa_cons (pv 7) pa_nil)) (pe_callB (TH.kcr_sumT (K := K) rfl) (by rfl) T.b_sum (by decide +kernel) (pa_cons (pv 1) pa_nil)))))))
      (pss_cons (ps_set (i := 3) sc_law_all_right.nd rfl (Or.inl rfl) pe_dnewT)
      (pss_cons (ps_for PassesOwn.never rfl (pi_range1 (by rfl) T.b_range (pa_cons (C8.pe_c c_law_power hr (by first | decide | exact Nat.le_refl _) (by rfl) (pa_cons (pv 6) (pa_cons (pv 2) pa_nil))) pa_nil)) (pg_name (i := 4) sc_law_all_right.nd rfl (Or.inl rfl) (Or.inr rfl)) (pss_cons (ps_asg (pe_tup (pa_cons (pe_lst pa_nil) (pa_cons (pv 4) pa_nil))) (TH.kpg_tup (K := K) (n := 2) rfl (pgs_cons (pg_name (i := 13) sc_law_all_right.nd rfl (Or.inr rfl) (Or.inl rfl)) (pgs_cons (pg_name (i := 14) sc_law_all_right.nd rfl (Or.inl rfl) (Or.inr rfl)) pgs_nil))))
      (pss_cons (ps_for PassesOwn.never rfl (pi_range1 (by rfl) T.b_range (pa_cons (pv 2) pa_nil)) (pg_name (i := 8) sc_law_all_right.nd rfl (Or.inl rfl) (Or.inr rfl)) (pss_cons (ps_expr (TH.kpe_bm (K := K) PySem.F.plainAttrs_list PySem.F.slot_list_append PySem.F.type_list_append mt_append (pv 13) (pa_cons (pe_op op_mod (pe_callTy call_int1 (by rfl) T.b_int (by decide +kernel) (pa_cons (pv 14) pa_nil)) (pv 6)) pa_nil)))
      (pss_one (ps_set (i := 14) sc_law_all_right.nd rfl (Or.inl rfl) (pe_op op_fdiv (pv 14) (pv 6))))))
      (pss_cons (ps_setLc (i := 9) (own := [("at", 16)]) (g := gName 16) (tt := tYes) rfl sc_law_all_right.nd rfl rfl (sw_true rfl rfl rfl (by decide +kernel)) (pi_range1 (by rfl) T.b_range (pa_cons (pe_callB (TH.kcr_sumT (K := K) rfl) (by rfl) T.b_sum (by decide +kernel) (pa_cons (pv 1) pa_nil)) pa_nil)) (blkOk_by (own := [("at", 16)]) (N := N_law_all_right) (sc := C8.fnScope s_law_all_right) (by decide +kernel)) (fun _ _ _ _ _ => (pg_name (i := 16) sc_law_all_right.nd rfl (Or.inl rfl) (Or.inr rfl))) (fun _ _ _ _ _ => pts_nil) (fun _ _ _ _ _ => (pe_callTy (TH.kcall_tuple (K := K)) (by rfl) T.b_tuple (by decide +kernel) (pa_cons (pe_slice (TH.ksl_list (K := K)) (pv 13) (po_some (pe_op op_mul (pv 16) (pe_callB (TH.kcr_sumT (K := K) rfl) (by rfl) T.b_sum (by decide +kernel) (pa_cons (pv 7) pa_nil)))) (po_some (pe_op op_mul (pe_op op_add (pv 16) pe_int) (pe_callB (TH.kcr_sumT (K := K) rfl) (by rfl) T.b_sum (by decide +kernel) (pa_cons (pv 7) pa_nil))))) pa_nil))))
      (pss_cons (ps_set (i := 10) sc_law_all_right.nd rfl (Or.inl rfl) (C8.pe_c c_law_tolls hr (by first | decide | exact Nat.le_refl _) (by rfl) (pa_cons (pe_tup (pa_cons (pv 6) (pa_cons (pe_tup (pa_cons (pe_tup (pa_cons pe_int (pa_cons pe_int pa_nil))) pa_nil)) (pa_cons (pv 7) (pa_cons (C8.pe_c c_law_parted hr (by first | decide | exact Nat.le_refl _) (by rfl) (pa_cons (pv 9) (pa_cons (pv 1) pa_nil))) pa_nil))))) pa_nil)))
      (pss_cons (ps_set (i := 11) sc_law_all_right.nd rfl (Or.inl rfl) (pe_tup (pa_cons (pe_dget hu (pv 10) (pe_tup (pa_cons pe_int (pa_cons pe_int pa_nil))) (fun _ _ => rfl)) (pa_cons (pe_dget hu (pv 10) (pe_tup (pa_cons pe_int (pa_cons pe_int pa_nil))) (fun _ _ => rfl)) pa_nil))))
      (pss_one (ps_dput hu (pv 3) (pv 11) (pe_op op_add (pe_dget2 hu (pv 3) (pv 11) pe_int ⟨rfl, rfl, rfl, rfl⟩) pe_int) rfl))))))))
      (pss_cons (ps_for PassesOwn.never rfl (pi_range1 (by rfl) T.b_range (pa_cons pe_int pa_nil)) (pg_name (i := 5) sc_law_all_right.nd rfl (Or.inl rfl) (Or.inr rfl)) (pss_one (ps_for PassesOwn.never rfl (pi_range1 (by rfl) T.b_range (pa_cons pe_int pa_nil)) (pg_name (i := 12) sc_law_all_right.nd rfl (Or.inl rfl) (Or.inr rfl)) (pss_cons (ps_set (i := 15) sc_law_all_right.nd rfl (Or.inl rfl) (pe_dget2 hu (pv 3) (pe_tup (pa_cons (pv 5) (pa_cons (pv 12) pa_nil))) pe_int ⟨rfl, rfl, rfl, rfl⟩))
      (pss_cons (ps_if (pt_not (pt_val (C8.pe_c c_law_is hr (by first | decide | exact Nat.le_refl _) (by rfl) (pa_cons (C8.pe_c c_tolls_in_all hr (by first | decide | exact Nat.le_refl _) (by rfl) (pa_cons (pv 6) (pa_cons (pv 7) (pa_cons (pv 1) (pa_cons (pv 5) (pa_cons (pv 12) pa_nil)))))) (pa_cons (pv 15) pa_nil))))) (pss_one (ps_ret pe_bl)) pss_nil)
      (pss_one (ps_if (pt_cmpR op_ne (C8.pe_c c_law_in_all hr (by first | decide | exact Nat.le_refl _) (by rfl) (pa_cons (pv 6) (pa_cons (pv 7) (pa_cons (pv 1) (pa_cons (pv 5) (pa_cons (pv 12) pa_nil)))))) (pv 15) (nomark _)) (pss_one (ps_ret pe_bl)) pss_nil)))))))
      (pss_one (ps_ret (C8.pe_c c_law_is hr (by first | decide | exact Nat.le_refl _) (by rfl) (pa_cons (C8.pe_c c_sheets_in_all hr (by first | decide | exact Nat.le_refl _) (by rfl) (pa_cons (pv 6) (pa_cons (C8.pe_mk c_Tree hr (by first | decide | exact Nat.le_refl _) (by rfl) (pa_cons (pe_tup (pa_cons (pe_tup (pa_cons pe_int (pa_cons pe_int pa_nil))) pa_nil)) pa_nil)) (pa_cons (pv 7) (pa_cons (pv 1) pa_nil))))) (pa_cons (C8.pe_c c_law_power hr (by first | decide | exact Nat.le_refl _) (by rfl) (pa_cons (pv 6) (pa_cons (pv 2) pa_nil))) pa_nil)))))))))))), ?_⟩
    refine w_start (σ' := [some v, none, none, none, none, none, none, none, none, none, none, none, none, none, none, none, none]) rfl ?_
    walk_at "rd"
    refine w_dispT (by simp) fun l0 hl0 => ?_
    refine ⟨v, l0, _, rfl, hv.ex (Ex.new hl0), sqL upd_same, by simp, by simp, fun x hx => ?_⟩
    obtain ⟨p, hp, rfl⟩ : ∃ p : Nat, (p = 2 ∨ p = 3) ∧ x = .int (p : Nat) := by
      simp only [List.mem_cons, List.not_mem_nil, or_false] at hx
      rcases hx with rfl | rfl | rfl
      · exact ⟨2, .inl rfl, rfl⟩
      · exact ⟨3, .inr rfl, rfl⟩
      · exact ⟨2, .inl rfl, rfl⟩
    have e1 : Ex H (upd H l0 (.lst [V.int 2, V.int 3, V.int 2])) := Ex.new hl0
    generalize upd H l0 (.lst [V.int 2, V.int 3, V.int 2]) = H1 at e1 ⊢
    walk_at "rd"
    refine ⟨v, _, rfl, hv.ex e1, by omega, by omega, fun r r0 r1 => ?_⟩
    obtain ⟨h0, rfl, i0⟩ := nat_lt (n := 3) r0 r1
    walk_at "rd"
    refine ⟨v, _, rfl, hv.ex e1, by omega, by omega, fun r r0 r1 => ?_⟩
    obtain ⟨h1, rfl, i1⟩ := nat_lt (n := 3) r0 r1
    walk_at "rd"
    refine w_dispT (by simp) fun ha hha => ?_
    walk_at "rd"
    refine w_dispT (by simp) fun tp htp => ?_
    have e2 : Ex H (upd (upd H1 ha (.tup [V.int h0, V.int h1])) tp (.tup [V.int p, .ref ha])) := e1.trans ((Ex.new hha).trans (Ex.new htp))
    have u2 : upd (upd H1 ha (.tup [V.int h0, V.int h1])) tp (.tup [V.int p, .ref ha]) ha = some (.tup [V.int h0, V.int h1]) := (Ex.new htp) _ _ upd_same
    have v2 : upd (upd H1 ha (.tup [V.int h0, V.int h1])) tp (.tup [V.int p, .ref ha]) tp = some (.tup [V.int p, .ref ha]) := upd_same
    generalize upd (upd H1 ha (.tup [V.int h0, V.int h1])) tp (.tup [V.int p, .ref ha]) = H2 at e2 u2 v2 ⊢
    refine w_gtup2 v2 ?_
    walk_at "rd"
    refine ⟨v, _, rfl, hv.ex e2, by omega, by omega, fun r r0 r1 => ?_⟩
    obtain ⟨w0, rfl, j0⟩ := nat_lt (n := 3) r0 r1
    walk_at "rd"
    refine ⟨v, _, rfl, hv.ex e2, by omega, by omega, fun r r0 r1 => ?_⟩
    obtain ⟨w1, rfl, j1⟩ := nat_lt (n := 3) r0 r1
    walk_at "rd"
    refine w_dispT (by simp) fun wa hwa => ?_
    have e3 : Ex H (upd H2 wa (.tup [V.int w0, V.int w1])) := e2.trans (Ex.new hwa)
    have u3 : upd H2 wa (.tup [V.int w0, V.int w1]) ha = some (.tup [V.int h0, V.int h1]) := (Ex.new hwa) _ _ u2
    have v3 : upd H2 wa (.tup [V.int w0, V.int w1]) wa = some (.tup [V.int w0, V.int w1]) := upd_same
    generalize upd H2 wa (.tup [V.int w0, V.int w1]) = H3 at e3 u3 v3 ⊢
    have esum : ∀ a c : Nat, ([(a : Int), (c : Int)]).sum = ((a + c : Nat) : Int) := fun a c => by simp
    have hmul : ∀ {a b : Nat}, a ≤ 2 → b ≤ 2 → (h0 + h1) * (a + b) ≤ 16 := fun {a b} ha hb => Nat.mul_le_mul (show h0 + h1 ≤ 4 by omega) (show a + b ≤ 4 by omega)
    walk_at "rd"
    refine w_sumT (ns := [(h0 : Int), (h1 : Int)]) (sqT u3) ?_
    walk_at "rd"
    refine w_sumT (ns := [(w0 : Int), (w1 : Int)]) (sqT v3) ?_
    rw [esum, esum]
    refine w_I (CMul.l (by omega) (by omega)) ?_
    walk_at "rd"
    rw [← Int.natCast_mul]
    refine ⟨fun m σ H' => Ex H H' ∧ H' ha = some (.tup [V.int h0, V.int h1]) ∧ ∃ w0 w1 wa : Nat, w0 ≤ 2 ∧ w1 ≤ 2 ∧ m = w0 + w1 ∧ H' wa = some (.tup [V.int w0, V.int w1]) ∧ σ = [some v, some (.ref wa), some (.int ((h0 + h1) * (w0 + w1) : Nat)), none, none, none, some (.int p), some (.ref ha), none, none, none, none, none, none, none, none, none],
      ⟨_, e3, u3, w0, w1, wa, by omega, by omega, rfl, v3, rfl⟩, fun m σ H' hw => ?_⟩
    clear u3 v3 e3 hwa u2 v2 j0 j1 r0 r1
    obtain ⟨e4, g1, w0, w1, wa, j0, j1, rfl, g2, rfl⟩ := hw
    have hm16 := hmul j0 j1
    generalize hmm : (h0 + h1) * (w0 + w1) = many at hm16
    walk_at "rd"
    refine ⟨p, many, rfl, by omega, by omega, ?_⟩
    walk_at "rd"
    refine w_dec (fun hbig => ?_) (fun hsm => ?_)
    · have hpos : w0 + w1 ≠ 0 := fun z => by
        rw [z, Nat.mul_zero] at hmm
        subst hmm
        have : ((p : Int) ^ 0) = 1 := rfl
        omega
      refine ⟨fun σ' H'' => Ex H H'' ∧ H'' ha = some (.tup [V.int h0, V.int h1]) ∧ ∃ a c wa : Nat, a ≤ 2 ∧ c ≤ 2 ∧ a + c < w0 + w1 ∧ H'' wa = some (.tup [V.int a, V.int c]) ∧ σ' = [some v, some (.ref wa), some (.int ((h0 + h1) * (a + c) : Nat)), none, none, none, some (.int p), some (.ref ha), none, none, none, none, none, none, none, none, none], fun σ' H'' hh => ?_, ?_⟩
      · obtain ⟨a1, a2, a, c, wa', a3, a4, a5, a6, a7⟩ := hh
        exact ⟨_, a5, a1, a2, a, c, wa', a3, a4, rfl, a6, a7⟩
      · walk_at "rd"
        refine w_ixT (sqT g2) (atI_at (j := 0) rfl) ?_
        walk_at "rd"
        refine w_dec (fun h0' => ?_) (fun h0' => ?_)
        · obtain ⟨k, rfl⟩ : ∃ k, w0 = k + 1 := ⟨w0 - 1, by omega⟩
          walk_at "rd"
          refine w_ixT (sqT g2) (atI_at (j := 0) rfl) ?_
          walk_at "rd"
          refine w_ixT (sqT g2) (atI_at (j := 1) rfl) ?_
          have ek : (((k + 1 : Nat) : Int) - 1) = (k : Nat) := by omega
          rw [ek]
          refine w_dispT (by simp) fun wb hwb => ?_
          have e5 : Ex H' (upd H' wb (.tup [V.int k, V.int w1])) := Ex.new hwb
          have u5 : upd H' wb (.tup [V.int k, V.int w1]) wb = some (.tup [V.int k, V.int w1]) := upd_same
          generalize upd H' wb (.tup [V.int k, V.int w1]) = H5 at e5 u5 ⊢
          walk_at "rd"
          refine w_sumT (ns := [(h0 : Int), (h1 : Int)]) (sqT (e5 _ _ g1)) ?_
          walk_at "rd"
          refine w_sumT (ns := [(k : Int), (w1 : Int)]) (sqT u5) ?_
          rw [esum, esum]
          refine w_I (CMul.l (by omega) (by omega)) ?_
          walk_at "rd"
          rw [← Int.natCast_mul]
          exact ⟨e4.trans e5, e5 _ _ g1, k, w1, wb, by omega, j1, by omega, u5, rfl⟩
        · obtain rfl : w0 = 0 := by omega
          obtain ⟨k, rfl⟩ : ∃ k, w1 = k + 1 := ⟨w1 - 1, by omega⟩
          walk_at "rd"
          refine w_ixT (sqT g2) (atI_at (j := 1) rfl) ?_
          walk_at "rd"
          have ek : (((k + 1 : Nat) : Int) - 1) = (k : Nat) := by omega
          rw [ek]
          refine w_dispT (by simp) fun wb hwb => ?_
          have e5 : Ex H' (upd H' wb (.tup [V.int (0 : Nat), V.int k])) := Ex.new hwb
          have u5 : upd H' wb (.tup [V.int (0 : Nat), V.int k]) wb = some (.tup [V.int (0 : Nat), V.int k]) := upd_same
          have ez : (V.int 0) = V.int (0 : Nat) := rfl
          rw [ez]
          generalize upd H' wb (.tup [V.int (0 : Nat), V.int k]) = H5 at e5 u5 ⊢
          walk_at "rd"
          refine w_sumT (ns := [(h0 : Int), (h1 : Int)]) (sqT (e5 _ _ g1)) ?_
          walk_at "rd"
          refine w_sumT (ns := [((0 : Nat) : Int), (k : Int)]) (sqT u5) ?_
          rw [esum, esum]
          refine w_I (CMul.l (by omega) (by omega)) ?_
          walk_at "rd"
          rw [← Int.natCast_mul]
          exact ⟨e4.trans e5, e5 _ _ g1, 0, k, wb, by omega, by omega, by omega, u5, rfl⟩
    · have hsm' : p ^ many ≤ 800 := by
        have : (p : Int) ^ many = ((p ^ many : Nat) : Int) := by push_cast; rfl
        rw [this] at hsm
        omega
      have e5p : (p : Int) ^ many = ((p ^ many : Nat) : Int) := by push_cast; rfl
      have hrow : Dp K H' (.ref ha) (row (nz [h0, h1])) := dp_row_of (sqT g1)
      have wrow : Dp K H' (.ref wa) (row (nz [w0, w1])) := dp_row_of (sqT g2)
      walk_at "rd"
      intro cd hcd
      have hcd0 := e4.fresh hcd
      have e6 : Ex H' (upd H' cd (.dT [])) := Ex.new hcd
      have u6 : upd H' cd (.dT []) cd = some (.dT []) := upd_same
      generalize upd H' cd (.dT []) = H6 at e6 u6 ⊢
      walk_at "rd"
      refine ⟨p, many, rfl, by omega, by omega, ?_⟩
      rw [e5p]
      refine w_isrng (by omega) (by omega) ?_
      refine for_go walk_rng (fun i σ H'' => Ex H' H'' ∧ (∃ kvs, H'' cd = some (.dT kvs) ∧ kvs.length ≤ i ∧ CntAt p h0 h1 w0 w1 i kvs) ∧ ∃ y4 y8 y9 y10 y11 y13 y14, σ = [some v, some (.ref wa), some (.int many), some (.ref cd), y4, none, some (.int p), some (.ref ha), y8, y9, y10, y11, none, y13, y14, none, none])
        ⟨e6, ⟨[], u6, Nat.le_refl _, fun t b => rfl⟩, _, _, _, _, _, _, _, rfl⟩ (fun _ _ _ _ _ => trivial) (fun n x σ H7 H7' hi pp y => ?_) (fun σ H7 pp => ?_)
      · obtain ⟨e7, ⟨kvs, k1, k2, k3⟩, y4, y8, y9, y10, y11, y13, y14, rfl⟩ := pp
        obtain ⟨rfl, rfl⟩ := y
        rw [Int.toNat_natCast] at hi
        walk_at "rd"
        refine w_dispT (by simp) fun vl hvl => ?_
        walk_at "rd"
        refine w_dispT (by simp) fun t0 ht0 => ?_
        have hne : vl ≠ t0 := fun z => by rw [← z, upd_same] at ht0; cases ht0
        have e8 : Ex H7' (upd (upd H7' vl (.lst [])) t0 (.tup [.ref vl, .int n])) := (Ex.new hvl).trans (Ex.new ht0)
        have u8 : upd (upd H7' vl (.lst [])) t0 (.tup [.ref vl, .int n]) vl = some (.lst []) := (Ex.new ht0) _ _ upd_same
        have v8 : upd (upd H7' vl (.lst [])) t0 (.tup [.ref vl, .int n]) t0 = some (.tup [.ref vl, .int n]) := upd_same
        generalize upd (upd H7' vl (.lst [])) t0 (.tup [.ref vl, .int n]) = H8 at e8 u8 v8 ⊢
        refine w_gtup2 v8 ?_
        walk_at "rd"
        refine w_isrng (by omega) (by omega) ?_
        refine for_go walk_rng (fun j σ H'' => Ex H7' H'' ∧ H'' vl = some (.lst (((List.range j).map fun i => ((dig p n i : Nat) : Int)).map V.int)) ∧ ∃ y8, σ = [some v, some (.ref wa), some (.int many), some (.ref cd), some (.int n), none, some (.int p), some (.ref ha), y8, y9, y10, y11, none, some (.ref vl), some (.int (n / p ^ j : Nat)), none, none])
          ⟨e8, u8, _, by rw [Nat.pow_zero, Nat.div_one]⟩ (fun _ _ _ _ _ => trivial) (fun j x σ H9 H9' hj pp y => ?_) (fun σ H9 pp => ?_)
        · obtain ⟨e9, g9, y8, rfl⟩ := pp
          obtain ⟨rfl, rfl⟩ := y
          rw [Int.toNat_natCast] at hj
          walk_at "rd"
          refine ⟨tyL g9, ?_⟩
          walk_at "rd"
          refine w_app g9 (by simp; omega) ?_
          walk_at "rd"
          have ed : (((n / p ^ j : Nat) : Int) % (p : Int)) = ((dig p n j : Nat) : Int) := rfl
          have ee : (((n / p ^ j : Nat) : Int) / (p : Int)) = ((n / p ^ (j + 1) : Nat) : Int) := by
            rw [Nat.pow_succ, ← Nat.div_div_eq_div_mul]
            rfl
          rw [ed, ee]
          refine ⟨e9.mut hvl, ?_, _, rfl⟩
          rw [upd_same, List.range_succ, List.map_append, List.map_append]
          rfl
        · obtain ⟨e9, g9, y8, rfl⟩ := pp
          rw [Int.toNat_natCast] at g9
          have e79 := e7.trans e9
          walk_at "rd"
          refine w_sumT (ns := [(w0 : Int), (w1 : Int)]) (sqT (e79 _ _ g2)) ?_
          rw [esum]
          refine w_isrng (by omega) (by omega) ?_
          intro Dl hD
          refine lc_data (K := K) walk_rng (fun _ => true) (fun i => row ((List.range (h0 + h1)).map fun j => ((dig p n (i * (h0 + h1) + j) : Nat) : Int))) (fun _ => imm_row _) (fun _ _ => trivial) hD (by omega) (fun i x H10 H11 hi e y R R0 k _ => ?_) (fun H10 us e10 hus hda => ?_)
          · obtain ⟨rfl, rfl⟩ := y
            rw [Int.toNat_natCast] at hi
            walk_at "rd"
            refine ⟨rfl, ?_⟩
            walk_at "rd"
            refine w_sumT (ns := [(h0 : Int), (h1 : Int)]) (sqT (e _ _ (e79 _ _ g1))) ?_
            rw [esum]
            refine w_I (CMul.l (by omega) (by omega)) ?_
            walk_at "rd"
            refine w_sumT (ns := [(h0 : Int), (h1 : Int)]) (sqT (e _ _ (e79 _ _ g1))) ?_
            rw [esum]
            refine w_I (CMul.l (by omega) (by omega)) ?_
            walk_at "rd"
            refine ⟨vl, _, rfl, sqL (e _ _ g9), fun p2 hp2 => ?_⟩
            have c1 : ((i : Int) * ((h0 + h1 : Nat) : Int)) = ((i * (h0 + h1) : Nat) : Int) := by push_cast; rfl
            have c2 : (((i : Int) + 1) * ((h0 + h1 : Nat) : Int)) = (((i + 1) * (h0 + h1) : Nat) : Int) := by push_cast; rfl
            have hle : (i + 1) * (h0 + h1) ≤ many := by
              rw [← hmm, Nat.mul_comm (h0 + h1)]
              exact Nat.mul_le_mul_right _ hi
            have hsc : (i + 1) * (h0 + h1) = i * (h0 + h1) + (h0 + h1) := Nat.succ_mul _ _
            have hl : (((List.range many).map fun i => ((dig p n i : Nat) : Int)).map V.int).length = many := by simp
            have ecut : cutV (((List.range many).map fun i => ((dig p n i : Nat) : Int)).map V.int) (some ((i : Int) * ((h0 + h1 : Nat) : Int))) (some (((i : Int) + 1) * ((h0 + h1 : Nat) : Int))) = ((List.range (h0 + h1)).map fun j => ((dig p n (i * (h0 + h1) + j) : Nat) : Int)).map V.int := by
              rw [c1, c2]
              unfold cutV
              rw [HT.sIx_nat, HT.sIx_nat, hl]
              have a1 : min (i * (h0 + h1)) many = i * (h0 + h1) := by omega
              have a2 : min ((i + 1) * (h0 + h1)) many = (i + 1) * (h0 + h1) := by omega
              rw [a1, a2, hsc, Nat.add_sub_cancel_left, ← List.map_drop, ← List.map_take, range_cut _ _ _ _ (by omega)]
            rw [ecut]
            refine ⟨p2, _, rfl, .inl ⟨sqL upd_same, fun l hl => ?_⟩⟩
            exact k rfl _ _ ((Ex.new hp2).trans (Ex.new hl)) (dp_row_of (sqT upd_same))
          · rw [Int.toNat_natCast, made_all] at hda
            have erows : (List.range (w0 + w1)).map (fun i => row ((List.range (h0 + h1)).map fun j => ((dig p n (i * (h0 + h1) + j) : Nat) : Int))) = (rowsN p (h0 + h1) (w0 + w1) n).map row := by
              unfold rowsN
              rw [List.map_map]
              rfl
            rw [erows] at hda
            have e7a := e79.trans e10
            have hwok := rowsN_ok (n := n) hp (show h0 ≤ 2 by omega) (show h1 ≤ 2 by omega) j0 j1
            have hnt := nTo_eq (n := n) hp (show h0 ≤ 2 by omega) (show h1 ≤ 2 by omega) j0 j1
            walk_at "rd"
            refine w_dispT (by simp) fun c1 hc1 => ?_
            walk_at "rd"
            refine w_dispT (by simp) fun ta hta => ?_
            have e11 : Ex H10 (upd (upd H10 c1 (.tup [V.int 0, V.int 1])) ta (.tup [.ref c1])) := (Ex.new hc1).trans (Ex.new hta)
            have u11 : upd (upd H10 c1 (.tup [V.int 0, V.int 1])) ta (.tup [.ref c1]) ta = some (.tup [.ref c1]) := upd_same
            have v11 : upd (upd H10 c1 (.tup [V.int 0, V.int 1])) ta (.tup [.ref c1]) c1 = some (tup2 0 1) := (Ex.new hta) _ _ upd_same
            generalize upd (upd H10 c1 (.tup [V.int 0, V.int 1])) ta (.tup [.ref c1]) = H11 at e11 u11 v11 ⊢
            have e7b := e7a.trans e11
            walk_at "rd"
            refine ⟨Dl, us, rowsN p (h0 + h1) (w0 + w1) n, .ref wa, [w0, w1], rfl, sqL (e11 _ _ hus), e11.dpa hda, e7b.dp wrow, by simp, by simp [rowsN], by simp; omega, fun u H12 e12 hu12 => ?_⟩
            walk_at "rd"
            refine w_dispT (by simp) fun sa hsa => ?_
            have e13 : Ex H12 (upd H12 sa (.tup [.int p, .ref ta, .ref ha, u])) := Ex.new hsa
            have u13 : upd H12 sa (.tup [.int p, .ref ta, .ref ha, u]) sa = some (.tup [.int p, .ref ta, .ref ha, u]) := upd_same
            generalize upd H12 sa (.tup [.int p, .ref ta, .ref ha, u]) = H13 at e13 u13 ⊢
            have e123 := e12.trans e13
            have e7c := e7b.trans e123
            walk_at "rd"
            refine ⟨.ref sa, p, [h0, h1], partZ (rowsN p (h0 + h1) (w0 + w1) n) [w0, w1], rfl, ⟨sa, ta, c1, .ref ha, u, rfl, sqT u13, sqT (e123 _ _ u11), e123 _ _ v11, e7c.dp hrow, e13.dp hu12⟩, hwok, fun d H14 e14 hd0 hd => ?_⟩
            rw [hnt.1, hnt.2] at hd
            have e7d := e7c.trans e14
            walk_at "rd"
            refine w_dget ?_
            walk_at "rd"
            refine w_dispT (by simp) fun q1 hq1 => ?_
            have e15 : Ex H14 (upd H14 q1 (.tup [V.int 0, V.int 1])) := Ex.new hq1
            have u15 : upd H14 q1 (.tup [V.int 0, V.int 1]) q1 = some (.tup (k01.map kV)) := upd_same
            generalize upd H14 q1 (.tup [V.int 0, V.int 1]) = H15 at e15 u15 ⊢
            refine ⟨d, _, rfl, DGet.t (e15 _ _ hd) u15, ?_⟩
            walk_at "rd"
            refine w_dget ?_
            walk_at "rd"
            refine w_dispT (by simp) fun q2 hq2 => ?_
            have e16 : Ex H15 (upd H15 q2 (.tup [V.int 1, V.int 0])) := Ex.new hq2
            have u16 : upd H15 q2 (.tup [V.int 1, V.int 0]) q2 = some (.tup (k10.map kV)) := upd_same
            generalize upd H15 q2 (.tup [V.int 1, V.int 0]) = H16 at e16 u16 ⊢
            refine ⟨d, _, rfl, DGet.t (e16 _ _ (e15 _ _ hd)) u16, ?_⟩
            generalize ht : (tollsN p h0 h1 w0 w1 n).1 = tt
            generalize hb : (tollsN p h0 h1 w0 w1 n).2 = bb
            refine w_dispT (by simp) fun q3 hq3 => ?_
            have e17 : Ex H16 (upd H16 q3 (.tup [V.int tt, V.int bb])) := Ex.new hq3
            have u17 : upd H16 q3 (.tup [V.int tt, V.int bb]) q3 = some (.tup ((kTB tt bb).map kV)) := upd_same
            generalize upd H16 q3 (.tup [V.int tt, V.int bb]) = H17 at e17 u17 ⊢
            have e7e := e7d.trans (e15.trans (e16.trans e17))
            have eall : Ex H7' H17 := e9.trans (e10.trans (e11.trans (e123.trans (e14.trans (e15.trans (e16.trans e17))))))
            have k17 := eall _ _ k1
            walk_at "rd"
            refine ⟨cd, rfl, .inr ⟨kvs, .inl k17⟩, ?_⟩
            walk_at "rd"
            refine ⟨_, DGet.t k17 u17, ?_⟩
            rw [k3.get]
            walk_at "rd"
            refine ⟨cd, _, rfl, DPut.t k17 u17 (Nat.lt_of_lt_of_le (show kvs.length < 1000000 by omega) (small2 (Nat.le_refl _))), ?_⟩
            walk_at "rd"
            have hpl := putK_le kvs (kTB tt bb) (V.int ((cntN p h0 h1 w0 w1 tt bb n : Nat) + 1 : Int))
            exact ⟨e7e.mut hcd, ⟨_, upd_same, by omega, k3.put ht hb⟩, _, _, _, _, _, _, _, rfl⟩
      · obtain ⟨e7, ⟨kvs, k1, k2, k3⟩, y4, y8, y9, y10, y11, y13, y14, rfl⟩ := pp
        rw [Int.toNat_natCast] at k3
        walk_at "rd"
        have hclk : p ∈ clks := by rcases hp with rfl | rfl <;> decide
        have p2 : 2 ≤ p := by omega
        have hcfg : ∀ t b, t < 4 → b < 4 → tollsZ p h0 h1 w0 w1 t b = (cntN p h0 h1 w0 w1 t b (p ^ many) : Nat) := fun t b ht hb => by
          have := cfg_at hp (show h0 ≤ 2 by omega) (show h1 ≤ 2 by omega) j0 j1 (by rw [hmm]; exact hsm') ht hb
          rw [hmm] at this
          exact this
        refine w_isrng (by omega) (by omega) ?_
        refine for_go walk_rng (fun i σ H'' => Ex H7 H'' ∧ ∃ y5 y12 y15, σ = [some v, some (.ref wa), some (.int many), some (.ref cd), y4, y5, some (.int p), some (.ref ha), y8, y9, y10, y11, y12, y13, y14, y15, none])
          ⟨Ex.refl _, _, _, _, rfl⟩ (fun _ _ _ _ _ => trivial) (fun t x σ H8 H8' ht pp y => ?_) (fun σ H8 pp => ?_)
        · obtain ⟨e8, y5, y12, y15, rfl⟩ := pp
          obtain ⟨rfl, rfl⟩ := y
          have ht : t < 4 := ht
          walk_at "rd"
          refine w_isrng (by omega) (by omega) ?_
          refine for_go walk_rng (fun i σ H'' => Ex H7 H'' ∧ ∃ y12 y15, σ = [some v, some (.ref wa), some (.int many), some (.ref cd), y4, some (.int t), some (.int p), some (.ref ha), y8, y9, y10, y11, y12, y13, y14, y15, none])
            ⟨e8, _, _, rfl⟩ (fun _ _ _ _ _ => trivial) (fun u x σ H9 H9' hu4 pp y => ?_) (fun σ H9 pp => ?_)
          · obtain ⟨e9, y12, y15, rfl⟩ := pp
            obtain ⟨rfl, rfl⟩ := y
            have hu4 : u < 4 := hu4
            walk_at "rd"
            refine ⟨cd, rfl, .inr ⟨kvs, .inl (e9 _ _ k1)⟩, ?_⟩
            walk_at "rd"
            refine w_dispT (by simp) fun q1 hq1 => ?_
            have e10 : Ex H9' (upd H9' q1 (.tup [V.int t, V.int u])) := Ex.new hq1
            have u10 : upd H9' q1 (.tup [V.int t, V.int u]) q1 = some (.tup ((kTB t u).map kV)) := upd_same
            generalize upd H9' q1 (.tup [V.int t, V.int u]) = H10 at e10 u10 ⊢
            have e710 := e7.trans (e9.trans e10)
            walk_at "rd"
            refine ⟨_, DGet.t (e10 _ _ (e9 _ _ k1)) u10, ?_⟩
            rw [k3.get]
            walk_at "rd"
            refine ⟨p, .ref ha, .ref wa, h0, h1, w0, w1, t, u, rfl, clks_ok hclk, e710.dp hrow, e710.dp wrow, by omega, by omega, by omega, by omega, by omega, by omega, fun H11 e11 => ?_⟩
            walk_at "rd"
            refine ⟨_, _, rfl, fun H12 e12 => ?_⟩
            rw [decide_eq_true (hcfg t u ht hu4)]
            walk_at "rd"
            have e7c := e710.trans (e11.trans e12)
            refine ⟨p, .ref ha, .ref wa, h0, h1, w0, w1, t, u, rfl, by omega, e7c.dp hrow, e7c.dp wrow, by omega, by omega, by omega, by omega, by omega, by omega, fun H13 e13 => ?_⟩
            rw [inAll_tolls p2 (okP_all p hclk) (by omega) (by omega) (by omega) (by omega), hcfg t u ht hu4]
            walk_at "rd"
            refine w_decN (fun h => absurd rfl h) (fun _ => ?_)
            walk_at "rd"
            exact ⟨e9.trans (e10.trans (e11.trans (e12.trans e13))), _, _, rfl⟩
          · obtain ⟨e9, y12, y15, rfl⟩ := pp
            exact ⟨e9, _, _, _, rfl⟩
        · obtain ⟨e8, y5, y12, y15, rfl⟩ := pp
          have e78 := e7.trans e8
          walk_at "rd"
          refine w_dispT (by simp) fun ta hta => ?_
          walk_at "rd"
          refine w_dispT (by simp) fun tb htb => ?_
          have e0 : Ex H8 (upd (upd H8 ta (.tup [V.int 0, V.int 1])) tb (.tup [.ref ta])) := (Ex.new hta).trans (Ex.new htb)
          have u0 : Dp K (upd (upd H8 ta (.tup [V.int 0, V.int 1])) tb (.tup [.ref ta])) (.ref tb) (tiesT [(0, 1)]) := .tup (sqT upd_same) (.cons (dp_tie_of (a := (0, 1)) (sqT ((Ex.new htb) _ _ upd_same))) .nil)
          generalize upd (upd H8 ta (.tup [V.int 0, V.int 1])) tb (.tup [.ref ta]) = H9 at e0 u0 ⊢
          walk_at "rd"
          intro x dx hx hdx hne
          refine ⟨x, dx, .ref tb, 2, [(0, 1)], rfl, upd_same, (ex_two hx hdx).dp u0, two_ok, fun H10 h1' h2 h3 => ⟨rfl, ?_⟩⟩
          have e10 := e0.trans (ex_made hx hdx h1')
          have htr : TreeAt K C H10 (.ref x) 2 [(0, 1)] := ⟨x, dx, .ref tb, rfl, h2, h3⟩
          walk_at "rd"
          refine ⟨p, .ref x, .ref ha, .ref wa, 2, [(0, 1)], [h0, h1], [w0, w1], rfl, clks_ok hclk, htr, by omega, (e78.trans e10).dp hrow, (e78.trans e10).dp wrow, cnt2 (by omega) (by omega), cnt2 (by omega) (by omega), fun H11 e11 => ?_⟩
          walk_at "rd"
          refine ⟨p, many, rfl, by omega, by omega, ?_⟩
          refine ⟨_, _, rfl, fun H12 e12 => ?_⟩
          have es : [h0, h1].sum * [w0, w1].sum = many := by
            rw [← hmm]
            simp
          rw [es, decide_eq_true rfl]
          exact q _ (e4.trans (e78.trans (e10.trans (e11.trans e12))))
end TK

namespace TK
open PySem PySem.Spec PyProof.Rows L2 TH
local macro_rules | `(tactic| walk_at "rd1") => `(tactic| first
  | (with_reducible refine TH.w_seq ?_)
  | (with_reducible refine TH.w_asg ?_)
  | (with_reducible refine TH.w_ret ?_)
  | (with_reducible refine TH.w_drop ?_)
  | (with_reducible refine TH.w_ifS ?_)
  | (with_reducible refine TH.w_next ?_)
  | ((with_reducible refine TH.w_var (v := ?vv) ?hv ?_); (case hv => rfl))
  | (with_reducible refine TH.w_c ?_)
  | ((with_reducible refine TH.w_gname (σ' := ?ss) ?hs ?_); (case hs => (dsimp only [List.set]; rfl)))
  | (with_reducible refine TH.w_op ?_)
  | (with_reducible refine TH.w_un ?_)
  | (with_reducible refine TH.w_chain ?_)
  | (with_reducible refine TH.w_I0 ?_)
  | ((with_reducible refine TH.w_I ?hm ?_); (case hm => first | (exact TH.CMul.l (by omega) (by omega)) | (exact TH.CMul.r (by omega) (by omega)) | (exact TH.CDiv.mk (by omega) (by omega)) | (show (0 : Int) < _; omega) | (exact TH.CPow.mk (by omega) (by omega) (by decide))))
  | (with_reducible refine TH.w_U ?_)
  | (with_reducible refine TH.w_eqI ?_)
  | (with_reducible refine TH.w_neI ?_)
  | (with_reducible refine TH.w_eqB ?_)
  | (with_reducible refine TH.w_isN ?_)
  | (with_reducible refine TH.w_nil ?_)
  | (with_reducible refine TH.w_cons ?_)
  | (with_reducible refine TH.w_test ?_)
  | (with_reducible refine TH.w_B ?_)
  | (with_reducible refine TH.w_bl ?_)
  | (with_reducible refine TH.w_and ?_)
  | (with_reducible refine TH.w_or ?_)
  | (with_reducible refine TH.w_not ?_)
  | (with_reducible refine TH.w_andV ?_)
  | (with_reducible refine TH.w_orV ?_)
  | (with_reducible refine TH.w_notV ?_)
  | (with_reducible refine TH.w_if ?_)
  | (with_reducible refine TH.w_parT ?_)
  | (with_reducible refine TH.w_par ?_)
  | (with_reducible refine TH.w_parT3 ?_)
  | (with_reducible refine TH.w_par3 ?_)
  | (with_reducible refine TH.w_cb ?_)
  | (with_reducible refine TH.w_call ?_)
  | ((with_reducible refine TH.w_aug (v := ?vv) ?hv ?_); (case hv => rfl))
  | (with_reducible refine TH.w_ip ?_)
  | (with_reducible refine TH.w_bm ?_)
  | (with_reducible refine TH.w_sl ?_)
  | (with_reducible refine TH.w_np ?_)
  | (with_reducible refine TH.w_pt ?_)
  | (with_reducible refine TH.w_pti ?_)
  | (with_reducible refine TH.w_gsub ?_)
  | (with_reducible refine TH.w_int ?_)
  | (with_reducible refine TH.w_tupT ?_)
  | (with_reducible refine TH.w_lstT ?_)
  | ((with_reducible show L2.rIxL _ _ _ _ _); (first | (refine TH.w_ixL (TH.sqL upd_same) rfl ?_) | (refine TH.w_ixL (TH.sqL (by assumption)) rfl ?_)))
  | ((with_reducible show L2.rSetL _ _ _ _ _); (first | (refine TH.w_set1 upd_same ?_) | (refine TH.w_set2 upd_same ?_) | (refine TH.w_set3 upd_same ?_) | (refine TH.w_set4 upd_same ?_) | (refine TH.w_set1 (by assumption) ?_) | (refine TH.w_set2 (by assumption) ?_) | (refine TH.w_set3 (by assumption) ?_) | (refine TH.w_set4 (by assumption) ?_)))
  | (with_reducible refine TH.w_lc ?_)
  | (with_reducible refine TH.w_dc ?_)
  | (with_reducible refine TH.w_itup ?_)
  | (with_reducible refine TH.w_ilist ?_)
  | (with_reducible refine TH.w_ienum ?_)
  | (with_reducible refine TH.w_izip ?_)
  | (with_reducible refine TH.w_irng1 ?_)
  | (with_reducible refine TH.w_irng2 ?_)
  | (with_reducible refine TH.w_for ?_)
  | (with_reducible refine TH.w_gcons ?_)
  | (with_reducible refine TH.w_gnil ?_)
  | (with_reducible refine TH.w_yes ?_)
  | (with_reducible refine TH.w_gtup2 upd_same ?_)
  | (with_reducible refine TH.w_gtup3 upd_same ?_)
  | (with_reducible refine TH.w_dput ?_)
  | (with_reducible refine TH.w_bm0 ?_)
  | (with_reducible refine TH.w_din ?_)
  | (with_reducible refine TH.w_dnotin ?_)
  | (with_reducible refine TH.w_dispK ?_)
  | (with_reducible refine TH.w_lock ?_)
  | (with_reducible refine TH.w_ikeys ?_)
  | (with_reducible refine TH.w_iitems ?_)
  | (with_reducible refine TH.w_dispT1 ?_)
  | (with_reducible refine TH.w_dnewT ?_)
  | (with_reducible refine TH.w_dnewK ?_)
  | (with_reducible refine TH.w_fld ?_)
  | (with_reducible refine TH.w_sfld ?_)
  | (with_reducible refine TH.w_meth ?_)
  | (with_reducible refine TH.w_make ?_)
  | (with_reducible refine TH.w_dget2 ?_)
  | (with_reducible refine TH.w_revL ?_)
  | (with_reducible refine TH.w_revT ?_)
  | (with_reducible refine TH.w_lstRg ?_)
  | (with_reducible refine TH.w_tupRg ?_)
  | (with_reducible refine TH.w_rg1 ?_)
  | (with_reducible refine TH.w_rg2 ?_)
  | (with_reducible refine TH.w_T ?_)
  | (with_reducible refine TH.w_F ?_))
local macro_rules | `(tactic| walk_at "rd") => `(tactic| repeat (first | walk_at "rd1" | (dsimp only [List.set, L2.wipe, List.map, TH.isInt, TH.isBool, TH.isTup, TH.isLst, TH.bo_f, TH.bo_t, TH.ba_f, TH.ba_t, TH.bn_t, TH.bn_f, List.append_nil, List.cons_append, List.nil_append])))

variable {P : Program} {w : World} {K : PySem.W.Frag} {mg : Str → Option Value} {base : Heap}
theorem w_sumI {H : Hp} {Q : VK} {a : Addr} {ns : List Int} (h : SqL K H a (ns.map V.int)) (k : Q (.int ns.sum) H) : rSum K [.ref a] H Q := ⟨a, ns, rfl, h, k⟩
/-! _law_great_right(bag) -/
theorem ok_law_great_right {C f : Addr} {fd : FuncData} (F : C8.Def K mg "_law_great_right" s_law_great_right f fd) (b : Binds K fd ["bag"] []) (T : Txt mg)
    (c_law_some : C8.Cal P w K mg base 2 "_law_some" (sp_some K) []) (c_law_pick : C8.Cal P w K mg base 1 "_law_pick" (sp_pick K) []) (c_law_clock : C8.Cal P w K mg base 3 "_law_clock" (sp_clock K) []) (c_law_power : C8.Cal P w K mg base 1 "_law_power" (sp_power K) [])
    (c_law_is : C8.Cal P w K mg base 2 "_law_is" (sp_isI K) []) (c_tolls_in_all : C8.Cal P w K mg base 6 "tolls_in_all" (sp_tolls_in_all K) []) (c_law_in_all : C8.Cal P w K mg base 3 "_law_in_all" (sp_in_all K) []) (c_sheets_in_all : C8.Cal P w K mg base 5 "sheets_in_all" (sp_sheets_in_all K C) [])
    (c_Tree : C8.Mak P w K mg base 4 "Tree" C (sp_tree_init K C) []) : C8.Cal P w K mg base 7 "_law_great_right" (sp_right K) [] := by
  refine C8.cal0 F b .nil sc_law_great_right (fun vs H Q E h => ?_) (fun cdv A outer s H vs Q E hr h => ?_)
  · obtain ⟨v, rfl, _⟩ := h
    rfl
  · obtain ⟨v, rfl, hv, q⟩ := h
    have hu := hu_of hr
    refine ⟨_, (pss_cons (ps_set (i := 1) sc_law_great_right.nd rfl (Or.inr rfl) (C8.pe_c c_law_clock hr (by first | decide | exact Nat.le_refl _) (by rfl) (pa_cons (pv 0) pa_nil)))
      (pss_cons (ps_asg (pe_tup (pa_cons (pe_tup (pa_cons (C8.pe_c c_law_pick hr (by first | decide | exact Nat.le_refl _) (by rfl) (pa_cons (pv 0) (pa_cons pe_int pa_nil))) (pa_cons (C8.pe_c c_law_pick hr (by first | decide | exact Nat.le_refl _) (by rfl) (pa_cons (pv 0) (pa_cons pe_int pa_nil))) pa_nil))) (pa_cons (pe_tup (pa_cons (C8.pe_c c_law_pick hr (by first | decide | exact Nat.le_refl _) (by rfl) (pa_cons (pv 0) (pa_cons pe_int pa_nil))) (pa_cons (C8.pe_c c_law_pick hr (by first | decide | exact Nat.le_refl _) (by rfl) (pa_cons (pv 0) (pa_cons pe_int pa_nil))) pa_nil))) pa_nil))) (TH.kpg_tup (K := K) (n := 2) rfl (pgs_cons (pg_name (i := 5) sc_law_great_right.nd rfl (Or.inr rfl) (Or.inl rfl)) (pgs_cons (pg_name (i := 6) sc_law_great_right.nd rfl (Or.inr rfl) (Or.inl rfl)) pgs_nil))))
      (pss_cons (ps_par (i := 7) (j := 8) rfl sc_law_great_right.nd rfl rfl (by decide) rfl rfl (pa_cons (C8.pe_c c_law_pick hr (by first | decide | exact Nat.le_refl _) (by rfl) (pa_cons (pv 0) (pa_cons pe_int pa_nil))) (pa_cons (C8.pe_c c_law_some hr (by first | decide | exact Nat.le_refl _) (by rfl) (pa_cons (pv 0) (pa_cons (pe_lst (pa_cons pe_int (pa_cons pe_int (pa_cons pe_int (pa_cons (C8.pe_c c_law_pick hr (by first | decide | exact Nat.le_refl _) (by rfl) (pa_cons (pv 0) (pa_cons pe_int pa_nil))) (pa_cons pe_int pa_nil)))))) pa_nil))) pa_nil)) (by rfl))
      (pss_cons (ps_if (pt_not (pt_val (C8.pe_c c_law_is hr (by first | decide | exact Nat.le_refl _) (by rfl) (pa_cons (C8.pe_c c_tolls_in_all hr (by first | decide | exact Nat.le_refl _) (by rfl) (pa_cons (pv 1) (pa_cons (pv 5) (pa_cons (pv 6) (pa_cons (pv 7) (pa_cons (pv 8) pa_nil)))))) (pa_cons (C8.pe_c c_law_in_all hr (by first | decide | exact Nat.le_refl _) (by rfl) (pa_cons (pv 1) (pa_cons (pv 5) (pa_cons (pv 6) (pa_cons (pv 7) (pa_cons (pv 8) pa_nil)))))) pa_nil))))) (pss_one (ps_ret pe_bl)) pss_nil)
      (pss_cons (ps_set (i := 2) sc_law_great_right.nd rfl (Or.inl rfl) (C8.pe_c c_law_power hr (by first | decide | exact Nat.le_refl _) (by rfl) (pa_cons (pv 1) (pa_cons (pe_op op_mul (pe_callB (TH.kcr_sumT (K := K) rfl) (by rfl) T.b_sum (by decide +kernel) (pa_cons (pv 5) pa_nil)) (pe_callB (TH.kcr_sumT (K := K) rfl) (by rfl) T.b_sum (by decide +kernel) (pa_cons (pv 6) pa_nil))) pa_nil))))
      (pss_cons (ps_set (i := 3) sc_law_great_right.nd rfl (Or.inl rfl) pe_int)
      (pss_cons (ps_for PassesOwn.never rfl (pi_range1 (by rfl) T.b_range (pa_cons pe_int pa_nil)) (pg_name (i := 4) sc_law_great_right.nd rfl (Or.inr rfl) (Or.inl rfl)) (pss_one (ps_set (i := 3) sc_law_great_right.nd rfl (Or.inl rfl) (pe_op op_add (pv 3) (pe_callB (TH.kcr_sum (K := K) rfl) (by rfl) T.b_sum (by decide +kernel) (pa_cons (pe_lc (own := [("other", 9)]) (g := gName 9) (tt := tYes) rfl sc_law_great_right.nd (pi_range1 (by rfl) T.b_range (pa_cons pe_int pa_nil)) (blkOk_by (own := [("other", 9)]) (N := N_law_great_right) (sc := C8.fnScope s_law_great_right) (by decide +kernel)) (fun _ _ _ _ _ => (pg_name (i := 9) sc_law_great_right.nd rfl (Or.inl rfl) (Or.inr rfl))) (fun _ _ _ _ _ => pts_nil) (fun _ _ _ _ _ => (C8.pe_c c_tolls_in_all hr (by first | decide | exact Nat.le_refl _) (by rfl) (pa_cons (pv 1) (pa_cons (pv 5) (pa_cons (pv 6) (pa_cons (pv 4) (pa_cons (pv 9) pa_nil)))))))) pa_nil))))))
      (pss_one (ps_ret (pe_and (pe_cmpR op_eq (pv 3) (pv 2) (nomark _)) (pe_one (C8.pe_c c_law_is hr (by first | decide | exact Nat.le_refl _) (by rfl) (pa_cons (C8.pe_c c_sheets_in_all hr (by first | decide | exact Nat.le_refl _) (by rfl) (pa_cons (pv 1) (pa_cons (C8.pe_mk c_Tree hr (by first | decide | exact Nat.le_refl _) (by rfl) (pa_cons (pe_tup (pa_cons (pe_tup (pa_cons pe_int (pa_cons pe_int pa_nil))) pa_nil)) pa_nil)) (pa_cons (pv 5) (pa_cons (pv 6) pa_nil))))) (pa_cons (pv 2) pa_nil)))))))))))))), ?_⟩
    refine w_start (σ' := [some v, none, none, none, none, none, none, none, none, none]) rfl ?_
    walk_at "rd"
    refine ⟨v, rfl, hv, fun p H1 e1 hclk => ?_⟩
    have hck := clks_ok hclk
    obtain ⟨p2, pm⟩ := clockB_two hck
    have okp := okP_all p hclk
    walk_at "rd"
    refine ⟨v, _, rfl, hv.ex e1, by omega, by omega, fun r r0 r1 => ?_⟩
    obtain ⟨h0, rfl, i0⟩ := nat_lt (n := 9) r0 r1
    walk_at "rd"
    refine ⟨v, _, rfl, hv.ex e1, by omega, by omega, fun r r0 r1 => ?_⟩
    obtain ⟨h1, rfl, i1⟩ := nat_lt (n := 9) r0 r1
    walk_at "rd"
    refine w_dispT (by simp) fun ha hha => ?_
    have e2 : Ex H1 (upd H1 ha (.tup [V.int h0, V.int h1])) := Ex.new hha
    have u2 : upd H1 ha (.tup [V.int h0, V.int h1]) ha = some (.tup [V.int h0, V.int h1]) := upd_same
    generalize upd H1 ha (.tup [V.int h0, V.int h1]) = H2 at e2 u2 ⊢
    have e12 := e1.trans e2
    walk_at "rd"
    refine ⟨v, _, rfl, hv.ex e12, by omega, by omega, fun r r0 r1 => ?_⟩
    obtain ⟨w0, rfl, j0⟩ := nat_lt (n := 9) r0 r1
    walk_at "rd"
    refine ⟨v, _, rfl, hv.ex e12, by omega, by omega, fun r r0 r1 => ?_⟩
    obtain ⟨w1, rfl, j1⟩ := nat_lt (n := 9) r0 r1
    walk_at "rd"
    refine w_dispT (by simp) fun wa hwa => ?_
    have e3 : Ex H2 (upd H2 wa (.tup [V.int w0, V.int w1])) := Ex.new hwa
    have u3 : upd H2 wa (.tup [V.int w0, V.int w1]) wa = some (.tup [V.int w0, V.int w1]) := upd_same
    generalize upd H2 wa (.tup [V.int w0, V.int w1]) = H3 at e3 u3 ⊢
    walk_at "rd"
    refine w_dispT (by simp) fun tp htp => ?_
    have e4 : Ex H3 (upd H3 tp (.tup [.ref ha, .ref wa])) := Ex.new htp
    have u4 : upd H3 tp (.tup [.ref ha, .ref wa]) tp = some (.tup [.ref ha, .ref wa]) := upd_same
    have g1 := e4 _ _ (e3 _ _ u2)
    have g2 := e4 _ _ u3
    have e14 := e12.trans (e3.trans e4)
    generalize upd H3 tp (.tup [.ref ha, .ref wa]) = H4 at u4 g1 g2 e14 ⊢
    refine w_gtup2 u4 ?_
    have hrow : Dp K H4 (.ref ha) (row (nz [h0, h1])) := dp_row_of (sqT g1)
    have wrow : Dp K H4 (.ref wa) (row (nz [w0, w1])) := dp_row_of (sqT g2)
    have esum : ∀ a c : Nat, ([(a : Int), (c : Int)]).sum = ((a + c : Nat) : Int) := fun a c => by simp
    have hmul : (h0 + h1) * (w0 + w1) ≤ 256 := Nat.mul_le_mul (show h0 + h1 ≤ 16 by omega) (show w0 + w1 ≤ 16 by omega)
    have htot := total_eq (p := p) (by omega) okp (show h0 ≤ 8 by omega) (show h1 ≤ 8 by omega) (show w0 ≤ 8 by omega) (show w1 ≤ 8 by omega)
    have hin : ∀ t b, inAllZ p h0 h1 w0 w1 t b = tollsZ p h0 h1 w0 w1 t b := fun t b => inAll_tolls (by omega) okp (show h0 ≤ 8 by omega) (show h1 ≤ 8 by omega) (show w0 ≤ 8 by omega) (show w1 ≤ 8 by omega)
    walk_at "rd"
    refine ⟨v, _, rfl, hv.ex e14, by omega, by omega, fun r r0 r1 => ?_⟩
    obtain ⟨tt, rfl, k0⟩ := nat_lt (n := 10) r0 r1
    walk_at "rd"
    refine ⟨v, _, rfl, hv.ex e14, by omega, by omega, fun r r0 r1 => ?_⟩
    obtain ⟨bq, rfl, k1⟩ := nat_lt (n := 9) r0 r1
    walk_at "rd"
    refine w_dispT (by simp) fun l0 hl0 => ?_
    have e5 : Ex H4 (upd H4 l0 (.lst [V.int 0, V.int 1, V.int 2, V.int bq, V.int 60])) := Ex.new hl0
    refine ⟨v, l0, _, rfl, hv.ex (e14.trans e5), sqL upd_same, by simp, by simp, fun x hx => ?_⟩
    obtain ⟨bb, hbb, rfl⟩ : ∃ bb : Nat, bb ≤ 60 ∧ x = .int (bb : Nat) := by
      simp only [List.mem_cons, List.not_mem_nil, or_false] at hx
      rcases hx with rfl | rfl | rfl | rfl | rfl
      · exact ⟨0, by omega, rfl⟩
      · exact ⟨1, by omega, rfl⟩
      · exact ⟨2, by omega, rfl⟩
      · exact ⟨bq, by omega, rfl⟩
      · exact ⟨60, by omega, rfl⟩
    generalize upd H4 l0 (.lst [V.int 0, V.int 1, V.int 2, V.int bq, V.int 60]) = H5 at e5 ⊢
    walk_at "rd"
    refine ⟨p, .ref ha, .ref wa, h0, h1, w0, w1, tt, bb, rfl, hck, e5.dp hrow, e5.dp wrow, by omega, by omega, by omega, by omega, by omega, by omega, fun H6 e6 => ?_⟩
    have e56 := e5.trans e6
    walk_at "rd"
    refine ⟨p, .ref ha, .ref wa, h0, h1, w0, w1, tt, bb, rfl, by omega, e56.dp hrow, e56.dp wrow, by omega, by omega, by omega, by omega, by omega, by omega, fun H7 e7 => ?_⟩
    refine ⟨_, _, rfl, fun H8 e8 => ?_⟩
    rw [decide_eq_true (hin tt bb).symm]
    have e58 := e56.trans (e7.trans e8)
    walk_at "rd"
    refine w_sumT (ns := [(h0 : Int), (h1 : Int)]) (sqT (e58 _ _ g1)) ?_
    walk_at "rd"
    refine w_sumT (ns := [(w0 : Int), (w1 : Int)]) (sqT (e58 _ _ g2)) ?_
    rw [esum, esum]
    refine w_I (CMul.l (by omega) (by omega)) ?_
    rw [← Int.natCast_mul]
    refine ⟨p, (h0 + h1) * (w0 + w1), rfl, by omega, by omega, ?_⟩
    walk_at "rd"
    refine w_isrng (by omega) (by omega) ?_
    refine for_go walk_rng (fun i σ H' => Ex H4 H' ∧ ∃ y4, σ = [some v, some (.int p), some (.int ((p : Int) ^ ((h0 + h1) * (w0 + w1)))), some (.int ((List.range i).map (rowSum p h0 h1 w0 w1)).sum), y4, some (.ref ha), some (.ref wa), some (.int tt), some (.int bb), none])
      ⟨e58, _, rfl⟩ (fun _ _ _ _ _ => trivial) (fun t x σ H9 H9' ht pp y => ?_) (fun σ H9 pp => ?_)
    · obtain ⟨e9, y4, rfl⟩ := pp
      obtain ⟨rfl, rfl⟩ := y
      have ht : t < 9 := ht
      walk_at "rd"
      refine w_isrng (by omega) (by omega) ?_
      intro Dl hD
      refine lc_data (K := K) walk_rng (fun _ => true) (fun i => .int (tollsZ p h0 h1 w0 w1 t i)) (fun _ => rfl) (fun _ _ => trivial) hD (by decide) (fun i x H10 H11 hi e y R R0 k _ => ?_) (fun H10 us e10 hus hda => ?_)
      · obtain ⟨rfl, rfl⟩ := y
        have hi : i < 9 := hi
        walk_at "rd"
        refine ⟨rfl, ?_⟩
        walk_at "rd"
        refine ⟨p, .ref ha, .ref wa, h0, h1, w0, w1, t, i, rfl, hck, (e9.trans e).dp hrow, (e9.trans e).dp wrow, by omega, by omega, by omega, by omega, by omega, by omega, fun H12 e12 => ?_⟩
        exact k rfl _ _ e12 (.int _)
      · have e9n : Int.toNat 9 = 9 := rfl
        rw [e9n, made_all] at hda
        have em : (List.range 9).map (fun i => PyData.int (tollsZ p h0 h1 w0 w1 t i)) = ((List.range 9).map fun i => tollsZ p h0 h1 w0 w1 t i).map PyData.int := by
          rw [List.map_map]
          rfl
        rw [em] at hda
        have eu := dpa_ints_inv hda
        subst eu
        walk_at "rd"
        refine w_sumI (sqL hus) ?_
        walk_at "rd"
        refine ⟨e9.trans e10, some (.int t), ?_⟩
        have er : ((List.range (t + 1)).map (rowSum p h0 h1 w0 w1)).sum = ((List.range t).map (rowSum p h0 h1 w0 w1)).sum + rowSum p h0 h1 w0 w1 t := by
          rw [List.range_succ, List.map_append, List.sum_append]
          show _ + (rowSum p h0 h1 w0 w1 t + 0) = _
          rw [Int.add_zero]
        rw [er]
        rfl
    · obtain ⟨e9, y4, rfl⟩ := pp
      have e9n : Int.toNat 9 = 9 := rfl
      rw [e9n, htot]
      walk_at "rd"
      rw [decide_eq_true rfl]
      walk_at "rd"
      refine w_dispT (by simp) fun ta hta => ?_
      walk_at "rd"
      refine w_dispT (by simp) fun tb htb => ?_
      have e0 : Ex H9 (upd (upd H9 ta (.tup [V.int 0, V.int 1])) tb (.tup [.ref ta])) := (Ex.new hta).trans (Ex.new htb)
      have u0 : Dp K (upd (upd H9 ta (.tup [V.int 0, V.int 1])) tb (.tup [.ref ta])) (.ref tb) (tiesT [(0, 1)]) := .tup (sqT upd_same) (.cons (dp_tie_of (a := (0, 1)) (sqT ((Ex.new htb) _ _ upd_same))) .nil)
      generalize upd (upd H9 ta (.tup [V.int 0, V.int 1])) tb (.tup [.ref ta]) = H10 at e0 u0 ⊢
      walk_at "rd"
      intro x dx hx hdx hne
      refine ⟨x, dx, .ref tb, 2, [(0, 1)], rfl, upd_same, (ex_two hx hdx).dp u0, two_ok, fun H11 h1' h2 h3 => ⟨rfl, ?_⟩⟩
      have e11 := e0.trans (ex_made hx hdx h1')
      have htr : TreeAt K C H11 (.ref x) 2 [(0, 1)] := ⟨x, dx, .ref tb, rfl, h2, h3⟩
      walk_at "rd"
      refine ⟨p, .ref x, .ref ha, .ref wa, 2, [(0, 1)], [h0, h1], [w0, w1], rfl, hck, htr, by omega, (e9.trans e11).dp hrow, (e9.trans e11).dp wrow, cnt2 (by omega) (by omega), cnt2 (by omega) (by omega), fun H12 e12 => ?_⟩
      walk_at "rd"
      refine ⟨_, _, rfl, fun H13 e13 => ?_⟩
      have es : [h0, h1].sum * [w0, w1].sum = (h0 + h1) * (w0 + w1) := by simp
      rw [es, decide_eq_true rfl]
      exact q _ (e14.trans (e9.trans (e11.trans (e12.trans e13))))
/-! law(script) -/
def sp_law (K : PySem.W.Frag) : Sp := fun vs H Q _ => ∃ (a : Addr) (ns : List Int), vs = [.ref a] ∧ SqL K H a (ns.map V.int) ∧ ns.length ≤ 1000000 ∧ ∀ H', Q (.bl true) H'
theorem ok_law {C f : Addr} {fd : FuncData} (F : C8.Def K mg "law" s_law f fd) (b : Binds K fd ["script"] []) (T : Txt mg)
    (c_law_bag : C8.Cal P w K mg base 1 "_law_bag" (sp_bag K) []) (c_law_all_right : C8.Cal P w K mg base 7 "_law_all_right" (sp_right K) []) (c_law_great_right : C8.Cal P w K mg base 7 "_law_great_right" (sp_right K) [])
    (c_law_some : C8.Cal P w K mg base 2 "_law_some" (sp_some K) []) (c_law_pick : C8.Cal P w K mg base 1 "_law_pick" (sp_pick K) []) (c_law_clock : C8.Cal P w K mg base 3 "_law_clock" (sp_clock K) []) (c_law_power : C8.Cal P w K mg base 1 "_law_power" (sp_power K) [])
    (c_law_ties : C8.Cal P w K mg base 3 "_law_ties" (sp_law_ties K) []) (c_law_dealt : C8.Cal P w K mg base 2 "_law_dealt" (sp_dealt K) []) (c_law_is : C8.Cal P w K mg base 2 "_law_is" (sp_isI K) []) (c_sheets_in_all : C8.Cal P w K mg base 5 "sheets_in_all" (sp_sheets_in_all K C) [])
    (c_Tree : C8.Mak P w K mg base 4 "Tree" C (sp_tree_init K C) []) : FnOk P w K mg base C8.CX0 8 f fd ["script"] (sp_law K) := by
  refine C8.fn0 F.fn sc_law (fun vs H Q E h => ?_) (fun cdv A outer s H vs Q E hr h => ?_)
  · obtain ⟨a, ns, rfl, _⟩ := h
    rfl
  · obtain ⟨a, ns, rfl, ha, hl, q⟩ := h
    have hu64 := hu64_of hr
    refine ⟨_, (pss_cons (ps_set (i := 1) sc_law.nd rfl (Or.inl rfl) (C8.pe_c c_law_bag hr (by first | decide | exact Nat.le_refl _) (by rfl) (pa_cons (pv 0) pa_nil)))
      (pss_cons (ps_if (PW.pt (pw_or (pt_not (pt_val (C8.pe_c c_law_all_right hr (by first | decide | exact Nat.le_refl _) (by rfl) (pa_cons (pv 1) pa_nil)))) (pw_or1 (pt_not (pt_val (C8.pe_c c_law_great_right hr (by first | decide | exact Nat.le_refl _) (by rfl) (pa_cons (pv 1) pa_nil))))))) (pss_one (ps_ret pe_bl)) pss_nil)
      (pss_cons (ps_set (i := 2) sc_law.nd rfl (Or.inl rfl) (C8.pe_c c_law_ties hr (by first | decide | exact Nat.le_refl _) (by rfl) (pa_cons (pv 1) (pa_cons (pe_ifExp (pt_cmpR op_eq (C8.pe_c c_law_pick hr (by first | decide | exact Nat.le_refl _) (by rfl) (pa_cons (pv 1) (pa_cons pe_int pa_nil))) pe_int (nomark _)) pe_int pe_int) pa_nil))))
      (pss_cons (ps_set (i := 3) sc_law.nd rfl (Or.inl rfl) (C8.pe_c c_law_some hr (by first | decide | exact Nat.le_refl _) (by rfl) (pa_cons (pv 1) (pa_cons (pe_lst (pa_cons pe_int (pa_cons pe_int (pa_cons pe_int pa_nil)))) pa_nil))))
      (pss_cons (ps_set (i := 4) sc_law.nd rfl (Or.inl rfl) (C8.pe_c c_law_dealt hr (by first | decide | exact Nat.le_refl _) (by rfl) (pa_cons (pv 1) (pa_cons (pe_op op_add (pe_callB (TH.kcall_len (K := K)) (by rfl) T.b_len (by decide +kernel) (pa_cons (pv 2) pa_nil)) pe_int) (pa_cons (C8.pe_c c_law_pick hr (by first | decide | exact Nat.le_refl _) (by rfl) (pa_cons (pv 1) (pa_cons (pv 3) pa_nil))) pa_nil)))))
      (pss_cons (ps_par (i := 5) (j := 6) rfl sc_law.nd rfl rfl (by decide) rfl rfl (pa_cons (C8.pe_c c_law_dealt hr (by first | decide | exact Nat.le_refl _) (by rfl) (pa_cons (pv 1) (pa_cons (pe_op op_add (pe_callB (TH.kcall_len (K := K)) (by rfl) T.b_len (by decide +kernel) (pa_cons (pv 2) pa_nil)) pe_int) (pa_cons (C8.pe_c c_law_pick hr (by first | decide | exact Nat.le_refl _) (by rfl) (pa_cons (pv 1) (pa_cons (pv 3) pa_nil))) pa_nil)))) (pa_cons (C8.pe_c c_law_clock hr (by first | decide | exact Nat.le_refl _) (by rfl) (pa_cons (pv 1) pa_nil)) pa_nil)) (by rfl))
      (pss_one (ps_ret (C8.pe_c c_law_is hr (by first | decide | exact Nat.le_refl _) (by rfl) (pa_cons (C8.pe_c c_sheets_in_all hr (by first | decide | exact Nat.le_refl _) (by rfl) (pa_cons (pv 6) (pa_cons (C8.pe_mk c_Tree hr (by first | decide | exact Nat.le_refl _) (by rfl) (pa_cons (pv 2) pa_nil)) (pa_cons (pv 4) (pa_cons (pv 5) pa_nil))))) (pa_cons (C8.pe_c c_law_power hr (by first | decide | exact Nat.le_refl _) (by rfl) (pa_cons (pv 6) (pa_cons (pe_op op_mul (pe_callB (TH.kcr_sumT (K := K) rfl) (by rfl) T.b_sum (by decide +kernel) (pa_cons (pv 4) pa_nil)) (pe_callB (TH.kcr_sumT (K := K) rfl) (by rfl) T.b_sum (by decide +kernel) (pa_cons (pv 5) pa_nil))) pa_nil))) pa_nil))))))))))), ?_⟩
    refine w_start (σ' := [some (.ref a), none, none, none, none, none, none]) rfl ?_
    walk_at "rd"
    refine ⟨a, ns, rfl, ha, hl, fun v H1 e1 hv => ?_⟩
    walk_at "rd"
    refine ⟨v, rfl, hv, fun H2 e2 => ?_⟩
    walk_at "rd"
    refine ⟨v, rfl, hv.ex e2, fun H3 e3 => ?_⟩
    have e23 := e2.trans e3
    walk_at "rd"
    refine ⟨v, _, rfl, hv.ex e23, by omega, by omega, fun r r0 r1 => ?_⟩
    walk_at "rd"
    refine w_dec (fun _ => ?_) (fun _ => ?_)
    all_goals
      walk_at "rd"
      first | refine ⟨v, 24, rfl, hv.ex e23, by omega, by omega, fun u posts ts H4 e4 hu ok => ?_⟩ | refine ⟨v, 6, rfl, hv.ex e23, by omega, by omega, fun u posts ts H4 e4 hu ok => ?_⟩
      have hlen := ok.1.len
      have hfew := ok.1.few
      obtain ⟨ta, tv, rfl, hta, htv⟩ := dp_tup hu
      have htl : tv.length = ts.length := by rw [dpa_len htv, List.length_map]
      have hpos : ((tv.length : Nat) : Int) + 1 = (posts : Nat) := by omega
      have e24 := e23.trans e4
      walk_at "rd"
      refine w_dispT (by simp) fun l0 hl0 => ?_
      have e5 : Ex H4 (upd H4 l0 (.lst [V.int 12, V.int 3, V.int 60])) := Ex.new hl0
      refine ⟨v, l0, _, rfl, hv.ex (e24.trans e5), sqL upd_same, by simp, by simp, fun x hx => ?_⟩
      obtain ⟨m, hm, hm1, rfl⟩ : ∃ m : Nat, m ≤ 60 ∧ 1 ≤ m ∧ x = .int (m : Nat) := by
        simp only [List.mem_cons, List.not_mem_nil, or_false] at hx
        rcases hx with rfl | rfl | rfl
        · exact ⟨12, by omega, by omega, rfl⟩
        · exact ⟨3, by omega, by omega, rfl⟩
        · exact ⟨60, by omega, by omega, rfl⟩
      generalize upd H4 l0 (.lst [V.int 12, V.int 3, V.int 60]) = H5 at e5 ⊢
      walk_at "rd"
      refine ⟨ta, _, rfl, .inr (e5.t hta), ?_⟩
      walk_at "rd"
      rw [hpos]
      refine ⟨v, _, rfl, hv.ex (e24.trans e5), by omega, by omega, fun r r0 r1 => ?_⟩
      obtain ⟨k, rfl, k1⟩ := nat_lt (n := m) r0 r1
      walk_at "rd"
      refine ⟨v, posts, k, rfl, hv.ex (e24.trans e5), by omega, by omega, by omega, fun hv' hs H6 e6 hh hok => ?_⟩
      have e56 := e5.trans e6
      walk_at "rd"
      refine ⟨ta, _, rfl, .inr (e56.t hta), ?_⟩
      walk_at "rd"
      rw [hpos]
      refine ⟨v, _, rfl, hv.ex (e24.trans e56), by omega, by omega, fun r r0 r1 => ?_⟩
      obtain ⟨k', rfl, k1'⟩ := nat_lt (n := m) r0 r1
      walk_at "rd"
      refine ⟨v, posts, k', rfl, hv.ex (e24.trans e56), by omega, by omega, by omega, fun wv' ws H7 e7 hw hwok => ?_⟩
      have e57 := e56.trans e7
      walk_at "rd"
      refine ⟨v, rfl, hv.ex (e24.trans e57), fun p H8 e8 hclk => ?_⟩
      have hck := clks_ok hclk
      obtain ⟨p2, pm⟩ := clockB_two hck
      have e58 := e57.trans e8
      walk_at "rd"
      intro x dx hx hdx hne
      refine ⟨x, dx, .ref ta, posts, ts, rfl, upd_same, (ex_two hx hdx).dp (e58.dp hu), ok, fun H9 h1' h2 h3 => ⟨rfl, ?_⟩⟩
      have e9 : Ex H8 H9 := ex_made hx hdx h1'
      have htr : TreeAt K C H9 (.ref x) posts ts := ⟨x, dx, .ref ta, rfl, h2, h3⟩
      have dh := e9.dp (e8.dp (e7.dp hh))
      have dw := e9.dp (e8.dp hw)
      obtain ⟨xa, rfl, hxa⟩ := dp_row dh
      obtain ⟨ya, rfl, hya⟩ := dp_row dw
      walk_at "rd"
      refine ⟨p, .ref x, .ref xa, .ref ya, posts, ts, hs, ws, rfl, hck, htr, by omega, dh, dw, hok, hwok, fun H10 e10 => ?_⟩
      walk_at "rd"
      refine w_sumT (e10.t hxa) ?_
      walk_at "rd"
      refine w_sumT (e10.t hya) ?_
      rw [nz_sum, nz_sum]
      have b1 := hok.h60
      have b2 := hwok.h60
      refine w_I (CMul.l (by omega) (by omega)) ?_
      rw [← Int.natCast_mul]
      have b3 : hs.sum * ws.sum ≤ 3600 := Nat.mul_le_mul b1 b2
      refine ⟨p, hs.sum * ws.sum, rfl, by omega, by omega, ?_⟩
      refine ⟨_, _, rfl, fun H11 e11 => ?_⟩
      rw [decide_eq_true rfl]
      exact q _
end TK

namespace TK
open PySem PySem.Spec PyProof.Rows L2 TH
/-! what the top has written, by names -/
theorem all_mk {l : PySem.W.OpenLaw} {w : World} {K : PySem.W.Frag} {h : Heap} {mg : Str → Option Value} {fa C : Addr} (X : K.In h) (G : h.Ns mainGlobals mg) (hfa : mg "law" = some (.ref fa))
    {f0 f1 f2 f3 f4 f5 f6 f7 f8 f9 f10 f11 f12 f13 f14 f15 f16 f17 f18 f19 f20 f21 f22 f23 f24 f25 f26 f27 f28 f29 f30 f31 f32 f33 f34 f35 f36 f37 f38 f39 : Addr} {od0 an0 od1 an1 od2 an2 od3 an3 od4 an4 od5 an5 od6 an6 od7 an7 od8 an8 od9 an9 od10 an10 od11 an11 od12 an12 od13 an13 od14 an14 od15 an15 od16 an16 od17 an17 od18 an18 od19 an19 od20 an20 od21 an21 od22 an22 od23 an23 od24 an24 od25 an25 od26 an26 od27 an27 od28 an28 od29 an29 od30 an30 od31 an31 od32 an32 od33 an33 od34 an34 od35 an35 od36 an36 od37 an37 od38 an38 od39 an39 : Option Addr} {sl0 sl1 sl2 sl3 sl4 sl5 sl6 sl7 sl8 sl9 sl10 sl11 sl12 sl13 sl14 sl15 sl16 sl17 sl18 sl19 sl20 sl21 sl22 sl23 sl24 sl25 sl26 sl27 sl28 sl29 sl30 sl31 sl32 sl33 sl34 sl35 sl36 sl37 sl38 sl39 : Array (Option Value)} {oc0 kV0 dc0 pm0 cd0 ct0 oc1 kV1 dc1 pm1 cd1 ct1 oc2 kV2 dc2 pm2 cd2 ct2 oc3 kV3 dc3 pm3 cd3 ct3 oc4 kV4 dc4 pm4 cd4 ct4 oc5 kV5 dc5 pm5 cd5 ct5 oc6 kV6 dc6 pm6 cd6 ct6 oc7 kV7 dc7 pm7 cd7 ct7 oc8 kV8 dc8 pm8 cd8 ct8 oc9 kV9 dc9 pm9 cd9 ct9 oc10 kV10 dc10 pm10 cd10 ct10 oc11 kV11 dc11 pm11 cd11 ct11 oc12 kV12 dc12 pm12 cd12 ct12 oc13 kV13 dc13 pm13 cd13 ct13 oc14 kV14 dc14 pm14 cd14 ct14 oc15 kV15 dc15 pm15 cd15 ct15 oc16 kV16 dc16 pm16 cd16 ct16 oc17 kV17 dc17 pm17 cd17 ct17 oc18 kV18 dc18 pm18 cd18 ct18 oc19 kV19 dc19 pm19 cd19 ct19 oc20 kV20 dc20 pm20 cd20 ct20 oc21 kV21 dc21 pm21 cd21 ct21 oc22 kV22 dc22 pm22 cd22 ct22 oc23 kV23 dc23 pm23 cd23 ct23 oc24 kV24 dc24 pm24 cd24 ct24 oc25 kV25 dc25 pm25 cd25 ct25 oc26 kV26 dc26 pm26 cd26 ct26 oc27 kV27 dc27 pm27 cd27 ct27 oc28 kV28 dc28 pm28 cd28 ct28 oc29 kV29 dc29 pm29 cd29 ct29 oc30 kV30 dc30 pm30 cd30 ct30 oc31 kV31 dc31 pm31 cd31 ct31 oc32 kV32 dc32 pm32 cd32 ct32 oc33 kV33 dc33 pm33 cd33 ct33 oc34 kV34 dc34 pm34 cd34 ct34 oc35 kV35 dc35 pm35 cd35 ct35 oc36 kV36 dc36 pm36 cd36 ct36 oc37 kV37 dc37 pm37 cd37 ct37 oc38 kV38 dc38 pm38 cd38 ct38 oc39 kV39 dc39 pm39 cd39 ct39 : Value} {t_MOST_HOURS t_MOST_TIES t_MOST_AT t_MOST_NUMBERS t_MOST_TOLL : Tok}
    (a0 : PySem.W.nsIn K mainGlobals "is_integer" = some (some (.ref f0)))
    (l0 : K.lookup f0 = some ⟨oc0, od0, .func (PySem.W.fnOf "is_integer" "is_integer" (C8.fnArgs s_is_integer) (C8.fnBody s_is_integer) (C8.fnScope s_is_integer) .none kV0 dc0 pm0 an0 cd0 ct0), sl0⟩)
    (c0 : PySem.W.codeIn K cd0 "is_integer" = true)
    (k0 : PySem.W.keepIn K (.ref f0) = true)
    (a1 : PySem.W.nsIn K mainGlobals "is_within" = some (some (.ref f1)))
    (l1 : K.lookup f1 = some ⟨oc1, od1, .func (PySem.W.fnOf "is_within" "is_within" (C8.fnArgs s_is_within) (C8.fnBody s_is_within) (C8.fnScope s_is_within) .none kV1 dc1 pm1 an1 cd1 ct1), sl1⟩)
    (c1 : PySem.W.codeIn K cd1 "is_within" = true)
    (k1 : PySem.W.keepIn K (.ref f1) = true)
    (a2 : PySem.W.nsIn K mainGlobals "is_pair" = some (some (.ref f2)))
    (l2 : K.lookup f2 = some ⟨oc2, od2, .func (PySem.W.fnOf "is_pair" "is_pair" (C8.fnArgs s_is_pair) (C8.fnBody s_is_pair) (C8.fnScope s_is_pair) .none kV2 dc2 pm2 an2 cd2 ct2), sl2⟩)
    (c2 : PySem.W.codeIn K cd2 "is_pair" = true)
    (k2 : PySem.W.keepIn K (.ref f2) = true)
    (a3 : PySem.W.nsIn K mainGlobals "check_number" = some (some (.ref f3)))
    (l3 : K.lookup f3 = some ⟨oc3, od3, .func (PySem.W.fnOf "check_number" "check_number" (C8.fnArgs s_check_number) (C8.fnBody s_check_number) (C8.fnScope s_check_number) .none kV3 dc3 pm3 an3 cd3 ct3), sl3⟩)
    (c3 : PySem.W.codeIn K cd3 "check_number" = true)
    (k3 : PySem.W.keepIn K (.ref f3) = true)
    (a4 : PySem.W.nsIn K mainGlobals "prime" = some (some (.ref f4)))
    (l4 : K.lookup f4 = some ⟨oc4, od4, .func (PySem.W.fnOf "prime" "prime" (C8.fnArgs s_prime) (C8.fnBody s_prime) (C8.fnScope s_prime) .none kV4 dc4 pm4 an4 cd4 ct4), sl4⟩)
    (c4 : PySem.W.codeIn K cd4 "prime" = true)
    (k4 : PySem.W.keepIn K (.ref f4) = true)
    (a5 : PySem.W.nsIn K mainGlobals "is_clock" = some (some (.ref f5)))
    (l5 : K.lookup f5 = some ⟨oc5, od5, .func (PySem.W.fnOf "is_clock" "is_clock" (C8.fnArgs s_is_clock) (C8.fnBody s_is_clock) (C8.fnScope s_is_clock) .none kV5 dc5 pm5 an5 cd5 ct5), sl5⟩)
    (c5 : PySem.W.codeIn K cd5 "is_clock" = true)
    (k5 : PySem.W.keepIn K (.ref f5) = true)
    (a6 : PySem.W.nsIn K mainGlobals "check_clock" = some (some (.ref f6)))
    (l6 : K.lookup f6 = some ⟨oc6, od6, .func (PySem.W.fnOf "check_clock" "check_clock" (C8.fnArgs s_check_clock) (C8.fnBody s_check_clock) (C8.fnScope s_check_clock) .none kV6 dc6 pm6 an6 cd6 ct6), sl6⟩)
    (c6 : PySem.W.codeIn K cd6 "check_clock" = true)
    (k6 : PySem.W.keepIn K (.ref f6) = true)
    (a7 : PySem.W.nsIn K mainGlobals "is_tie" = some (some (.ref f7)))
    (l7 : K.lookup f7 = some ⟨oc7, od7, .func (PySem.W.fnOf "is_tie" "is_tie" (C8.fnArgs s_is_tie) (C8.fnBody s_is_tie) (C8.fnScope s_is_tie) .none kV7 dc7 pm7 an7 cd7 ct7), sl7⟩)
    (c7 : PySem.W.codeIn K cd7 "is_tie" = true)
    (k7 : PySem.W.keepIn K (.ref f7) = true)
    (a8 : PySem.W.nsIn K mainGlobals "reached" = some (some (.ref f8)))
    (l8 : K.lookup f8 = some ⟨oc8, od8, .func (PySem.W.fnOf "reached" "reached" (C8.fnArgs s_reached) (C8.fnBody s_reached) (C8.fnScope s_reached) .none kV8 dc8 pm8 an8 cd8 ct8), sl8⟩)
    (c8 : PySem.W.codeIn K cd8 "reached" = true)
    (k8 : PySem.W.keepIn K (.ref f8) = true)
    (a9 : PySem.W.nsIn K mainGlobals "all_tied" = some (some (.ref f9)))
    (l9 : K.lookup f9 = some ⟨oc9, od9, .func (PySem.W.fnOf "all_tied" "all_tied" (C8.fnArgs s_all_tied) (C8.fnBody s_all_tied) (C8.fnScope s_all_tied) .none kV9 dc9 pm9 an9 cd9 ct9), sl9⟩)
    (c9 : PySem.W.codeIn K cd9 "all_tied" = true)
    (k9 : PySem.W.keepIn K (.ref f9) = true)
    (a10 : PySem.W.nsIn K mainGlobals "are_counts" = some (some (.ref f10)))
    (l10 : K.lookup f10 = some ⟨oc10, od10, .func (PySem.W.fnOf "are_counts" "are_counts" (C8.fnArgs s_are_counts) (C8.fnBody s_are_counts) (C8.fnScope s_are_counts) .none kV10 dc10 pm10 an10 cd10 ct10), sl10⟩)
    (c10 : PySem.W.codeIn K cd10 "are_counts" = true)
    (k10 : PySem.W.keepIn K (.ref f10) = true)
    (a11 : PySem.W.nsIn K mainGlobals "check_counts" = some (some (.ref f11)))
    (l11 : K.lookup f11 = some ⟨oc11, od11, .func (PySem.W.fnOf "check_counts" "check_counts" (C8.fnArgs s_check_counts) (C8.fnBody s_check_counts) (C8.fnScope s_check_counts) .none kV11 dc11 pm11 an11 cd11 ct11), sl11⟩)
    (c11 : PySem.W.codeIn K cd11 "check_counts" = true)
    (k11 : PySem.W.keepIn K (.ref f11) = true)
    (a12 : PySem.W.nsIn K mainGlobals "power" = some (some (.ref f12)))
    (l12 : K.lookup f12 = some ⟨oc12, od12, .func (PySem.W.fnOf "power" "power" (C8.fnArgs s_power) (C8.fnBody s_power) (C8.fnScope s_power) .none kV12 dc12 pm12 an12 cd12 ct12), sl12⟩)
    (c12 : PySem.W.codeIn K cd12 "power" = true)
    (k12 : PySem.W.keepIn K (.ref f12) = true)
    (a13 : PySem.W.nsIn K mainGlobals "tables_of_rank" = some (some (.ref f13)))
    (l13 : K.lookup f13 = some ⟨oc13, od13, .func (PySem.W.fnOf "tables_of_rank" "tables_of_rank" (C8.fnArgs s_tables_of_rank) (C8.fnBody s_tables_of_rank) (C8.fnScope s_tables_of_rank) .none kV13 dc13 pm13 an13 cd13 ct13), sl13⟩)
    (c13 : PySem.W.codeIn K cd13 "tables_of_rank" = true)
    (k13 : PySem.W.keepIn K (.ref f13) = true)
    (a14 : PySem.W.nsIn K mainGlobals "tolls_in_all" = some (some (.ref f14)))
    (l14 : K.lookup f14 = some ⟨oc14, od14, .func (PySem.W.fnOf "tolls_in_all" "tolls_in_all" (C8.fnArgs s_tolls_in_all) (C8.fnBody s_tolls_in_all) (C8.fnScope s_tolls_in_all) .none kV14 dc14 pm14 an14 cd14 ct14), sl14⟩)
    (c14 : PySem.W.codeIn K cd14 "tolls_in_all" = true)
    (k14 : PySem.W.keepIn K (.ref f14) = true)
    (a15 : PySem.W.nsIn K mainGlobals "sheets_in_all" = some (some (.ref f15)))
    (l15 : K.lookup f15 = some ⟨oc15, od15, .func (PySem.W.fnOf "sheets_in_all" "sheets_in_all" (C8.fnArgs s_sheets_in_all) (C8.fnBody s_sheets_in_all) (C8.fnScope s_sheets_in_all) .none kV15 dc15 pm15 an15 cd15 ct15), sl15⟩)
    (c15 : PySem.W.codeIn K cd15 "sheets_in_all" = true)
    (k15 : PySem.W.keepIn K (.ref f15) = true)
    (a16 : PySem.W.nsIn K mainGlobals "_law_bag" = some (some (.ref f16)))
    (l16 : K.lookup f16 = some ⟨oc16, od16, .func (PySem.W.fnOf "_law_bag" "_law_bag" (C8.fnArgs s_law_bag) (C8.fnBody s_law_bag) (C8.fnScope s_law_bag) .none kV16 dc16 pm16 an16 cd16 ct16), sl16⟩)
    (c16 : PySem.W.codeIn K cd16 "_law_bag" = true)
    (k16 : PySem.W.keepIn K (.ref f16) = true)
    (a17 : PySem.W.nsIn K mainGlobals "_law_pick" = some (some (.ref f17)))
    (l17 : K.lookup f17 = some ⟨oc17, od17, .func (PySem.W.fnOf "_law_pick" "_law_pick" (C8.fnArgs s_law_pick) (C8.fnBody s_law_pick) (C8.fnScope s_law_pick) .none kV17 dc17 pm17 an17 cd17 ct17), sl17⟩)
    (c17 : PySem.W.codeIn K cd17 "_law_pick" = true)
    (k17 : PySem.W.keepIn K (.ref f17) = true)
    (a18 : PySem.W.nsIn K mainGlobals "_law_some" = some (some (.ref f18)))
    (l18 : K.lookup f18 = some ⟨oc18, od18, .func (PySem.W.fnOf "_law_some" "_law_some" (C8.fnArgs s_law_some) (C8.fnBody s_law_some) (C8.fnScope s_law_some) .none kV18 dc18 pm18 an18 cd18 ct18), sl18⟩)
    (c18 : PySem.W.codeIn K cd18 "_law_some" = true)
    (k18 : PySem.W.keepIn K (.ref f18) = true)
    (a19 : PySem.W.nsIn K mainGlobals "_law_is" = some (some (.ref f19)))
    (l19 : K.lookup f19 = some ⟨oc19, od19, .func (PySem.W.fnOf "_law_is" "_law_is" (C8.fnArgs s_law_is) (C8.fnBody s_law_is) (C8.fnScope s_law_is) .none kV19 dc19 pm19 an19 cd19 ct19), sl19⟩)
    (c19 : PySem.W.codeIn K cd19 "_law_is" = true)
    (k19 : PySem.W.keepIn K (.ref f19) = true)
    (a20 : PySem.W.nsIn K mainGlobals "_law_turned" = some (some (.ref f20)))
    (l20 : K.lookup f20 = some ⟨oc20, od20, .func (PySem.W.fnOf "_law_turned" "_law_turned" (C8.fnArgs s_law_turned) (C8.fnBody s_law_turned) (C8.fnScope s_law_turned) .none kV20 dc20 pm20 an20 cd20 ct20), sl20⟩)
    (c20 : PySem.W.codeIn K cd20 "_law_turned" = true)
    (k20 : PySem.W.keepIn K (.ref f20) = true)
    (a21 : PySem.W.nsIn K mainGlobals "_law_without" = some (some (.ref f21)))
    (l21 : K.lookup f21 = some ⟨oc21, od21, .func (PySem.W.fnOf "_law_without" "_law_without" (C8.fnArgs s_law_without) (C8.fnBody s_law_without) (C8.fnScope s_law_without) .none kV21 dc21 pm21 an21 cd21 ct21), sl21⟩)
    (c21 : PySem.W.codeIn K cd21 "_law_without" = true)
    (k21 : PySem.W.keepIn K (.ref f21) = true)
    (a22 : PySem.W.nsIn K mainGlobals "_law_ladder" = some (some (.ref f22)))
    (l22 : K.lookup f22 = some ⟨oc22, od22, .func (PySem.W.fnOf "_law_ladder" "_law_ladder" (C8.fnArgs s_law_ladder) (C8.fnBody s_law_ladder) (C8.fnScope s_law_ladder) .none kV22 dc22 pm22 an22 cd22 ct22), sl22⟩)
    (c22 : PySem.W.codeIn K cd22 "_law_ladder" = true)
    (k22 : PySem.W.keepIn K (.ref f22) = true)
    (a23 : PySem.W.nsIn K mainGlobals "_law_tied" = some (some (.ref f23)))
    (l23 : K.lookup f23 = some ⟨oc23, od23, .func (PySem.W.fnOf "_law_tied" "_law_tied" (C8.fnArgs s_law_tied) (C8.fnBody s_law_tied) (C8.fnScope s_law_tied) .none kV23 dc23 pm23 an23 cd23 ct23), sl23⟩)
    (c23 : PySem.W.codeIn K cd23 "_law_tied" = true)
    (k23 : PySem.W.keepIn K (.ref f23) = true)
    (a24 : PySem.W.nsIn K mainGlobals "_law_side" = some (some (.ref f24)))
    (l24 : K.lookup f24 = some ⟨oc24, od24, .func (PySem.W.fnOf "_law_side" "_law_side" (C8.fnArgs s_law_side) (C8.fnBody s_law_side) (C8.fnScope s_law_side) .none kV24 dc24 pm24 an24 cd24 ct24), sl24⟩)
    (c24 : PySem.W.codeIn K cd24 "_law_side" = true)
    (k24 : PySem.W.keepIn K (.ref f24) = true)
    (a25 : PySem.W.nsIn K mainGlobals "_law_ways" = some (some (.ref f25)))
    (l25 : K.lookup f25 = some ⟨oc25, od25, .func (PySem.W.fnOf "_law_ways" "_law_ways" (C8.fnArgs s_law_ways) (C8.fnBody s_law_ways) (C8.fnScope s_law_ways) .none kV25 dc25 pm25 an25 cd25 ct25), sl25⟩)
    (c25 : PySem.W.codeIn K cd25 "_law_ways" = true)
    (k25 : PySem.W.keepIn K (.ref f25) = true)
    (a26 : PySem.W.nsIn K mainGlobals "_law_numbers_of" = some (some (.ref f26)))
    (l26 : K.lookup f26 = some ⟨oc26, od26, .func (PySem.W.fnOf "_law_numbers_of" "_law_numbers_of" (C8.fnArgs s_law_numbers_of) (C8.fnBody s_law_numbers_of) (C8.fnScope s_law_numbers_of) .none kV26 dc26 pm26 an26 cd26 ct26), sl26⟩)
    (c26 : PySem.W.codeIn K cd26 "_law_numbers_of" = true)
    (k26 : PySem.W.keepIn K (.ref f26) = true)
    (a27 : PySem.W.nsIn K mainGlobals "_law_block" = some (some (.ref f27)))
    (l27 : K.lookup f27 = some ⟨oc27, od27, .func (PySem.W.fnOf "_law_block" "_law_block" (C8.fnArgs s_law_block) (C8.fnBody s_law_block) (C8.fnScope s_law_block) .none kV27 dc27 pm27 an27 cd27 ct27), sl27⟩)
    (c27 : PySem.W.codeIn K cd27 "_law_block" = true)
    (k27 : PySem.W.keepIn K (.ref f27) = true)
    (a28 : PySem.W.nsIn K mainGlobals "_law_tolls" = some (some (.ref f28)))
    (l28 : K.lookup f28 = some ⟨oc28, od28, .func (PySem.W.fnOf "_law_tolls" "_law_tolls" (C8.fnArgs s_law_tolls) (C8.fnBody s_law_tolls) (C8.fnScope s_law_tolls) .none kV28 dc28 pm28 an28 cd28 ct28), sl28⟩)
    (c28 : PySem.W.codeIn K cd28 "_law_tolls" = true)
    (k28 : PySem.W.keepIn K (.ref f28) = true)
    (a29 : PySem.W.nsIn K mainGlobals "_law_parted" = some (some (.ref f29)))
    (l29 : K.lookup f29 = some ⟨oc29, od29, .func (PySem.W.fnOf "_law_parted" "_law_parted" (C8.fnArgs s_law_parted) (C8.fnBody s_law_parted) (C8.fnScope s_law_parted) .none kV29 dc29 pm29 an29 cd29 ct29), sl29⟩)
    (c29 : PySem.W.codeIn K cd29 "_law_parted" = true)
    (k29 : PySem.W.keepIn K (.ref f29) = true)
    (a30 : PySem.W.nsIn K mainGlobals "_law_ties" = some (some (.ref f30)))
    (l30 : K.lookup f30 = some ⟨oc30, od30, .func (PySem.W.fnOf "_law_ties" "_law_ties" (C8.fnArgs s_law_ties) (C8.fnBody s_law_ties) (C8.fnScope s_law_ties) .none kV30 dc30 pm30 an30 cd30 ct30), sl30⟩)
    (c30 : PySem.W.codeIn K cd30 "_law_ties" = true)
    (k30 : PySem.W.keepIn K (.ref f30) = true)
    (a31 : PySem.W.nsIn K mainGlobals "_law_clock" = some (some (.ref f31)))
    (l31 : K.lookup f31 = some ⟨oc31, od31, .func (PySem.W.fnOf "_law_clock" "_law_clock" (C8.fnArgs s_law_clock) (C8.fnBody s_law_clock) (C8.fnScope s_law_clock) .none kV31 dc31 pm31 an31 cd31 ct31), sl31⟩)
    (c31 : PySem.W.codeIn K cd31 "_law_clock" = true)
    (k31 : PySem.W.keepIn K (.ref f31) = true)
    (a32 : PySem.W.nsIn K mainGlobals "_law_dealt" = some (some (.ref f32)))
    (l32 : K.lookup f32 = some ⟨oc32, od32, .func (PySem.W.fnOf "_law_dealt" "_law_dealt" (C8.fnArgs s_law_dealt) (C8.fnBody s_law_dealt) (C8.fnScope s_law_dealt) .none kV32 dc32 pm32 an32 cd32 ct32), sl32⟩)
    (c32 : PySem.W.codeIn K cd32 "_law_dealt" = true)
    (k32 : PySem.W.keepIn K (.ref f32) = true)
    (a33 : PySem.W.nsIn K mainGlobals "_law_power" = some (some (.ref f33)))
    (l33 : K.lookup f33 = some ⟨oc33, od33, .func (PySem.W.fnOf "_law_power" "_law_power" (C8.fnArgs s_law_power) (C8.fnBody s_law_power) (C8.fnScope s_law_power) .none kV33 dc33 pm33 an33 cd33 ct33), sl33⟩)
    (c33 : PySem.W.codeIn K cd33 "_law_power" = true)
    (k33 : PySem.W.keepIn K (.ref f33) = true)
    (a34 : PySem.W.nsIn K mainGlobals "_law_of_rank" = some (some (.ref f34)))
    (l34 : K.lookup f34 = some ⟨oc34, od34, .func (PySem.W.fnOf "_law_of_rank" "_law_of_rank" (C8.fnArgs s_law_of_rank) (C8.fnBody s_law_of_rank) (C8.fnScope s_law_of_rank) .none kV34 dc34 pm34 an34 cd34 ct34), sl34⟩)
    (c34 : PySem.W.codeIn K cd34 "_law_of_rank" = true)
    (k34 : PySem.W.keepIn K (.ref f34) = true)
    (a35 : PySem.W.nsIn K mainGlobals "_law_in_all" = some (some (.ref f35)))
    (l35 : K.lookup f35 = some ⟨oc35, od35, .func (PySem.W.fnOf "_law_in_all" "_law_in_all" (C8.fnArgs s_law_in_all) (C8.fnBody s_law_in_all) (C8.fnScope s_law_in_all) .none kV35 dc35 pm35 an35 cd35 ct35), sl35⟩)
    (c35 : PySem.W.codeIn K cd35 "_law_in_all" = true)
    (k35 : PySem.W.keepIn K (.ref f35) = true)
    (a36 : PySem.W.nsIn K mainGlobals "_law_all_right" = some (some (.ref f36)))
    (l36 : K.lookup f36 = some ⟨oc36, od36, .func (PySem.W.fnOf "_law_all_right" "_law_all_right" (C8.fnArgs s_law_all_right) (C8.fnBody s_law_all_right) (C8.fnScope s_law_all_right) .none kV36 dc36 pm36 an36 cd36 ct36), sl36⟩)
    (c36 : PySem.W.codeIn K cd36 "_law_all_right" = true)
    (k36 : PySem.W.keepIn K (.ref f36) = true)
    (a37 : PySem.W.nsIn K mainGlobals "_law_great_right" = some (some (.ref f37)))
    (l37 : K.lookup f37 = some ⟨oc37, od37, .func (PySem.W.fnOf "_law_great_right" "_law_great_right" (C8.fnArgs s_law_great_right) (C8.fnBody s_law_great_right) (C8.fnScope s_law_great_right) .none kV37 dc37 pm37 an37 cd37 ct37), sl37⟩)
    (c37 : PySem.W.codeIn K cd37 "_law_great_right" = true)
    (k37 : PySem.W.keepIn K (.ref f37) = true)
    (a38 : PySem.W.nsIn K mainGlobals "law" = some (some (.ref f38)))
    (l38 : K.lookup f38 = some ⟨oc38, od38, .func (PySem.W.fnOf "law" "law" (C8.fnArgs s_law) (C8.fnBody s_law) (C8.fnScope s_law) .none kV38 dc38 pm38 an38 cd38 ct38), sl38⟩)
    (c38 : PySem.W.codeIn K cd38 "law" = true)
    (k38 : PySem.W.keepIn K (.ref f38) = true)
    (a_C : PySem.W.nsIn K mainGlobals "Tree" = some (some (.ref C)))
    (a39 : PySem.W.findIn K (.ref C) "__init__" = some (some (.ref f39)))
    (i39 : PySem.W.isFn K (.ref f39) = true)
    (l39 : K.lookup f39 = some ⟨oc39, od39, .func (PySem.W.fnOf "__init__" "Tree.__init__" (C8.fnArgs s_Tree_init) (C8.fnBody s_Tree_init) (C8.fnScope s_Tree_init) .none kV39 dc39 pm39 an39 cd39 ct39), sl39⟩)
    (c39 : PySem.W.codeIn K cd39 "Tree.__init__" = true)
    (k39 : PySem.W.keepIn K (.ref f39) = true)
    (pg_C : PySem.W.plainGet K C Str.empty = true)
    (hd_C : PySem.W.hasDictIn K C = true)
    (po_C : PySem.W.plainOver K C = true)
    (sa_C : PySem.W.findIn K (.ref C) "__setattr__" = some (some (.builtin "object.__setattr__")))
    (mk_C : PySem.W.makesIn K C = true)
    (kc_C : PySem.W.keepIn K (.ref C) = true)
    (n_C_ties : PySem.W.findIn K (.ref C) "ties" = some none)
    (n_C_posts : PySem.W.findIn K (.ref C) "posts" = some none)
    (b_abs : PySem.W.nsIn K mainGlobals "abs" = some none)
    (b_all : PySem.W.nsIn K mainGlobals "all" = some none)
    (b_bool : PySem.W.nsIn K mainGlobals "bool" = some none)
    (b_dict : PySem.W.nsIn K mainGlobals "dict" = some none)
    (b_enumerate : PySem.W.nsIn K mainGlobals "enumerate" = some none)
    (b_int : PySem.W.nsIn K mainGlobals "int" = some none)
    (b_isinstance : PySem.W.nsIn K mainGlobals "isinstance" = some none)
    (b_len : PySem.W.nsIn K mainGlobals "len" = some none)
    (b_list : PySem.W.nsIn K mainGlobals "list" = some none)
    (b_max : PySem.W.nsIn K mainGlobals "max" = some none)
    (b_min : PySem.W.nsIn K mainGlobals "min" = some none)
    (b_range : PySem.W.nsIn K mainGlobals "range" = some none)
    (b_sorted : PySem.W.nsIn K mainGlobals "sorted" = some none)
    (b_sum : PySem.W.nsIn K mainGlobals "sum" = some none)
    (b_tuple : PySem.W.nsIn K mainGlobals "tuple" = some none)
    (b_zip : PySem.W.nsIn K mainGlobals "zip" = some none)
    (g_MOST_HOURS : PySem.W.nsIn K mainGlobals "MOST_HOURS" = some (some (.int 1000000 t_MOST_HOURS)))
    (g_MOST_TIES : PySem.W.nsIn K mainGlobals "MOST_TIES" = some (some (.int 23 t_MOST_TIES)))
    (g_MOST_AT : PySem.W.nsIn K mainGlobals "MOST_AT" = some (some (.int 8 t_MOST_AT)))
    (g_MOST_NUMBERS : PySem.W.nsIn K mainGlobals "MOST_NUMBERS" = some (some (.int 60 t_MOST_NUMBERS)))
    (g_MOST_TOLL : PySem.W.nsIn K mainGlobals "MOST_TOLL" = some (some (.int 60 t_MOST_TOLL)))
    : ∃ fd : FuncData, (∀ (s : Shared) (v : Value), BindsTo s fd ⟨[v], []⟩ [("script", v)]) ∧ ∀ base : Heap, K.In base → base.Ns mainGlobals mg → FnOk l.prog w K mg base C8.CX0 8 fa fd ["script"] (sp_law K) := by
  have e := (PySem.W.mg_of X G a38).symm.trans hfa
  cases e
  have T : Txt mg := ⟨PySem.W.mg_none_of X G b_abs, PySem.W.mg_none_of X G b_all, PySem.W.mg_none_of X G b_bool, PySem.W.mg_none_of X G b_dict, PySem.W.mg_none_of X G b_enumerate, PySem.W.mg_none_of X G b_int, PySem.W.mg_none_of X G b_isinstance, PySem.W.mg_none_of X G b_len, PySem.W.mg_none_of X G b_list, PySem.W.mg_none_of X G b_max, PySem.W.mg_none_of X G b_min, PySem.W.mg_none_of X G b_range, PySem.W.mg_none_of X G b_sorted, PySem.W.mg_none_of X G b_sum, PySem.W.mg_none_of X G b_tuple, PySem.W.mg_none_of X G b_zip, ⟨_, PySem.W.mg_of X G g_MOST_HOURS, ⟨t_MOST_HOURS, rfl⟩⟩, ⟨_, PySem.W.mg_of X G g_MOST_TIES, ⟨t_MOST_TIES, rfl⟩⟩, ⟨_, PySem.W.mg_of X G g_MOST_AT, ⟨t_MOST_AT, rfl⟩⟩, ⟨_, PySem.W.mg_of X G g_MOST_NUMBERS, ⟨t_MOST_NUMBERS, rfl⟩⟩, ⟨_, PySem.W.mg_of X G g_MOST_TOLL, ⟨t_MOST_TOLL, rfl⟩⟩⟩
  have cls_C : Cls K C := ⟨pg_C, hd_C, po_C, sa_C⟩
  have TC : TrC K C := ⟨cls_C, n_C_ties, n_C_posts⟩
  have g_Tree : ∃ u, mg "Tree" = some u ∧ RelV (.ref C) u := ⟨_, PySem.W.mg_of X G a_C, rfl⟩
  have F0 : C8.Def K mg "is_integer" s_is_integer f0 _ := ⟨⟨_, _, _, _, _, _, _, _, _, _, rfl, l0, c0⟩, PySem.W.mg_of X G a0, k0⟩
  have B0 : Binds K _ ["thing"] [] := F0.fn.binds rfl fun _ _ _ _ _ _ us hl => match us, hl with | [_], _ => rfl
  have F1 : C8.Def K mg "is_within" s_is_within f1 _ := ⟨⟨_, _, _, _, _, _, _, _, _, _, rfl, l1, c1⟩, PySem.W.mg_of X G a1, k1⟩
  have B1 : Binds K _ ["thing", "least", "most"] [] := F1.fn.binds rfl fun _ _ _ _ _ _ us hl => match us, hl with | [_, _, _], _ => rfl
  have F2 : C8.Def K mg "is_pair" s_is_pair f2 _ := ⟨⟨_, _, _, _, _, _, _, _, _, _, rfl, l2, c2⟩, PySem.W.mg_of X G a2, k2⟩
  have B2 : Binds K _ ["thing"] [] := F2.fn.binds rfl fun _ _ _ _ _ _ us hl => match us, hl with | [_], _ => rfl
  have F3 : C8.Def K mg "check_number" s_check_number f3 _ := ⟨⟨_, _, _, _, _, _, _, _, _, _, rfl, l3, c3⟩, PySem.W.mg_of X G a3, k3⟩
  have B3 : Binds K _ ["thing", "least", "most"] [] := F3.fn.binds rfl fun _ _ _ _ _ _ us hl => match us, hl with | [_, _, _], _ => rfl
  have F4 : C8.Def K mg "prime" s_prime f4 _ := ⟨⟨_, _, _, _, _, _, _, _, _, _, rfl, l4, c4⟩, PySem.W.mg_of X G a4, k4⟩
  have B4 : Binds K _ ["number"] [] := F4.fn.binds rfl fun _ _ _ _ _ _ us hl => match us, hl with | [_], _ => rfl
  have F5 : C8.Def K mg "is_clock" s_is_clock f5 _ := ⟨⟨_, _, _, _, _, _, _, _, _, _, rfl, l5, c5⟩, PySem.W.mg_of X G a5, k5⟩
  have B5 : Binds K _ ["thing"] [] := F5.fn.binds rfl fun _ _ _ _ _ _ us hl => match us, hl with | [_], _ => rfl
  have F6 : C8.Def K mg "check_clock" s_check_clock f6 _ := ⟨⟨_, _, _, _, _, _, _, _, _, _, rfl, l6, c6⟩, PySem.W.mg_of X G a6, k6⟩
  have B6 : Binds K _ ["thing"] [] := F6.fn.binds rfl fun _ _ _ _ _ _ us hl => match us, hl with | [_], _ => rfl
  have F7 : C8.Def K mg "is_tie" s_is_tie f7 _ := ⟨⟨_, _, _, _, _, _, _, _, _, _, rfl, l7, c7⟩, PySem.W.mg_of X G a7, k7⟩
  have B7 : Binds K _ ["posts", "thing"] [] := F7.fn.binds rfl fun _ _ _ _ _ _ us hl => match us, hl with | [_, _], _ => rfl
  have F8 : C8.Def K mg "reached" s_reached f8 _ := ⟨⟨_, _, _, _, _, _, _, _, _, _, rfl, l8, c8⟩, PySem.W.mg_of X G a8, k8⟩
  have B8 : Binds K _ ["tied", "post", "barred"] [] := F8.fn.binds rfl fun _ _ _ _ _ _ us hl => match us, hl with | [_, _, _], _ => rfl
  have F9 : C8.Def K mg "all_tied" s_all_tied f9 _ := ⟨⟨_, _, _, _, _, _, _, _, _, _, rfl, l9, c9⟩, PySem.W.mg_of X G a9, k9⟩
  have B9 : Binds K _ ["posts", "ties"] [] := F9.fn.binds rfl fun _ _ _ _ _ _ us hl => match us, hl with | [_, _], _ => rfl
  have F10 : C8.Def K mg "are_counts" s_are_counts f10 _ := ⟨⟨_, _, _, _, _, _, _, _, _, _, rfl, l10, c10⟩, PySem.W.mg_of X G a10, k10⟩
  have B10 : Binds K _ ["tree", "thing"] [] := F10.fn.binds rfl fun _ _ _ _ _ _ us hl => match us, hl with | [_, _], _ => rfl
  have F11 : C8.Def K mg "check_counts" s_check_counts f11 _ := ⟨⟨_, _, _, _, _, _, _, _, _, _, rfl, l11, c11⟩, PySem.W.mg_of X G a11, k11⟩
  have B11 : Binds K _ ["tree", "thing"] [] := F11.fn.binds rfl fun _ _ _ _ _ _ us hl => match us, hl with | [_, _], _ => rfl
  have F12 : C8.Def K mg "power" s_power f12 _ := ⟨⟨_, _, _, _, _, _, _, _, _, _, rfl, l12, c12⟩, PySem.W.mg_of X G a12, k12⟩
  have B12 : Binds K _ ["base", "many"] [] := F12.fn.binds rfl fun _ _ _ _ _ _ us hl => match us, hl with | [_, _], _ => rfl
  have F13 : C8.Def K mg "tables_of_rank" s_tables_of_rank f13 _ := ⟨⟨_, _, _, _, _, _, _, _, _, _, rfl, l13, c13⟩, PySem.W.mg_of X G a13, k13⟩
  have B13 : Binds K _ ["p", "rows", "wide", "rank"] [] := F13.fn.binds rfl fun _ _ _ _ _ _ us hl => match us, hl with | [_, _, _, _], _ => rfl
  have F14 : C8.Def K mg "tolls_in_all" s_tolls_in_all f14 _ := ⟨⟨_, _, _, _, _, _, _, _, _, _, rfl, l14, c14⟩, PySem.W.mg_of X G a14, k14⟩
  have B14 : Binds K _ ["p", "holds", "wants", "there", "back"] [] := F14.fn.binds rfl fun _ _ _ _ _ _ us hl => match us, hl with | [_, _, _, _, _], _ => rfl
  have F15 : C8.Def K mg "sheets_in_all" s_sheets_in_all f15 _ := ⟨⟨_, _, _, _, _, _, _, _, _, _, rfl, l15, c15⟩, PySem.W.mg_of X G a15, k15⟩
  have B15 : Binds K _ ["p", "tree", "holds", "wants"] [] := F15.fn.binds rfl fun _ _ _ _ _ _ us hl => match us, hl with | [_, _, _, _], _ => rfl
  have F16 : C8.Def K mg "_law_bag" s_law_bag f16 _ := ⟨⟨_, _, _, _, _, _, _, _, _, _, rfl, l16, c16⟩, PySem.W.mg_of X G a16, k16⟩
  have B16 : Binds K _ ["script"] [] := F16.fn.binds rfl fun _ _ _ _ _ _ us hl => match us, hl with | [_], _ => rfl
  have F17 : C8.Def K mg "_law_pick" s_law_pick f17 _ := ⟨⟨_, _, _, _, _, _, _, _, _, _, rfl, l17, c17⟩, PySem.W.mg_of X G a17, k17⟩
  have B17 : Binds K _ ["bag", "many"] [] := F17.fn.binds rfl fun _ _ _ _ _ _ us hl => match us, hl with | [_, _], _ => rfl
  have F18 : C8.Def K mg "_law_some" s_law_some f18 _ := ⟨⟨_, _, _, _, _, _, _, _, _, _, rfl, l18, c18⟩, PySem.W.mg_of X G a18, k18⟩
  have B18 : Binds K _ ["bag", "things"] [] := F18.fn.binds rfl fun _ _ _ _ _ _ us hl => match us, hl with | [_, _], _ => rfl
  have F19 : C8.Def K mg "_law_is" s_law_is f19 _ := ⟨⟨_, _, _, _, _, _, _, _, _, _, rfl, l19, c19⟩, PySem.W.mg_of X G a19, k19⟩
  have B19 : Binds K _ ["thing", "due"] [] := F19.fn.binds rfl fun _ _ _ _ _ _ us hl => match us, hl with | [_, _], _ => rfl
  have F20 : C8.Def K mg "_law_turned" s_law_turned f20 _ := ⟨⟨_, _, _, _, _, _, _, _, _, _, rfl, l20, c20⟩, PySem.W.mg_of X G a20, k20⟩
  have B20 : Binds K _ ["p", "value"] [] := F20.fn.binds rfl fun _ _ _ _ _ _ us hl => match us, hl with | [_, _], _ => rfl
  have F21 : C8.Def K mg "_law_without" s_law_without f21 _ := ⟨⟨_, _, _, _, _, _, _, _, _, _, rfl, l21, c21⟩, PySem.W.mg_of X G a21, k21⟩
  have B21 : Binds K _ ["p", "row", "head", "place"] [] := F21.fn.binds rfl fun _ _ _ _ _ _ us hl => match us, hl with | [_, _, _, _], _ => rfl
  have F22 : C8.Def K mg "_law_ladder" s_law_ladder f22 _ := ⟨⟨_, _, _, _, _, _, _, _, _, _, rfl, l22, c22⟩, PySem.W.mg_of X G a22, k22⟩
  have B22 : Binds K _ ["p", "rows"] [] := F22.fn.binds rfl fun _ _ _ _ _ _ us hl => match us, hl with | [_, _], _ => rfl
  have F23 : C8.Def K mg "_law_tied" s_law_tied f23 _ := ⟨⟨_, _, _, _, _, _, _, _, _, _, rfl, l23, c23⟩, PySem.W.mg_of X G a23, k23⟩
  have B23 : Binds K _ ["ties", "post"] [] := F23.fn.binds rfl fun _ _ _ _ _ _ us hl => match us, hl with | [_, _], _ => rfl
  have F24 : C8.Def K mg "_law_side" s_law_side f24 _ := ⟨⟨_, _, _, _, _, _, _, _, _, _, rfl, l24, c24⟩, PySem.W.mg_of X G a24, k24⟩
  have B24 : Binds K _ ["ties", "post", "barred"] [] := F24.fn.binds rfl fun _ _ _ _ _ _ us hl => match us, hl with | [_, _, _], _ => rfl
  have F25 : C8.Def K mg "_law_ways" s_law_ways f25 _ := ⟨⟨_, _, _, _, _, _, _, _, _, _, rfl, l25, c25⟩, PySem.W.mg_of X G a25, k25⟩
  have B25 : Binds K _ ["ties"] [] := F25.fn.binds rfl fun _ _ _ _ _ _ us hl => match us, hl with | [_], _ => rfl
  have F26 : C8.Def K mg "_law_numbers_of" s_law_numbers_of f26 _ := ⟨⟨_, _, _, _, _, _, _, _, _, _, rfl, l26, c26⟩, PySem.W.mg_of X G a26, k26⟩
  have B26 : Binds K _ ["holds", "posts"] [] := F26.fn.binds rfl fun _ _ _ _ _ _ us hl => match us, hl with | [_, _], _ => rfl
  have F27 : C8.Def K mg "_law_block" s_law_block f27 _ := ⟨⟨_, _, _, _, _, _, _, _, _, _, rfl, l27, c27⟩, PySem.W.mg_of X G a27, k27⟩
  have B27 : Binds K _ ["spec", "way"] [] := F27.fn.binds rfl fun _ _ _ _ _ _ us hl => match us, hl with | [_, _], _ => rfl
  have F28 : C8.Def K mg "_law_tolls" s_law_tolls f28 _ := ⟨⟨_, _, _, _, _, _, _, _, _, _, rfl, l28, c28⟩, PySem.W.mg_of X G a28, k28⟩
  have B28 : Binds K _ ["spec"] [] := F28.fn.binds rfl fun _ _ _ _ _ _ us hl => match us, hl with | [_], _ => rfl
  have F29 : C8.Def K mg "_law_parted" s_law_parted f29 _ := ⟨⟨_, _, _, _, _, _, _, _, _, _, rfl, l29, c29⟩, PySem.W.mg_of X G a29, k29⟩
  have B29 : Binds K _ ["things", "counts"] [] := F29.fn.binds rfl fun _ _ _ _ _ _ us hl => match us, hl with | [_, _], _ => rfl
  have F30 : C8.Def K mg "_law_ties" s_law_ties f30 _ := ⟨⟨_, _, _, _, _, _, _, _, _, _, rfl, l30, c30⟩, PySem.W.mg_of X G a30, k30⟩
  have B30 : Binds K _ ["bag", "most"] [] := F30.fn.binds rfl fun _ _ _ _ _ _ us hl => match us, hl with | [_, _], _ => rfl
  have F31 : C8.Def K mg "_law_clock" s_law_clock f31 _ := ⟨⟨_, _, _, _, _, _, _, _, _, _, rfl, l31, c31⟩, PySem.W.mg_of X G a31, k31⟩
  have B31 : Binds K _ ["bag"] [] := F31.fn.binds rfl fun _ _ _ _ _ _ us hl => match us, hl with | [_], _ => rfl
  have F32 : C8.Def K mg "_law_dealt" s_law_dealt f32 _ := ⟨⟨_, _, _, _, _, _, _, _, _, _, rfl, l32, c32⟩, PySem.W.mg_of X G a32, k32⟩
  have B32 : Binds K _ ["bag", "posts", "many"] [] := F32.fn.binds rfl fun _ _ _ _ _ _ us hl => match us, hl with | [_, _, _], _ => rfl
  have F33 : C8.Def K mg "_law_power" s_law_power f33 _ := ⟨⟨_, _, _, _, _, _, _, _, _, _, rfl, l33, c33⟩, PySem.W.mg_of X G a33, k33⟩
  have B33 : Binds K _ ["p", "many"] [] := F33.fn.binds rfl fun _ _ _ _ _ _ us hl => match us, hl with | [_, _], _ => rfl
  have F34 : C8.Def K mg "_law_of_rank" s_law_of_rank f34 _ := ⟨⟨_, _, _, _, _, _, _, _, _, _, rfl, l34, c34⟩, PySem.W.mg_of X G a34, k34⟩
  have B34 : Binds K _ ["p", "rows", "wide", "rank"] [] := F34.fn.binds rfl fun _ _ _ _ _ _ us hl => match us, hl with | [_, _, _, _], _ => rfl
  have F35 : C8.Def K mg "_law_in_all" s_law_in_all f35 _ := ⟨⟨_, _, _, _, _, _, _, _, _, _, rfl, l35, c35⟩, PySem.W.mg_of X G a35, k35⟩
  have B35 : Binds K _ ["p", "holds", "wants", "there", "back"] [] := F35.fn.binds rfl fun _ _ _ _ _ _ us hl => match us, hl with | [_, _, _, _, _], _ => rfl
  have F36 : C8.Def K mg "_law_all_right" s_law_all_right f36 _ := ⟨⟨_, _, _, _, _, _, _, _, _, _, rfl, l36, c36⟩, PySem.W.mg_of X G a36, k36⟩
  have B36 : Binds K _ ["bag"] [] := F36.fn.binds rfl fun _ _ _ _ _ _ us hl => match us, hl with | [_], _ => rfl
  have F37 : C8.Def K mg "_law_great_right" s_law_great_right f37 _ := ⟨⟨_, _, _, _, _, _, _, _, _, _, rfl, l37, c37⟩, PySem.W.mg_of X G a37, k37⟩
  have B37 : Binds K _ ["bag"] [] := F37.fn.binds rfl fun _ _ _ _ _ _ us hl => match us, hl with | [_], _ => rfl
  have F38 : C8.Def K mg "law" s_law fa _ := ⟨⟨_, _, _, _, _, _, _, _, _, _, rfl, l38, c38⟩, PySem.W.mg_of X G a38, k38⟩
  have B38 : Binds K _ ["script"] [] := F38.fn.binds rfl fun _ _ _ _ _ _ us hl => match us, hl with | [_], _ => rfl
  have F39 : C8.Fun K "__init__" "Tree.__init__" s_Tree_init f39 _ := ⟨_, _, _, _, _, _, _, _, _, _, rfl, l39, c39⟩
  have B39 : Binds K _ ["self", "ties"] [] := F39.binds rfl fun _ _ _ _ _ _ us hl => match us, hl with | [_, _], _ => rfl
  refine ⟨PySem.W.fnOf "law" "law" (C8.fnArgs s_law) (C8.fnBody s_law) (C8.fnScope s_law) .none kV38 dc38 pm38 an38 cd38 ct38, fun s v => .of_eq rfl, fun base KX _ => ?_⟩
  have m_is_integer := ok_is_integer (P := l.prog) (w := w) (base := base) F0 B0 T
  have m_is_within := ok_is_within F1 B1 T m_is_integer
  have m_is_pair := ok_is_pair (P := l.prog) (w := w) (base := base) F2 B2 T
  have m_check_number := ok_check_number F3 B3 T m_is_within
  have m_prime := ok_prime (P := l.prog) (w := w) (base := base) F4 B4 T
  have m_is_clock := ok_is_clock F5 B5 T m_is_within m_prime
  have m_check_clock := ok_check_clock F6 B6 T m_is_clock
  have m_is_tie := ok_is_tie F7 B7 T m_is_pair m_is_within
  have m_reached := ok_reached (P := l.prog) (w := w) (base := base) F8 B8 T
  have m_all_tied := ok_all_tied (P := l.prog) (w := w) (base := base) F9 B9 T
  have m_Tree := ok_tree_init (C := C) ⟨mk_C, a39, i39, kc_C⟩ (PySem.W.mg_of X G a_C) F39 B39 T TC m_is_tie m_all_tied m_reached
  have m_are_counts := ok_are_counts (C := C) F10 B10 T TC m_is_within
  have m_check_counts := ok_check_counts (C := C) F11 B11 T m_are_counts
  have m_power := ok_power (P := l.prog) (w := w) (base := base) F12 B12 T
  have m_tables_of_rank := ok_tables_of_rank F13 B13 T m_power
  have m_tolls_in_all := ok_tolls_in_all (C := C) F14 B14 T m_check_clock m_Tree m_check_counts m_check_number m_tables_of_rank m_power
  have m_sheets_in_all := ok_sheets_in_all (C := C) F15 B15 T m_check_clock m_check_counts m_power
  have m_law_bag := ok_law_bag (P := l.prog) (w := w) (base := base) F16 B16 T
  have m_law_pick := ok_law_pick (P := l.prog) (w := w) (base := base) F17 B17 T
  have m_law_some := ok_law_some F18 B18 T m_law_pick
  have m_is_no := ok_law_is_no (P := l.prog) (w := w) (base := base) F19 B19
  have m_law_is := ok_law_isI F19 B19 T m_is_no
  have m_law_turned := ok_law_turned (P := l.prog) (w := w) (base := base) F20 B20 T
  have m_law_without := ok_law_without (P := l.prog) (w := w) (base := base) F21 B21 T
  have m_law_ladder := ok_law_ladder F22 B22 T m_law_turned m_law_without
  have m_law_tied := ok_law_tied (P := l.prog) (w := w) (base := base) F23 B23 T
  have m_law_side := ok_law_side F24 B24 T m_law_tied
  have m_law_ways := ok_ways2 (P := l.prog) (w := w) (base := base) F25 B25 T
  have m_law_numbers_of := ok_law_numbers_of (P := l.prog) (w := w) (base := base) F26 B26 T
  have m_law_block := ok_law_block F27 B27 T m_law_numbers_of m_law_side
  have m_law_tolls := ok_law_tolls F28 B28 T m_law_ways m_law_ladder m_law_block
  have m_law_parted := ok_law_parted (P := l.prog) (w := w) (base := base) F29 B29 T
  have m_law_ties := ok_law_ties F30 B30 T m_law_pick m_law_some
  have m_law_clock := ok_law_clock F31 B31 T m_law_some
  have m_law_dealt := ok_law_dealt F32 B32 T m_law_pick
  have m_law_power := ok_law_power (P := l.prog) (w := w) (base := base) F33 B33 T
  have m_law_of_rank := ok_law_of_rank F34 B34 T m_law_power
  have m_law_in_all := ok_law_in_all F35 B35 T m_law_power m_law_of_rank
  have m_law_all_right := ok_law_all_right (C := C) F36 B36 T m_law_some m_law_pick m_law_power m_law_tolls m_law_parted m_law_is m_tolls_in_all m_law_in_all m_sheets_in_all m_Tree
  have m_law_great_right := ok_law_great_right (C := C) F37 B37 T m_law_some m_law_pick m_law_clock m_law_power m_law_is m_tolls_in_all m_law_in_all m_sheets_in_all m_Tree
  have m_law := ok_law (C := C) F38 B38 T m_law_bag m_law_all_right m_law_great_right m_law_some m_law_pick m_law_clock m_law_power m_law_ties m_law_dealt m_law_is m_sheets_in_all m_Tree
  exact m_law
end TK

open PySem PySem.W PyProof.Rows in
set_option maxRecDepth 100000 in
set_option maxHeartbeats 0 in
theorem PySem.Challenge.cw_tollhall_k17_whole_small_sheets_counted_holds : PySem.Challenge.rw_tollhall_k17_whole_small_sheets_counted.Holds := by
  w_on; o_law; k_head; (case hw => w_witness2)
  k_fill
  refine L2.walk_of (l := PySem.Challenge.rw_tollhall_k17_whole_small_sheets_counted) (n := 63) (k := 8) (x := "script") (CX := fun _ => C8.CX0) (sp := fun w => TK.sp_law _) rfl (by decide) rfl ⟨rfl, by decide, by decide⟩ (fun w h Y => PySem.W.kIn_of Y) ?F (fun _ _ a ns hl _ hS => ⟨a, ns, rfl, hS, Nat.le_trans hl (by decide), fun _ => rfl⟩) fun _ _ _ _ _ z => z
  case F =>
    intro w mg fa h KX G hmg
    refine' TK.all_mk KX G hmg ?a0 ?l0 ?c0 ?k0 ?a1 ?l1 ?c1 ?k1 ?a2 ?l2 ?c2 ?k2 ?a3 ?l3 ?c3 ?k3 ?a4 ?l4 ?c4 ?k4 ?a5 ?l5 ?c5 ?k5 ?a6 ?l6 ?c6 ?k6 ?a7 ?l7 ?c7 ?k7 ?a8 ?l8 ?c8 ?k8 ?a9 ?l9 ?c9 ?k9 ?a10 ?l10 ?c10 ?k10 ?a11 ?l11 ?c11 ?k11 ?a12 ?l12 ?c12 ?k12 ?a13 ?l13 ?c13 ?k13 ?a14 ?l14 ?c14 ?k14 ?a15 ?l15 ?c15 ?k15 ?a16 ?l16 ?c16 ?k16 ?a17 ?l17 ?c17 ?k17 ?a18 ?l18 ?c18 ?k18 ?a19 ?l19 ?c19 ?k19 ?a20 ?l20 ?c20 ?k20 ?a21 ?l21 ?c21 ?k21 ?a22 ?l22 ?c22 ?k22 ?a23 ?l23 ?c23 ?k23 ?a24 ?l24 ?c24 ?k24 ?a25 ?l25 ?c25 ?k25 ?a26 ?l26 ?c26 ?k26 ?a27 ?l27 ?c27 ?k27 ?a28 ?l28 ?c28 ?k28 ?a29 ?l29 ?c29 ?k29 ?a30 ?l30 ?c30 ?k30 ?a31 ?l31 ?c31 ?k31 ?a32 ?l32 ?c32 ?k32 ?a33 ?l33 ?c33 ?k33 ?a34 ?l34 ?c34 ?k34 ?a35 ?l35 ?c35 ?k35 ?a36 ?l36 ?c36 ?k36 ?a37 ?l37 ?c37 ?k37 ?a38 ?l38 ?c38 ?k38 ?a_C ?a39 ?i39 ?l39 ?c39 ?k39 ?pg_C ?hd_C ?po_C ?sa_C ?mk_C ?kc_C ?n_C_ties ?n_C_posts ?b_abs ?b_all ?b_bool ?b_dict ?b_enumerate ?b_int ?b_isinstance ?b_len ?b_list ?b_max ?b_min ?b_range ?b_sorted ?b_sum ?b_tuple ?b_zip ?g_MOST_HOURS ?g_MOST_TIES ?g_MOST_AT ?g_MOST_NUMBERS ?g_MOST_TOLL
    (case a0 => k_is)
    (case l0 => k_is)
    (case c0 => k_is)
    (case k0 => k_is)
    (case a1 => k_is)
    (case l1 => k_is)
    (case c1 => k_is)
    (case k1 => k_is)
    (case a2 => k_is)
    (case l2 => k_is)
    (case c2 => k_is)
    (case k2 => k_is)
    (case a3 => k_is)
    (case l3 => k_is)
    (case c3 => k_is)
    (case k3 => k_is)
    (case a4 => k_is)
    (case l4 => k_is)
    (case c4 => k_is)
    (case k4 => k_is)
    (case a5 => k_is)
    (case l5 => k_is)
    (case c5 => k_is)
    (case k5 => k_is)
    (case a6 => k_is)
    (case l6 => k_is)
    (case c6 => k_is)
    (case k6 => k_is)
    (case a7 => k_is)
    (case l7 => k_is)
    (case c7 => k_is)
    (case k7 => k_is)
    (case a8 => k_is)
    (case l8 => k_is)
    (case c8 => k_is)
    (case k8 => k_is)
    (case a9 => k_is)
    (case l9 => k_is)
    (case c9 => k_is)
    (case k9 => k_is)
    (case a10 => k_is)
    (case l10 => k_is)
    (case c10 => k_is)
    (case k10 => k_is)
    (case a11 => k_is)
    (case l11 => k_is)
    (case c11 => k_is)
    (case k11 => k_is)
    (case a12 => k_is)
    (case l12 => k_is)
    (case c12 => k_is)
    (case k12 => k_is)
    (case a13 => k_is)
    (case l13 => k_is)
    (case c13 => k_is)
    (case k13 => k_is)
    (case a14 => k_is)
    (case l14 => k_is)
    (case c14 => k_is)
    (case k14 => k_is)
    (case a15 => k_is)
    (case l15 => k_is)
    (case c15 => k_is)
    (case k15 => k_is)
    (case a16 => k_is)
    (case l16 => k_is)
    (case c16 => k_is)
    (case k16 => k_is)
    (case a17 => k_is)
    (case l17 => k_is)
    (case c17 => k_is)
    (case k17 => k_is)
    (case a18 => k_is)
    (case l18 => k_is)
    (case c18 => k_is)
    (case k18 => k_is)
    (case a19 => k_is)
    (case l19 => k_is)
    (case c19 => k_is)
    (case k19 => k_is)
    (case a20 => k_is)
    (case l20 => k_is)
    (case c20 => k_is)
    (case k20 => k_is)
    (case a21 => k_is)
    (case l21 => k_is)
    (case c21 => k_is)
    (case k21 => k_is)
    (case a22 => k_is)
    (case l22 => k_is)
    (case c22 => k_is)
    (case k22 => k_is)
    (case a23 => k_is)
    (case l23 => k_is)
    (case c23 => k_is)
    (case k23 => k_is)
    (case a24 => k_is)
    (case l24 => k_is)
    (case c24 => k_is)
    (case k24 => k_is)
    (case a25 => k_is)
    (case l25 => k_is)
    (case c25 => k_is)
    (case k25 => k_is)
    (case a26 => k_is)
    (case l26 => k_is)
    (case c26 => k_is)
    (case k26 => k_is)
    (case a27 => k_is)
    (case l27 => k_is)
    (case c27 => k_is)
    (case k27 => k_is)
    (case a28 => k_is)
    (case l28 => k_is)
    (case c28 => k_is)
    (case k28 => k_is)
    (case a29 => k_is)
    (case l29 => k_is)
    (case c29 => k_is)
    (case k29 => k_is)
    (case a30 => k_is)
    (case l30 => k_is)
    (case c30 => k_is)
    (case k30 => k_is)
    (case a31 => k_is)
    (case l31 => k_is)
    (case c31 => k_is)
    (case k31 => k_is)
    (case a32 => k_is)
    (case l32 => k_is)
    (case c32 => k_is)
    (case k32 => k_is)
    (case a33 => k_is)
    (case l33 => k_is)
    (case c33 => k_is)
    (case k33 => k_is)
    (case a34 => k_is)
    (case l34 => k_is)
    (case c34 => k_is)
    (case k34 => k_is)
    (case a35 => k_is)
    (case l35 => k_is)
    (case c35 => k_is)
    (case k35 => k_is)
    (case a36 => k_is)
    (case l36 => k_is)
    (case c36 => k_is)
    (case k36 => k_is)
    (case a37 => k_is)
    (case l37 => k_is)
    (case c37 => k_is)
    (case k37 => k_is)
    (case a38 => k_is)
    (case l38 => k_is)
    (case c38 => k_is)
    (case k38 => k_is)
    (case a_C => k_is)
    (case a39 => k_is)
    (case i39 => k_is)
    (case l39 => k_is)
    (case c39 => k_is)
    (case k39 => k_is)
    (case pg_C => k_is)
    (case hd_C => k_is)
    (case po_C => k_is)
    (case sa_C => k_is)
    (case mk_C => k_is)
    (case kc_C => k_is)
    (case n_C_ties => k_is)
    (case n_C_posts => k_is)
    (case b_abs => k_is)
    (case b_all => k_is)
    (case b_bool => k_is)
    (case b_dict => k_is)
    (case b_enumerate => k_is)
    (case b_int => k_is)
    (case b_isinstance => k_is)
    (case b_len => k_is)
    (case b_list => k_is)
    (case b_max => k_is)
    (case b_min => k_is)
    (case b_range => k_is)
    (case b_sorted => k_is)
    (case b_sum => k_is)
    (case b_tuple => k_is)
    (case b_zip => k_is)
    (case g_MOST_HOURS => k_is)
    (case g_MOST_TIES => k_is)
    (case g_MOST_AT => k_is)
    (case g_MOST_NUMBERS => k_is)
    (case g_MOST_TOLL => k_is)
