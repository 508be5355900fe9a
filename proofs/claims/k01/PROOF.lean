import PyProof.Rows.All
import Wide.All
import OpenK.AllK
import Wide.FinOn
import HandS.ForMost
import HandS.Codes
import HandS.IsInst
import HandS.Zip
import HandS.TupAny
import HandS.TupMul
import HandS.Style
import HandS.DictComp
import HandS.Conv
import HandS.Wide
import HandS.EndBits
import HandS.Walk
import HandS.Deep
import HandS.More
import KE.GoesMore
import KE.GoesEnum
import KE.SortData
import PySem.Challenge.RW_tollhall_k01_whole_ladders_and_ranks
set_option Elab.async false
set_option linter.all false
set_option maxRecDepth 100000
set_option maxHeartbeats 4000000
namespace TH
open PySem PySem.Spec PyProof.Rows L2
/-! ### tuple * int, any int -/
theorem tuple_mul1 (l : Addr) (items : Array Value) (n : Nat) (dd : Option Addr) (sl : Array (Option Value)) (x : Int) (u : Tok) (c0 : (decide (x < -(2 ^ 63)) || decide (x ≥ 2 ^ 63)) = false) (c1 : (items.isEmpty || x == 1) = true) :
    Meets (Builtin.«tuple.__mul__» ⟨[.ref l, .int x u], []⟩) (fun _ R s => s.heap.get? l = some { cls := .type "tuple", dict := dd, data := .seq items n, slots := sl } ∧
      R (.ok (.ret (Value.ref l))) s) :=
  .of_wp fun prog w A R s h => by
    obtain ⟨hp, g, d, tk, os⟩ := s
    obtain ⟨hl, h⟩ := h
    have f1 := AutoSeq1.idx_int
    wp_walk using PyProof.Rows.wpAny_loadPart' hl
    repeat (first
      | (refine wpAny_ite_false (decide_eq_false (by rw [c0]; exact Bool.false_ne_true)) ?_; wp_walk using PyProof.Rows.wpAny_loadPart' hl)
      | (refine wpAny_ite_true (decide_eq_true c1) ?_; wp_walk using PyProof.Rows.wpAny_loadPart' hl))
    exact ⟨_, rfl, h⟩
theorem tuple_mul0 (l : Addr) (items : Array Value) (n : Nat) (dd : Option Addr) (sl : Array (Option Value)) (x : Int) (u : Tok) (c0 : (decide (x < -(2 ^ 63)) || decide (x ≥ 2 ^ 63)) = false) (c1 : (items.isEmpty || x == 1) = false) (c2 : (decide (x ≤ 0) || items.isEmpty) = true) :
    Meets (Builtin.«tuple.__mul__» ⟨[.ref l, .int x u], []⟩) (fun _ R s => s.heap.get? l = some { cls := .type "tuple", dict := dd, data := .seq items n, slots := sl } ∧
      R (.ok (.ret (Value.ref s.heap.objs.size))) { s with heap := s.heap.push { cls := Value.type "tuple", data := Data.seq #[] }, toks := s.toks }) :=
  .of_wp fun prog w A R s h => by
    obtain ⟨hp, g, d, tk, os⟩ := s
    obtain ⟨hl, h⟩ := h
    have f1 := AutoSeq1.idx_int
    wp_walk using PyProof.Rows.wpAny_loadPart' hl
    repeat (first
      | (refine wpAny_ite_false (decide_eq_false (by rw [c0]; exact Bool.false_ne_true)) ?_; wp_walk using PyProof.Rows.wpAny_loadPart' hl)
      | (refine wpAny_ite_false (decide_eq_false (by rw [c1]; exact Bool.false_ne_true)) ?_; wp_walk using PyProof.Rows.wpAny_loadPart' hl)
      | (refine wpAny_ite_true (decide_eq_true c2) ?_; wp_walk using PyProof.Rows.wpAny_loadPart' hl))
    exact ⟨_, rfl, h⟩
def rRepA (K : PySem.W.Frag) : R2 := fun x y H Q => ∃ l k xs, x = .ref l ∧ y = .int k ∧ SqT K H l xs ∧ xs ≠ [] ∧ -1000 ≤ k ∧ k ≤ 1000 ∧ xs.length ≤ 1000 ∧
  (k = 1 → Q (.ref l) H) ∧ (k ≠ 1 → ∀ p, H p = none → Q (.ref p) (upd H p (.tup (List.replicate k.toNat xs).flatten)))
section
variable {X : Cx}
theorem op_repA : OpR X (binaryOp .Mult) (rRepA X.K) := by
  intro pins s σ H x y v u Q I rx ry h
  obtain ⟨l, k, xs, rfl, rfl, hT, hne, h0, h1, hz, q1, q2⟩ := h
  by_cases hk2 : 2 ≤ k
  · exact op_repT pins s σ H _ _ v u Q I rx ry ⟨l, k, xs, rfl, rfl, hT, hne, hk2, h1, hz, q2 (by omega)⟩
  cases rx
  obtain ⟨t, rfl⟩ := ry
  obtain ⟨its, r, ⟨⟨cls, dd, data, sl⟩, ho, hc, n, hd⟩, hs⟩ := I.tuple hT
  simp only at hc hd
  subst hc hd
  have hle : its.length = xs.length := r.length.symm
  have hn : its ≠ [] := fun e => hne (by
    rw [e] at hle
    exact List.eq_nil_of_length_eq_zero hle.symm)
  have hi : its.toArray.isEmpty = false := by
    cases its with
    | nil => exact absurd rfl hn
    | cons a b => rfl
  have c0 : (decide (k < -(2 ^ 63)) || decide (k ≥ 2 ^ 63)) = false := by
    rw [decide_eq_false (by omega), decide_eq_false (by omega)] <;> rfl
  by_cases hk1 : k = 1
  · subst hk1
    have c1 : (its.toArray.isEmpty || (1 : Int) == 1) = true := by simp
    refine wpAny_binaryOp_repeat_ref (T := "tuple") (U := "int") (by decide) ⟨_, ho, rfl⟩ (fun s' => typeIs_int s' 1 t) noFill_tuple_mul F.fills_int_mul F.slot_int_rmul repeat_tuple F.slot_int_index.lookup
      (call_meets F.slot_int_rmul (typeIs_int s 1 t) F.entry_int_rmul (F.args_int_rmul_2 _ _) (int_rmul_tuple 1 t l its.toArray n dd sl)
        ⟨ho, rfl, ⟨_, ho, rfl⟩, call_meets F.slot_tuple_mul ⟨_, ho, rfl⟩ F.entry_tuple_mul (F.args_tuple_mul_2 _ _) (tuple_mul1 l its.toArray n dd sl 1 t c0 c1) ⟨ho, ?_⟩⟩)
    exact ⟨.ref l, H, I, rfl, q1 rfl⟩
  · have c1 : (its.toArray.isEmpty || k == 1) = false := by
      rw [hi, Bool.false_or]
      exact beq_eq_false_iff_ne.mpr hk1
    have c2 : (decide (k ≤ 0) || its.toArray.isEmpty) = true := by
      rw [decide_eq_true (by omega)]
      rfl
    refine wpAny_binaryOp_repeat_ref (T := "tuple") (U := "int") (by decide) ⟨_, ho, rfl⟩ (fun s' => typeIs_int s' k t) noFill_tuple_mul F.fills_int_mul F.slot_int_rmul repeat_tuple F.slot_int_index.lookup
      (call_meets F.slot_int_rmul (typeIs_int s k t) F.entry_int_rmul (F.args_int_rmul_2 _ _) (int_rmul_tuple k t l its.toArray n dd sl)
        ⟨ho, rfl, ⟨_, ho, rfl⟩, call_meets F.slot_tuple_mul ⟨_, ho, rfl⟩ F.entry_tuple_mul (F.args_tuple_mul_2 _ _) (tuple_mul0 l its.toArray n dd sl k t c0 c1 c2) ⟨ho, ?_⟩⟩)
    have e0 : (List.replicate k.toNat xs).flatten = [] := by
      have : k.toNat = 0 := by omega
      rw [this]
      rfl
    have q3 := q2 hk1
    rw [e0] at q3
    exact ⟨.ref s.heap.objs.size, _, I.laid (t' := s.toks) (o := .tup []) (fun b ob q => Heap.get?_push_of_some _ q) (Nat.le_refl _) ⟨Nat.zero_le _, [], .nil, IsTup.new _ _⟩, rfl, q3 _ (I.hok.fresh (Nat.le_refl _))⟩
end

/-! ### enumerate(tuple) -/
theorem meets_enumerate_newT (l : Addr) (items : Array Value) (n : Nat) (dct : Option Addr) (sl : Array (Option Value)) :
    Meets (Builtin.«enumerate.__new__» ⟨[.type "enumerate", .ref l], []⟩) (fun _ R s => s.heap.get? l = some { cls := .type "tuple", dict := dct, data := .seq items n, slots := sl } ∧
      R (.ok (.ret (.ref (s.heap.push { cls := .type "tuple_iterator", data := .fields #[.ref l, .int 0 0] }).objs.size)))
        { s with heap := (s.heap.push { cls := .type "tuple_iterator", data := .fields #[.ref l, .int 0 0] }).push { cls := .type "enumerate", data := .fields #[.none, .bool false, .ref s.heap.objs.size, rawInt 0, .none, .none] } }) :=
  .of_wp fun prog w A R s h => by
    obtain ⟨hp, g, d, tk, os⟩ := s; obtain ⟨hl, h⟩ := h
    have hsub := sub_enumerate
    have hL : Heap.IsTuple (Shared.heap ⟨hp, g, d, tk, os⟩) l items := ⟨_, hl, rfl, n, rfl⟩
    wp_walk using PyProof.Rows.wpAny_loadPart' hl
    refine wpAny_stack_any fun st => wpAny_pure ?_
    split
    · rename_i c _ _ _ _ _
      cases (c == Value.type "enumerate")
      · wp_walk using PyProof.Rows.wpAny_loadPart' hl, wpAny_pyIter_tuple hL
        exact ⟨_, rfl, h⟩
      · wp_walk using PyProof.Rows.wpAny_loadPart' hl, wpAny_pyIter_tuple hL
        exact ⟨_, rfl, h⟩
    · wp_walk using PyProof.Rows.wpAny_loadPart' hl, wpAny_pyIter_tuple hL
      exact ⟨_, rfl, h⟩
theorem call_enumerate_tuple {prog : Program} {w : World} {A : Around} {E : Value → Shared → Prop} {s : Shared} {l : Addr} {items : Array Value} {Q : Value → Shared → Prop} (hL : s.heap.IsTuple l items)
    (h : ∀ h', IsEnum h' (s.heap.objs.size + 1) s.heap.objs.size 0 .none → h'.IsTupleIter s.heap.objs.size l 0 → h'.objs.size = s.heap.objs.size + 2 →
      (∀ b o, s.heap.get? b = some o → h'.get? b = some o) → Q (.ref (s.heap.objs.size + 1)) { s with heap := h' }) :
    wpAny (model prog w) A (call (.type "enumerate") [.ref l]) Q E s := by
  obtain ⟨⟨c, dct, dt, sl⟩, hl, hc, n, hd⟩ := hL
  replace hc : c = .type "tuple" := hc
  replace hd : dt = .seq items n := hd
  subst hc hd
  refine callType_new F.called_enumerate (by decide) (F.typeCall_enumerate_1 _) (F.newCall_enumerate_1 _) (fun obj => F.args_object_init_2 obj _) F.entry_enumerate_new
    (meets_enumerate_newT l items n dct sl) ⟨hl, ?_⟩
  have hz : (s.heap.push { cls := .type "tuple_iterator", data := .fields #[.ref l, .int 0 0] }).objs.size = s.heap.objs.size + 1 := Heap.size_push ..
  show _ ∧ _
  rw [hz]
  have he : IsEnum ((s.heap.push { cls := .type "tuple_iterator", data := .fields #[.ref l, .int 0 0] }).push
      { cls := .type "enumerate", data := .fields #[.none, .bool false, .ref s.heap.objs.size, rawInt 0, .none, .none] }) (s.heap.objs.size + 1) s.heap.objs.size 0 .none := by
    have := Heap.get?_push_size (s.heap.push { cls := .type "tuple_iterator", data := .fields #[.ref l, .int 0 0] })
      (o := { cls := .type "enumerate", data := .fields #[.none, .bool false, .ref s.heap.objs.size, rawInt 0, .none, .none] }) rfl
    rw [hz] at this; exact this
  refine ⟨⟨_, he, rfl⟩, h _ he ⟨_, Heap.get?_push_of_some _ (Heap.get?_push_size _ rfl), rfl, rfl⟩ (by rw [Heap.size_push, hz]) fun b o x => Heap.get?_push_of_some _ (Heap.get?_push_of_some _ x)⟩
/-- the tuple at a, each item in a new pair -/
def IteT (K : PySem.W.Frag) (a : Addr) : It :=
  ⟨fun i H => ∃ (xs : List V) (x : V), SqT K H a xs ∧ xs[i]? = some x, fun i H v H' => ∃ T x, v = .ref T ∧ H T = none ∧ H' = upd H T (.tup [.int (i : Nat), x]) ∧ ∀ xs, SqT K H a xs → xs[i]? = some x, fun i H => ∃ xs : List V, SqT K H a xs ∧ xs.length ≤ i⟩
theorem turn_enumT {P : Program} {w : World} {K : PySem.W.Frag} {elts : List Expr} {kk : Nat} {tpos : Pos} (a e it : Addr) :
    Turn P w K (.Tuple elts kk tpos) (IteT K a) [e, it] e (fun i h => (∃ old, IsEnum h e it ((i : Nat) : Int) old) ∧ h.IsTupleIter it a i ∧ e ≠ it ∧ a ≠ it ∧ a ≠ e) where
  mem := by simp
  obj := fun i h st b hb => by
    obtain ⟨⟨old, he⟩, ⟨o, ho, hc, hd⟩, _⟩ := st
    have e' : b = e ∨ b = it := by simpa using hb
    rcases e' with z | z
    · rw [z]; exact ⟨_, he, fun v q => nomatch q⟩
    · rw [z]; exact ⟨o, ho, fun v q => by rw [hd] at q; cases q⟩
  keep := fun i h h' st k => let ⟨⟨old, he⟩, hi, hne⟩ := st; ⟨⟨old, k e (by simp) _ he⟩, hi.at fun o q => k it (by simp) o q, hne⟩
  item := by
    intro X hP hw hK hc i pins s σ H E I hf st hg
    subst hP hw hK
    obtain ⟨⟨old, he⟩, hit, hne, hai, hae⟩ := st
    obtain ⟨xs, x, hq, hx⟩ := hg
    obtain ⟨its, rv, p, hz⟩ := I.tuple hq
    obtain ⟨u, hu, ru⟩ := rv.get hx
    have hel : e < s.heap.objs.size := Heap.lt_size he
    have hil : it < s.heap.objs.size := by obtain ⟨_, q, _⟩ := hit; exact Heap.lt_size q
    have hlt : i < its.toArray.size := by
      have := (List.getElem?_eq_some_iff.mp hu).1
      simpa using this
    refine wpAny_pyNext_enum_itemD (Draws.tuple (prog := X.prog) (w := X.w) (A := X.A.in1) (show X.A.in1.handled = none from I.ok.hd hc) it a hai its.toArray) he ⟨hit, p⟩ hlt hne (by simp; exact ⟨hne, hae.symm⟩) fun u' h' tk hu' ho hst' hT hsz hk => ?_
    have eu : u' = u := by
      have : its.toArray[i]? = some u := by simpa using hu
      rw [this] at hu'
      exact (Option.some.inj hu').symm
    subst eu
    refine ⟨_, rfl, wpAny_letOwnedTupleGo_enum (s := { s with heap := h', toks := tk + 1 }) ho fun h'' he' sb => ?_⟩
    have hT2 : h''.get? s.heap.objs.size = some { cls := .type "tuple", data := .seq #[.int i tk, u'] } := (sb.2 _ (Nat.ne_of_gt hel)).trans hT
    have new : ObjOk X.prog X.w (upd H s.heap.objs.size (.tup [.int (i : Nat), x])) h'' s.heap.objs.size (.tup [.int (i : Nat), x]) :=
      ⟨by show 2 ≤ sizeLine; decide, [.int i tk, u'], .cons ⟨_, rfl⟩ (.cons ru .nil), ⟨_, hT2, rfl, _, rfl⟩⟩
    have I1 : Inv X pins σ (upd H s.heap.objs.size (.tup [.int (i : Nat), x])) { s with heap := h'', toks := tk + 1 } :=
      I.turnedNew (ch := [e, it]) (fun b ob hb q => (sb.2 b (fun z => hb (by simp [z]))).trans (hk b ob (fun z => hb (by simp [z])) (fun z => hb (by simp [z])) q)) hf (Nat.le_refl _) new
    refine ⟨.ref s.heap.objs.size, _, I1, rfl, ⟨_, x, rfl, I.hok.fresh (Nat.le_refl _), rfl, fun ys hy => by rw [I.tuple_inj hy hq]; exact hx⟩, ⟨⟨u', ?_⟩, hst'.1.at fun o q => (sb.2 it (Ne.symm hne)).trans q, hne, hai, hae⟩, fun b hb => ?_⟩
    · have e1 : ((i + 1 : Nat) : Int) = (i : Int) + 1 := by omega
      rw [e1]; exact he'
    · have hb' : b < s.heap.objs.size := by
        have e' : b = e ∨ b = it := by simpa using hb
        rcases e' with z | z
        · rw [z]; exact hel
        · rw [z]; exact hil
      rw [upd_ne (Nat.ne_of_lt hb')]
      exact (hf b hb).1
  done := by
    intro X hP hw hK hc i pins s σ H E I hf st hg
    subst hP hw hK
    obtain ⟨⟨old, he⟩, hit, hne, hai, hae⟩ := st
    obtain ⟨xs, hq, hx⟩ := hg
    obtain ⟨its, rv, p, hz⟩ := I.tuple hq
    obtain ⟨f0, f1, f2, f3, f4, f5⟩ := hf it (by simp)
    have hl := rv.length
    have go : its.toArray[i]? = none := by
      simp
      omega
    have hT : s.TypeIs (.ref e) "enumerate" := ⟨_, he, rfl⟩
    unfold pyNext
    refine wpAny_bind (wpAny_attempt (wpAny_callSpecial?_slot (name := Str.ofString "__next__") hT F.slot_enumerate_next
      (wpAny_call_entry F.slot_enumerate_next hT F.entry_enumerate_next ?_ (F.args_enumerate_next_1 _))))
    show wpAny _ _ (field (.ref e) 2 >>= _) _ _ _
    refine wpAny_bind (wpAny_field he rfl (x := .ref it) rfl ?_)
    refine wpAny_bind (wpAny_nextOf_tuple_end (I.ok.hd hc) hit p go fun h' x he' hx' => ?_)
    obtain ⟨o, ho, hc'⟩ := hx'
    refine wpAny_bind (wpAny_isInstance (T := "StopIteration") (b := true) ⟨o, ho, hc'⟩ isSubtype_stop ?_)
    exact wpAny_pure ⟨rfl, I.turned (t' := s.toks) (fun b o hb q => he' b o hb q) f0 f1 f3 f4 f5⟩
  self := fun A i s Q E st h => let ⟨⟨_, he⟩, _⟩ := st; wpAny_pyIter_enum he h
/-- enumerate of a list or a tuple -/
def iEnumA (K : PySem.W.Frag) (ta : TA) : TI := fun σ H R => ta σ H fun vs H1 => ∃ a xs, vs = [.ref a] ∧ ((SqL K H1 a xs ∧ R (Ite K a) H1) ∨ (SqT K H1 a xs ∧ R (IteT K a) H1))
theorem pi_enumA {X : Cx} {e : Expr} {ta : TA} {p pos tpos : Pos} {elts : List Expr} {kk : Nat} (hg : Gl X "enumerate") (hm : X.mg "enumerate" = none) (ha : PA X [e] ta) (hs : starEach [e] X.env = [(false, eval e X.env)] := by rfl) :
    PI X (.Tuple elts kk tpos) (.Call (.Name "enumerate" p) [e] [] pos) (iEnumA X.K ta) := by
  refine ⟨fun pins s σ H R I h => ?_⟩
  refine Call_ (ld_blt I hg hm boot_enumerate (PyProof.Rows.callWith_type1 (thn (ha.run pos pins s σ H _ I h) fun us s1 ⟨vs, H1, I1, r1, q1⟩ => ?_) hs rfl))
  obtain ⟨a, xs, ex, q1⟩ := q1
  subst ex
  cases r1 with
  | cons r rr =>
    cases rr
    cases r
    have fr : ∀ b, b ∈ [s1.heap.objs.size + 1, s1.heap.objs.size] → FpOk X pins H1 b := fun b hb => by
      have e' : b = s1.heap.objs.size + 1 ∨ b = s1.heap.objs.size := by simpa using hb
      have hle : s1.heap.objs.size ≤ b := by
        rcases e' with z | z
        · rw [z]; exact Nat.le_add_right _ _
        · rw [z]; exact Nat.le_refl _
      exact I1.fpOk hle (I1.hok.fresh hle)
    rcases q1 with ⟨hq, q⟩ | ⟨hq, q⟩
    · obtain ⟨its, rv, p', hz⟩ := I1.list hq
      refine call_enumerate_list p'.isList fun h' he hit hsz hk => wpAny_pyIter_enum he ?_
      have I2 : Inv X pins σ H1 { s1 with heap := h' } := I1.kept (t' := s1.toks) hk
      exact ⟨s1.heap.objs.size + 1, [s1.heap.objs.size + 1, s1.heap.objs.size], _, _, H1, rfl, I2, turn_enum a (s1.heap.objs.size + 1) s1.heap.objs.size, ⟨⟨.none, he⟩, hit, Nat.succ_ne_self _⟩, fr, q⟩
    · obtain ⟨its, rv, p', hz⟩ := I1.tuple hq
      have hal : a < s1.heap.objs.size := p'.lt
      refine call_enumerate_tuple (show s1.heap.IsTuple a its.toArray from p') fun h' he hit hsz hk => wpAny_pyIter_enum he ?_
      have I2 : Inv X pins σ H1 { s1 with heap := h' } := I1.kept (t' := s1.toks) hk
      exact ⟨s1.heap.objs.size + 1, [s1.heap.objs.size + 1, s1.heap.objs.size], _, _, H1, rfl, I2, turn_enumT a (s1.heap.objs.size + 1) s1.heap.objs.size, ⟨⟨.none, he⟩, hit, Nat.succ_ne_self _, Nat.ne_of_lt hal, Nat.ne_of_lt (Nat.lt_succ_of_lt hal)⟩, fr, q⟩
theorem walk_enumT {K : PySem.W.Frag} {a : Addr} {xs : List V} : Walk (IteT K a) xs.length (fun H => SqT K H a xs) (YPair (fun i => some (.int (i : Nat))) (fun i => xs[i]?)) := by
  refine ⟨fun i _ hi q => ⟨xs, xs[i], q, by simp [hi]⟩, fun _ q => ⟨xs, q, Nat.le_refl _⟩, fun i H v H' _ q y => ?_⟩
  obtain ⟨T, x, h1, h2, h3, h4⟩ := y
  exact ⟨T, .int (i : Nat), x, h1, h2, h3, rfl, h4 xs q⟩
end TH

namespace TH
open PySem PySem.Spec PyProof.Rows L2
/-! ### the rules with the written part told (within comprehensions the context is bound) -/
section
variable {X : Cx} {K : PySem.W.Frag} {tg e o l a b : Expr} {es : List Expr} {te tl to ta tb : TE} {t : TA} {pos p cpos apos : Pos} {k : Nat}
theorem kpi_list (hl : PE X l tl) (hK : X.K = K := by rfl) : PI X tg l (iList K tl) := hK ▸ pi_list hl
theorem kpi_tup (hl : PE X l tl) (hK : X.K = K := by rfl) : PI X tg l (iTup K tl) := hK ▸ pi_tup hl
theorem kpi_enum {elts : List Expr} {tpos : Pos} (hg : Gl X "enumerate") (hm : X.mg "enumerate" = none) (ha : PA X [e] t) (hs : starEach [e] X.env = [(false, eval e X.env)] := by rfl) (hK : X.K = K := by rfl) :
    PI X (.Tuple elts k tpos) (.Call (.Name "enumerate" p) [e] [] pos) (iEnumA K t) := hK ▸ pi_enumA hg hm ha hs
theorem kpi_zip {e2 : Expr} {elts : List Expr} {tpos : Pos} (hg : Gl X "zip") (hm : X.mg "zip" = none) (ha : PA X [e, e2] t)
    (hs : starEach [e, e2] X.env = (false, eval e X.env) :: starEach [e2] X.env := by rfl) (hpl : (backTo pos (starEach [e2] X.env)).any (·.1) = false := by rfl) (hK : X.K = K := by rfl) :
    PI X (.Tuple elts k tpos) (.Call (.Name "zip" p) [e, e2] [] pos) (RZ.iZipA K t) := hK ▸ RZ.pi_zipA hg hm ha hs hpl
theorem kpg_tup {es : List Expr} {t : TGs} {n : Nat} (hc : X.calm = true) (h : PGs X es t)
    (hn : (assignEach es X.env).length = n := by rfl) (hst : (assignEach es X.env).findIdx? (·.1) = none := by rfl) (hK : X.K = K := by rfl) : PG X (.Tuple es k pos) (gTup K n t) := hK ▸ pg_tup hc h hn hst
theorem kix_list (hK : X.K = K := by rfl) : IxR X (rIxL K) := hK ▸ ix_list
theorem kix_tup (hK : X.K = K := by rfl) : IxR X (rIxT K) := hK ▸ ix_tup
theorem ksl_list (hK : X.K = K := by rfl) : SlR X (rSlL K) := hK ▸ sl_list
theorem ksl_tup (hK : X.K = K := by rfl) : SlR X (rSlA K) := hK ▸ sl_tupA
theorem kcall_len (hK : X.K = K := by rfl) : CallR X (.builtin "len") (fun xs H Q => ∃ p ys, xs = [.ref p] ∧ (SqL K H p ys ∨ SqT K H p ys) ∧ Q (.int ys.length) H) := hK ▸ call_len_seq
theorem kcall_list (hK : X.K = K := by rfl) : CallR X (.type "list") (fun xs H Q => ∃ p ys, xs = [.ref p] ∧ (SqL K H p ys ∨ SqT K H p ys) ∧ ∀ l, H l = none → Q (.ref l) (upd H l (.lst ys))) := hK ▸ call_list_of
theorem kcall_tuple (hK : X.K = K := by rfl) : CallR X (.type "tuple") (fun xs H Q => ∃ p ys, xs = [.ref p] ∧ ((SqL K H p ys ∧ ∀ l, H l = none → Q (.ref l) (upd H l (.tup ys))) ∨ (SqT K H p ys ∧ Q (.ref p) H))) := hK ▸ call_tuple_of
theorem kcr_all (hc : X.calm = true) (hK : X.K = K := by rfl) : CallR X (.builtin "all") (rAll K) := hK ▸ cr_all hc
theorem kcr_any (hc : X.calm = true) (hK : X.K = K := by rfl) : CallR X (.builtin "any") (rAny K) := hK ▸ cr_any hc
theorem kcr_sum (hc : X.calm = true) (hK : X.K = K := by rfl) : CallR X (.builtin "sum") (rSum K) := hK ▸ cr_sum hc
theorem kcall_isi (hK : X.K = K := by rfl) : CallR X (.builtin "isinstance") (rIsi K) := hK ▸ call_isi
theorem kcall_isiT (hK : X.K = K := by rfl) : CallR X (.builtin "isinstance") (rIsiT K) := hK ▸ call_isiT
theorem kop_catA (hK : X.K = K := by rfl) : OpR X (binaryOp .Add) (rCatA K) := hK ▸ op_catA
theorem kop_repA (hK : X.K = K := by rfl) : OpR X (binaryOp .Mult) (rRepA K) := hK ▸ op_repA
theorem kop_eqD (hu : X.A.units + 64 < cLine) (hK : X.K = K := by rfl) : OpR X (compareOp .Eq) (rEqD K) := hK ▸ op_eqD hu
theorem kop_neD (hu : X.A.units + 64 < cLine) (hK : X.K = K := by rfl) : OpR X (compareOp .NotEq) (rNeD K) := hK ▸ op_neD hu
theorem kop_in (hK : X.K = K := by rfl) : OpR X (compareOp .In) (rIn K false) := hK ▸ op_in_seq
theorem kop_notIn (hK : X.K = K := by rfl) : OpR X (compareOp .NotIn) (rIn K true) := hK ▸ op_notIn_seq
theorem kpe_fld {f : Str} (ha : PE X e ta) (hb : attributeBase e f X.env (eval e X.env) = eval e X.env) (hK : X.K = K := by rfl) : PE X (.Attribute e f pos) (tFld K ta f) := hK ▸ pe_fld ha hb
theorem kpe_bm0 {T id : String} {name : Str} {r : V → List V → Hp → VK → Prop} (pa : PlainAttrs T) (slot : Slot T name id) (hty : typeOf (.builtin id) = pure (.type "method_descriptor")) (hm : MtR X id r) (ho : PE X o to)
    (hbase : attributeBase o name X.env (eval o X.env) = eval o X.env := by rfl) (hline : (apos.endLine == cpos.line) = true := by rfl) (hK : X.K = K := by rfl) : PE X (.Call (.Attribute o name apos) [] [] cpos) (tBM0 K T r to) := hK ▸ pe_bm0 pa slot hty hm ho hbase hline
theorem kpe_bm {T id : String} {name : Str} {r : V → List V → Hp → VK → Prop} (pa : PlainAttrs T) (slot : Slot T name id) (hty : typeOf (.builtin id) = pure (.type "method_descriptor")) (hm : MtR X id r) (ho : PE X o to) (ha : PA X (e :: es) t)
    (hbase : attributeBase o name X.env (eval o X.env) = eval o X.env := by rfl)
    (hfew : ((backTo cpos (starEach (e :: es) X.env)).all (fun x => !x.1) && (backToKw cpos (keywordEach [] X.env)).all (fun x => x.1.isSome)
      && decide ((e :: es).length + ([] : List Keyword).length + (if ([] : List Keyword).isEmpty then 0 else 1) < 30)) = true := by rfl)
    (hline : (apos.endLine == cpos.line) = true := by rfl) (hs : starEach (e :: es) X.env = (false, eval e X.env) :: starEach es X.env := by rfl) (hplain : (backTo cpos (starEach es X.env)).any (·.1) = false := by rfl) (hK : X.K = K := by rfl) :
    PE X (.Call (.Attribute o name apos) (e :: es) [] cpos) (tBM K T r to t) := hK ▸ pe_bm pa slot hty hm ho ha hbase hfew hline hs hplain
theorem kpe_revL {k' : Nat} {p1 p2 p3 pos : Pos} (he : PE X e te) (hK : X.K = K := by rfl) : PE X (.Subscript e (.Slice none none (some (.UnaryOp .USub (.Constant (.int 1) k' p1) p2)) p3) pos) (tRevL K te) := hK ▸ pe_revL he
end
end TH

namespace TH
open PySem PySem.Spec PyProof.Rows L2
abbrev D := PyData
/-- all that was tracked stands -/
def Ex (H H' : Hp) : Prop := ∀ a o, H a = some o → H' a = some o
theorem Ex.refl (H : Hp) : Ex H H := fun _ _ h => h
theorem Ex.trans {H H1 H2 : Hp} (a : Ex H H1) (b : Ex H1 H2) : Ex H H2 := fun x o h => b x o (a x o h)
theorem Ex.new {H : Hp} {p : Addr} {o : HO} (h : H p = none) : Ex H (upd H p o) := fun a u e => by
  rw [upd_ne (ne_of_none e h)]
  exact e
/-- an object that H does not know may change -/
theorem Ex.mut {H H' : Hp} {p : Addr} {o : HO} (e : Ex H H') (h : H p = none) : Ex H (upd H' p o) := fun a u ha => by
  rw [upd_ne (ne_of_none ha h)]
  exact e a u ha
theorem Ex.rd {H H' : Hp} {a : Addr} {u : HO} (e : Ex H H') (h : Rd H a u) : Rd H' a u := by
  rcases h with h | ⟨o, h⟩
  · exact Or.inl (e a _ h)
  · exact Or.inr ⟨o, e a _ h⟩
theorem Ex.l {K : PySem.W.Frag} {H H' : Hp} {a : Addr} {xs : List V} (e : Ex H H') (h : SqL K H a xs) : SqL K H' a xs := by
  rcases h with h | h
  · exact Or.inl (e.rd h)
  · exact Or.inr h
theorem Ex.t {K : PySem.W.Frag} {H H' : Hp} {a : Addr} {xs : List V} (e : Ex H H') (h : SqT K H a xs) : SqT K H' a xs := by
  rcases h with h | h
  · exact Or.inl (e.rd h)
  · exact Or.inr h
theorem sqL {K : PySem.W.Frag} {H : Hp} {a : Addr} {xs : List V} (h : H a = some (.lst xs)) : SqL K H a xs := Or.inl (Or.inl h)
theorem sqT {K : PySem.W.Frag} {H : Hp} {a : Addr} {xs : List V} (h : H a = some (.tup xs)) : SqT K H a xs := Or.inl (Or.inl h)
theorem Ex.fresh {H H' : Hp} {p : Addr} (e : Ex H H') (h : H' p = none) : H p = none := by
  cases h1 : H p with
  | none => rfl
  | some o =>
    rw [e p o h1] at h
    cases h
/-- the tuples stand (lists and dicts may change) -/
def Tx (H H' : Hp) : Prop := ∀ a xs, (H a = some (.tup xs) → H' a = some (.tup xs)) ∧ (∀ o, H a = some (.frz o (.tup xs)) → H' a = some (.frz o (.tup xs)))
theorem Ex.tx {H H' : Hp} (e : Ex H H') : Tx H H' := fun a xs => ⟨fun h => e a _ h, fun o h => e a _ h⟩
theorem Tx.refl (H : Hp) : Tx H H := (Ex.refl H).tx
theorem Tx.trans {H H1 H2 : Hp} (a : Tx H H1) (b : Tx H1 H2) : Tx H H2 := fun x xs => ⟨fun h => (b x xs).1 ((a x xs).1 h), fun o h => (b x xs).2 o ((a x xs).2 o h)⟩
/-- an object that is no tuple is written -/
theorem Tx.wr {H : Hp} {p : Addr} {o u : HO} (h : H p = some u) (hu : ∀ xs, u ≠ .tup xs) (hf : ∀ ob xs, u ≠ .frz ob (.tup xs)) : Tx H (upd H p o) := fun a xs =>
  ⟨fun e => by rw [upd_ne (fun z => by rw [z, h] at e; exact hu xs (Option.some.inj e))]; exact e,
   fun ob e => by rw [upd_ne (fun z => by rw [z, h] at e; exact hf ob xs (Option.some.inj e))]; exact e⟩
theorem Tx.updL {H : Hp} {p : Addr} {o : HO} {xs : List V} (h : H p = some (.lst xs)) : Tx H (upd H p o) := Tx.wr h (fun _ z => by cases z) fun _ _ z => by cases z
theorem Tx.updK {H : Hp} {p : Addr} {o : HO} {xs : List (Key × V)} (h : H p = some (.dK xs)) : Tx H (upd H p o) := Tx.wr h (fun _ z => by cases z) fun _ _ z => by cases z
theorem Tx.updT {H : Hp} {p : Addr} {o : HO} {xs : List (List Key × V)} (h : H p = some (.dT xs)) : Tx H (upd H p o) := Tx.wr h (fun _ z => by cases z) fun _ _ z => by cases z
theorem Tx.new {H : Hp} {p : Addr} {o : HO} (h : H p = none) : Tx H (upd H p o) := (Ex.new h).tx
theorem Tx.t {K : PySem.W.Frag} {H H' : Hp} {a : Addr} {xs : List V} (e : Tx H H') (h : SqT K H a xs) : SqT K H' a xs := by
  rcases h with (h | ⟨o, h⟩) | h
  · exact Or.inl (Or.inl ((e a xs).1 h))
  · exact Or.inl (Or.inr ⟨o, (e a xs).2 o h⟩)
  · exact Or.inr h
section
variable {K : PySem.W.Frag} {H H' : Hp}
mutual
theorem dp_ex (e : Ex H H') : ∀ (d : D) (v : V), Dp K H v d → Dp K H' v d
  | .none, _, h => by cases h; exact .non
  | .bool b, _, h => by cases h; exact .bl b
  | .int i, _, h => by cases h; exact .int i
  | .str x, _, h => by cases h; exact .str x
  | .list ds, _, h => by
    cases h with
    | lst hs ha => exact .lst (e.l hs) (dpa_ex e ds _ ha)
  | .tuple ds, _, h => by
    cases h with
    | tup hs ha => exact .tup (e.t hs) (dpa_ex e ds _ ha)
  | .dict _, _, h => by cases h
theorem dpa_ex (e : Ex H H') : ∀ (ds : List D) (vs : List V), DpAll K H vs ds → DpAll K H' vs ds
  | [], _, h => by cases h; exact .nil
  | d :: ds, _, h => by
    cases h with
    | cons h1 h2 => exact .cons (dp_ex e d _ h1) (dpa_ex e ds _ h2)
end
theorem Ex.dp {d : D} {v : V} (e : Ex H H') (h : Dp K H v d) : Dp K H' v d := dp_ex e d v h
theorem Ex.dpa {ds : List D} {vs : List V} (e : Ex H H') (h : DpAll K H vs ds) : DpAll K H' vs ds := dpa_ex e ds vs h
/-! no list within -/
mutual
def imm : D → Bool
  | .list _ => false
  | .tuple ds => immAll ds
  | .dict _ => false
  | _ => true
def immAll : List D → Bool
  | [] => true
  | d :: ds => imm d && immAll ds
end
mutual
theorem dp_tx (e : Tx H H') : ∀ (d : D) (v : V), imm d = true → Dp K H v d → Dp K H' v d
  | .none, _, _, h => by cases h; exact .non
  | .bool b, _, _, h => by cases h; exact .bl b
  | .int i, _, _, h => by cases h; exact .int i
  | .str x, _, _, h => by cases h; exact .str x
  | .list ds, _, i, h => by simp [imm] at i
  | .tuple ds, _, i, h => by
    cases h with
    | tup hs ha => exact .tup (e.t hs) (dpa_tx e ds _ (by simpa [imm] using i) ha)
  | .dict _, _, _, h => by cases h
theorem dpa_tx (e : Tx H H') : ∀ (ds : List D) (vs : List V), immAll ds = true → DpAll K H vs ds → DpAll K H' vs ds
  | [], _, _, h => by cases h; exact .nil
  | d :: ds, _, i, h => by
    have i' : imm d = true ∧ immAll ds = true := by simpa [immAll] using i
    cases h with
    | cons h1 h2 => exact .cons (dp_tx e d _ i'.1 h1) (dpa_tx e ds _ i'.2 h2)
end
theorem Tx.dp {d : D} {v : V} (e : Tx H H') (i : imm d = true) (h : Dp K H v d) : Dp K H' v d := dp_tx e d v i h
theorem Tx.dpa {ds : List D} {vs : List V} (e : Tx H H') (i : immAll ds = true) (h : DpAll K H vs ds) : DpAll K H' vs ds := dpa_tx e ds vs i h
theorem immAll_iff : ∀ {ds : List D}, immAll ds = true ↔ ∀ d ∈ ds, imm d = true
  | [] => by simp [immAll]
  | d :: ds => by simp [immAll, immAll_iff]
theorem immAll_append {ds es : List D} : immAll (ds ++ es) = true ↔ immAll ds = true ∧ immAll es = true := by
  simp only [immAll_iff, List.mem_append]
  exact ⟨fun h => ⟨fun d hd => h d (.inl hd), fun d hd => h d (.inr hd)⟩, fun h d hd => hd.elim (h.1 d) (h.2 d)⟩
theorem dpa_len : ∀ {vs : List V} {ds : List D}, DpAll K H vs ds → vs.length = ds.length
  | _, _, .nil => rfl
  | _, _, .cons _ t => by simp [dpa_len t]
theorem dpa_get : ∀ {vs : List V} {ds : List D} {i : Nat} {v : V}, DpAll K H vs ds → vs[i]? = some v → ∃ d, ds[i]? = some d ∧ Dp K H v d
  | _, _, _, _, .nil, e => by simp at e
  | _, _, 0, v, .cons h _, e => by
    simp at e
    subst e
    exact ⟨_, rfl, h⟩
  | _, _, i + 1, v, .cons _ t, e => by
    simp at e
    obtain ⟨d, h1, h2⟩ := dpa_get (i := i) t e
    exact ⟨d, by simpa using h1, h2⟩
theorem dpa_getD : ∀ {vs : List V} {ds : List D} {i : Nat} {d : D}, DpAll K H vs ds → ds[i]? = some d → ∃ v, vs[i]? = some v ∧ Dp K H v d
  | _, _, _, _, .nil, e => by simp at e
  | _, _, 0, v, .cons h _, e => by
    simp at e
    subst e
    exact ⟨_, rfl, h⟩
  | _, _, i + 1, v, .cons _ t, e => by
    simp at e
    obtain ⟨d, h1, h2⟩ := dpa_getD (i := i) t e
    exact ⟨d, by simpa using h1, h2⟩
theorem dpa_append : ∀ {vs ws : List V} {ds es : List D}, DpAll K H vs ds → DpAll K H ws es → DpAll K H (vs ++ ws) (ds ++ es)
  | _, _, _, _, .nil, s => s
  | _, _, _, _, .cons h t, s => .cons h (dpa_append t s)
theorem dpa_one {v : V} {d : D} (h : Dp K H v d) : DpAll K H [v] [d] := .cons h .nil
theorem dpa_snoc {vs : List V} {ds : List D} {v : V} {d : D} (t : DpAll K H vs ds) (h : Dp K H v d) : DpAll K H (vs ++ [v]) (ds ++ [d]) := dpa_append t (dpa_one h)
theorem dpa_ints : ∀ ns : List Int, DpAll K H (ns.map V.int) (ns.map PyData.int)
  | [] => .nil
  | n :: ns => .cons (.int n) (dpa_ints ns)
theorem dpa_ints_inv : ∀ {ns : List Int} {vs : List V}, DpAll K H vs (ns.map PyData.int) → vs = ns.map V.int
  | [], _, .nil => rfl
  | n :: ns, _, .cons h t => by
    cases h
    rw [dpa_ints_inv t]
    rfl
theorem dpa_take : ∀ {vs : List V} {ds : List D} (n : Nat), DpAll K H vs ds → DpAll K H (vs.take n) (ds.take n)
  | _, _, 0, _ => .nil
  | _, _, _ + 1, .nil => .nil
  | _, _, n + 1, .cons h t => .cons h (dpa_take n t)
theorem dpa_drop : ∀ {vs : List V} {ds : List D} (n : Nat), DpAll K H vs ds → DpAll K H (vs.drop n) (ds.drop n)
  | _, _, 0, r => r
  | _, _, _ + 1, .nil => .nil
  | _, _, n + 1, .cons _ t => dpa_drop n t
theorem dpa_rev : ∀ {vs : List V} {ds : List D}, DpAll K H vs ds → DpAll K H vs.reverse ds.reverse
  | _, _, .nil => .nil
  | _, _, .cons h t => by
    rw [List.reverse_cons, List.reverse_cons]
    exact dpa_snoc (dpa_rev t) h
theorem dpa_set {v : V} {d : D} (h : Dp K H v d) : ∀ {vs : List V} {ds : List D} (i : Nat), DpAll K H vs ds → DpAll K H (vs.set i v) (ds.set i d)
  | _, _, _, .nil => .nil
  | _, _, 0, .cons _ t => .cons h t
  | _, _, i + 1, .cons q t => .cons q (dpa_set h i t)
theorem dpa_erase : ∀ {vs : List V} {ds : List D} (i : Nat), DpAll K H vs ds → DpAll K H (vs.eraseIdx i) (ds.eraseIdx i)
  | _, _, _, .nil => .nil
  | _, _, 0, .cons _ t => t
  | _, _, i + 1, .cons q t => .cons q (dpa_erase i t)
end
/-- a row of ints | rows -/
def row (ns : List Int) : D := .tuple (ns.map .int)
def rowsT (rs : List (List Int)) : D := .tuple (rs.map row)
def rowsL (rs : List (List Int)) : D := .list (rs.map row)
theorem imm_row (ns : List Int) : imm (row ns) = true := by
  unfold row imm
  rw [immAll_iff]
  intro d hd
  obtain ⟨n, _, rfl⟩ := List.mem_map.mp hd
  rfl
theorem imm_rows (rs : List (List Int)) : immAll (rs.map row) = true := by
  rw [immAll_iff]
  intro d hd
  obtain ⟨n, _, rfl⟩ := List.mem_map.mp hd
  exact imm_row n
section
variable {K : PySem.W.Frag} {H H' : Hp}
theorem dp_row {v : V} {ns : List Int} (h : Dp K H v (row ns)) : ∃ a, v = .ref a ∧ SqT K H a (ns.map V.int) := by
  unfold row at h
  cases h with
  | tup hs ha =>
    rw [dpa_ints_inv ha] at hs
    exact ⟨_, rfl, hs⟩
theorem dp_row_of {a : Addr} {ns : List Int} (h : SqT K H a (ns.map V.int)) : Dp K H (.ref a) (row ns) := .tup h (dpa_ints ns)
end
/-! ### sorted(xs), xs a list of data -/
open PySem.W in
def rSortedD (K : PySem.W.Frag) : List V → Hp → VK → Prop := fun xs H Q => ∃ (a : Addr) (vs : List V) (ds : List D), xs = [.ref a] ∧ SqL K H a vs ∧ DpAll K H vs ds ∧ AllAlike ds ∧ Sortable ds ∧ (∀ d ∈ ds, d.depth ≤ 50) ∧
  ∀ (ws : List V) (p : Addr), H p = none → DpAll K H ws (ds.mergeSort (dataLe false id)) → Q (.ref p) (upd H p (.lst ws))
section
open PySem.W
variable {X : Cx} {K : PySem.W.Frag}
theorem each_of {H : Hp} {R : V → Value → Prop} : ∀ {vs : List V} {us : List Value} {ds : List D}, Paired R vs us → DpAll K H vs ds → EachIs (fun (u : Value) (b : V × D) => R b.1 u ∧ Dp K H b.1 b.2) us (vs.zip ds)
  | _, _, _, .nil, .nil => .nil
  | _, _, _, .cons r t, .cons h q => .cons ⟨r, h⟩ (each_of t q)
theorem each_back {H : Hp} : ∀ {us : List Value} {bs : List (V × D)}, EachIs (fun (u : Value) (b : V × D) => RelV b.1 u ∧ Dp K H b.1 b.2) us bs → Vals (bs.map (·.1)) us ∧ DpAll K H (bs.map (·.1)) (bs.map (·.2))
  | _, _, .nil => ⟨.nil, .nil⟩
  | _, _, .cons h t => ⟨.cons h.1 (each_back t).1, .cons h.2 (each_back t).2⟩
theorem dataLe_map {β : Type} (f : β → D) (a b : β) : dataLe false f a b = dataLe false id (f a) (f b) := rfl
theorem call_sortedD (hu : X.A.units + 64 < cLine) (hK : X.K = K := by rfl) : CallR X (.builtin "sorted") (rSortedD K) := by
  subst hK
  intro pins s σ H xs us Q I r h
  obtain ⟨a, vs, ds, rfl, hs, hd, al, so, dep, q⟩ := h
  obtain ⟨its, rv, hl, hz⟩ := I.list hs
  rw [Vals.ref1 r]
  have e := each_of rv hd
  have hle : vs.length = ds.length := dpa_len hd
  have em : (vs.zip ds).map (·.2) = ds := by
    rw [List.map_snd_zip]
    omega
  have er : EachIs (fun (u : Value) (b : V × D) => ∃ as, Reads s.heap u b.2 as) its (vs.zip ds) := e.mono fun u b hb => Dp.reads I b.2 b.1 u hb.2 hb.1
  have hzl : (vs.zip ds).length = its.length := e.length.symm
  refine sorted_data (enc := fun b : V × D => b.2) hl.isList e er (by rw [em]; exact al) (by rw [em]; exact so) (by rw [hzl, ← rv.length]; exact hz) (fun b hb => ?_) fun out hol heo => ?_
  · have : b.2 ∈ ds := by
      rw [← em]
      exact List.mem_map.mpr ⟨b, hb, rfl⟩
    have := dep b.2 this
    show X.A.units + 2 + b.2.depth < cLine
    omega
  · obtain ⟨ep, he'⟩ := PyProof.Rows.sortedAll_at s.heap its out.toArray
    obtain ⟨hv, hda⟩ := each_back heo
    have e2 : ((vs.zip ds).mergeSort (dataLe false fun b : V × D => b.2)).map (·.2) = ds.mergeSort (dataLe false id) := by
      rw [sort_maps (s := dataLe false id) (fun b : V × D => b.2) (fun a _ b _ => dataLe_map _ a b), em]
    rw [e2] at hda
    refine ⟨.ref _, upd H (s.heap.objs.size + 1) (.lst _), I.laid (t' := s.toks) (fun _ _ => PyProof.Rows.sortedAll_old) (Nat.le_succ _) ⟨?_, out, ep, hv, he'⟩, rfl, q _ _ (I.hok.fresh (Nat.le_succ _)) hda⟩
    rw [hv.length, hol, hzl, ← rv.length]
    exact hz
end
end TH

namespace TH
open PySem PySem.Spec PyProof.Rows L2
/-! ### the readings, one step each -/
section
variable {K : PySem.W.Frag} {σ σ' : L2.St} {H : Hp} {Q : VK} {QB : Bool → Hp → Prop} {QA : List V → Hp → Prop} {D : Ends} {ta tb tc te : TE} {t u : TT} {s1 s2 : TS} {r r' : R2} {v w : V} {i : Nat} {tr : TA} {g : TG}
theorem w_start {s : TS} (h : σ = σ') (k : s D σ' H) : s D σ H := h ▸ k
theorem w_var (h : σ[i]? = some (some v)) (k : Q v H) : tVar i σ H Q := ⟨v, h, k⟩
theorem w_c (k : Q v H) : tC v σ H Q := k
theorem w_op (k : ta σ H fun x H1 => tb σ H1 fun y H2 => r x y H2 Q) : tOp r ta tb σ H Q := k
theorem w_un {r : V → Hp → VK → Prop} (k : ta σ H fun x H1 => r x H1 Q) : tUn r ta σ H Q := k
theorem w_chain (k : ta σ H fun x H1 => tb σ H1 fun y H2 => r x y H2 fun z H3 => ∃ k, z = .bl k ∧ (if k = true then tc σ H3 fun w' H4 => r' y w' H4 Q else Q (.bl false) H3)) : tChain r r' ta tb tc σ H Q := k
theorem w_I0 {f : Int → Int → V} {a b : Int} (k : Q (f a b) H) : rI0 f (.int a) (.int b) H Q := ⟨a, b, rfl, rfl, k⟩
theorem w_I {C : Int → Int → Prop} {f : Int → Int → V} {a b : Int} (hc : C a b) (k : Q (f a b) H) : rI C f (.int a) (.int b) H Q := ⟨a, b, rfl, rfl, hc, k⟩
theorem w_U {f : Int → V} {a : Int} (k : Q (f a) H) : rU f (.int a) H Q := ⟨a, rfl, k⟩
theorem w_eq (h : scal v w = true) (k : Q (.bl (decide (v = w))) H) : rEq v w H Q := ⟨h, k⟩
theorem w_eqI {a b : Int} (k : Q (.bl (decide (a = b))) H) : rEq (.int a) (.int b) H Q := ⟨rfl, by
  have e : decide (V.int a = V.int b) = decide (a = b) := by
    by_cases h : a = b
    · subst h; simp
    · rw [decide_eq_false h, decide_eq_false (fun z => h (V.int.inj z))]
  rw [e]; exact k⟩
theorem w_neI {a b : Int} (k : Q (.bl (!decide (a = b))) H) : rNe (.int a) (.int b) H Q := ⟨rfl, by
  have e : decide (V.int a = V.int b) = decide (a = b) := by
    by_cases h : a = b
    · subst h; simp
    · rw [decide_eq_false h, decide_eq_false (fun z => h (V.int.inj z))]
  rw [e]; exact k⟩
theorem w_eqB {a b : Bool} (k : Q (.bl (decide (a = b))) H) : rEq (.bl a) (.bl b) H Q := ⟨rfl, by
  have e : decide (V.bl a = V.bl b) = decide (a = b) := by cases a <;> cases b <;> rfl
  rw [e]; exact k⟩
theorem w_ne (h : scal v w = true) (k : Q (.bl (!decide (v = w))) H) : rNe v w H Q := ⟨h, k⟩
theorem w_isN {R : Prop} (k : R) : V.non = V.non ∧ R := ⟨rfl, k⟩
theorem w_tup (h : ∀ xs, QA xs H → True) (k : tr σ H fun xs H1 => xs.length ≤ sizeLine ∧ ∀ p, H1 p = none → Q (.ref p) (upd H1 p (.tup xs))) : tTup tr σ H Q := k
theorem w_nil (k : QA [] H) : tNil σ H QA := k
theorem w_cons (k : ta σ H fun x H1 => tr σ H1 fun xs H2 => QA (x :: xs) H2) : tCons ta tr σ H QA := k
theorem w_test (k : te σ H fun x H' => ∃ k, x = .bl k ∧ QB k H') : tTest te σ H QB := k
theorem w_B (k : te σ H fun x H' => ∃ k, x = .bl k ∧ QB k H') : tB te σ H QB := k
theorem w_bl {b : Bool} {R : Bool → Prop} (k : R b) : ∃ k, V.bl b = .bl k ∧ R k := ⟨b, rfl, k⟩
theorem w_and (k : t σ H fun c H1 => if c = true then u σ H1 QB else QB false H1) : tAnd t u σ H QB := k
theorem w_or (k : t σ H fun c H1 => if c = true then QB true H1 else u σ H1 QB) : tOr t u σ H QB := k
theorem w_not (k : t σ H fun c H1 => QB (!c) H1) : tNot t σ H QB := k
theorem w_andV (k : ta σ H fun x H1 => ∃ c, x = .bl c ∧ if c = true then tb σ H1 Q else Q (.bl false) H1) : tAndV ta tb σ H Q := k
theorem w_orV (k : ta σ H fun x H1 => ∃ c, x = .bl c ∧ if c = true then Q (.bl true) H1 else tb σ H1 Q) : tOrV ta tb σ H Q := k
theorem w_notV (k : ta σ H fun x H1 => ∃ c, x = .bl c ∧ Q (.bl (!c)) H1) : tNotV ta σ H Q := k
theorem w_if (k : t σ H fun c H1 => if c = true then ta σ H1 Q else tb σ H1 Q) : tIf t ta tb σ H Q := k
theorem w_seq (k : s1 { D with nx := s2 D } σ H) : tSeq s1 s2 D σ H := k
theorem w_asg (k : te σ H fun x H1 => g x σ H1 D.nx) : tAsg te g D σ H := k
theorem w_gname {QS : L2.St → Hp → Prop} (h : σ.set i (some v) = σ') (k : QS σ' H) : gName i v σ H QS := by
  show QS (σ.set i (some v)) H
  rw [h]
  exact k
theorem w_par {v w : V} {R : V → V → Prop} (k : R v w) : ∃ v' w', [v, w] = [v', w'] ∧ R v' w' := ⟨v, w, rfl, k⟩
theorem w_nx {QS : L2.St → Hp → Prop} (h : σ = σ') (k : QS σ' H) : QS σ H := h ▸ k
theorem w_parT {i j : Nat} (k : tr σ H fun vs H1 => ∃ v w, vs = [v, w] ∧ D.nx ((σ.set i (some v)).set j (some w)) H1) : tPar i j tr D σ H := k
theorem w_ret (k : te σ H D.rt) : tRet te D σ H := k
theorem w_drop (k : te σ H fun _ H1 => D.nx σ H1) : tDrop te D σ H := k
theorem w_ifS (k : t σ H fun b H1 => if b = true then s1 D σ H1 else s2 D σ H1) : tIfS t s1 s2 D σ H := k
theorem w_next (k : D.nx σ H) : tNext D σ H := k
theorem w_cb {r : List V → Hp → VK → Prop} (k : tr σ H fun vs H1 => r vs H1 Q) : tCB r tr σ H Q := k
theorem w_call {sp : Sp} {dvs : List V} {E : XK} (k : tr σ H fun vs H1 => sp (vs ++ dvs) H1 Q E) : tCall sp dvs E tr σ H Q := k
theorem w_aug {ti : TIp} (h : σ[i]? = some (some v)) (k : te σ H fun y H1 => ti v y H1 fun z H2 => D.nx (σ.set i (some z)) H2) : tAug i te ti D σ H := ⟨v, h, k⟩
theorem w_ip {f : Int → Int → Int} {a b : Int} (k : Q (.int (f a b)) H) : ipI f (.int a) (.int b) H Q := ⟨a, b, rfl, rfl, k⟩
theorem w_bm {T : String} {rm : V → List V → Hp → VK → Prop} (k : ta σ H fun x H1 => tyV K T x H1 ∧ tr σ H1 fun xs H2 => rm x xs H2 Q) : tBM K T rm ta tr σ H Q := k
theorem w_sl {rs : V → Option Int → Option Int → Hp → VK → Prop} {tl th : TO} (k : te σ H fun x H1 => tl σ H1 fun l H2 => th σ H2 fun u H3 => rs x l u H3 Q) : tSl rs te tl th σ H Q := k
theorem w_np {QO : Option Int → Hp → Prop} (k : QO none H) : tNoPart σ H QO := k
theorem w_pt {QO : Option Int → Hp → Prop} (k : te σ H fun x H1 => ∃ i, x = .int i ∧ QO (some i) H1) : tPart te σ H QO := k
theorem w_pti {R : Int → Prop} {a : Int} (k : R a) : ∃ i, V.int a = .int i ∧ R i := ⟨a, rfl, k⟩
theorem w_gsub {to ti : TE} {ts : TSet} {QS : L2.St → Hp → Prop} (k : to σ H fun o H1 => ti σ H1 fun i H2 => ts o i v H2 fun H3 => QS σ H3) : gSub to ti ts v σ H QS := k
theorem w_ixL {p : Addr} {xs : List V} {j : Int} (hs : SqL K H p xs) (ha : atI xs j = some v) (k : Q v H) : rIxL K (.ref p) (.int j) H Q := ⟨p, xs, j, v, rfl, rfl, hs, ha, k⟩
theorem w_ixT {p : Addr} {xs : List V} {j : Int} (hs : SqT K H p xs) (ha : atI xs j = some v) (k : Q v H) : rIxT K (.ref p) (.int j) H Q := ⟨p, xs, j, v, rfl, rfl, hs, ha, k⟩
theorem w_int {a : Int} {R : Int → Prop} {S : Bool → Prop} (k : R a) : (∃ i, [V.int a] = [V.int i] ∧ R i) ∨ ∃ k : Bool, [V.int a] = [V.bl k] ∧ S k := .inl ⟨a, rfl, k⟩
theorem w_dec {p : Prop} [Decidable p] {A B : Prop} (h1 : p → A) (h2 : ¬ p → B) : if decide p = true then A else B := by
  by_cases h : p
  · rw [decide_eq_true h, if_pos rfl]; exact h1 h
  · rw [decide_eq_false h, if_neg Bool.false_ne_true]; exact h2 h
theorem w_decN {p : Prop} [Decidable p] {A B : Prop} (h1 : ¬ p → A) (h2 : p → B) : if (!decide p) = true then A else B := by
  by_cases h : p
  · rw [decide_eq_true h]; simp; exact h2 h
  · rw [decide_eq_false h]; simp; exact h1 h
theorem w_bool {b : Bool} {A B : Prop} (h1 : b = true → A) (h2 : b = false → B) : if b = true then A else B := by
  cases b with
  | true => rw [if_pos rfl]; exact h1 rfl
  | false => rw [if_neg Bool.false_ne_true]; exact h2 rfl
theorem w_T {A B : Prop} (h : A) : if true = true then A else B := by rw [if_pos rfl]; exact h
theorem w_F {A B : Prop} (h : B) : if false = true then A else B := by rw [if_neg Bool.false_ne_true]; exact h
end
section
variable {K : PySem.W.Frag} {H : Hp} {Q : VK} {v : V} {d : D}
/-- the type's name of data -/
def tyName : D → String
  | .none => "NoneType"
  | .bool _ => "bool"
  | .int _ => "int"
  | .str _ => "str"
  | .list _ => "list"
  | .tuple _ => "tuple"
  | .dict _ => "dict"
theorem dp_ty (h : Dp K H v d) : TyX K H v (.type (tyName d)) := by
  cases h with
  | non => exact .base .non
  | bl b => exact .base (.bl b)
  | int i => exact .base (.int i)
  | str x => exact .base (.str x)
  | lst hs _ =>
    rcases hs with (hs | ⟨o, hs⟩) | ⟨o, its, n, hk, hc, _⟩
    · exact .base (.lst hs)
    · exact .base (.frz hs)
    · exact .kList hk hc
  | tup hs _ =>
    rcases hs with (hs | ⟨o, hs⟩) | ⟨o, its, n, hk, hc, _⟩
    · exact .base (.tup hs)
    · exact .fTuple hs
    · exact .kTuple hk hc
def isInt : D → Bool
  | .int _ => true
  | _ => false
def isBool : D → Bool
  | .bool _ => true
  | _ => false
def isTup : D → Bool
  | .tuple _ => true
  | _ => false
def isLst : D → Bool
  | .list _ => true
  | _ => false
theorem w_isInt (h : Dp K H v d) (k : Q (.bl (isInt d || isBool d)) H) : rIsi K [v, .ty "int"] H Q := by
  refine ⟨v, .ty "int", .type (tyName d), .type "int", isInt d || isBool d, rfl, .ty "int", dp_ty h, ?_, k⟩
  refine kit_ty ?_
  cases h <;> simp only [tyName, isInt, isBool, isTup, isLst, Bool.or_self, Bool.or_false, Bool.false_or, Bool.or_true, Bool.true_or] <;> decide +kernel
theorem w_isBool (h : Dp K H v d) (k : Q (.bl (isBool d)) H) : rIsi K [v, .ty "bool"] H Q := by
  refine ⟨v, .ty "bool", .type (tyName d), .type "bool", isBool d, rfl, .ty "bool", dp_ty h, ?_, k⟩
  refine kit_ty ?_
  cases h <;> simp only [tyName, isInt, isBool, isTup, isLst, Bool.or_self, Bool.or_false, Bool.false_or, Bool.or_true, Bool.true_or] <;> decide +kernel
theorem w_isTup (h : Dp K H v d) (k : Q (.bl (isTup d)) H) : rIsi K [v, .ty "tuple"] H Q := by
  refine ⟨v, .ty "tuple", .type (tyName d), .type "tuple", isTup d, rfl, .ty "tuple", dp_ty h, ?_, k⟩
  refine kit_ty ?_
  cases h <;> simp only [tyName, isInt, isBool, isTup, isLst, Bool.or_self, Bool.or_false, Bool.false_or, Bool.or_true, Bool.true_or] <;> decide +kernel
theorem kit2 {t a b : String} {x y : Bool} (h1 : kitB t a = some x) (h2 : kitB t b = some y) : PySem.W.kitAny K (.type t) [.type a, .type b] = some (x || y) := by
  refine kitAny_cons (kit_ty h1) (fun e => ?_) (fun e => by rw [e]; rfl)
  rw [e, Bool.false_or]
  exact kitAny_cons (kit_ty h2) (fun e2 => by rw [e2]; rfl) (fun e2 => e2)
theorem w_isTL (h : Dp K H v d) {p : Addr} (hp : H p = some (.tup [.ty "tuple", .ty "list"])) (k : Q (.bl (isTup d || isLst d)) H) : rIsiT K [v, .ref p] H Q := by
  refine ⟨v, p, _, .type (tyName d), [.type "tuple", .type "list"], isTup d || isLst d, rfl, hp, .cons (.ty _) (.cons (.ty _) .nil), dp_ty h, ?_, k⟩
  refine kit2 ?_ ?_ <;> cases h <;> simp only [tyName, isInt, isBool, isTup, isLst, Bool.or_self, Bool.or_false, Bool.false_or, Bool.or_true, Bool.true_or] <;> decide +kernel
theorem w_isLT (h : Dp K H v d) {p : Addr} (hp : H p = some (.tup [.ty "list", .ty "tuple"])) (k : Q (.bl (isLst d || isTup d)) H) : rIsiT K [v, .ref p] H Q := by
  refine ⟨v, p, _, .type (tyName d), [.type "list", .type "tuple"], isLst d || isTup d, rfl, hp, .cons (.ty _) (.cons (.ty _) .nil), dp_ty h, ?_, k⟩
  refine kit2 ?_ ?_ <;> cases h <;> simp only [tyName, isInt, isBool, isTup, isLst, Bool.or_self, Bool.or_false, Bool.false_or, Bool.or_true, Bool.true_or] <;> decide +kernel
end
theorem bo_f (b : Bool) : (false || b) = b := rfl
theorem bo_t (b : Bool) : (true || b) = true := rfl
theorem ba_f (b : Bool) : (false && b) = false := rfl
theorem ba_t (b : Bool) : (true && b) = b := rfl
theorem bn_t : (!true) = false := rfl
theorem bn_f : (!false) = true := rfl
theorem small2 {n : Nat} (h : n ≤ 1000000 := by decide) : n ≤ sizeLine := Nat.le_trans h (by rw [sizeLine_eq]; decide)
section
variable {K : PySem.W.Frag} {σ : L2.St} {H : Hp} {Q : VK} {tr : TA}
/-- a tuple, a list displayed -/
theorem w_disp {vs : List V} {H1 : Hp} {o : List V → HO} (hl : vs.length ≤ 1000000) (k : ∀ p, H1 p = none → Q (.ref p) (upd H1 p (o vs))) : vs.length ≤ sizeLine ∧ ∀ p, H1 p = none → Q (.ref p) (upd H1 p (o vs)) := ⟨small2 hl, k⟩
theorem w_dispT {vs : List V} {H1 : Hp} {R : Addr → Prop} (hl : vs.length ≤ 1000000) (k : ∀ p, H1 p = none → R p) : vs.length ≤ sizeLine ∧ ∀ p, H1 p = none → R p := ⟨small2 hl, k⟩
theorem w_tupT (k : tr σ H fun xs H1 => xs.length ≤ sizeLine ∧ ∀ p, H1 p = none → Q (.ref p) (upd H1 p (.tup xs))) : tTup tr σ H Q := k
theorem w_lstT (k : tr σ H fun xs H1 => xs.length ≤ sizeLine ∧ ∀ p, H1 p = none → Q (.ref p) (upd H1 p (.lst xs))) : tLst tr σ H Q := k
end
end TH

namespace TH
open PySem PySem.Spec PyProof.Rows L2
section
variable {K : PySem.W.Frag} {a b : Addr} {xs ys : List V}
theorem walk_zipT {n : Nat} (hn : n = min xs.length ys.length) : Walk (RZ.ItzT K a b) n (fun H => SqT K H a xs ∧ SqT K H b ys) (YPair (fun i => xs[i]?) (fun i => ys[i]?)) := by
  subst hn
  refine ⟨fun i _ hi q => ?_, fun _ q => ⟨xs, ys, q.1, q.2, by omega⟩, fun i H v H' _ q y => ?_⟩
  · have h1 : i < xs.length := by omega
    have h2 : i < ys.length := by omega
    exact ⟨xs, ys, xs[i], ys[i], q.1, q.2, by simp [h1], by simp [h2]⟩
  · obtain ⟨T, x, z, h1, h2, h3, h4, h5⟩ := y
    exact ⟨T, x, z, h1, h2, h3, h4 xs q.1, h5 ys q.2⟩
end
section
variable {J : It} {n : Nat} {G : Hp → Prop} {Y : Nat → Hp → V → Hp → Prop} {K : PySem.W.Frag} {g : TG} {tt : TT} {te : TE} {vs : List Nat} {σ : L2.St} {H H1 : Hp} {Dl : Addr} {Q : VK} {wi : TI}
theorem w_lc (k : wi σ H fun J H1 => ∀ D, H1 D = none → ∃ W : Nat → Nat → Hp → Prop, (∃ m, W 0 m (upd H1 D (.lst []))) ∧ ∀ i m H, W i m H →
      (J.stop i H ∧ Q (.ref D) H) ∨ (J.go i H ∧ ∃ Nx : Hp → Prop, (∀ H', Nx H' → ∃ m', m' < m ∧ W (i + 1) m' H') ∧ ∀ x H', J.yld i H x H' → g x (wipe σ vs) H' fun σ2 H2 => wipe σ2 vs = wipe σ vs ∧ tt σ2 H2 fun b H3 =>
        if b = true then te σ2 H3 fun y H4 => ∃ acc, H4 D = some (.lst acc) ∧ acc.length < sizeLine ∧ Nx (upd H4 D (.lst (acc ++ [y]))) else Nx H3)) : tLc wi g tt te vs σ H Q := k
/-- the data of the turns that are kept -/
def made (n : Nat) (keep : Nat → Bool) (gd : Nat → D) : List D := ((List.range n).filter keep).map gd
theorem made_yes {n : Nat} {f : Nat → Bool} {v : Nat → D} (h : f n = true) : made (n + 1) f v = made n f v ++ [v n] := by
  unfold made
  rw [List.range_succ, List.filter_append, List.map_append, List.filter_cons, if_pos h] <;> rfl
theorem made_no {n : Nat} {f : Nat → Bool} {v : Nat → D} (h : f n = false) : made (n + 1) f v = made n f v := by
  unfold made
  rw [List.range_succ, List.filter_append, List.map_append, List.filter_cons, if_neg (by rw [h]; decide)]
  show _ ++ [] = _
  rw [List.append_nil]
theorem made_len (n : Nat) (f : Nat → Bool) (v : Nat → D) : (made n f v).length ≤ n := by
  unfold made
  rw [List.length_map]
  have h := List.length_filter_le f (List.range n)
  rw [List.length_range] at h
  exact h
theorem made_all (n : Nat) (v : Nat → D) : made n (fun _ => true) v = (List.range n).map v := by
  unfold made
  rw [List.filter_eq_self.mpr (fun _ _ => rfl)]
theorem made_imm {n : Nat} {f : Nat → Bool} {v : Nat → D} (h : ∀ i, imm (v i) = true) : immAll (made n f v) = true := by
  rw [immAll_iff]
  intro d hd
  obtain ⟨i, _, rfl⟩ := List.mem_map.mp hd
  exact h i
theorem lc_it' {σ0 : L2.St} {C : L2.St → Prop} {Qd : Hp → Prop} (w : Walk J n G Y) (Pv : Nat → Hp → Prop) (h0 : Pv 0 (upd H1 Dl (.lst []))) (hG : ∀ i H, i ≤ n → Pv i H → G H)
    (hs : ∀ i x H H', i < n → Pv i H → Y i H x H' → g x σ0 H' fun σ2 H2 => C σ2 ∧ tt σ2 H2 fun b H3 =>
      if b = true then te σ2 H3 fun y H4 => ∃ acc, H4 Dl = some (.lst acc) ∧ acc.length < sizeLine ∧ Pv (i + 1) (upd H4 Dl (.lst (acc ++ [y]))) else Pv (i + 1) H3) (hd : ∀ H, Pv n H → Qd H) :
    ∃ W : Nat → Nat → Hp → Prop, (∃ m, W 0 m (upd H1 Dl (.lst []))) ∧ ∀ i m H, W i m H →
      (J.stop i H ∧ Qd H) ∨ (J.go i H ∧ ∃ Nx : Hp → Prop, (∀ H', Nx H' → ∃ m', m' < m ∧ W (i + 1) m' H') ∧ ∀ x H', J.yld i H x H' → g x σ0 H' fun σ2 H2 => C σ2 ∧ tt σ2 H2 fun b H3 =>
        if b = true then te σ2 H3 fun y H4 => ∃ acc, H4 Dl = some (.lst acc) ∧ acc.length < sizeLine ∧ Nx (upd H4 Dl (.lst (acc ++ [y]))) else Nx H3) := by
  refine ⟨fun i m H => m = n - i ∧ i ≤ n ∧ Pv i H, ⟨n, by simp, Nat.zero_le _, h0⟩, ?_⟩
  rintro i m H ⟨rfl, hi, p⟩
  have q := hG i H hi p
  by_cases hlt : i < n
  · refine .inr ⟨w.goes i H hlt q, Pv (i + 1), fun H' p' => ⟨n - (i + 1), by omega, rfl, hlt, p'⟩, fun x H' y => hs i x H H' hlt p (w.yields i H x H' hlt q y)⟩
  · have e : i = n := by omega
    subst e
    exact .inl ⟨w.stops H q, hd H p⟩
/-- what a comprehension makes, whose turns keep all that was tracked -/
theorem lc_data {σ0 : L2.St} {C : L2.St → Prop} {Qd : Hp → Prop} (w : Walk J n G Y) (keep : Nat → Bool) (gd : Nat → D) (himm : ∀ i, imm (gd i) = true) (hG : ∀ H', Ex H1 H' → G H') (hD : H1 Dl = none) (hn : n ≤ 1000000)
    (hs : ∀ i x H' H'', i < n → Ex H1 H' → Y i H' x H'' → ∀ (R : VK) (R0 : Hp → Prop), (keep i = true → ∀ v H3, Ex H' H3 → Dp K H3 v (gd i) → R v H3) → (keep i = false → ∀ H3, Ex H' H3 → R0 H3) →
      g x σ0 H'' fun σ2 H2 => C σ2 ∧ tt σ2 H2 fun b H3 => if b = true then te σ2 H3 R else R0 H3)
    (k : ∀ H' ws, Ex H1 H' → H' Dl = some (.lst ws) → DpAll K H' ws (made n keep gd) → Qd H') :
    ∃ W : Nat → Nat → Hp → Prop, (∃ m, W 0 m (upd H1 Dl (.lst []))) ∧ ∀ i m H, W i m H →
      (J.stop i H ∧ Qd H) ∨ (J.go i H ∧ ∃ Nx : Hp → Prop, (∀ H', Nx H' → ∃ m', m' < m ∧ W (i + 1) m' H') ∧ ∀ x H', J.yld i H x H' → g x σ0 H' fun σ2 H2 => C σ2 ∧ tt σ2 H2 fun b H3 =>
        if b = true then te σ2 H3 fun y H4 => ∃ acc, H4 Dl = some (.lst acc) ∧ acc.length < sizeLine ∧ Nx (upd H4 Dl (.lst (acc ++ [y]))) else Nx H3) := by
  refine lc_it' w (fun i H' => Ex H1 H' ∧ ∃ ws, H' Dl = some (.lst ws) ∧ DpAll K H' ws (made i keep gd)) ⟨Ex.new hD, [], upd_same, .nil⟩ (fun i H' _ p => hG H' p.1) (fun i x H' H'' hi p y => ?_) (fun H' p => ?_)
  · obtain ⟨p1, ws, p2, p3⟩ := p
    refine hs i x H' H'' hi p1 y _ _ (fun hk v H3 e3 hv => ?_) (fun hk H3 e3 => ?_)
    · have q2 : H3 Dl = some (.lst ws) := e3 _ _ p2
      refine ⟨ws, q2, Nat.lt_of_le_of_lt (by rw [dpa_len p3]; exact made_len i keep gd) (Nat.lt_of_lt_of_le hi (small2 hn)), (p1.trans e3).mut hD, ws ++ [v], upd_same, ?_⟩
      rw [made_yes hk]
      exact dpa_snoc ((Tx.updL q2).dpa (made_imm himm) (e3.dpa p3)) ((Tx.updL q2).dp (himm i) hv)
    · refine ⟨p1.trans e3, ws, e3 _ _ p2, ?_⟩
      rw [made_no hk]
      exact e3.dpa p3
  · obtain ⟨p1, ws, p2, p3⟩ := p
    exact k H' ws p1 p2 p3
theorem for_go {nxD : L2.St → Hp → Prop} {rtD : VK} {tb : TS} (w : Walk J n G Y) (Pv : Nat → L2.St → Hp → Prop) (h0 : Pv 0 σ H) (hG : ∀ i σ H, i ≤ n → Pv i σ H → G H)
    (hs : ∀ i x σ H H', i < n → Pv i σ H → Y i H x H' → g x σ H' fun σ2 H2 => tb { nx := Pv (i + 1), rt := rtD, bk := nxD, ct := Pv (i + 1) } σ2 H2) (hd : ∀ σ H, Pv n σ H → nxD σ H) :
    ∃ W : Nat → Nat → L2.St → Hp → Prop, (∃ m, W 0 m σ H) ∧ ∀ i m σ H, W i m σ H →
      (J.stop i H ∧ nxD σ H) ∨ (J.go i H ∧ ∃ N : L2.St → Hp → Prop, (∀ σ' H', N σ' H' → ∃ m', m' < m ∧ W (i + 1) m' σ' H') ∧ ∀ x H', J.yld i H x H' → g x σ H' fun σ2 H2 => tb { nx := N, rt := rtD, bk := nxD, ct := N } σ2 H2) :=
  for_it (D := { nx := nxD, rt := rtD }) w Pv h0 hG hs hd
theorem w_gtup {a : Addr} {xs : List V} {m : Nat} {t : TGs} {QS : L2.St → Hp → Prop} (h : SqT K H a xs) (hl : xs.length = m) (k : t xs σ H QS) : gTup K m t (.ref a) σ H QS := ⟨a, xs, rfl, h, hl, k⟩
theorem w_gtup1 {a : Addr} {x : V} {t : TGs} {QS : L2.St → Hp → Prop} (h : H a = some (.tup [x])) (k : t [x] σ H QS) : gTup K 1 t (.ref a) σ H QS := ⟨a, _, rfl, sqT h, rfl, k⟩
theorem w_gtup2 {a : Addr} {x y : V} {t : TGs} {QS : L2.St → Hp → Prop} (h : H a = some (.tup [x, y])) (k : t [x, y] σ H QS) : gTup K 2 t (.ref a) σ H QS := ⟨a, _, rfl, sqT h, rfl, k⟩
theorem w_gtup3 {a : Addr} {x y z : V} {t : TGs} {QS : L2.St → Hp → Prop} (h : H a = some (.tup [x, y, z])) (k : t [x, y, z] σ H QS) : gTup K 3 t (.ref a) σ H QS := ⟨a, _, rfl, sqT h, rfl, k⟩
theorem w_gcons {v : V} {r : List V} {t : TG} {u : TGs} {QS : L2.St → Hp → Prop} (k : t v σ H fun σ' H' => u r σ' H' QS) : gCons t u (v :: r) σ H QS := ⟨v, r, rfl, k⟩
theorem w_gnil {QS : L2.St → Hp → Prop} (k : QS σ H) : gNil [] σ H QS := ⟨rfl, k⟩
theorem w_yes {QB : Bool → Hp → Prop} (k : QB true H) : tYes σ H QB := k
theorem ix5 {n : Nat} (a b c d e : V) : ixN [a, b, c, d, e].length (n : Int) = if n < 5 then some n else none := by
  unfold ixN
  rw [if_pos (by omega)]
  show (if (n : Int) < ((5 : Nat) : Int) then some n else none) = _
  by_cases h : n < 5
  · rw [if_pos h, if_pos (by omega)]
  · rw [if_neg h, if_neg (by omega)]
theorem w_set1 {p : Addr} {a b c d e v : V} {QH : Hp → Prop} (h : H p = some (.lst [a, b, c, d, e])) (k : QH (upd H p (.lst [a, v, c, d, e]))) : rSetL (.ref p) (.int 1) v H QH := ⟨p, _, 1, 1, rfl, rfl, h, ix5 (n := 1) a b c d e, k⟩
theorem w_set2 {p : Addr} {a b c d e v : V} {QH : Hp → Prop} (h : H p = some (.lst [a, b, c, d, e])) (k : QH (upd H p (.lst [a, b, v, d, e]))) : rSetL (.ref p) (.int 2) v H QH := ⟨p, _, 2, 2, rfl, rfl, h, ix5 (n := 2) a b c d e, k⟩
theorem w_set3 {p : Addr} {a b c d e v : V} {QH : Hp → Prop} (h : H p = some (.lst [a, b, c, d, e])) (k : QH (upd H p (.lst [a, b, c, v, e]))) : rSetL (.ref p) (.int 3) v H QH := ⟨p, _, 3, 3, rfl, rfl, h, ix5 (n := 3) a b c d e, k⟩
theorem w_set4 {p : Addr} {a b c d e v : V} {QH : Hp → Prop} (h : H p = some (.lst [a, b, c, d, e])) (k : QH (upd H p (.lst [a, b, c, d, v]))) : rSetL (.ref p) (.int 4) v H QH := ⟨p, _, 4, 4, rfl, rfl, h, ix5 (n := 4) a b c d e, k⟩
/-- tuple(a list) -/
theorem w_tupleL {p : Addr} {ys : List V} (h : SqL K H p ys) (k : ∀ l, H l = none → Q (.ref l) (upd H l (.tup ys))) :
    (fun xs H Q => ∃ p ys, xs = [V.ref p] ∧ ((SqL K H p ys ∧ ∀ l, H l = none → Q (.ref l) (upd H l (.tup ys))) ∨ (SqT K H p ys ∧ Q (.ref p) H))) [V.ref p] H Q := ⟨p, ys, rfl, .inl ⟨h, k⟩⟩
end
section
variable {K : PySem.W.Frag} {σ : L2.St} {H : Hp} {tl : TE} {ta : TA} {R : It → Hp → Prop}
theorem w_itup (k : tl σ H fun x H1 => ∃ a, x = .ref a ∧ (∃ xs, SqT K H1 a xs) ∧ R (Itt K a) H1) : iTup K tl σ H R := k
theorem w_ilist (k : tl σ H fun x H1 => ∃ a, x = .ref a ∧ (∃ xs, SqL K H1 a xs) ∧ R (Itl K a) H1) : iList K tl σ H R := k
theorem w_ienum (k : ta σ H fun vs H1 => ∃ a xs, vs = [.ref a] ∧ ((SqL K H1 a xs ∧ R (Ite K a) H1) ∨ (SqT K H1 a xs ∧ R (IteT K a) H1))) : iEnumA K ta σ H R := k
theorem w_izip (k : ta σ H fun vs H1 => ∃ a b xs ys, vs = [.ref a, .ref b] ∧ ((SqL K H1 a xs ∧ SqL K H1 b ys ∧ R (Itz K a b) H1) ∨ (SqT K H1 a xs ∧ SqT K H1 b ys ∧ R (RZ.ItzT K a b) H1))) : RZ.iZipA K ta σ H R := k
theorem w_irng1 (k : ta σ H fun vs H1 => ∃ j : Int, vs = [.int j] ∧ -(2 ^ 62) ≤ j ∧ j < 2 ^ 62 ∧ R (Itr 0 j.toNat) H1) : iRng1 ta σ H R := k
theorem w_irng2 (k : ta σ H fun vs H1 => ∃ i j : Int, vs = [.int i, .int j] ∧ (-(2 ^ 62) ≤ i ∧ i < 2 ^ 62 ∧ -(2 ^ 62) ≤ j ∧ j < 2 ^ 62) ∧ R (Itr i (j - i).toNat) H1) : iRng2 ta σ H R := k
theorem w_for {g : TG} {tb : TS} {wi : TI} {D : Ends} (k : wi σ H fun J H1 => ∃ W : Nat → Nat → L2.St → Hp → Prop, (∃ m, W 0 m σ H1) ∧ ∀ i m σ H, W i m σ H →
      (J.stop i H ∧ D.nx σ H) ∨ (J.go i H ∧ ∃ N : L2.St → Hp → Prop, (∀ σ' H', N σ' H' → ∃ m', m' < m ∧ W (i + 1) m' σ' H') ∧ ∀ x H', J.yld i H x H' → g x σ H' fun σ2 H2 => tb { D with nx := N, ct := N, bk := D.nx } σ2 H2)) : tFor wi g tb D σ H := k
end
/-- items at places -/
theorem atI_at {xs : List V} {j : Nat} {v : V} (h : xs[j]? = some v) : atI xs (j : Int) = some v := by
  have hj : j < xs.length := (List.getElem?_eq_some_iff.mp h).1
  unfold atI ixN
  rw [if_pos (by omega), if_pos (by omega)]
  simpa using h
theorem atI_int {ns : List Int} {j : Nat} {x : Int} (h : ns[j]? = some x) : atI (ns.map V.int) (j : Int) = some (.int x) := atI_at (by rw [List.getElem?_map, h]; rfl)
theorem ints_at {ns : List Int} {i : Nat} {v : V} (h : (ns.map V.int)[i]? = some v) : ∃ x, ns[i]? = some x ∧ v = .int x := by
  rw [List.getElem?_map] at h
  cases e : ns[i]? with
  | none => rw [e] at h; cases h
  | some x => rw [e] at h; exact ⟨x, rfl, (Option.some.inj h).symm⟩
theorem CDiv.mk {i j : Int} (h1 : 0 < j) (h2 : j < 1073741824) : CDiv i j := ⟨h1, h2⟩
theorem CPow.mk {i j : Int} (h1 : 0 ≤ j) (h2 : j ≤ 1000000) (h3 : i.natAbs < 2 ^ 64) : CPow i j := ⟨h1, h2, h3⟩
theorem CMul.l {a b : Int} (h1 : -18446744073709551616 < a) (h2 : a < 18446744073709551616) : CMul a b := .inl ⟨h1, h2⟩
theorem CMul.r {a b : Int} (h1 : -18446744073709551616 < b) (h2 : b < 18446744073709551616) : CMul a b := .inr ⟨h1, h2⟩
section
variable {K : PySem.W.Frag} {H : Hp}
theorem dpa_bools_inv : ∀ {bs : List Bool} {vs : List V}, DpAll K H vs (bs.map PyData.bool) → vs = bs.map V.bl
  | [], _, .nil => rfl
  | n :: ns, _, .cons h t => by
    cases h
    rw [dpa_bools_inv t]
    rfl
theorem dp_rowT {a : Addr} {ns : List Int} (h : Dp K H (.ref a) (row ns)) : SqT K H a (ns.map V.int) := by
  obtain ⟨b, e, h2⟩ := dp_row h
  cases e
  exact h2
theorem dp_tup {v : V} {ds : List D} (h : Dp K H v (.tuple ds)) : ∃ a vs, v = .ref a ∧ SqT K H a vs ∧ DpAll K H vs ds := by
  cases h with
  | tup hs ha => exact ⟨_, _, rfl, hs, ha⟩
theorem dp_lst {v : V} {ds : List D} (h : Dp K H v (.list ds)) : ∃ a vs, v = .ref a ∧ SqL K H a vs ∧ DpAll K H vs ds := by
  cases h with
  | lst hs ha => exact ⟨_, _, rfl, hs, ha⟩
theorem dp_int {v : V} {i : Int} (h : Dp K H v (.int i)) : v = .int i := by cases h; rfl
end
theorem range_map {α β : Type} (d : α) (f : α → β) : ∀ xs : List α, (List.range xs.length).map (fun i => f (xs.getD i d)) = xs.map f := fun xs => by
  apply List.ext_getElem
  · simp
  · intro i h1 h2
    have hi : i < xs.length := by simpa using h1
    simp [List.getD_eq_getElem?_getD, hi]
theorem range_zip {α β γ : Type} (d : α) (e : β) (f : α → β → γ) (xs : List α) (ys : List β) : (List.range (min xs.length ys.length)).map (fun i => f (xs.getD i d) (ys.getD i e)) = List.zipWith f xs ys := by
  apply List.ext_getElem
  · simp
  · intro i h1 h2
    have hi : i < xs.length ∧ i < ys.length := by
      have h1' : i < min xs.length ys.length := by simpa using h1
      omega
    simp [List.getD_eq_getElem?_getD, hi.1, hi.2]
theorem getD_of {α : Type} {xs : List α} {i : Nat} {x d : α} (h : xs[i]? = some x) : xs.getD i d = x := by rw [List.getD_eq_getElem?_getD, h]; rfl
end TH

namespace TH
open PySem PySem.Spec PyProof.Rows L2
/-! ### a list whose items are told by a word alone -/
def LstP (h : Addr) (ψ : List V → Prop) : HO := .ext fun hp => ∃ xs : List V, ψ xs ∧ xs.length ≤ sizeLine ∧ ∃ (its : List Value) (n : Nat), Vals xs its ∧ hp.get? h = some { cls := .type "list", data := .seq its.toArray n }
section
variable {P : Program} {w : World} {H H' : Hp} {hp hp' : Heap} {h : Addr} {ψ : List V → Prop} {xs : List V} {fs ex : List Addr}
theorem lstP_ok (q : ψ xs) (o : ObjOk P w H hp h (.lst xs)) : ObjOk P w H' hp h (LstP h ψ) := by
  obtain ⟨z, its, n, r, e⟩ := o
  exact ⟨⟨xs, q, z, its, n, r, e⟩, ⟨_, e⟩, fun h1 h2 ⟨ys, q1, z1, its1, n1, r1, e1⟩ k => ⟨ys, q1, z1, its1, n1, r1, k _ e1⟩⟩
theorem lstP_of (o : ObjOk P w H hp h (LstP h ψ)) : ∃ xs, ψ xs ∧ ∀ H', ObjOk P w H' hp h (.lst xs) := by
  obtain ⟨⟨xs, q, z, its, n, r, e⟩, _⟩ := o
  exact ⟨xs, q, fun _ => ⟨z, its, n, r, e⟩⟩
/-- the heap told otherwise at h -/
theorem hok_re {o u : HO} (x : HOk P w H hp) (e : H h = some o) (ho : ∀ y, o ≠ .own y) (ht : ∀ ys, o ≠ .tup ys) (new : ObjOk P w (upd H h u) hp h u) : HOk P w (upd H h u) hp := fun b v q => by
  by_cases hb : b = h
  · subst hb
    rw [upd_same] at q
    cases q
    exact new
  · rw [upd_ne hb] at q
    refine (x b v q).stay (fun _ _ _ r => r) (fun c r => ?_) (fun c ys r => ?_)
    · rw [upd_ne (fun z => by rw [z, e] at r; exact ho _ (Option.some.inj r))]
      exact r
    · rw [upd_ne (fun z => by rw [z, e] at r; exact ht _ (Option.some.inj r))]
      exact r
theorem un_in {xs : List V} {u : HO} (e : H h = some (LstP h ψ)) (x : Un fs ex (upd H h (.lst xs)) H' hp hp') : Un fs ex H (upd H' h u) hp hp' where
  keep := fun b o q n hb hx => x.keep b o q (by rw [upd_ne (fun z => by rw [z, e] at n; cases n)]; exact n) hb hx
  slot := fun b o q n hb hx => x.slot b o q (by rw [upd_ne (fun z => by rw [z, e] at n; cases n)]; exact n) hb hx
  free := fun b o q n hx => by
    have hb : b ≠ h := fun z => by rw [z, e] at n; cases n
    rw [upd_ne hb]
    exact x.free b o q (by rw [upd_ne hb]; exact n) hx
  there := x.there
  tups := fun b ys q => by
    have hb : b ≠ h := fun z => by rw [z, e] at q; cases q
    rw [upd_ne hb]
    exact x.tups b ys (by rw [upd_ne hb]; exact q)
  frzs := fun b o v q => by
    have hb : b ≠ h := fun z => by rw [z, e] at q; cases q
    rw [upd_ne hb]
    exact x.frzs b o v (by rw [upd_ne hb]; exact q)
  tbls := fun b ps q => by
    have hb : b ≠ h := fun z => by rw [z, e] at q; cases q
    rw [upd_ne hb]
    exact x.tbls b ps (by rw [upd_ne hb]; exact q)
theorem un_out {xs : List V} {u : HO} (e : H' h = some (.lst xs)) (hn : H h = none) (x : Un fs [] H H' hp hp') : Un fs [] H (upd H' h u) hp hp' where
  keep := x.keep
  slot := x.slot
  free := fun b o q n hx => by
    have z := x.free b o q n hx
    rw [upd_ne (fun y => by rw [y, e] at z; cases z)]
    exact z
  there := x.there
  tups := fun b ys q => by
    rw [upd_ne (fun z => by rw [z, hn] at q; cases q)]
    exact x.tups b ys q
  frzs := fun b o v q => by
    rw [upd_ne (fun z => by rw [z, hn] at q; cases q)]
    exact x.frzs b o v q
  tbls := fun b ps q => by
    rw [upd_ne (fun z => by rw [z, hn] at q; cases q)]
    exact x.tbls b ps q
end
section
variable {P : Program} {w : World} {K : PySem.W.Frag} {mg : Str → Option Value} {base : Heap} {k : Nat} {f : Addr} {fd : FuncData} {ps : List Str} {sp sp' : Sp}
/-- a def that changes such a list, told from within -/
theorem fn_hide (F : FnOk P w K mg base C8.CX0 k f fd ps sp)
    (hs : ∀ vs H Q E, sp' vs H Q E → ∃ (h : Addr) (ψ : List V → Prop), H h = some (LstP h ψ) ∧ (∃ xs, ψ xs) ∧ ∀ xs, ψ xs → sp vs (upd H h (.lst xs)) (fun v H' => ∃ xs', ψ xs' ∧ H' h = some (.lst xs') ∧ Q v (upd H' h (LstP h ψ))) E) :
    FnOk P w K mg base C8.CX0 k f fd ps sp' := by
  refine ⟨fun vs H Q E q => ?_, fun A outer s H args us vs Q E hr e0 hb hv q => ?_⟩
  · obtain ⟨h, ψ, _, ⟨xs, hx⟩, g⟩ := hs vs H Q E q
    exact F.len _ _ _ _ (g xs hx)
  · obtain ⟨h, ψ, e, _, g⟩ := hs vs H Q E q
    obtain ⟨xs, hx, ob⟩ := lstP_of (e0.hok h _ e)
    have nh : ∀ b, H b = none → b ≠ h := fun b n z => by rw [z, e] at n; cases n
    have e1 : Env0 P w K mg base A outer s (upd H h (.lst xs)) := ⟨e0.frames, e0.mod, fun b o q => ⟨(e0.bs b o q).1, by rw [upd_ne (nh b (e0.bs b o q).2)]; exact (e0.bs b o q).2⟩, e0.bsz, e0.funs, fun b hb => by rw [upd_ne (nh b (e0.frf b hb))]; exact e0.frf b hb,
      hok_re e0.hok e (fun _ z => by cases z) (fun _ z => by cases z) (ob _), e0.bare⟩
    refine codeAny_mono (F.run A outer s _ args us vs _ E hr e1 hb hv (g xs hx)) fun r s' c => ?_
    cases r with
    | error e => exact c
    | ok fl =>
      cases fl with
      | next => exact c
      | brk => exact c
      | cont => exact c
      | ret u =>
        obtain ⟨v, H', os, bare, un, hok, rv, xs', hx', eh, qq⟩ := c
        exact ⟨v, _, os, bare, un_in e un, hok_re hok eh (fun _ z => by cases z) (fun _ z => by cases z) (lstP_ok hx' (hok h _ eh)), rv, qq⟩
/-- a def that hands back such a list -/
theorem fn_seal (F : FnOk P w K mg base C8.CX0 k f fd ps sp)
    (hs : ∀ vs H Q E, sp' vs H Q E → sp vs H (fun v H' => ∃ (h : Addr) (ψ : List V → Prop) (xs : List V), H h = none ∧ ψ xs ∧ H' h = some (.lst xs) ∧ Q v (upd H' h (LstP h ψ))) E) :
    FnOk P w K mg base C8.CX0 k f fd ps sp' := by
  refine ⟨fun vs H Q E q => F.len _ _ _ _ (hs vs H Q E q), fun A outer s H args us vs Q E hr e0 hb hv q => ?_⟩
  refine codeAny_mono (F.run A outer s _ args us vs _ E hr e0 hb hv (hs vs H Q E q)) fun r s' c => ?_
  cases r with
  | error e => exact c
  | ok fl =>
    cases fl with
    | next => exact c
    | brk => exact c
    | cont => exact c
    | ret u =>
      obtain ⟨v, H', os, bare, un, hok, rv, h, ψ, xs, hn, hx, eh, qq⟩ := c
      exact ⟨v, _, os, bare, un_out eh hn un, hok_re hok eh (fun _ z => by cases z) (fun _ z => by cases z) (lstP_ok hx (hok h _ eh)), rv, qq⟩
theorem cal_hide {x : Str} (F : C8.Cal P w K mg base k x sp [])
    (hs : ∀ vs H Q E, sp' vs H Q E → ∃ (h : Addr) (ψ : List V → Prop), H h = some (LstP h ψ) ∧ (∃ xs, ψ xs) ∧ ∀ xs, ψ xs → sp vs (upd H h (.lst xs)) (fun v H' => ∃ xs', ψ xs' ∧ H' h = some (.lst xs') ∧ Q v (upd H' h (LstP h ψ))) E) :
    C8.Cal P w K mg base k x sp' [] := by
  obtain ⟨f, fd, ps, ds, G, a, b, c, d⟩ := F.ex
  exact ⟨f, fd, ps, ds, fn_hide G hs, a, b, c, d⟩
theorem cal_seal {x : Str} (F : C8.Cal P w K mg base k x sp [])
    (hs : ∀ vs H Q E, sp' vs H Q E → sp vs H (fun v H' => ∃ (h : Addr) (ψ : List V → Prop) (xs : List V), H h = none ∧ ψ xs ∧ H' h = some (.lst xs) ∧ Q v (upd H' h (LstP h ψ))) E) :
    C8.Cal P w K mg base k x sp' [] := by
  obtain ⟨f, fd, ps, ds, G, a, b, c, d⟩ := F.ex
  exact ⟨f, fd, ps, ds, fn_seal G hs, a, b, c, d⟩
end
end TH

namespace TH
open PySem PySem.Spec PyProof.Rows L2
section
variable {K : PySem.W.Frag} {σ : L2.St} {H : Hp} {Q : VK} {l : Addr} {xs : List V} {tr : TA}
theorem tyL (h : H l = some (.lst xs)) : tyV K "list" (.ref l) H := .inl ⟨rfl, _, sqL h⟩
theorem w_app {y : V} (h : H l = some (.lst xs)) (hz : xs.length < 1000000) (k : Q .non (upd H l (.lst (xs ++ [y])))) : rAppend (.ref l) [y] H Q := ⟨l, xs, y, rfl, rfl, h, Nat.lt_of_lt_of_le hz (small2 (Nat.le_refl _)), k⟩
theorem w_popAt {j : Nat} {y : V} (h : H l = some (.lst xs)) (hy : xs[j]? = some y) (hz : xs.length ≤ 1000000) (k : Q y (upd H l (.lst (xs.eraseIdx j)))) : rPopAt (.ref l) [.int (j : Nat)] H Q := by
  have hj : j < xs.length := (List.getElem?_eq_some_iff.mp hy).1
  refine ⟨l, xs, j, j, y, rfl, rfl, h, by omega, by omega, ?_, hy, k⟩
  unfold seqIndex?
  have h1 : ¬ ((j : Int) < 0) := by omega
  have h2 : ((0 : Int) ≤ (j : Int) && decide ((j : Int) < (xs.length : Int))) = true := by simp; omega
  simp only [if_neg h1]
  rw [if_pos h2]
  rfl
theorem w_isrng {j : Int} {R : Int → Prop} (h0 : -1000000000 ≤ j) (h1 : j ≤ 1000000000) (k : R j) : ∃ j' : Int, [V.int j] = [.int j'] ∧ -(2 ^ 62) ≤ j' ∧ j' < 2 ^ 62 ∧ R j' := ⟨j, rfl, by omega, by omega, k⟩
theorem w_parT3 {i j m : Nat} {D : Ends} (k : tr σ H fun vs H1 => ∃ u v w, vs = [u, v, w] ∧ D.nx (((σ.set i (some u)).set j (some v)).set m (some w)) H1) : tPar3 i j m tr D σ H := k
theorem w_par3 {u v w : V} {R : V → V → V → Prop} (k : R u v w) : ∃ u' v' w', [u, v, w] = [u', v', w'] ∧ R u' v' w' := ⟨u, v, w, rfl, k⟩
/-- items in another order -/
theorem dpa_perm {xs ys : List V} (p : ys.Perm xs) : ∀ {ds : List D}, DpAll K H xs ds → ∃ es, es.Perm ds ∧ DpAll K H ys es := by
  induction p with
  | nil => intro ds h; cases h; exact ⟨[], .nil, .nil⟩
  | cons x _ ih =>
    intro ds h
    cases h with
    | cons h1 h2 =>
      obtain ⟨es, p1, p2⟩ := ih h2
      exact ⟨_ :: es, .cons _ p1, .cons h1 p2⟩
  | swap x y _ =>
    intro ds h
    cases h with
    | cons h1 h2 => cases h2 with
      | cons h3 h4 => exact ⟨_, .swap _ _ _, .cons h3 (.cons h1 h4)⟩
  | trans _ _ ih1 ih2 =>
    intro ds h
    obtain ⟨es, p1, p2⟩ := ih2 h
    obtain ⟨fs, p3, p4⟩ := ih1 p2
    exact ⟨fs, p3.trans p1, p4⟩
theorem erase_perm {α : Type} : ∀ {xs : List α} {j : Nat} {y : α}, xs[j]? = some y → (y :: xs.eraseIdx j).Perm xs
  | [], _, _, h => by simp at h
  | x :: xs, 0, y, h => by cases h; exact .refl _
  | x :: xs, j + 1, y, h => .trans (.swap _ _ _) (.cons x (erase_perm (xs := xs) (j := j) (y := y) (by simpa using h)))
/-- what is left and what was taken, after one more -/
theorem perm_take {α : Type} {xs fd lf : List α} {j : Nat} {y : α} (p : (fd ++ lf).Perm xs) (h : lf[j]? = some y) : ((fd ++ [y]) ++ lf.eraseIdx j).Perm xs := by
  refine .trans ?_ p
  rw [List.append_assoc]
  refine List.Perm.append_left fd ?_
  exact erase_perm h
end
section
variable {J : It} {n : Nat} {G : Hp → Prop} {Y : Nat → Hp → V → Hp → Prop} {K : PySem.W.Frag} {g : TG} {te : TE} {H1 : Hp} {Dl : Addr}
/-- what a comprehension without if makes, whose items are told by a word alone -/
theorem lc_some {σ0 : L2.St} {C : L2.St → Prop} {Qd : Hp → Prop} (w : Walk J n G Y) (φ : Nat → D → Prop) (himm : ∀ i d, φ i d → imm d = true) (hG : ∀ H', Ex H1 H' → G H') (hD : H1 Dl = none) (hn : n ≤ 1000000)
    (hs : ∀ i x H' H'', i < n → Ex H1 H' → Y i H' x H'' → ∀ (R : VK), (∀ v d H3, Ex H' H3 → φ i d → Dp K H3 v d → R v H3) → g x σ0 H'' fun σ2 H2 => C σ2 ∧ te σ2 H2 R)
    (k : ∀ H' ws ds, Ex H1 H' → H' Dl = some (.lst ws) → ds.length = n → (∀ i d, ds[i]? = some d → φ i d) → DpAll K H' ws ds → Qd H') :
    ∃ W : Nat → Nat → Hp → Prop, (∃ m, W 0 m (upd H1 Dl (.lst []))) ∧ ∀ i m H, W i m H →
      (J.stop i H ∧ Qd H) ∨ (J.go i H ∧ ∃ Nx : Hp → Prop, (∀ H', Nx H' → ∃ m', m' < m ∧ W (i + 1) m' H') ∧ ∀ x H', J.yld i H x H' → g x σ0 H' fun σ2 H2 => C σ2 ∧ tYes σ2 H2 fun b H3 =>
        if b = true then te σ2 H3 fun y H4 => ∃ acc, H4 Dl = some (.lst acc) ∧ acc.length < sizeLine ∧ Nx (upd H4 Dl (.lst (acc ++ [y]))) else Nx H3) := by
  refine lc_it' w (fun i H' => Ex H1 H' ∧ ∃ ws ds, H' Dl = some (.lst ws) ∧ ds.length = i ∧ (∀ j d, ds[j]? = some d → φ j d) ∧ DpAll K H' ws ds) ⟨Ex.new hD, [], [], upd_same, rfl, fun j d h => by simp at h, .nil⟩ (fun i H' _ p => hG H' p.1) (fun i x H' H'' hi p y => ?_) (fun H' p => ?_)
  · obtain ⟨p1, ws, ds, p2, p3, p4, p5⟩ := p
    have := hs i x H' H'' hi p1 y (fun y H4 => ∃ acc, H4 Dl = some (.lst acc) ∧ acc.length < sizeLine ∧ (fun i H' => Ex H1 H' ∧ ∃ ws ds, H' Dl = some (.lst ws) ∧ ds.length = i ∧ (∀ j d, ds[j]? = some d → φ j d) ∧ DpAll K H' ws ds) (i + 1) (upd H4 Dl (.lst (acc ++ [y])))) (fun v d H3 e3 hφ hv => ?_)
    · exact this
    · have q2 : H3 Dl = some (.lst ws) := e3 _ _ p2
      have him : immAll ds = true := immAll_iff.mpr fun d hd => by
        obtain ⟨j, hj⟩ := List.mem_iff_getElem?.mp hd
        exact himm _ _ (p4 j d hj)
      refine ⟨ws, q2, Nat.lt_of_le_of_lt (by rw [dpa_len p5, p3]; exact Nat.le_refl _) (Nat.lt_of_lt_of_le hi (small2 hn)), (p1.trans e3).mut hD, ws ++ [v], ds ++ [d], upd_same, by rw [List.length_append, p3]; rfl, fun j d' hj => ?_, dpa_snoc ((Tx.updL q2).dpa him (e3.dpa p5)) ((Tx.updL q2).dp (himm _ _ hφ) hv)⟩
      rcases Nat.lt_or_ge j ds.length with z | z
      · rw [List.getElem?_append_left z] at hj
        exact p4 j d' hj
      · rw [List.getElem?_append_right z] at hj
        have z2 : j - ds.length = 0 := by
          refine Decidable.byContradiction fun z3 => ?_
          rw [List.getElem?_eq_none (by simp; omega)] at hj
          cases hj
        have z3 : j = i := by omega
        rw [z2] at hj
        subst z3
        cases hj
        exact hφ
  · obtain ⟨p1, ws, ds, p2, p3, p4, p5⟩ := p
    exact k H' ws ds p1 p2 p3 p4 p5
end
theorem walk_rng {n : Nat} : Walk (Itr 0 n) n (fun _ => True) (YFn fun i => .int (i : Nat)) := (walk_range (lo := 0) (n := n)).mono (fun _ h => h) fun i H x H' _ _ y => ⟨y.1, by
  have e := y.2
  simp only [Int.zero_add] at e
  exact e⟩
theorem getD_at {α : Type} {r : List α} {i : Nat} {d : α} (h : i < r.length) : r[i]? = some (r.getD i d) := by rw [List.getD_eq_getElem?_getD, List.getElem?_eq_getElem h]; rfl
theorem atI_zero {x : V} {xs : List V} : atI (x :: xs) 0 = some x := atI_at (xs := x :: xs) (j := 0) rfl
theorem erase_map {α β : Type} (f : α → β) : ∀ (xs : List α) (i : Nat), (xs.eraseIdx i).map f = (xs.map f).eraseIdx i
  | [], _ => rfl
  | _ :: _, 0 => rfl
  | x :: xs, i + 1 => by
    show f x :: (xs.eraseIdx i).map f = f x :: (xs.map f).eraseIdx i
    rw [erase_map f xs i]
theorem w_setN {H : Hp} {p : Addr} {j : Nat} {xs : List V} {v : V} {QH : Hp → Prop} (h : H p = some (.lst xs)) (hj : j < xs.length) (k : QH (upd H p (.lst (xs.set j v)))) : rSetL (.ref p) (.int (j : Nat)) v H QH := ⟨p, xs, j, j, rfl, rfl, h, by
  unfold ixN
  rw [if_pos (by omega), if_pos (by omega)]
  simp, k⟩
theorem rep_one {α : Type} (x : α) : ∀ k : Nat, (List.replicate k [x]).flatten = List.replicate k x
  | 0 => rfl
  | k + 1 => by rw [List.replicate_succ, List.flatten_cons, rep_one x k]; rfl
theorem dpa_rep {K : PySem.W.Frag} {H : Hp} {v : V} {d : D} (h : Dp K H v d) : ∀ k : Nat, DpAll K H (List.replicate k v) (List.replicate k d)
  | 0 => .nil
  | k + 1 => .cons h (dpa_rep h k)
/-- numbers told one by one -/
theorem ints_of {P : Nat → Int → Prop} : ∀ (ds : List D), (∀ i d, ds[i]? = some d → ∃ x, d = .int x ∧ P i x) → ∃ ns : List Int, ds = ns.map PyData.int ∧ ∀ i x, ns[i]? = some x → P i x
  | [], _ => ⟨[], rfl, fun i x h => by simp at h⟩
  | d :: ds, h => by
    obtain ⟨x, rfl, hx⟩ := h 0 d rfl
    obtain ⟨ns, rfl, hns⟩ := ints_of (P := fun i => P (i + 1)) ds fun i d hd => h (i + 1) d hd
    refine ⟨x :: ns, rfl, fun i y hy => ?_⟩
    cases i with
    | zero => cases hy; exact hx
    | succ i => exact hns i y hy
end TH

namespace TH
open PySem PySem.Spec PyProof.Rows L2
section
open PySem.W
variable {prog : Program} {w : World} {A : Around} {s : Shared}
/-- rows of one width can be sorted (the empty row, where it stands alone) -/
theorem sorts_rows {vs : List Value} {rs : List (List Int)} {wd : Nat} (e : EachIs (fun v d => ∃ as, Reads s.heap v d as) vs (rs.map row)) (hl : ∀ r ∈ rs, r.length = wd) (h1 : wd = 0 → rs.length ≤ 1) (hu : A.units + 3 < cLine) :
    SortsAt prog w A s (dataKind s.heap (rs.map row)) vs := by
  have hal : AllAlike (rs.map row) := AllAlike.of fun a b => by
    show alike (.tuple (a.map .int)) (.tuple (b.map .int)) = true
    simpa [alike] using alike_ints a b
  have hdep : ∀ d, d ∈ rs.map row → A.units + d.depth < cLine := fun d hd => by
    obtain ⟨r, _, rfl⟩ := List.mem_map.mp hd
    show A.units + (PyData.depthAll (r.map .int) + 1) < cLine
    rw [depth_ints]
    omega
  by_cases h0 : wd = 0
  · have hlen := h1 h0
    refine ⟨fun v hv => ?_, tuples' true, ?_, fun h2 => ?_⟩
    · obtain ⟨d, hd, as, r⟩ := e.left v hv
      exact ⟨_, dataKind_some hal hd r⟩
    · intro E x y a b Q ha hb hq
      obtain ⟨d, as, hd, ra, rfl⟩ := dataKind_inv ha
      obtain ⟨d', as', hd', rb, rfl⟩ := dataKind_inv hb
      obtain ⟨r1, m1, rfl⟩ := List.mem_map.mp hd
      obtain ⟨r2, m2, rfl⟩ := List.mem_map.mp hd'
      have z1 : r1 = [] := List.length_eq_zero_iff.mp (by rw [hl r1 m1, h0])
      have z2 : r2 = [] := List.length_eq_zero_iff.mp (by rw [hl r2 m2, h0])
      subst z1 z2
      have hq' : Q (dataLt (.tuple []) (.tuple [])) s := hq
      rw [dataLt_tuple] at hq'
      cases ra with
      | @tuple l o xs n _ _ g1 g2 g3 g4 =>
        cases rb with
        | @tuple l' o' xs' n' _ _ k1 k2 k3 k4 =>
          have n1 : xs.size = 0 := by simpa using SeqAt.ReadsAll.length _ _ _ g4
          have n2 : xs'.size = 0 := by simpa using SeqAt.ReadsAll.length _ _ _ k4
          refine kat_lt g1 g3 k1 k3 ?_
          refine katLex_alike [] [] 0 _ _ _ _ g4 k4 (by simp [alikeAll]) ?_ (fun _ _ x r t ex => nomatch ex) (by rw [n1, n2]; rfl) hq'
          show A.units + min (PyData.depthAll []) (PyData.depthAll []) < cLine
          simp [PyData.depthAll]
          omega
    · have := e.length
      rw [List.length_map] at this
      omega
  · refine SortsAt.data e hal (.inl fun d hd => ?_) hdep
    obtain ⟨r, m, rfl⟩ := List.mem_map.mp hd
    cases r with
    | nil => exact absurd (hl [] m).symm h0
    | cons x r => exact ⟨_, _, rfl⟩
end
/-! ### sorted(a dict whose keys are rows) -/
open PySem.W in
theorem sort_rows {prog : Program} {w : World} {A : Around} {E : Value → Shared → Prop} {s : Shared} {h0 : Heap} {a : Addr} {vs : List Value} {bs : List (V × D)} {R : Value → V × D → Prop} {rs : List (List Int)} {wd n : Nat} {Q : Value → Shared → Prop}
    (ho : s.heap.get? a = some (seqObj "list" vs.toArray n)) (old : ∀ b o, h0.get? b = some o → b ≠ a ∧ s.heap.get? b = some o) (hbs : bs.map (·.2) = rs.map row) (e : EachIs R vs bs) (er : EachIs (fun v b => ∃ as, Reads h0 v b.2 as) vs bs)
    (hl : ∀ r ∈ rs, r.length = wd) (h1 : wd = 0 → rs.length ≤ 1) (hL : bs.length ≤ sizeLine) (hu : A.units + 4 < cLine)
    (h : ∀ out, out.length = bs.length → EachIs R out (bs.mergeSort (dataLe false fun b => b.2)) → Q .none { s with heap := PyProof.Rows.sortedHeap s.heap a vs (List.toArray out) }) :
    wpAny (model prog w) A (call (.builtin "list.sort") [.ref a]) Q E s := by
  have er' : EachIs (fun v b => ∃ as, Reads (sortingHeap s.heap a vs) v b.2 as) vs bs := er.mono fun _ _ ⟨as, r⟩ => ⟨as, PyProof.Rows.Reads.keeps (fun b o q => sortingHeap_old (old b o q).1 (old b o q).2) r⟩
  have hal : AllAlike (bs.map fun b => b.2) := by
    rw [hbs]
    exact AllAlike.of fun a b => by
      show alike (.tuple (a.map .int)) (.tuple (b.map .int)) = true
      simpa [alike] using alike_ints a b
  have S : SortsAt prog w A.in1 { s with heap := sortingHeap s.heap a vs } (dataKind (sortingHeap s.heap a vs) (bs.map fun b => b.2)) vs := by
    have em := each_map (R := fun v d => ∃ as, Reads (sortingHeap s.heap a vs) v d as) (fun b : V × D => b.2) er'
    rw [hbs] at em ⊢
    exact sorts_rows (s := { s with heap := sortingHeap s.heap a vs }) em hl h1 (by show A.units + 1 + 3 < cLine; omega)
  refine wpAny_call_entry PyProof.Rows.slot_list_sort ⟨_, ho, rfl⟩ PyProof.Rows.entry_list_sort (list_sort_vals ho S (by rw [e.length]; exact hL) ⟨.none, rfl, ?_⟩) (PyProof.Rows.args_list_sort _)
  refine h _ ?_ (sortVals_data false e er' hal)
  rw [sortVals_length false rfl]
  exact e.length
/-- the dict's keys, told as rows -/
def KeyRows (kvs : List (List Key × V)) (rs : List (List Int)) : Prop := kvs.map (·.1) = rs.map fun r => r.map Sum.inl
theorem kv_row (r : List Int) : (r.map (Sum.inl : Int → Key)).map kV = r.map V.int := by
  rw [List.map_map]
  rfl
theorem keys_dpa {K : PySem.W.Frag} {H : Hp} : ∀ {kvs : List (List Key × V)} {bs : List Addr} {rs : List (List Int)}, IsKeys H kvs bs → KeyRows kvs rs → DpAll K H (bs.map V.ref) (rs.map row)
  | [], _, rs, .nil, e => by
    cases rs with
    | nil => exact .nil
    | cons r rs => cases e
  | p :: kvs, b :: bs, rs, .cons h t, e => by
    cases rs with
    | nil => cases e
    | cons r rs =>
      have e' : p.1 :: kvs.map (·.1) = (r.map Sum.inl) :: rs.map fun r => r.map Sum.inl := e
      injection e' with e1 e2
      rw [e1, kv_row] at h
      exact .cons (dp_row_of (sqT h)) (keys_dpa t e2)
def rSortedDT (K : PySem.W.Frag) : List V → Hp → VK → Prop := fun xs H Q => ∃ (d : Addr) (kvs : List (List Key × V)) (rs : List (List Int)) (wd : Nat), xs = [.ref d] ∧ Rd H d (.dT kvs) ∧ KeyRows kvs rs ∧ (∀ r ∈ rs, r.length = wd) ∧ (wd = 0 → rs.length ≤ 1) ∧
  ∀ (ws : List V) (p : Addr), H p = none → DpAll K H ws ((rs.map row).mergeSort (PySem.W.dataLe false id)) → Q (.ref p) (upd H p (.lst ws))
section
variable {X : Cx} {K : PySem.W.Frag}
theorem call_sortedDT (hc : X.calm = true) (hu : X.A.units + 64 < cLine) (hK : X.K = K := by rfl) : CallR X (.builtin "sorted") (rSortedDT K) := by
  subst hK
  intro pins s σ H xs us Q I r h
  obtain ⟨d, kvs, rs, wd, rfl, hd, hkr, hl, h1, q⟩ := h
  obtain ⟨u, rfl, rx⟩ := r.one
  obtain rfl : u = Value.ref d := rx
  obtain ⟨z, lo, ks, pr, o, es, ep, ho, hx, hdt, he, hn⟩ := (show ObjOk X.prog X.w H s.heap d (.dT kvs) from hd.ok I.hok)
  have l1 : es.size = ks.length := size_of_entries he
  have l2 : kvs.length = ks.length := Paired.length pr
  have l3 : kvs.length = rs.length := by
    have := congrArg List.length hkr
    simpa using this
  refine Calls.call_function_entry PyProof.Rows.kind_sorted PyProof.Rows.plain_sorted PyProof.Rows.entry_sorted (PyProof.Rows.args_sorted1 _) ?_
  unfold Builtin.«sorted»
  refine wpAny_bind (m := checkCount "sorted" 1 1 _) (wpAny_pure ?_)
  refine wpAny_bind (PySem.W.kdu_collect (A := X.A.in1) (kdl_raw lo hx hdt) (I.ok.hd hc) ho (by omega) fun h' tk acc kp it => ?_)
  have hal : acc.toList.length = ks.length := by
    rw [Array.length_toList, it.1]
    exact l1
  have ea : acc.toList = (ks.map fun x => x.2.1).map Value.ref := by
    refine List.ext_getElem (by rw [hal]; simp) fun j j1 j2 => ?_
    have hj : acc[j]? = some (acc.toList[j]) := by
      rw [← Array.getElem?_toList]
      exact List.getElem?_eq_getElem j1
    obtain ⟨en, g1, g2⟩ := it.2 j _ hj
    have qe := entry_at he j
    have jk : j < ks.length := by omega
    rw [g1, List.getElem?_eq_getElem jk] at qe
    have e2 : en = entryOfKey (tupleKind (mixKind X.prog X.w)) ks[j] := Option.some.inj qe
    rw [g2, e2, List.getElem_map, List.getElem_map]
    rfl
  have I1 : Inv X pins σ H { s with heap := h', toks := tk } := I.kept kp
  have rv : Vals ((ks.map fun x => x.2.1).map V.ref) acc.toList := by
    rw [ea]
    exact vals_refs _
  have hda : DpAll X.K H ((ks.map fun x => x.2.1).map V.ref) (rs.map row) := keys_dpa (isKeys_of pr) hkr
  have hL : acc.toList.length ≤ sizeLine := by omega
  refine wpAny_bind (wpAny_newList ?_ hL)
  have hoL : (h'.push (seqObj "list" acc.toList.toArray 0)).get? h'.objs.size = some (seqObj "list" acc.toList.toArray 0) := Heap.get?_push_size _ rfl
  show wpAny _ _ _ _ _ { s with heap := h'.push (seqObj "list" acc.toList.toArray 0), toks := tk }
  have em : (((ks.map fun x => x.2.1).map V.ref).zip (rs.map row)).map (·.2) = rs.map row := by
    rw [List.map_snd_zip]
    simp
    omega
  have e0 := each_of rv hda
  have er0 : PySem.W.EachIs (fun u (b : V × D) => ∃ as, Reads h' u b.2 as) acc.toList (((ks.map fun x => x.2.1).map V.ref).zip (rs.map row)) := e0.mono fun u b hb => Dp.reads I1 b.2 b.1 u hb.2 hb.1
  have hzl : (((ks.map fun x => x.2.1).map V.ref).zip (rs.map row)).length = acc.toList.length := e0.length.symm
  refine wpAny_bind (wpAny_holding (sort_rows (s := { s with heap := h'.push (seqObj "list" acc.toList.toArray 0), toks := tk }) (h0 := h') hoL (fun b ob e => ⟨Nat.ne_of_lt (Heap.lt_size e), Heap.get?_push_of_some _ e⟩) em e0 er0 hl h1 (by omega) (by
    show X.A.units + 1 + 4 < cLine
    omega) fun out hol heo => ?_))
  obtain ⟨e', he'⟩ := PyProof.Rows.sortedHeap_at (vs := acc.toList) (out := List.toArray out) hoL
  obtain ⟨hv, hdo⟩ := each_back heo
  have e2 : ((((ks.map fun x => x.2.1).map V.ref).zip (rs.map row)).mergeSort (PySem.W.dataLe false fun b => b.2)).map (·.2) = (rs.map row).mergeSort (PySem.W.dataLe false id) := by
    rw [PySem.W.sort_maps (s := PySem.W.dataLe false id) (fun b : V × D => b.2) (fun a _ b _ => dataLe_map _ a b), em]
  rw [e2] at hdo
  refine wpAny_pure ⟨_, rfl, .ref h'.objs.size, upd H h'.objs.size (.lst _), I1.laid (t' := tk) (fun b ob e => ?_) (Nat.le_refl _) ⟨?_, out, e', hv, he'⟩, rfl, q _ _ (I1.hok.fresh (Nat.le_refl _)) hdo⟩
  · have hb : b < h'.objs.size := Heap.lt_size e
    rw [PyProof.Rows.sortedHeap_old (Nat.ne_of_lt hb) (by rw [Heap.size_push]; exact Nat.lt_succ_of_lt hb)]
    exact Heap.get?_push_of_some _ e
  · rw [hv.length, hol, hzl]
    exact hL
end
end TH

namespace TH
open PySem PySem.Spec PyProof.Rows L2
/-! ### {k: v}, k a tuple -/
/-- the new dict stands empty while the pair is made -/
def tDispT1 (tk tv : TE) : TE := fun σ H Q => ∀ p, H p = none → tk σ (upd H p (.dT [])) fun x H1 => tv σ H1 fun y H2 => ∃ (b : Addr) (k : List Key), x = .ref b ∧ H2 p = some (.dT []) ∧ H2 b = some (.tup (k.map kV)) ∧ Q (.ref p) (upd H2 p (.dT [(k, y)]))
section
variable {X : Cx} {pos : Pos} {ke ve : Expr} {tk tv : TE}
theorem pe_dispT1 (hu : X.A.units + 1 < cLine) (hk : PE X ke tk) (hv : PE X ve tv) : PE X (.Dict [some ke] [ve] pos) (tDispT1 tk tv) := by
  refine ⟨fun pins s σ H Q I q => ?_⟩
  have hn := I.hok.fresh (Nat.le_refl s.heap.objs.size)
  have I1 : Inv X pins σ (upd H s.heap.objs.size (.dT [])) { s with heap := s.heap.push { cls := .type "dict", data := .dict #[] }, toks := s.toks } :=
    I.laid (fun b ob e => Heap.get?_push_of_some _ e) (Nat.le_refl _) (dt_empty s.heap I.big)
  refine wpAny_Dict_any rfl rfl (by simp) (by simp) ?_
  refine pairTrees_cons_walk (thn (hk.run pins _ σ _ _ I1 (q _ hn)) fun u s1 ⟨x, H1, I2, rx, q1⟩ => thn (hv.run pins s1 σ H1 _ I2 q1) fun y s2 ⟨yv, H2, I3, ry, b, k, ex, ed, eb, q2⟩ => pairTrees_nil_walk ?_)
  subst ex
  obtain rfl : u = Value.ref b := rx
  show wpAny _ _ (forIn _ _ _) _ _ _
  rw [List.forIn_cons]
  obtain ⟨z, lo, xs, rel, dd⟩ := dt_of I3.hok ed
  cases rel
  refine wpAny_bind (wpAny_bind (wpAny_dictSet_heap (hsz := Nat.zero_le _) (show X.A.units < cLine by omega) (key_of I3.hok eb) dd fun h' dd' same => wpAny_pure ?_))
  dsimp only
  rw [List.forIn_nil]
  refine wpAny_pure ?_
  obtain ⟨ob, es, ep, g1, g2, g3, g4, _, g5⟩ := dd'
  refine ⟨.ref s.heap.objs.size, _, d_write I3 (by rw [ed]; exact True.intro) same ⟨ob, g1⟩ (ob := .dT [(k, yv)]) ⟨by rw [sizeLine_eq]; simp, lo, storedH [] k b y, KT.keeps (KT.put (kvs := []) .nil k eb ry) fun c ys ec => ?_, ob, es, ep, g1, g2, g3, g4, g5⟩, rfl, q2⟩
  rw [upd_ne fun z => by rw [z, ed] at ec; cases ec]
  exact ec
end
/-! ### a promise told otherwise -/
section
variable {P : Program} {w : World} {K : PySem.W.Frag} {mg : Str → Option Value} {base : Heap} {k : Nat} {sp sp' : Sp} {x : Str} {C : Addr} {m : Str}
theorem fn_mono {f : Addr} {fd : FuncData} {ps : List Str} (F : FnOk P w K mg base C8.CX0 k f fd ps sp) (hs : ∀ vs H Q E, sp' vs H Q E → sp vs H Q E) : FnOk P w K mg base C8.CX0 k f fd ps sp' :=
  ⟨fun vs H Q E q => F.len _ _ _ _ (hs vs H Q E q), fun A outer s H args us vs Q E hr e0 hb hv q => F.run A outer s _ args us vs _ E hr e0 hb hv (hs vs H Q E q)⟩
theorem cal_mono {dvs : List V} (F : C8.Cal P w K mg base k x sp dvs) (hs : ∀ vs H Q E, sp' vs H Q E → sp vs H Q E) : C8.Cal P w K mg base k x sp' dvs := by
  obtain ⟨f, fd, ps, ds, G, a, b, c, d⟩ := F.ex
  exact ⟨f, fd, ps, ds, fn_mono G hs, a, b, c, d⟩
theorem met_mono {dvs : List V} (F : C8.Met P w K mg base k C m sp dvs) (hs : ∀ vs H Q E, sp' vs H Q E → sp vs H Q E) : C8.Met P w K mg base k C m sp' dvs := by
  obtain ⟨f, fd, ps, ds, c, me, G, b, d⟩ := F.ex
  exact ⟨f, fd, ps, ds, c, me, fn_mono G hs, b, d⟩
end
/-! ### name = {k: v for ..} on one line, the name a local -/
section
variable {X : Cx}
theorem ps_setDc {i : Nat} {y : Str} {py : Pos} {kx vx tg iter : Expr} {ifs : List Expr} {scope : Scope} {own : List (Str × Nat)} {pos spos : Pos} {wi : TI} {g : TG} {tt : TT} {tk tv : TE} (hc : X.calm = true) (hN : X.N.Nodup) (hy : X.N[i]? = some y) (hyl : X.env.scope.names.lookup y = some .local)
    (hsw : swapsWith (.DictComp kx vx [⟨tg, iter, ifs, 0⟩] scope pos) (some (.Name y py)) spos.line X.env = pure true) (hi : PI X tg iter wi) (ok : BlkOk X.N X.env.scope scope own)
    (hg : ∀ (s : Shared) (H : Hp) (C : Addr) (cl : List (Str × Addr)) (fp : List Addr), PG (X.blk s H scope (compEnvC scope cl C X.env) fp) tg g) (ht : ∀ (s : Shared) (H : Hp) (C : Addr) (cl : List (Str × Addr)) (fp : List Addr), PTs (X.blk s H scope (compEnvC scope cl C X.env) fp) ifs tt)
    (hk : ∀ (s : Shared) (H : Hp) (C : Addr) (cl : List (Str × Addr)) (fp : List Addr), PE (X.blk s H scope (compEnvC scope cl C X.env) fp) kx tk)
    (he : ∀ (s : Shared) (H : Hp) (C : Addr) (cl : List (Str × Addr)) (fp : List Addr), PE (X.blk s H scope (compEnvC scope cl C X.env) fp) vx tv) (hs : ∀ x, foldedSetIterable iter X.env x = pure x := by intro _; rfl) :
    PS X (.Assign [.Name y py] (.DictComp kx vx [⟨tg, iter, ifs, 0⟩] scope pos) spos) (tAsg (tDc wi g tt tk tv (own.map (·.2))) (gName i)) := by
  refine ⟨fun pins s σ H D I h => ?_⟩
  rw [exec_Assign_Name_used _ _ _ _ hsw]
  refine wpAny_bind (wpAny_standAt (wpAny_bind ?_))
  show wpAny _ X.A (do let _ ← comprehension (.DictComp kx vx [⟨tg, iter, ifs, 0⟩] scope pos) scope X.env (firstIterPos [⟨tg, iter, ifs, 0⟩] pos) newDict false (eval iter X.env) (some (assign (.Name y py) X.env))) _ _ s
  have h' : tDc wi g tt tk tv (own.map (·.2)) σ H (fun x H1 => gName i x σ H1 D.nx) := h
  refine wpAny_bind (thn (dc_core (Qf := fun _ s' => SP X pins D .next s') hc hN I hi ok hg ht hk he hs h' fun L C s' m H' I' q hn f => ?_) fun _ s' hq => wpAny_pure (wpAny_pure hq))
  show wpAny _ _ (assign (.Name y py) X.env (.ref L)) _ _ _
  refine wpAny_assign_Name (store_ok2 (v := V.ref L) I' hN hy (.inl hyl) rfl (fun s2 I2 ⟨a, sb, ha⟩ => ?_) (.inr hyl))
  obtain ⟨f0, f1, f2, f3, f4, f5⟩ := f
  have haC : C ≠ a := by
    intro e
    rcases ha with z | z
    · exact f1 (e.trans z)
    · exact f4 y a z e.symm
  refine ⟨m, hn.sameBut sb haC, fun h3 sb3 => ⟨_, H', I2.turned (t' := s2.toks) (fun b o hb e => (sb3.2 b hb).trans e) f0 f1 f3 f4 f5, q⟩⟩
theorem sw_trueD {kx vx : Expr} {gs : List Comprehension} {scope : Scope} {pos py : Pos} {y : Str} {l : Nat} {env : Env} (hk : env.scope.kind = .function) (hy : env.scope.names.lookup y = some .local) (hl : (py.line == pos.line) = true)
    (ha : (scope.names.any fun (n, k) => n == y && (k == .local || k == .cell)) = false) : swapsWith (.DictComp kx vx gs scope pos) (some (.Name y py)) l env = pure true := by
  have ky : env.kindOf y = some .local := hy
  have hb : env.blockKind = .function := by
    unfold Env.blockKind
    rw [hk]
    rfl
  unfold swapsWith
  simp only [hb, ky, ha, Expr.pos, hl]
  rfl
end
end TH

namespace TH
open PySem PySem.Spec PyProof.Rows L2
section
variable {K : PySem.W.Frag} {σ : L2.St} {H : Hp} {Q : VK} {D : Ends} {ta tb td ty tv tx tk te : TE} {tr : TA} {t : TS} {R : It → Hp → Prop}
theorem w_dput (k : tv σ H fun v H1 => td σ H1 fun x H2 => ty σ H2 fun y H3 => ∃ a H4, x = .ref a ∧ DPut H3 a y v H4 ∧ D.nx σ H4) : sDPut td ty tv D σ H := k
theorem w_lock (k : ∃ d u, H d = some u ∧ Mut (some u) ∧ ∀ od, t ⟨fun σ' H' => H' d = some (.frz od u) ∧ D.nx σ' (upd H' d u), fun v H' => H' d = some (.frz od u) ∧ D.rt v (upd H' d u), fun σ' H' => H' d = some (.frz od u) ∧ D.bk σ' (upd H' d u), fun σ' H' => H' d = some (.frz od u) ∧ D.ct σ' (upd H' d u)⟩ σ (upd H d (.frz od u))) : tLock t D σ H := k
theorem w_ikeys (k : td σ H fun x H1 => ∃ d o, x = .ref d ∧ ((∃ kvs, H1 d = some (.frz o (.dK kvs)) ∧ R (Itk d o kvs) H1) ∨ ∃ kvs, H1 d = some (.frz o (.dT kvs)) ∧ R (Itkt d o kvs) H1)) : iKeys td σ H R := k
theorem w_iitems (k : td σ H fun x H1 => ∃ d o kvs, x = .ref d ∧ H1 d = some (.frz o (.dK kvs)) ∧ R (Iti d o kvs) H1) : iItems td σ H R := k
theorem w_dispT1 (k : ∀ p, H p = none → tk σ (upd H p (.dT [])) fun x H1 => tv σ H1 fun y H2 => ∃ (b : Addr) (k : List Key), x = .ref b ∧ H2 p = some (.dT []) ∧ H2 b = some (.tup (k.map kV)) ∧ Q (.ref p) (upd H2 p (.dT [(k, y)]))) : tDispT1 tk tv σ H Q := k
theorem w_dnewT (k : ∀ p, H p = none → Q (.ref p) (upd H p (.dT []))) : tDNewT σ H Q := k
theorem w_dnewK (k : ∀ p, H p = none → Q (.ref p) (upd H p (.dK []))) : tDNewK σ H Q := k
theorem w_fld {f : Str} (k : ta σ H fun x H1 => ∃ a C dx fs v, x = .ref a ∧ H1 a = some (.ins C dx fs) ∧ Cls K C ∧ NoAttr K C f ∧ fs.lookup f = some v ∧ Q v H1) : tFld K ta f σ H Q := k
theorem w_sfld {f : Str} (k : tv σ H fun y H1 => ta σ H1 fun x H2 => ∃ a C dx fs, x = .ref a ∧ H2 a = some (.ins C dx fs) ∧ Cls K C ∧ NoAttr K C f ∧ fs.length < 1000 ∧ D.nx σ (upd H2 a (.ins C dx (putF f y fs)))) : sFld K ta tv f D σ H := k
theorem w_meth {C : Addr} {m : Str} {sp : Sp} {dvs : List V} {E : XK} (k : ta σ H fun x H1 => ∃ a dx fs, x = .ref a ∧ H1 a = some (.ins C dx fs) ∧ fs.lookup m = none ∧ tr σ H1 fun vs H2 => sp (x :: (vs ++ dvs)) H2 Q E) : tMeth C m sp dvs E ta tr σ H Q := k
theorem w_make {C : Addr} {sp : Sp} {dvs : List V} {E : XK} (k : tr σ H fun vs H1 => ∀ x dx, H1 x = none → H1 dx = none → dx ≠ x → sp (.ref x :: (vs ++ dvs)) (upd (upd H1 dx (.own x)) x (.ins C dx [])) (fun v H2 => v = .non ∧ Q (.ref x) H2) E) : tMake C sp dvs E tr σ H Q := k
theorem w_dget2 (k : td σ H fun x H1 => ∃ a, x = .ref a ∧ IsD H1 a ∧ ty σ H1 fun y H2 => tx σ H2 fun z H3 => ∃ o, DGet H3 a y o ∧ Q (o.getD z) H3) : tDGet2 td ty tx σ H Q := k
theorem w_revL (k : te σ H fun x H1 => ∃ a xs, x = .ref a ∧ SqL K H1 a xs ∧ ∀ p, H1 p = none → Q (.ref p) (upd H1 p (.lst xs.reverse))) : tRevL K te σ H Q := k
end
theorem hu64_of {A : Around} {k : Nat} (hr : Room k A) : A.units + 64 < cLine := hr.units
theorem Ex.both {H H' : Hp} {d : Addr} {u : HO} (e : Ex H H') : Ex (upd H d u) (upd H' d u) := fun a o h => by
  by_cases ha : a = d
  · subst ha
    rw [upd_same] at h ⊢
    exact h
  · rw [upd_ne ha] at h ⊢
    exact e a o h
/-! rows as keys -/
def insR (ks : List (List Int)) (r : List Int) : List (List Int) := if r ∈ ks then ks else ks ++ [r]
theorem mem_insR {ks : List (List Int)} {r x : List Int} : x ∈ insR ks r ↔ x ∈ ks ∨ x = r := by
  unfold insR
  split
  · next h => exact ⟨.inl, fun z => z.elim id fun e => e ▸ h⟩
  · rw [List.mem_append, List.mem_singleton]
theorem nodup_insR {ks : List (List Int)} {r : List Int} (h : ks.Nodup) : (insR ks r).Nodup := by
  unfold insR
  split
  · exact h
  · next hn => exact List.nodup_append.mpr ⟨h, by simp, fun a ha b hb e => hn (by rw [List.mem_singleton] at hb; rw [← hb, ← e]; exact ha)⟩
theorem inl_inj : ∀ {a b : List Int}, a.map (Sum.inl : Int → Key) = b.map Sum.inl → a = b
  | [], [], _ => rfl
  | [], _ :: _, h => by cases h
  | _ :: _, [], h => by cases h
  | x :: a, y :: b, h => by
    rw [List.map_cons, List.map_cons] at h
    injection h with h1 h2
    rw [Sum.inl.inj h1, inl_inj h2]
theorem keyRows_put {kvs : List (List Key × V)} {ks : List (List Int)} {r : List Int} {v : V} (h : KeyRows kvs ks) : KeyRows (putK kvs (r.map Sum.inl) v) (insR ks r) := by
  have hany : (kvs.any fun kv => decide (kv.1 = r.map Sum.inl)) = true ↔ r ∈ ks := by
    rw [List.any_eq_true]
    constructor
    · intro ⟨p, hp, e⟩
      have e1 := of_decide_eq_true e
      have hm : p.1 ∈ kvs.map (·.1) := List.mem_map.mpr ⟨p, hp, rfl⟩
      rw [h] at hm
      obtain ⟨r', hr', e2⟩ := List.mem_map.mp hm
      rw [e1] at e2
      rw [← inl_inj e2]
      exact hr'
    · intro hr
      have hm : r.map Sum.inl ∈ kvs.map (·.1) := by
        rw [h]
        exact List.mem_map.mpr ⟨r, hr, rfl⟩
      obtain ⟨p, hp, e⟩ := List.mem_map.mp hm
      exact ⟨p, hp, decide_eq_true e⟩
  unfold putK insR KeyRows
  by_cases hr : r ∈ ks
  · rw [if_pos (hany.mpr hr), if_pos hr, List.map_map, ← h]
    refine List.map_congr_left fun p _ => ?_
    show (if p.1 = r.map Sum.inl then (p.1, v) else p).1 = p.1
    split <;> rfl
  · rw [if_neg (fun z => hr (hany.mp z)), if_neg hr, List.map_append, List.map_append, h]
    rfl
theorem keyRows_len {kvs : List (List Key × V)} {ks : List (List Int)} (h : KeyRows kvs ks) : kvs.length = ks.length := by
  have := congrArg List.length h
  simpa using this
theorem keyRows_at {kvs : List (List Key × V)} {ks : List (List Int)} {i : Nat} {k : List Key} {v : V} (h : KeyRows kvs ks) (e : kvs[i]? = some (k, v)) : ∃ r, ks[i]? = some r ∧ k = r.map Sum.inl := by
  have h1 : (kvs.map (·.1))[i]? = some k := by rw [List.getElem?_map, e]; rfl
  rw [h, List.getElem?_map] at h1
  cases g : ks[i]? with
  | none => rw [g] at h1; cases h1
  | some r => rw [g] at h1; exact ⟨r, rfl, (Option.some.inj h1).symm⟩
end TH

namespace TH
open PySem PySem.Spec PyProof.Rows L2
section
variable {J : It} {n : Nat} {G : Hp → Prop} {Y : Nat → Hp → V → Hp → Prop} {g : TG} {tt : TT} {tk tv : TE} {vs : List Nat} {σ : L2.St} {H H1 : Hp} {Dl : Addr} {Q : VK} {wi : TI}
theorem w_dc (k : wi σ H fun J H1 => ∀ D, H1 D = none → ∃ W : Nat → Nat → Hp → Prop, (∃ m, W 0 m (upd H1 D (.dK []))) ∧ ∀ i m H, W i m H →
      (J.stop i H ∧ Q (.ref D) H) ∨ (J.go i H ∧ ∃ Nx : Hp → Prop, (∀ H', Nx H' → ∃ m', m' < m ∧ W (i + 1) m' H') ∧ ∀ x H', J.yld i H x H' → g x (wipe σ vs) H' fun σ2 H2 => wipe σ2 vs = wipe σ vs ∧ tt σ2 H2 fun b H3 =>
        if b = true then tk σ2 H3 fun y H4 => tv σ2 H4 fun z H5 => ∃ kvs k, y = kV k ∧ H5 D = some (.dK kvs) ∧ kvs.length < sizeLine ∧ Nx (upd H5 D (.dK (putK kvs k z))) else Nx H3)) : tDc wi g tt tk tv vs σ H Q := k
theorem dc_go {σ0 : L2.St} {C : L2.St → Prop} {Qd : Hp → Prop} (w : Walk J n G Y) (Pv : Nat → Hp → Prop) (h0 : Pv 0 (upd H1 Dl (.dK []))) (hG : ∀ i H, i ≤ n → Pv i H → G H)
    (hs : ∀ i x H H', i < n → Pv i H → Y i H x H' → g x σ0 H' fun σ2 H2 => C σ2 ∧ tt σ2 H2 fun b H3 =>
      if b = true then tk σ2 H3 fun y H4 => tv σ2 H4 fun z H5 => ∃ kvs k, y = kV k ∧ H5 Dl = some (.dK kvs) ∧ kvs.length < sizeLine ∧ Pv (i + 1) (upd H5 Dl (.dK (putK kvs k z))) else Pv (i + 1) H3) (hd : ∀ H, Pv n H → Qd H) :
    ∃ W : Nat → Nat → Hp → Prop, (∃ m, W 0 m (upd H1 Dl (.dK []))) ∧ ∀ i m H, W i m H →
      (J.stop i H ∧ Qd H) ∨ (J.go i H ∧ ∃ Nx : Hp → Prop, (∀ H', Nx H' → ∃ m', m' < m ∧ W (i + 1) m' H') ∧ ∀ x H', J.yld i H x H' → g x σ0 H' fun σ2 H2 => C σ2 ∧ tt σ2 H2 fun b H3 =>
        if b = true then tk σ2 H3 fun y H4 => tv σ2 H4 fun z H5 => ∃ kvs k, y = kV k ∧ H5 Dl = some (.dK kvs) ∧ kvs.length < sizeLine ∧ Nx (upd H5 Dl (.dK (putK kvs k z))) else Nx H3) := by
  refine ⟨fun i m H => m = n - i ∧ i ≤ n ∧ Pv i H, ⟨n, by simp, Nat.zero_le _, h0⟩, ?_⟩
  rintro i m H ⟨rfl, hi, p⟩
  have hg := hG i H hi p
  by_cases lt : i < n
  · exact .inr ⟨w.goes i H lt hg, Pv (i + 1), fun H' p' => ⟨n - (i + 1), by omega, rfl, lt, p'⟩, fun x H' y => hs i x H H' lt p (w.yields i H x H' lt hg y)⟩
  · obtain rfl : i = n := by omega
    exact .inl ⟨w.stops H hg, hd H p⟩
end
/-- what stood beside a locked object -/
theorem lock_back {H H' : Hp} {d a : Addr} {u o : HO} (g : Ex H (upd H' d u)) (ha : a ≠ d) (h : H a = some o) : H' a = some o := by
  have := g a o h
  rw [upd_ne ha] at this
  exact this
theorem lock_start {H : Hp} {d : Addr} {u o : HO} (h : H d = some u) : Ex H (upd (upd H d o) d u) := fun a x hx => by
  rw [upd_upd]
  by_cases e : a = d
  · rw [e] at hx ⊢
    rw [upd_same, ← h, hx]
  · rw [upd_ne e]
    exact hx
end TH

namespace LA
open Lean.Grind
variable {F : Type} [CommRing F]

/-- the j-th value of a row, 0 beyond -/
abbrev at' (r : List F) (j : Nat) : F := r.getD j 0
def sub (r o : List F) (c : F) : List F := List.zipWith (fun a b => a - c * b) r o
def smul (c : F) (r : List F) : List F := r.map (fun a => c * a)
def zero (w : Nat) : List F := List.replicate w 0

theorem sub_len {r o : List F} {c : F} {w : Nat} (h1 : r.length = w) (h2 : o.length = w) : (sub r o c).length = w := by
  simp [sub, h1, h2]
theorem smul_len {r : List F} {c : F} {w : Nat} (h1 : r.length = w) : (smul c r).length = w := by
  simp [smul, h1]
theorem zero_len {w : Nat} : (zero w : List F).length = w := by simp [zero]
theorem sub_at {r o : List F} {c : F} (h : r.length = o.length) (j : Nat) : at' (sub r o c) j = at' r j - c * at' o j := by
  unfold at' sub
  by_cases hj : j < r.length
  · have hj2 : j < o.length := by omega
    simp [List.getD_eq_getElem?_getD, List.getElem?_zipWith, List.getElem?_eq_getElem hj, List.getElem?_eq_getElem hj2]
  · have a1 : r[j]? = none := List.getElem?_eq_none (by omega)
    have a2 : o[j]? = none := List.getElem?_eq_none (by omega)
    simp [List.getD_eq_getElem?_getD, List.getElem?_zipWith, a1, a2]
    grind
theorem smul_at {r : List F} {c : F} (j : Nat) : at' (smul c r) j = c * at' r j := by
  unfold at' smul
  simp only [List.getD_eq_getElem?_getD, List.getElem?_map]
  cases r[j]? with
  | none => simp; grind
  | some v => simp
theorem zero_at {w : Nat} (j : Nat) : at' (zero w : List F) j = 0 := by
  unfold at' zero
  simp only [List.getD_eq_getElem?_getD, List.getElem?_replicate]
  split <;> simp
theorem ext' {r o : List F} (h : r.length = o.length) (e : ∀ j, at' r j = at' o j) : r = o := by
  apply List.ext_getElem h
  intro j h1 h2
  have := e j
  simpa [at', List.getD_eq_getElem?_getD, List.getElem?_eq_getElem h1, List.getElem?_eq_getElem h2] using this

/-- rows whose mixtures are spanned -/
def InS (w : Nat) : List (List F) → List F → Prop
  | [], v => v = zero w
  | r :: rs, v => ∃ c, InS w rs (sub v r c)

def Wd (w : Nat) (S : List (List F)) : Prop := ∀ r ∈ S, r.length = w
variable {w : Nat}
theorem Wd.tail {r : List F} {S : List (List F)} (h : Wd w (r :: S)) : Wd w S := fun x hx => h x (List.mem_cons_of_mem _ hx)
theorem Wd.head {r : List F} {S : List (List F)} (h : Wd w (r :: S)) : r.length = w := h r List.mem_cons_self

theorem inS_zero : ∀ {S : List (List F)}, Wd w S → InS w S (zero w)
  | [], _ => rfl
  | r :: S, h => ⟨0, by
      have e : sub (zero w) r 0 = zero w := by
        apply ext'
        · rw [sub_len zero_len h.head, zero_len]
        · intro j
          rw [sub_at (by rw [zero_len, h.head]), zero_at]
          grind
      rw [e]
      exact inS_zero h.tail⟩
theorem inS_sub : ∀ {S : List (List F)} {u v : List F} {c : F}, Wd w S → u.length = w → v.length = w → InS w S u → InS w S v → InS w S (sub u v c)
  | [], u, v, c, _, hu, hv, a, b => by
    have a' : u = zero w := a
    have b' : v = zero w := b
    show sub u v c = zero w
    rw [a', b']
    apply ext'
    · rw [sub_len zero_len zero_len, zero_len]
    · intro j
      rw [sub_at rfl, zero_at]
      grind
  | r :: S, u, v, c, h, hu, hv, ⟨cu, a⟩, ⟨cv, b⟩ => by
    refine ⟨cu - c * cv, ?_⟩
    have l1 := h.head
    have e : sub (sub u v c) r (cu - c * cv) = sub (sub u r cu) (sub v r cv) c := by
      apply ext'
      · rw [sub_len (sub_len hu hv) l1, sub_len (sub_len hu l1) (sub_len hv l1)]
      · intro j
        rw [sub_at (by rw [sub_len hu hv, l1]), sub_at (by rw [hu, hv]), sub_at (by rw [sub_len hu l1, sub_len hv l1]), sub_at (by rw [hu, l1]), sub_at (by rw [hv, l1])]
        grind
    rw [e]
    exact inS_sub h.tail (sub_len hu l1) (sub_len hv l1) a b
theorem inS_len : ∀ {S : List (List F)} {v : List F}, Wd w S → v.length = w → True := fun _ _ => trivial
theorem sub_zero' {v o : List F} (h : v.length = w) (ho : o.length = w) : sub v o 0 = v := by
  apply ext'
  · rw [sub_len h ho, h]
  · intro j
    rw [sub_at (by rw [h, ho])]
    grind
theorem sub_self' {v : List F} (h : v.length = w) : sub v v 1 = zero w := by
  apply ext'
  · rw [sub_len h h, zero_len]
  · intro j
    rw [sub_at rfl, zero_at]
    grind
theorem inS_cons {S : List (List F)} {r v : List F} (h : Wd w (r :: S)) (hv : v.length = w) (a : InS w S v) : InS w (r :: S) v := ⟨0, by rw [sub_zero' hv h.head]; exact a⟩
theorem inS_mem : ∀ {S : List (List F)} {r : List F}, Wd w S → r ∈ S → InS w S r
  | s :: S, r, h, m => by
    rcases List.mem_cons.mp m with e | m
    · subst e
      exact ⟨1, by rw [sub_self' h.head]; exact inS_zero h.tail⟩
    · exact inS_cons h (h r (List.mem_cons_of_mem _ m)) (inS_mem h.tail m)
/-- back: from v - c r and r -/
theorem inS_back {S : List (List F)} {v r : List F} {c : F} (h : Wd w S) (hv : v.length = w) (hr : r.length = w) (a : InS w S (sub v r c)) (b : InS w S r) : InS w S v := by
  have e : sub (sub v r c) r (-c) = v := by
    apply ext'
    · rw [sub_len (sub_len hv hr) hr, hv]
    · intro j
      rw [sub_at (by rw [sub_len hv hr, hr]), sub_at (by rw [hv, hr])]
      grind
  rw [← e]
  exact inS_sub h (sub_len hv hr) hr a b
theorem span_le : ∀ {S T : List (List F)} {v : List F}, Wd w S → Wd w T → v.length = w → (∀ r ∈ S, InS w T r) → InS w S v → InS w T v
  | [], T, v, _, hT, hv, _, a => by
    have a' : v = zero w := a
    rw [a']
    exact inS_zero hT
  | s :: S, T, v, h, hT, hv, m, ⟨c, a⟩ =>
    inS_back hT hv h.head (span_le h.tail hT (sub_len hv h.head) (fun r hr => m r (List.mem_cons_of_mem _ hr)) a) (m s List.mem_cons_self)
theorem inS_smul {S : List (List F)} {v : List F} {c : F} (h : Wd w S) (hv : v.length = w) (a : InS w S v) : InS w S (smul c v) := by
  have e : smul c v = sub (zero w) v (-c) := by
    apply ext'
    · rw [smul_len hv, sub_len zero_len hv]
    · intro j
      rw [smul_at, sub_at (by rw [zero_len, hv]), zero_at]
      grind
  rw [e]
  exact inS_sub h zero_len hv (inS_zero h) a
/-- the same room -/
def Eqv (w : Nat) (S T : List (List F)) : Prop := ∀ v : List F, v.length = w → (InS w S v ↔ InS w T v)
theorem Eqv.refl (S : List (List F)) : Eqv w S S := fun _ _ => Iff.rfl
theorem Eqv.symm {S T : List (List F)} (h : Eqv w S T) : Eqv w T S := fun v l => (h v l).symm
theorem Eqv.trans {S T U : List (List F)} (h : Eqv w S T) (k : Eqv w T U) : Eqv w S U := fun v l => (h v l).trans (k v l)
theorem Eqv.of {S T : List (List F)} (hS : Wd w S) (hT : Wd w T) (a : ∀ r ∈ S, InS w T r) (b : ∀ r ∈ T, InS w S r) : Eqv w S T :=
  fun v l => ⟨span_le hS hT l a, span_le hT hS l b⟩

/-- a row with its first place -/
structure Good (w : Nat) (a : Nat × List F) : Prop where
  len : a.2.length = w
  lt : a.1 < w
  one : at' a.2 a.1 = 1
  nil : ∀ j, j < a.1 → at' a.2 j = 0
structure Lad (w : Nat) (L : List (Nat × List F)) : Prop where
  good : ∀ a ∈ L, Good w a
  pw : L.Pairwise fun a b => a.1 < b.1 ∧ at' a.2 b.1 = 0
abbrev rowsOf (L : List (Nat × List F)) : List (List F) := L.map (·.2)
theorem Lad.wd {L : List (Nat × List F)} (h : Lad w L) : Wd w (rowsOf L) := fun r hr => by
  obtain ⟨a, ha, rfl⟩ := List.mem_map.mp hr
  exact (h.good a ha).len
theorem Lad.tail {a : Nat × List F} {L : List (Nat × List F)} (h : Lad w (a :: L)) : Lad w L :=
  ⟨fun b hb => h.good b (List.mem_cons_of_mem _ hb), (List.pairwise_cons.mp h.pw).2⟩
theorem Lad.later {a : Nat × List F} {L : List (Nat × List F)} (h : Lad w (a :: L)) : ∀ b ∈ L, a.1 < b.1 ∧ at' a.2 b.1 = 0 := (List.pairwise_cons.mp h.pw).1
/-- all rows of a room of rows with noughts at j have a nought at j -/
theorem inS_nil : ∀ {S : List (List F)} {v : List F} {j : Nat}, Wd w S → v.length = w → (∀ r ∈ S, at' r j = 0) → InS w S v → at' v j = 0
  | [], v, j, _, _, _, a => by
    have a' : v = zero w := a
    rw [a', zero_at]
  | r :: S, v, j, h, hv, m, ⟨c, a⟩ => by
    have q := inS_nil h.tail (sub_len hv h.head) (fun x hx => m x (List.mem_cons_of_mem _ hx)) a
    rw [sub_at (by rw [hv, h.head]), m r List.mem_cons_self] at q
    grind
theorem lad_zero : ∀ {L : List (Nat × List F)} {v : List F}, Lad w L → v.length = w → InS w (rowsOf L) v → (∀ a ∈ L, at' v a.1 = 0) → v = zero w
  | [], v, _, _, a, _ => a
  | a :: L, v, h, hv, ⟨c, s⟩, m => by
    have la := (h.good a List.mem_cons_self).len
    have q0 : at' (sub v a.2 c) a.1 = 0 := inS_nil h.tail.wd (sub_len hv la) (fun r hr => by
      obtain ⟨b, hb, rfl⟩ := List.mem_map.mp hr
      exact (h.good b (List.mem_cons_of_mem _ hb)).nil _ (h.later b hb).1) s
    have c0 : c = 0 := by
      rw [sub_at (by rw [hv, la]), m a List.mem_cons_self, (h.good a List.mem_cons_self).one] at q0
      grind
    rw [c0, sub_zero' hv la] at s
    exact lad_zero h.tail hv s fun b hb => m b (List.mem_cons_of_mem _ hb)
/-- the first place of a row of the room is one of the ladder's -/
theorem lad_lead : ∀ {L : List (Nat × List F)} {v : List F} {q : Nat}, Lad w L → v.length = w → InS w (rowsOf L) v → at' v q ≠ 0 → (∀ j, j < q → at' v j = 0) → ∃ a ∈ L, a.1 = q
  | [], v, q, _, _, a, hq, _ => by
    have a' : v = zero w := a
    rw [a', zero_at] at hq
    exact absurd rfl hq
  | a :: L, v, q, h, hv, ⟨c, s⟩, hq, m => by
    have ga := h.good a List.mem_cons_self
    have la := ga.len
    have nz : ∀ j, j ≤ a.1 → at' (sub v a.2 c) j = 0 := fun j hj => inS_nil h.tail.wd (sub_len hv la) (fun r hr => by
      obtain ⟨b, hb, rfl⟩ := List.mem_map.mp hr
      exact (h.good b (List.mem_cons_of_mem _ hb)).nil _ (Nat.lt_of_le_of_lt hj (h.later b hb).1)) s
    have c1 : at' v a.1 = c := by
      have := nz a.1 (Nat.le_refl _)
      rw [sub_at (by rw [hv, la]), ga.one] at this
      grind
    by_cases hc : c = 0
    · rw [hc, sub_zero' hv la] at s
      obtain ⟨b, hb, e⟩ := lad_lead h.tail hv s hq m
      exact ⟨b, List.mem_cons_of_mem _ hb, e⟩
    · refine ⟨a, List.mem_cons_self, ?_⟩
      have h1 : ¬ a.1 < q := fun z => hc (by rw [← c1]; exact m _ z)
      have h2 : ¬ q < a.1 := fun z => hq (by
        have := nz q (Nat.le_of_lt z)
        rw [sub_at (by rw [hv, la]), ga.nil q z] at this
        grind)
      omega
theorem Lad.zeroAt {L : List (Nat × List F)} (h : Lad w L) : ∀ a ∈ L, ∀ b ∈ L, a.1 ≠ b.1 → at' a.2 b.1 = 0 := by
  intro a ha b hb ne
  rcases Nat.lt_or_gt_of_ne ne with l | l
  · -- a is ahead of b
    have key : ∀ (M : List (Nat × List F)), M.Pairwise (fun a b => a.1 < b.1 ∧ at' a.2 b.1 = 0) → a ∈ M → b ∈ M → at' a.2 b.1 = 0 := by
      intro M
      induction M with
      | nil => intro _ m _; cases m
      | cons x M ih =>
        intro pw ma mb
        obtain ⟨p1, p2⟩ := List.pairwise_cons.mp pw
        rcases List.mem_cons.mp ma with e1 | ma'
        · rcases List.mem_cons.mp mb with e2 | mb'
          · rw [e1, e2] at l; omega
          · rw [e1]; exact (p1 b mb').2
        · rcases List.mem_cons.mp mb with e2 | mb'
          · have := (p1 a ma').1; rw [e2] at l; omega
          · exact ih p2 ma' mb'
    exact key L h.pw ha hb
  · exact (h.good a ha).nil _ l
theorem lad_sub {L M : List (Nat × List F)} (ne : (1 : F) ≠ 0) (hL : Lad w L) (hM : Lad w M) (e : Eqv w (rowsOf L) (rowsOf M)) : ∀ a ∈ L, a ∈ M := by
  intro a ha
  have places : ∀ {A B : List (Nat × List F)}, Lad w A → Lad w B → Eqv w (rowsOf A) (rowsOf B) → ∀ x ∈ A, ∃ y ∈ B, y.1 = x.1 := by
    intro A B hA hB e x hx
    have gx := hA.good x hx
    exact lad_lead hB gx.len ((e _ gx.len).mp (inS_mem hA.wd (List.mem_map.mpr ⟨x, hx, rfl⟩))) (by rw [gx.one]; exact ne) gx.nil
  obtain ⟨b, hb, eb⟩ := places hL hM e a ha
  have ga := hL.good a ha
  have gb := hM.good b hb
  have d0 : sub a.2 b.2 1 = zero w := lad_zero hM (sub_len ga.len gb.len)
    (inS_sub hM.wd ga.len gb.len ((e _ ga.len).mp (inS_mem hL.wd (List.mem_map.mpr ⟨a, ha, rfl⟩))) (inS_mem hM.wd (List.mem_map.mpr ⟨b, hb, rfl⟩))) (fun x hx => by
      rw [sub_at (by rw [ga.len, gb.len])]
      by_cases hq : x.1 = a.1
      · rw [hq, ga.one, ← eb, gb.one]
        grind
      · obtain ⟨y, hy, ey⟩ := places hM hL e.symm x hx
        have z1 : at' a.2 x.1 = 0 := by
          rw [← ey]
          exact hL.zeroAt a ha y hy (by rw [ey]; exact fun z => hq z.symm)
        have z2 : at' b.2 x.1 = 0 := hM.zeroAt b hb x hx (by rw [eb]; exact fun z => hq z.symm)
        rw [z1, z2]
        grind)
  have er : a.2 = b.2 := by
    apply ext'
    · rw [ga.len, gb.len]
    · intro j
      have := congrArg (fun r => at' r j) d0
      simp only [sub_at (show a.2.length = b.2.length by rw [ga.len, gb.len]), zero_at] at this
      grind
  have : a = b := Prod.ext eb.symm er
  rw [this]
  exact hb
/-- two lists in strict order with the same members are one -/
theorem sorted_one {α : Type} (k : α → Nat) : ∀ {L M : List α}, L.Pairwise (fun a b => k a < k b) → M.Pairwise (fun a b => k a < k b) → (∀ a ∈ L, a ∈ M) → (∀ a ∈ M, a ∈ L) → L = M
  | [], [], _, _, _, _ => rfl
  | [], b :: M, _, _, _, h => by have := h b List.mem_cons_self; cases this
  | a :: L, [], _, _, h, _ => by have := h a List.mem_cons_self; cases this
  | a :: L, b :: M, pL, pM, h1, h2 => by
    obtain ⟨a1, a2⟩ := List.pairwise_cons.mp pL
    obtain ⟨b1, b2⟩ := List.pairwise_cons.mp pM
    have e : a = b := by
      rcases List.mem_cons.mp (h1 a List.mem_cons_self) with e | m
      · exact e
      · rcases List.mem_cons.mp (h2 b List.mem_cons_self) with e | m'
        · exact e.symm
        · have x1 := b1 a m
          have x2 := a1 b m'
          omega
    subst e
    congr 1
    refine sorted_one k a2 b2 (fun x hx => ?_) (fun x hx => ?_)
    · rcases List.mem_cons.mp (h1 x (List.mem_cons_of_mem _ hx)) with e | m
      · subst e
        have := a1 x hx
        omega
      · exact m
    · rcases List.mem_cons.mp (h2 x (List.mem_cons_of_mem _ hx)) with e | m
      · subst e
        have := b1 x hx
        omega
      · exact m
/-- each room has just one ladder -/
theorem lad_one {L M : List (Nat × List F)} (ne : (1 : F) ≠ 0) (hL : Lad w L) (hM : Lad w M) (e : Eqv w (rowsOf L) (rowsOf M)) : L = M :=
  sorted_one (·.1) (hL.pw.imp fun h => h.1) (hM.pw.imp fun h => h.1) (lad_sub ne hL hM e) (lad_sub ne hM hL e.symm)
end LA

namespace LA
open Lean.Grind
variable {F : Type} [CommRing F] {w : Nat}
theorem inS_mono {S T : List (List F)} {v : List F} (hS : Wd w S) (hT : Wd w T) (hv : v.length = w) (m : ∀ r ∈ S, r ∈ T) (a : InS w S v) : InS w T v := span_le hS hT hv (fun r hr => inS_mem hT (m r hr)) a
theorem Eqv.mem {S T : List (List F)} (hS : Wd w S) (hT : Wd w T) (h : ∀ r, r ∈ S ↔ r ∈ T) : Eqv w S T := fun v hv => ⟨inS_mono hS hT hv fun r hr => (h r).mp hr, inS_mono hT hS hv fun r hr => (h r).mpr hr⟩
/-- all steps taken off, one by one -/
def lessF (S : List (Nat × List F)) (l : List F) : List F := S.foldl (fun l a => sub l a.2 (at' l a.1)) l
structure Sta (w : Nat) (S : List (Nat × List F)) : Prop where
  good : ∀ a ∈ S, Good w a
  pw : S.Pairwise fun a b => a.1 ≠ b.1 ∧ at' b.2 a.1 = 0
abbrev Wds (w : Nat) (S : List (Nat × List F)) : Prop := ∀ a ∈ S, a.2.length = w
theorem Sta.wds {S : List (Nat × List F)} (h : Sta w S) : Wds w S := fun a ha => (h.good a ha).len
theorem Wds.wd {S : List (Nat × List F)} (h : Wds w S) : Wd w (rowsOf S) := fun r hr => by
  obtain ⟨a, ha, rfl⟩ := List.mem_map.mp hr
  exact h a ha
theorem lessF_len : ∀ {S : List (Nat × List F)} {l : List F}, Wds w S → l.length = w → (lessF S l).length = w
  | [], _, _, h => h
  | a :: S, l, hS, h => lessF_len (S := S) (fun b hb => hS b (List.mem_cons_of_mem _ hb)) (sub_len h (hS a List.mem_cons_self))
theorem lessF_keep : ∀ {S : List (Nat × List F)} {l : List F} {q : Nat}, Wds w S → l.length = w → (∀ b ∈ S, at' b.2 q = 0) → at' (lessF S l) q = at' l q
  | [], _, _, _, _, _ => rfl
  | a :: S, l, q, hS, h, hq => by
    have la := hS a List.mem_cons_self
    have := lessF_keep (S := S) (l := sub l a.2 (at' l a.1)) (q := q) (fun b hb => hS b (List.mem_cons_of_mem _ hb)) (sub_len h la) fun b hb => hq b (List.mem_cons_of_mem _ hb)
    show at' (lessF S (sub l a.2 (at' l a.1))) q = _
    rw [this, sub_at (by rw [h, la]), hq a List.mem_cons_self]
    grind
theorem lessF_zero : ∀ {S : List (Nat × List F)} {l : List F}, Sta w S → l.length = w → ∀ a ∈ S, at' (lessF S l) a.1 = 0
  | [], _, _, _, a, ha => nomatch ha
  | x :: S, l, hS, h, a, ha => by
    have gx := hS.good x List.mem_cons_self
    obtain ⟨p1, p2⟩ := List.pairwise_cons.mp hS.pw
    have hT : Sta w S := ⟨fun b hb => hS.good b (List.mem_cons_of_mem _ hb), p2⟩
    have l2 := sub_len (c := at' l x.1) h gx.len
    rcases List.mem_cons.mp ha with e | m
    · subst e
      have := lessF_keep (S := S) (l := sub l a.2 (at' l a.1)) (q := a.1) hT.wds l2 fun b hb => (p1 b hb).2
      show at' (lessF S (sub l a.2 (at' l a.1))) a.1 = _
      rw [this, sub_at (by rw [h, gx.len]), gx.one]
      grind
    · exact lessF_zero hT l2 a m
theorem lessF_span : ∀ {S : List (Nat × List F)} {l : List F} {T : List (List F)}, Wds w S → Wd w T → l.length = w → (∀ a ∈ S, InS w T a.2) → (InS w T (lessF S l) ↔ InS w T l)
  | [], _, _, _, _, _, _ => Iff.rfl
  | a :: S, l, T, hS, hT, h, m => by
    have la := hS a List.mem_cons_self
    have ia := m a List.mem_cons_self
    refine (lessF_span (S := S) (fun b hb => hS b (List.mem_cons_of_mem _ hb)) hT (sub_len h la) fun b hb => m b (List.mem_cons_of_mem _ hb)).trans ⟨fun z => inS_back hT h la z ia, fun z => inS_sub hT h la z ia⟩
theorem smul_one' {l : List F} {t v : F} (hl : l.length = w) (e : t * v = 1) : smul v (smul t l) = l := by
  apply ext'
  · rw [smul_len (smul_len hl), hl]
  · intro j
    rw [smul_at, smul_at]
    grind
theorem wd_snoc {R : List (List F)} {l : List F} (hR : Wd w R) (hl : l.length = w) : Wd w (R ++ [l]) := fun r hr => by
  rcases List.mem_append.mp hr with m | m
  · exact hR r m
  · rw [List.mem_singleton.mp m]; exact hl
/-- a row that leaves nothing -/
theorem sta_none {S : List (Nat × List F)} {R : List (List F)} {l : List F} (hS : Sta w S) (hR : Wd w R) (hl : l.length = w) (e : Eqv w (rowsOf S) R) (hz : lessF S l = zero w) : Eqv w (rowsOf S) (R ++ [l]) := by
  have hT := hS.wds.wd
  refine Eqv.of hT (wd_snoc hR hl) (fun r hr => ?_) (fun r hr => ?_)
  · exact inS_mono hR (wd_snoc hR hl) (hT r hr) (fun x hx => List.mem_append_left _ hx) ((e r (hT r hr)).mp (inS_mem hT hr))
  · rcases List.mem_append.mp hr with m | m
    · exact (e r (hR r m)).mpr (inS_mem hR m)
    · rw [List.mem_singleton.mp m]
      refine (lessF_span hS.wds hT hl fun a ha => inS_mem hT (List.mem_map.mpr ⟨a, ha, rfl⟩)).mp ?_
      rw [hz]
      exact inS_zero hT
/-- a row that leaves a step -/
theorem sta_some {S : List (Nat × List F)} {R : List (List F)} {l : List F} {q : Nat} {t : F} (ne : (1 : F) ≠ 0) (hS : Sta w S) (hR : Wd w R) (hl : l.length = w) (e : Eqv w (rowsOf S) R) (hq : q < w)
    (hn : ∀ j, j < q → at' (lessF S l) j = 0) (ht : t * at' (lessF S l) q = 1) : Sta w (S ++ [(q, smul t (lessF S l))]) ∧ Eqv w (rowsOf (S ++ [(q, smul t (lessF S l))])) (R ++ [l]) := by
  have hw := hS.wds
  have hT := hw.wd
  have ll := lessF_len hw hl
  have g : Good w (q, smul t (lessF S l)) := ⟨smul_len ll, hq, by show at' (smul t (lessF S l)) q = 1; rw [smul_at]; exact ht, fun j hj => by show at' (smul t (lessF S l)) j = 0; rw [smul_at, hn j hj]; grind⟩
  have hnew : Wd w (rowsOf (S ++ [(q, smul t (lessF S l))])) := by
    rw [rowsOf, List.map_append]
    exact wd_snoc hT g.len
  refine ⟨⟨fun a ha => ?_, List.pairwise_append.mpr ⟨hS.pw, List.pairwise_singleton .., fun a ha b hb => ?_⟩⟩, Eqv.of hnew (wd_snoc hR hl) (fun r hr => ?_) (fun r hr => ?_)⟩
  · rcases List.mem_append.mp ha with m | m
    · exact hS.good a m
    · rw [List.mem_singleton.mp m]; exact g
  · rw [List.mem_singleton.mp hb]
    have z := lessF_zero hS hl a ha
    refine ⟨fun ea => ?_, ?_⟩
    · have ea' : a.1 = q := ea
      rw [ea'] at z
      rw [z] at ht
      exact ne (by rw [← ht]; grind)
    · show at' (smul t (lessF S l)) a.1 = 0
      rw [smul_at, z]; grind
  · have hU := wd_snoc hR hl
    rw [rowsOf, List.map_append] at hr
    have inU : ∀ a ∈ S, InS w (R ++ [l]) a.2 := fun a ha => inS_mono hR hU (hw a ha) (fun x hx => List.mem_append_left _ hx) ((e a.2 (hw a ha)).mp (inS_mem hT (List.mem_map.mpr ⟨a, ha, rfl⟩)))
    rcases List.mem_append.mp hr with m | m
    · obtain ⟨a, ha, rfl⟩ := List.mem_map.mp m
      exact inU a ha
    · rw [List.mem_singleton.mp m]
      refine inS_smul hU ll ?_
      exact (lessF_span hw hU hl inU).mpr (inS_mem hU (List.mem_append_right _ (List.mem_singleton.mpr rfl)))
  · have sub' : ∀ x ∈ rowsOf S, x ∈ rowsOf (S ++ [(q, smul t (lessF S l))]) := fun x hx => by
      rw [rowsOf, List.map_append]
      exact List.mem_append_left _ hx
    rcases List.mem_append.mp hr with m | m
    · exact inS_mono hT hnew (hR r m) sub' ((e r (hR r m)).mpr (inS_mem hR m))
    · rw [List.mem_singleton.mp m]
      refine (lessF_span hw hnew hl fun a ha => inS_mem hnew (sub' _ (List.mem_map.mpr ⟨a, ha, rfl⟩))).mp ?_
      have ht' : t * at' (lessF S l) q = 1 := ht
      have e1 := smul_one' (w := w) (l := lessF S l) (t := t) (v := at' (lessF S l) q) ll ht'
      have inn : InS w (rowsOf (S ++ [(q, smul t (lessF S l))])) (smul t (lessF S l)) := inS_mem hnew (by
        rw [rowsOf, List.map_append]
        exact List.mem_append_right _ (List.mem_singleton.mpr rfl))
      have := inS_smul (c := at' (lessF S l) q) hnew (smul_len ll) inn
      rw [e1] at this
      exact this
/-! the steps in order, taken off from behind -/
structure Desc (w : Nat) (D : List (Nat × List F)) : Prop where
  good : ∀ a ∈ D, Good w a
  pw : D.Pairwise fun a b => b.1 < a.1 ∧ at' b.2 a.1 = 0
theorem Desc.sta {D : List (Nat × List F)} (h : Desc w D) : Sta w D := ⟨h.good, h.pw.imp fun ⟨a, b⟩ => ⟨by omega, b⟩⟩
theorem Desc.lad {D : List (Nat × List F)} (h : Desc w D) : Lad w D.reverse := ⟨fun a ha => h.good a (List.mem_reverse.mp ha), List.pairwise_reverse.mpr h.pw⟩
theorem desc_step {D : List (Nat × List F)} {R : List (List F)} {s : List F} {q : Nat} (h : Desc w D) (g : Good w (q, s)) (hd : ∀ a ∈ D, q < a.1) (hR : Wd w R) (e : Eqv w (rowsOf D) R) :
    Desc w (D ++ [(q, lessF D s)]) ∧ Eqv w (rowsOf (D ++ [(q, lessF D s)])) (R ++ [s]) := by
  have hw := h.sta.wds
  have hT := hw.wd
  have ls : s.length = w := g.len
  have ll := lessF_len hw ls
  have keep : ∀ j, j ≤ q → at' (lessF D s) j = at' s j := fun j hj => lessF_keep hw ls fun b hb => (h.good b hb).nil j (Nat.lt_of_le_of_lt hj (hd b hb))
  have g' : Good w (q, lessF D s) := ⟨ll, g.lt, by show at' (lessF D s) q = 1; rw [keep q (Nat.le_refl _)]; exact g.one, fun j hj => by show at' (lessF D s) j = 0; rw [keep j (Nat.le_of_lt hj)]; exact g.nil j hj⟩
  have hnew : Wd w (rowsOf (D ++ [(q, lessF D s)])) := by
    rw [rowsOf, List.map_append]
    exact wd_snoc hT ll
  have hU := wd_snoc hR ls
  refine ⟨⟨fun a ha => ?_, List.pairwise_append.mpr ⟨h.pw, List.pairwise_singleton .., fun a ha b hb => ?_⟩⟩, Eqv.of hnew hU (fun r hr => ?_) (fun r hr => ?_)⟩
  · rcases List.mem_append.mp ha with m | m
    · exact h.good a m
    · rw [List.mem_singleton.mp m]; exact g'
  · rw [List.mem_singleton.mp hb]
    exact ⟨hd a ha, lessF_zero h.sta ls a ha⟩
  · rw [rowsOf, List.map_append] at hr
    have inU : ∀ a ∈ D, InS w (R ++ [s]) a.2 := fun a ha => inS_mono hR hU (hw a ha) (fun x hx => List.mem_append_left _ hx) ((e a.2 (hw a ha)).mp (inS_mem hT (List.mem_map.mpr ⟨a, ha, rfl⟩)))
    rcases List.mem_append.mp hr with m | m
    · obtain ⟨a, ha, rfl⟩ := List.mem_map.mp m
      exact inU a ha
    · rw [List.mem_singleton.mp m]
      exact (lessF_span hw hU ls inU).mpr (inS_mem hU (List.mem_append_right _ (List.mem_singleton.mpr rfl)))
  · have sub' : ∀ x ∈ rowsOf D, x ∈ rowsOf (D ++ [(q, lessF D s)]) := fun x hx => by
      rw [rowsOf, List.map_append]
      exact List.mem_append_left _ hx
    rcases List.mem_append.mp hr with m | m
    · exact inS_mono hT hnew (hR r m) sub' ((e r (hR r m)).mpr (inS_mem hR m))
    · rw [List.mem_singleton.mp m]
      refine (lessF_span hw hnew ls fun a ha => inS_mem hnew (sub' _ (List.mem_map.mpr ⟨a, ha, rfl⟩))).mp (inS_mem hnew ?_)
      rw [rowsOf, List.map_append]
      exact List.mem_append_right _ (List.mem_singleton.mpr rfl)
/-! column by column -/
structure Col (w : Nat) (R : List (List F)) (q : Nat) (left : List (List F)) (L : List (Nat × List F)) : Prop where
  lad : Lad w L
  bef : ∀ a ∈ L, a.1 < q
  len : Wd w left
  nil : ∀ r ∈ left, ∀ j, j < q → at' r j = 0
  eqv : Eqv w (left ++ rowsOf L) R
theorem wd_app {A B : List (List F)} (a : Wd w A) (b : Wd w B) : Wd w (A ++ B) := fun r hr => (List.mem_append.mp hr).elim (a r) (b r)
theorem col_none {R left : List (List F)} {q : Nat} {L : List (Nat × List F)} (h : Col w R q left L) (hz : ∀ r ∈ left, at' r q = 0) : Col w R (q + 1) left L :=
  ⟨h.lad, fun a ha => Nat.lt_succ_of_lt (h.bef a ha), h.len, fun r hr j hj => by
    rcases Nat.lt_or_ge j q with z | z
    · exact h.nil r hr j z
    · have : j = q := by omega
      subst this
      exact hz r hr, h.eqv⟩
theorem col_some {R left rest : List (List F)} {q : Nat} {L : List (Nat × List F)} {head : List F} {t : F} (h : Col w R q left L) (hq : q < w) (hm : ∀ r, r ∈ left ↔ r = head ∨ r ∈ rest) (ht : t * at' head q = 1) :
    Col w R (q + 1) (rest.map fun r => sub r (smul t head) (at' r q)) (L.map (fun a => (a.1, sub a.2 (smul t head) (at' a.2 q))) ++ [(q, smul t head)]) := by
  have hh : head ∈ left := (hm head).mpr (.inl rfl)
  have lh := h.len head hh
  have l1 : (smul t head).length = w := smul_len lh
  have one : at' (smul t head) q = 1 := by rw [smul_at]; exact ht
  have nil : ∀ j, j < q → at' (smul t head) j = 0 := fun j hj => by rw [smul_at, h.nil head hh j hj]; grind
  have g : Good w (q, smul t head) := ⟨l1, hq, one, nil⟩
  have sa : ∀ {r : List F} {c : F}, r.length = w → ∀ j, at' (sub r (smul t head) c) j = at' r j - c * at' (smul t head) j := fun hr j => sub_at (by rw [hr, l1]) j
  have lr : ∀ r ∈ rest, r.length = w := fun r hr => h.len r ((hm r).mpr (.inr hr))
  have wl : Wd w (rest.map fun r => sub r (smul t head) (at' r q)) := fun r hr => by
    obtain ⟨r0, h0, rfl⟩ := List.mem_map.mp hr
    exact sub_len (lr r0 h0) l1
  have good1 : ∀ a ∈ L, Good w (a.1, sub a.2 (smul t head) (at' a.2 q)) := fun a ha => by
    have ga := h.lad.good a ha
    refine ⟨sub_len ga.len l1, ga.lt, ?_, fun j hj => ?_⟩
    · show at' (sub a.2 (smul t head) (at' a.2 q)) a.1 = 1
      rw [sa ga.len, ga.one, nil _ (h.bef a ha)]
      grind
    · show at' (sub a.2 (smul t head) (at' a.2 q)) j = 0
      rw [sa ga.len, ga.nil j hj, nil _ (Nat.lt_trans hj (h.bef a ha))]
      grind
  have lad' : Lad w (L.map (fun a => (a.1, sub a.2 (smul t head) (at' a.2 q))) ++ [(q, smul t head)]) := by
    refine ⟨fun a ha => ?_, List.pairwise_append.mpr ⟨?_, List.pairwise_singleton .., fun a ha b hb => ?_⟩⟩
    · rcases List.mem_append.mp ha with m | m
      · obtain ⟨a0, h0, rfl⟩ := List.mem_map.mp m
        exact good1 a0 h0
      · rw [List.mem_singleton.mp m]; exact g
    · rw [List.pairwise_map]
      refine h.lad.pw.imp_of_mem fun {a b} ha hb z => ⟨z.1, ?_⟩
      show at' (sub a.2 (smul t head) (at' a.2 q)) b.1 = 0
      rw [sa (h.lad.good a ha).len, z.2, nil _ (h.bef b hb)]
      grind
    · obtain ⟨a0, h0, rfl⟩ := List.mem_map.mp ha
      rw [List.mem_singleton.mp hb]
      refine ⟨h.bef a0 h0, ?_⟩
      show at' (sub a0.2 (smul t head) (at' a0.2 q)) q = 0
      rw [sa (h.lad.good a0 h0).len, one]
      grind
  refine ⟨lad', fun a ha => ?_, wl, fun r hr j hj => ?_, ?_⟩
  · rcases List.mem_append.mp ha with m | m
    · obtain ⟨a0, h0, rfl⟩ := List.mem_map.mp m
      exact Nat.lt_succ_of_lt (h.bef a0 h0)
    · rw [List.mem_singleton.mp m]; exact Nat.lt_succ_self q
  · obtain ⟨r0, h0, rfl⟩ := List.mem_map.mp hr
    rw [sa (lr r0 h0)]
    rcases Nat.lt_or_ge j q with z | z
    · rw [h.nil r0 ((hm r0).mpr (.inr h0)) j z, nil j z]
      grind
    · have : j = q := by omega
      subst this
      rw [one]
      grind
  · refine Eqv.trans ?_ h.eqv
    have hA := wd_app wl lad'.wd
    have hB := wd_app h.len h.lad.wd
    have inB : ∀ r, r ∈ left ∨ r ∈ rowsOf L → InS w (left ++ rowsOf L) r := fun r hr => inS_mem hB (List.mem_append.mpr hr)
    have hB1 : InS w (left ++ rowsOf L) (smul t head) := inS_smul hB lh (inB head (.inl hh))
    have hrow : rowsOf (L.map (fun a => (a.1, sub a.2 (smul t head) (at' a.2 q))) ++ [(q, smul t head)]) = (L.map fun a => sub a.2 (smul t head) (at' a.2 q)) ++ [smul t head] := by
      rw [rowsOf, List.map_append, List.map_map]; rfl
    rw [hrow] at hA ⊢
    have hA1 : InS w ((rest.map fun r => sub r (smul t head) (at' r q)) ++ ((L.map fun a => sub a.2 (smul t head) (at' a.2 q)) ++ [smul t head])) (smul t head) := inS_mem hA (List.mem_append_right _ (List.mem_append_right _ (List.mem_singleton.mpr rfl)))
    refine Eqv.of hA hB (fun r hr => ?_) (fun r hr => ?_)
    · rcases List.mem_append.mp hr with m | m
      · obtain ⟨r0, h0, rfl⟩ := List.mem_map.mp m
        exact inS_sub hB (lr r0 h0) l1 (inB r0 (.inl ((hm r0).mpr (.inr h0)))) hB1
      · rcases List.mem_append.mp m with m | m
        · obtain ⟨a0, h0, rfl⟩ := List.mem_map.mp m
          exact inS_sub hB (h.lad.good a0 h0).len l1 (inB _ (.inr (List.mem_map.mpr ⟨a0, h0, rfl⟩))) hB1
        · rw [List.mem_singleton.mp m]; exact hB1
    · rcases List.mem_append.mp hr with m | m
      · rcases (hm r).mp m with rfl | m
        · have e1 := smul_one' (w := w) (l := r) (t := t) (v := at' r q) lh ht
          have := inS_smul (c := at' r q) hA l1 hA1
          rw [e1] at this
          exact this
        · exact inS_back hA (lr r m) l1 (inS_mem hA (List.mem_append_left _ (List.mem_map.mpr ⟨r, m, rfl⟩))) hA1
      · obtain ⟨a0, h0, rfl⟩ := List.mem_map.mp m
        exact inS_back hA (h.lad.good a0 h0).len l1 (inS_mem hA (List.mem_append_right _ (List.mem_append_left _ (List.mem_map.mpr ⟨a0, h0, rfl⟩)))) hA1
theorem col_start {R : List (List F)} (hR : Wd w R) : Col w R 0 R [] := ⟨⟨fun a ha => (nomatch ha), .nil⟩, fun a ha => (nomatch ha), hR, fun r hr j hj => absurd hj (Nat.not_lt_zero j), by rw [show rowsOf ([] : List (Nat × List F)) = [] from rfl, List.append_nil]; exact .refl _⟩
theorem row_zero {r : List F} (hl : r.length = w) (hz : ∀ j, j < w → at' r j = 0) : r = zero w := by
  apply ext'
  · rw [hl, zero_len]
  · intro j
    rw [zero_at]
    rcases Nat.lt_or_ge j w with z | z
    · exact hz j z
    · unfold at'
      rw [List.getD_eq_getElem?_getD, List.getElem?_eq_none (by omega)]
      rfl
theorem col_end {R left : List (List F)} {L : List (Nat × List F)} (h : Col w R w left L) : Eqv w (rowsOf L) R := by
  refine Eqv.trans ?_ h.eqv
  have hB := wd_app h.len h.lad.wd
  refine Eqv.of h.lad.wd hB (fun r hr => inS_mem hB (List.mem_append_right _ hr)) (fun r hr => ?_)
  rcases List.mem_append.mp hr with m | m
  · rw [row_zero (h.len r m) (h.nil r m)]
    exact inS_zero h.lad.wd
  · exact inS_mem h.lad.wd m
/-! rows written otherwise -/
theorem eqv_set {R : List (List F)} {i : Nat} {r s : List F} (hR : Wd w R) (hi : R[i]? = some r) (hs : s.length = w) (a : InS w R s) (b : InS w (R.set i s) r) : Eqv w (R.set i s) R := by
  have hS : Wd w (R.set i s) := fun x hx => by
    rcases List.mem_or_eq_of_mem_set hx with m | m
    · exact hR x m
    · rw [m]; exact hs
  refine Eqv.of hS hR (fun x hx => ?_) (fun x hx => ?_)
  · rcases List.mem_or_eq_of_mem_set hx with m | m
    · exact inS_mem hR m
    · rw [m]; exact a
  · obtain ⟨j, hj⟩ := List.mem_iff_getElem?.mp hx
    by_cases e : j = i
    · subst e
      rw [hi] at hj
      cases hj
      exact b
    · refine inS_mem hS (List.mem_iff_getElem?.mpr ⟨j, ?_⟩)
      rw [List.getElem?_set_ne (fun z => e z.symm)]
      exact hj
theorem mem_set_self {α : Type} {R : List α} {i : Nat} {r s : α} (hi : R[i]? = some r) : s ∈ R.set i s := List.mem_set (List.getElem?_eq_some_iff.mp hi).1 s
theorem wd_set {R : List (List F)} {i : Nat} {s : List F} (hR : Wd w R) (hs : s.length = w) : Wd w (R.set i s) := fun x hx => by
  rcases List.mem_or_eq_of_mem_set hx with m | m
  · exact hR x m
  · rw [m]; exact hs
theorem eqv_scale {R : List (List F)} {i : Nat} {r : List F} {c t : F} (hR : Wd w R) (hi : R[i]? = some r) (hc : c * t = 1) : Eqv w (R.set i (smul c r)) R := by
  have hr := hR r (List.mem_of_getElem? hi)
  have hS := wd_set (i := i) hR (smul_len (c := c) hr)
  refine eqv_set hR hi (smul_len hr) (inS_smul hR hr (inS_mem hR (List.mem_of_getElem? hi))) ?_
  have := inS_smul (c := t) hS (smul_len hr) (inS_mem hS (mem_set_self hi))
  rw [smul_one' hr hc] at this
  exact this
theorem eqv_less {R : List (List F)} {i k : Nat} {r o : List F} {c : F} (hR : Wd w R) (hi : R[i]? = some r) (hk : R[k]? = some o) (ne : i ≠ k) : Eqv w (R.set i (sub r o c)) R := by
  have hr := hR r (List.mem_of_getElem? hi)
  have ho := hR o (List.mem_of_getElem? hk)
  have hS := wd_set (i := i) hR (sub_len (c := c) hr ho)
  refine eqv_set hR hi (sub_len hr ho) (inS_sub hR hr ho (inS_mem hR (List.mem_of_getElem? hi)) (inS_mem hR (List.mem_of_getElem? hk))) ?_
  refine inS_back (c := c) hS hr ho (inS_mem hS (mem_set_self hi)) (inS_mem hS (List.mem_iff_getElem?.mpr ⟨k, ?_⟩))
  rw [List.getElem?_set_ne ne]
  exact hk
theorem eqv_more {R E : List (List F)} (hR : Wd w R) (hE : Wd w E) (h : ∀ e ∈ E, InS w R e) : Eqv w (R ++ E) R := by
  have hA := wd_app hR hE
  refine Eqv.of hA hR (fun x hx => ?_) (fun x hx => inS_mem hA (List.mem_append_left _ hx))
  rcases List.mem_append.mp hx with m | m
  · exact inS_mem hR m
  · exact h x m
end LA

namespace LA
open Lean.Grind
structure Clk (n : Nat) : Prop where
  two : 2 ≤ n
  le : n ≤ 1000000
  pr : ∀ k : Nat, k < 1001 → 2 ≤ k → (k : Int) * k ≤ (n : Int) → (n : Int) % k ≠ 0
theorem Clk.cop {n : Nat} (h : Clk n) {v : Nat} (v0 : 0 < v) (vn : v < n) : Nat.gcd n v = 1 := by
  have hp := h.pr
  have d1 := Nat.gcd_dvd_left n v
  have d2 := Nat.gcd_dvd_right n v
  have g0 : 0 < Nat.gcd n v := Nat.gcd_pos_of_pos_right n v0
  have gle : Nat.gcd n v ≤ v := Nat.le_of_dvd v0 d2
  generalize Nat.gcd n v = g at d1 d2 g0 gle
  refine Decidable.byContradiction fun hg => ?_
  obtain ⟨m, hm⟩ := d1
  have m2 : 2 ≤ m := by
    rcases m with _ | _ | m
    · simp at hm; omega
    · simp at hm; omega
    · omega
  have key : ∀ k l : Nat, n = k * l → 2 ≤ k → k ≤ l → False := by
    intro k l e k2 kl
    have sq : k * k ≤ n := by rw [e]; exact Nat.mul_le_mul_left k kl
    have k1 : k < 1001 := by
      refine Decidable.byContradiction fun z => ?_
      have : 1001 * 1001 ≤ k * k := Nat.mul_le_mul (by omega) (by omega)
      have := h.le
      omega
    refine hp k k1 k2 (by exact_mod_cast sq) ?_
    have : n % k = 0 := by rw [e]; exact Nat.mul_mod_right k l
    exact_mod_cast this
  rcases Nat.le_total g m with z | z
  · exact key g m hm (by omega) z
  · exact key m g (by rw [hm, Nat.mul_comm]) m2 z
/-- the value that gives 1 with another, mod n -/
theorem inv_ex : ∀ (fuel : Nat) (p v one other first second : Int), (first * v - one) % p = 0 → (second * v - other) % p = 0 → Int.gcd one other = 1 → 0 ≤ other → 0 < one → other.toNat < fuel → ∃ r : Int, (r * v - 1) % p = 0
  | 0, _, _, _, _, _, _, _, _, _, _, _, h => by omega
  | fuel + 1, p, v, one, other, first, second, a, b, g, o, n, h => by
    by_cases h0 : other = 0
    · subst h0
      have e1 : one = 1 := by
        rw [Int.gcd_zero_right] at g
        omega
      exact ⟨first, by rw [← e1]; exact a⟩
    · have ho : 0 < other := by omega
      have e : one - one / other * other = one % other := by
        have := Int.emod_def one other
        rw [this, Int.mul_comm]
      have l := Int.emod_lt_of_pos one ho
      have nn := Int.emod_nonneg one (show other ≠ 0 by omega)
      refine inv_ex fuel p v other (one - one / other * other) second (first - one / other * second) b ?_ ?_ (by omega) ho (by omega)
      · have e2 : (first - one / other * second) * v - (one - one / other * other) = (first * v - one) - one / other * (second * v - other) := by grind
        rw [e2]
        obtain ⟨x, hx⟩ := Int.dvd_of_emod_eq_zero a
        obtain ⟨y, hy⟩ := Int.dvd_of_emod_eq_zero b
        rw [hx, hy]
        have e3 : p * x - one / other * (p * y) = p * (x - one / other * y) := by grind
        rw [e3, Int.mul_emod_right]
      · rw [Int.gcd_sub_mul_right_right, Int.gcd_comm]
        exact g
theorem Clk.ne {n : Nat} (h : Clk n) : NeZero n := ⟨by have := h.two; omega⟩
/-! ints and Fin n -/
section
variable {n : Nat} [NeZero n]
def cF (n : Nat) [NeZero n] (x : Int) : Fin n := Fin.ofNat n (x % n).toNat
theorem n_pos : (0 : Int) < n := by have := Nat.pos_of_neZero n; omega
theorem cF_val (x : Int) : ((cF n x).val : Int) = x % n := by
  have h0 := Int.emod_nonneg x (show (n : Int) ≠ 0 by have := n_pos (n := n); omega)
  have h1 := Int.emod_lt_of_pos x (n_pos (n := n))
  show (((x % n).toNat % n : Nat) : Int) = _
  rw [Nat.mod_eq_of_lt (by omega)]
  omega
theorem cF_of {a : Fin n} {x : Int} (h : (a.val : Int) = x % n) : a = cF n x := by
  apply Fin.ext
  have := cF_val (n := n) x
  omega
theorem cF_iff {x y : Int} : cF n x = cF n y ↔ x % n = y % n := by
  constructor
  · intro h
    rw [← cF_val (n := n) x, ← cF_val (n := n) y, h]
  · intro h
    apply cF_of
    rw [cF_val, h]
theorem cF_mod (x : Int) : cF n (x % n) = cF n x := cF_iff.mpr (Int.emod_emod_of_dvd _ (Int.dvd_refl _))
theorem cF_mul (x y : Int) : cF n (x * y) = cF n x * cF n y := by
  refine (cF_of ?_).symm
  rw [Fin.val_mul]
  push_cast
  rw [cF_val, cF_val, ← Int.mul_emod]
theorem cF_add (x y : Int) : cF n (x + y) = cF n x + cF n y := by
  refine (cF_of ?_).symm
  rw [Fin.val_add]
  push_cast
  rw [cF_val, cF_val, ← Int.add_emod]
theorem cF_zero : cF n 0 = 0 := by
  refine (cF_of ?_).symm
  simp
theorem cF_one : cF n 1 = 1 := by
  refine (cF_of ?_).symm
  show (((1 % n : Nat)) : Int) = 1 % n
  push_cast
  rfl
theorem cF_sub (x y : Int) : cF n (x - y) = cF n x - cF n y := by
  have e : cF n (x - y) + cF n y = cF n x := by rw [← cF_add]; congr 1; omega
  rw [← e]
  grind
theorem cF_neg (x : Int) : cF n (-x) = - cF n x := by
  have := cF_sub (n := n) 0 x
  rw [cF_zero] at this
  rw [show -x = 0 - x by omega, this]
  grind
theorem cF_inj {x y : Int} (hx : 0 ≤ x ∧ x < n) (hy : 0 ≤ y ∧ y < n) (h : cF n x = cF n y) : x = y := by
  have := cF_iff.mp h
  rw [Int.emod_eq_of_lt hx.1 hx.2, Int.emod_eq_of_lt hy.1 hy.2] at this
  exact this
theorem cF_nz {x : Int} (hx : 0 < x ∧ x < n) : cF n x ≠ 0 := fun h => by
  rw [← cF_zero] at h
  have := cF_inj (n := n) (by omega) ⟨by omega, n_pos⟩ h
  omega
theorem cF_all (a : Fin n) : ∃ x : Int, 0 ≤ x ∧ x < n ∧ cF n x = a := ⟨a.val, by omega, by have := a.isLt; omega, (cF_of (by rw [Int.emod_eq_of_lt (by omega) (by have := a.isLt; omega)])).symm⟩
theorem fin_ne (h : Clk n) : (1 : Fin n) ≠ 0 := by
  rw [← cF_one]
  have := h.two
  exact cF_nz (by omega)
theorem fin_inv (h : Clk n) (a : Fin n) (ha : a ≠ 0) : ∃ b : Fin n, b * a = 1 := by
  have v0 : 0 < a.val := by
    refine Nat.pos_of_ne_zero fun z => ha ?_
    apply Fin.ext
    simpa using z
  have hg := h.cop v0 a.isLt
  have n2 := h.two
  obtain ⟨r, hr⟩ := inv_ex (a.val + 1) n a.val n a.val 0 1 (by simp) (by simp) (by
    show Int.gcd ((n : Nat) : Int) ((a.val : Nat) : Int) = 1
    exact hg) (by omega) (by omega) (by omega)
  refine ⟨cF n r, ?_⟩
  have ea : a = cF n a.val := cF_of (by rw [Int.emod_eq_of_lt (by omega) (by have := a.isLt; omega)])
  rw [ea, ← cF_mul, ← cF_one, cF_iff]
  have e2 : r * (a.val : Int) = (r * a.val - 1) + 1 := by omega
  rw [e2, Int.add_emod, hr, Int.zero_add, Int.emod_emod_of_dvd _ (Int.dvd_refl _)]
theorem fin_cancel (h : Clk n) {a b c : Fin n} (ha : a ≠ 0) (e : a * b = a * c) : b = c := by
  obtain ⟨i, hi⟩ := fin_inv h a ha
  have : i * (a * b) = i * (a * c) := by rw [e]
  grind
end
/-! a ^ (n - 1) = 1 -/
theorem nodup_perm {α : Type} [BEq α] [LawfulBEq α] : ∀ {M L : List α}, M.Nodup → (∀ x ∈ M, x ∈ L) → L.length ≤ M.length → M.Perm L
  | [], L, _, _, h => by
    have : L = [] := List.length_eq_zero_iff.mp (by simpa using h)
    rw [this]
  | x :: M, L, hn, hm, h => by
    obtain ⟨h1, h2⟩ := List.nodup_cons.mp hn
    have hx := hm x List.mem_cons_self
    have p := List.perm_cons_erase hx
    refine List.Perm.trans (List.Perm.cons x (nodup_perm h2 (fun y hy => ?_) ?_)) p.symm
    · refine (List.mem_erase_of_ne fun z => ?_).mpr (hm y (List.mem_cons_of_mem _ hy))
      rw [z] at hy
      exact h1 hy
    · have := p.length_eq
      simp at this h
      omega
theorem nodup_le {α : Type} [BEq α] [LawfulBEq α] : ∀ {M L : List α}, M.Nodup → (∀ x ∈ M, x ∈ L) → M.length ≤ L.length
  | [], L, _, _ => by simp
  | x :: M, L, hn, hm => by
    obtain ⟨h1, h2⟩ := List.nodup_cons.mp hn
    have hx := hm x List.mem_cons_self
    have p := List.perm_cons_erase hx
    have := nodup_le (L := L.erase x) h2 fun y hy => by
      refine (List.mem_erase_of_ne fun z => ?_).mpr (hm y (List.mem_cons_of_mem _ hy))
      rw [z] at hy
      exact h1 hy
    have := p.length_eq
    simp at this ⊢
    omega
def prodL {F : Type} [CommRing F] : List F → F
  | [] => 1
  | x :: xs => x * prodL xs
theorem prodL_perm {F : Type} [CommRing F] {A B : List F} (p : A.Perm B) : prodL A = prodL B := by
  induction p with
  | nil => rfl
  | cons x _ ih => show x * _ = x * _; rw [ih]
  | swap x y l => show y * (x * _) = x * (y * _); grind
  | trans _ _ a b => exact a.trans b
theorem prodL_map {F : Type} [CommRing F] (a : F) : ∀ A : List F, prodL (A.map fun x => a * x) = a ^ A.length * prodL A
  | [] => by show (1 : F) = a ^ 0 * 1; grind
  | x :: A => by
    show a * x * prodL (A.map fun x => a * x) = a ^ (A.length + 1) * (x * prodL A)
    rw [prodL_map a A, Semiring.pow_succ]
    grind
theorem prodL_ne {n : Nat} [NeZero n] (h : Clk n) : ∀ A : List (Fin n), (∀ x ∈ A, x ≠ 0) → prodL A ≠ 0
  | [], _ => fin_ne h
  | x :: A, hA => fun z => by
    have hx := hA x List.mem_cons_self
    have : x * prodL A = x * 0 := by
      have z' : x * prodL A = 0 := z
      rw [z']
      grind
    exact prodL_ne h A (fun y hy => hA y (List.mem_cons_of_mem _ hy)) (fin_cancel h hx this)
theorem fermat {m : Nat} (h : Clk (m + 1)) (a : Fin (m + 1)) (ha : a ≠ 0) : a ^ m = 1 := by
  have hU : ∀ x : Fin (m + 1), x ∈ (List.finRange m).map Fin.succ ↔ x ≠ 0 := fun x => by
    constructor
    · intro hx
      obtain ⟨y, _, rfl⟩ := List.mem_map.mp hx
      exact Fin.succ_ne_zero y
    · intro hx
      exact List.mem_map.mpr ⟨x.pred hx, List.mem_finRange _, Fin.succ_pred x hx⟩
  have hN : ((List.finRange m).map Fin.succ).Nodup := (List.nodup_finRange m).map Fin.succ (fun x y hxy z => hxy (Fin.succ_inj.mp z))
  have hM : (((List.finRange m).map Fin.succ).map fun x => a * x).Nodup := hN.map (fun x => a * x) fun x y hxy z => hxy (fin_cancel h ha z)
  have p := nodup_perm hM (L := (List.finRange m).map Fin.succ) (fun y hy => by
    obtain ⟨x, hx, rfl⟩ := List.mem_map.mp hy
    refine (hU _).mpr fun z => ?_
    have hx0 := (hU x).mp hx
    exact hx0 (fin_cancel h ha (z.trans (by grind)))) (by simp)
  have e := prodL_perm p
  rw [prodL_map, List.length_map, List.length_finRange] at e
  have hne := prodL_ne h _ fun x hx => (hU x).mp hx
  refine fin_cancel h hne ?_
  grind
end LA

namespace TK
open PySem PySem.Spec PyProof.Rows L2 TH
local macro_rules | `(tactic| walk_at "rd1") => `(tactic| first
  | (with_reducible refine TH.w_seq ?_)
  | (with_reducible refine TH.w_asg ?_)
  | (with_reducible refine TH.w_ret ?_)
  | (with_reducible refine TH.w_drop ?_)
  | (with_reducible refine TH.w_ifS ?_)
  | (with_reducible refine TH.w_next ?_)
  | ((with_reducible refine TH.w_var (v := ?vv) ?hv ?_); (case hv => rfl))
  | (with_reducible refine TH.w_c ?_)
  | ((with_reducible refine TH.w_gname (σ' := ?ss) ?hs ?_); (case hs => (dsimp only [List.set]; rfl)))
  | (with_reducible refine TH.w_op ?_)
  | (with_reducible refine TH.w_un ?_)
  | (with_reducible refine TH.w_chain ?_)
  | (with_reducible refine TH.w_I0 ?_)
  | ((with_reducible refine TH.w_I ?hm ?_); (case hm => first | (exact TH.CMul.l (by omega) (by omega)) | (exact TH.CMul.r (by omega) (by omega)) | (exact TH.CDiv.mk (by omega) (by omega)) | (show (0 : Int) < _; omega) | (exact TH.CPow.mk (by omega) (by omega) (by decide))))
  | (with_reducible refine TH.w_U ?_)
  | (with_reducible refine TH.w_eqI ?_)
  | (with_reducible refine TH.w_neI ?_)
  | (with_reducible refine TH.w_eqB ?_)
  | (with_reducible refine TH.w_isN ?_)
  | (with_reducible refine TH.w_nil ?_)
  | (with_reducible refine TH.w_cons ?_)
  | (with_reducible refine TH.w_test ?_)
  | (with_reducible refine TH.w_B ?_)
  | (with_reducible refine TH.w_bl ?_)
  | (with_reducible refine TH.w_and ?_)
  | (with_reducible refine TH.w_or ?_)
  | (with_reducible refine TH.w_not ?_)
  | (with_reducible refine TH.w_andV ?_)
  | (with_reducible refine TH.w_orV ?_)
  | (with_reducible refine TH.w_notV ?_)
  | (with_reducible refine TH.w_if ?_)
  | (with_reducible refine TH.w_parT ?_)
  | (with_reducible refine TH.w_par ?_)
  | (with_reducible refine TH.w_cb ?_)
  | (with_reducible refine TH.w_call ?_)
  | ((with_reducible refine TH.w_aug (v := ?vv) ?hv ?_); (case hv => rfl))
  | (with_reducible refine TH.w_ip ?_)
  | (with_reducible refine TH.w_bm ?_)
  | (with_reducible refine TH.w_sl ?_)
  | (with_reducible refine TH.w_np ?_)
  | (with_reducible refine TH.w_pt ?_)
  | (with_reducible refine TH.w_pti ?_)
  | (with_reducible refine TH.w_gsub ?_)
  | (with_reducible refine TH.w_int ?_)
  | (with_reducible refine TH.w_tupT ?_)
  | (with_reducible refine TH.w_lstT ?_)
  | ((with_reducible show L2.rIxL _ _ _ _ _); (first | (refine TH.w_ixL (TH.sqL upd_same) rfl ?_) | (refine TH.w_ixL (TH.sqL (by assumption)) rfl ?_)))
  | ((with_reducible show L2.rSetL _ _ _ _ _); (first | (refine TH.w_set1 upd_same ?_) | (refine TH.w_set2 upd_same ?_) | (refine TH.w_set3 upd_same ?_) | (refine TH.w_set4 upd_same ?_) | (refine TH.w_set1 (by assumption) ?_) | (refine TH.w_set2 (by assumption) ?_) | (refine TH.w_set3 (by assumption) ?_) | (refine TH.w_set4 (by assumption) ?_)))
  | (with_reducible refine TH.w_lc ?_)
  | (with_reducible refine TH.w_itup ?_)
  | (with_reducible refine TH.w_ilist ?_)
  | (with_reducible refine TH.w_ienum ?_)
  | (with_reducible refine TH.w_izip ?_)
  | (with_reducible refine TH.w_irng1 ?_)
  | (with_reducible refine TH.w_irng2 ?_)
  | (with_reducible refine TH.w_for ?_)
  | (with_reducible refine TH.w_gcons ?_)
  | (with_reducible refine TH.w_gnil ?_)
  | (with_reducible refine TH.w_yes ?_)
  | (with_reducible refine TH.w_gtup2 upd_same ?_)
  | (with_reducible refine TH.w_gtup3 upd_same ?_)
  | (with_reducible refine TH.w_T ?_)
  | (with_reducible refine TH.w_F ?_))
local macro_rules | `(tactic| walk_at "rd") => `(tactic| repeat (first | walk_at "rd1" | (dsimp only [List.set, L2.wipe, List.map, TH.isInt, TH.isBool, TH.isTup, TH.isLst, TH.bo_f, TH.bo_t, TH.ba_f, TH.ba_t, TH.bn_t, TH.bn_f, List.append_nil, List.cons_append, List.nil_append])))

def top (i : Nat) : Stmt := PySem.Challenge.pw_tollhall_k01_whole_ladders_and_ranks.main.body.getD i (.Pass ⟨0, 0, 0, 0⟩)
abbrev s_is_integer : Stmt := top 6
abbrev N_is_integer : List Str := ["thing"]
theorem sc_is_integer : FnScope N_is_integer ["thing"] (C8.fnScope s_is_integer) := ⟨rfl, rfl, rfl, by decide +kernel, rfl, by decide +kernel, by decide +kernel⟩
abbrev s_is_within : Stmt := top 7
abbrev N_is_within : List Str := ["thing", "least", "most"]
theorem sc_is_within : FnScope N_is_within ["thing", "least", "most"] (C8.fnScope s_is_within) := ⟨rfl, rfl, rfl, by decide +kernel, rfl, by decide +kernel, by decide +kernel⟩
abbrev s_is_listed : Stmt := top 8
abbrev N_is_listed : List Str := ["thing"]
theorem sc_is_listed : FnScope N_is_listed ["thing"] (C8.fnScope s_is_listed) := ⟨rfl, rfl, rfl, by decide +kernel, rfl, by decide +kernel, by decide +kernel⟩
abbrev s_check_number : Stmt := top 9
abbrev N_check_number : List Str := ["thing", "least", "most"]
theorem sc_check_number : FnScope N_check_number ["thing", "least", "most"] (C8.fnScope s_check_number) := ⟨rfl, rfl, rfl, by decide +kernel, rfl, by decide +kernel, by decide +kernel⟩
abbrev s_prime : Stmt := top 14
abbrev N_prime : List Str := ["number", "at"]
theorem sc_prime : FnScope N_prime ["number"] (C8.fnScope s_prime) := ⟨rfl, rfl, rfl, by decide +kernel, rfl, by decide +kernel, by decide +kernel⟩
abbrev s_is_clock : Stmt := top 15
abbrev N_is_clock : List Str := ["thing"]
theorem sc_is_clock : FnScope N_is_clock ["thing"] (C8.fnScope s_is_clock) := ⟨rfl, rfl, rfl, by decide +kernel, rfl, by decide +kernel, by decide +kernel⟩
abbrev s_inverse_of : Stmt := top 16
abbrev N_inverse_of : List Str := ["p", "value", "one", "other", "first", "second", "many"]
theorem sc_inverse_of : FnScope N_inverse_of ["p", "value"] (C8.fnScope s_inverse_of) := ⟨rfl, rfl, rfl, by decide +kernel, rfl, by decide +kernel, by decide +kernel⟩
abbrev s_scaled : Stmt := top 17
abbrev N_scaled : List Str := ["p", "value", "row", "one"]
theorem sc_scaled : FnScope N_scaled ["p", "value", "row"] (C8.fnScope s_scaled) := ⟨rfl, rfl, rfl, by decide +kernel, rfl, by decide +kernel, by decide +kernel⟩
abbrev s_without : Stmt := top 18
abbrev N_without : List Str := ["p", "row", "other", "value", "first", "second"]
theorem sc_without : FnScope N_without ["p", "row", "other", "value"] (C8.fnScope s_without) := ⟨rfl, rfl, rfl, by decide +kernel, rfl, by decide +kernel, by decide +kernel⟩
abbrev s_first_place : Stmt := top 19
abbrev N_first_place : List Str := ["row", "place", "value"]
theorem sc_first_place : FnScope N_first_place ["row"] (C8.fnScope s_first_place) := ⟨rfl, rfl, rfl, by decide +kernel, rfl, by decide +kernel, by decide +kernel⟩
abbrev s_is_row : Stmt := top 24
abbrev N_is_row : List Str := ["p", "wide", "thing", "value"]
theorem sc_is_row : FnScope N_is_row ["p", "wide", "thing"] (C8.fnScope s_is_row) := ⟨rfl, rfl, rfl, by decide +kernel, rfl, by decide +kernel, by decide +kernel⟩
abbrev s_check_clock : Stmt := top 25
abbrev N_check_clock : List Str := ["thing"]
theorem sc_check_clock : FnScope N_check_clock ["thing"] (C8.fnScope s_check_clock) := ⟨rfl, rfl, rfl, by decide +kernel, rfl, by decide +kernel, by decide +kernel⟩
abbrev s_check_rows : Stmt := top 26
abbrev N_check_rows : List Str := ["p", "wide", "rows", "index", "row"]
theorem sc_check_rows : FnScope N_check_rows ["p", "wide", "rows"] (C8.fnScope s_check_rows) := ⟨rfl, rfl, rfl, by decide +kernel, rfl, by decide +kernel, by decide +kernel⟩

structure Txt (mg : Str → Option Value) : Prop where
  b_all : mg "all" = none
  b_bool : mg "bool" = none
  b_enumerate : mg "enumerate" = none
  b_int : mg "int" = none
  b_isinstance : mg "isinstance" = none
  b_len : mg "len" = none
  b_list : mg "list" = none
  b_min : mg "min" = none
  b_range : mg "range" = none
  b_sorted : mg "sorted" = none
  b_tuple : mg "tuple" = none
  b_zip : mg "zip" = none
  b_abs : mg "abs" = none
  g_MOST_HOURS : ∃ u, mg "MOST_HOURS" = some u ∧ RelV (.int 1000000) u
  g_MOST_WIDE : ∃ u, mg "MOST_WIDE" = some u ∧ RelV (.int 200) u
  g_MOST_ROWS : ∃ u, mg "MOST_ROWS" = some u ∧ RelV (.int 200) u
variable {P : Program} {w : World} {K : PySem.W.Frag} {mg : Str → Option Value} {base : Heap}
/-! is_integer(thing) -/
def sp_is_integer (K : PySem.W.Frag) : Sp := fun vs H Q _ => ∃ (v : V) (d : D), vs = [v] ∧ Dp K H v d ∧ Q (.bl (isInt d)) H
theorem ok_is_integer {f : Addr} {fd : FuncData} (F : C8.Def K mg "is_integer" s_is_integer f fd) (b : Binds K fd ["thing"] []) (T : Txt mg) : C8.Cal P w K mg base 1 "is_integer" (sp_is_integer K) [] := by
  refine C8.cal0 F b .nil sc_is_integer (fun vs H Q E h => ?_) (fun cdv A outer s H vs Q E hr h => ?_)
  · obtain ⟨v, d, rfl, _⟩ := h
    rfl
  · obtain ⟨v, d, rfl, hd, q⟩ := h
    refine ⟨_, (pss_one (ps_ret (pe_and (pe_callB (TH.kcall_isi (K := K)) (by rfl) T.b_isinstance (by decide +kernel) (pa_cons (pv 0) (pa_cons (pe_bltn (v := .ty "int") (by rfl) T.b_int (by decide +kernel) rfl) pa_nil))) (pe_one (pe_not (pe_callB (TH.kcall_isi (K := K)) (by rfl) T.b_isinstance (by decide +kernel) (pa_cons (pv 0) (pa_cons (pe_bltn (v := .ty "bool") (by rfl) T.b_bool (by decide +kernel) rfl) pa_nil)))))))), ?_⟩
    refine w_start (σ' := [some v]) rfl ?_
    walk_at "rd"
    refine w_isInt hd ?_
    walk_at "rd"
    cases hd <;> walk_at "rd"
    all_goals try exact q
    · refine w_isBool (.bl _) ?_
      walk_at "rd"
      exact q
    · refine w_isBool (.int _) ?_
      walk_at "rd"
      exact q
/-! is_within(thing, least, most) -/
def inR (d : D) (lo hi : Int) : Bool := match d with
  | .int i => decide (lo ≤ i) && decide (i ≤ hi)
  | _ => false
theorem inR_int {i lo hi : Int} : inR (.int i) lo hi = (decide (lo ≤ i) && decide (i ≤ hi)) := rfl
def sp_is_within (K : PySem.W.Frag) : Sp := fun vs H Q _ => ∃ (v : V) (d : D) (lo hi : Int), vs = [v, .int lo, .int hi] ∧ Dp K H v d ∧ Q (.bl (inR d lo hi)) H
theorem ok_is_within {f : Addr} {fd : FuncData} (F : C8.Def K mg "is_within" s_is_within f fd) (b : Binds K fd ["thing", "least", "most"] []) (T : Txt mg)
    (c_is_integer : C8.Cal P w K mg base 1 "is_integer" (sp_is_integer K) []) : C8.Cal P w K mg base 2 "is_within" (sp_is_within K) [] := by
  refine C8.cal0 F b .nil sc_is_within (fun vs H Q E h => ?_) (fun cdv A outer s H vs Q E hr h => ?_)
  · obtain ⟨v, d, lo, hi, rfl, _⟩ := h
    rfl
  · obtain ⟨v, d, lo, hi, rfl, hd, q⟩ := h
    refine ⟨_, (pss_one (ps_ret (pe_and (C8.pe_c c_is_integer hr (by decide) (by rfl) (pa_cons (pv 0) pa_nil)) (pe_one (pe_chain op_le op_le (pv 1) (pv 0) (pv 2)))))), ?_⟩
    refine w_start (σ' := [some v, some (.int lo), some (.int hi)]) rfl ?_
    walk_at "rd"
    refine ⟨v, d, rfl, hd, ?_⟩
    walk_at "rd"
    cases hd <;> walk_at "rd"
    all_goals try exact q
    rw [inR_int] at q
    refine w_dec (fun h1 => ?_) (fun h1 => ?_)
    · walk_at "rd"
      rw [decide_eq_true h1, Bool.true_and] at q
      exact q
    · rw [decide_eq_false h1, Bool.false_and] at q
      exact q
/-! is_listed(thing) -/
def sp_is_listed (K : PySem.W.Frag) : Sp := fun vs H Q _ => ∃ (v : V) (d : D), vs = [v] ∧ Dp K H v d ∧ ∀ H', Ex H H' → Q (.bl (isLst d || isTup d)) H'
theorem ok_is_listed {f : Addr} {fd : FuncData} (F : C8.Def K mg "is_listed" s_is_listed f fd) (b : Binds K fd ["thing"] []) (T : Txt mg) : C8.Cal P w K mg base 1 "is_listed" (sp_is_listed K) [] := by
  refine C8.cal0 F b .nil sc_is_listed (fun vs H Q E h => ?_) (fun cdv A outer s H vs Q E hr h => ?_)
  · obtain ⟨v, d, rfl, _⟩ := h
    rfl
  · obtain ⟨v, d, rfl, hd, q⟩ := h
    refine ⟨_, (pss_one (ps_ret (pe_callB (TH.kcall_isiT (K := K)) (by rfl) T.b_isinstance (by decide +kernel) (pa_cons (pv 0) (pa_cons (pe_tup (pa_cons (pe_bltn (v := .ty "list") (by rfl) T.b_list (by decide +kernel) rfl) (pa_cons (pe_bltn (v := .ty "tuple") (by rfl) T.b_tuple (by decide +kernel) rfl) pa_nil))) pa_nil))))), ?_⟩
    refine w_start (σ' := [some v]) rfl ?_
    walk_at "rd"
    refine w_dispT (by decide) fun p hp => ?_
    walk_at "rd"
    exact w_isLT ((Ex.new hp).dp hd) upd_same (q _ (Ex.new hp))
/-! check_number(thing, least, most), what is right -/
def sp_check_number (K : PySem.W.Frag) : Sp := fun vs H Q _ => ∃ (v : V) (d : D) (lo hi : Int), vs = [v, .int lo, .int hi] ∧ Dp K H v d ∧ inR d lo hi = true ∧ Q .non H
theorem ok_check_number {f : Addr} {fd : FuncData} (F : C8.Def K mg "check_number" s_check_number f fd) (b : Binds K fd ["thing", "least", "most"] []) (T : Txt mg)
    (c_is_within : C8.Cal P w K mg base 2 "is_within" (sp_is_within K) []) : C8.Cal P w K mg base 3 "check_number" (sp_check_number K) [] := by
  refine C8.cal0 F b .nil sc_check_number (fun vs H Q E h => ?_) (fun cdv A outer s H vs Q E hr h => ?_)
  · obtain ⟨v, d, lo, hi, rfl, _⟩ := h
    rfl
  · obtain ⟨v, d, lo, hi, rfl, hd, hin, q⟩ := h
    refine ⟨_, (pss_one (ps_if (pt_not (pt_val (C8.pe_c c_is_within hr (by decide) (by rfl) (pa_cons (pv 0) (pa_cons (pv 1) (pa_cons (pv 2) pa_nil)))))) (pss_one ps_never) pss_nil)), ?_⟩
    refine w_start (σ' := [some v, some (.int lo), some (.int hi)]) rfl ?_
    walk_at "rd"
    refine ⟨v, d, lo, hi, rfl, hd, ?_⟩
    walk_at "rd"
    rw [hin]
    walk_at "rd"
    exact q
/-! prime(number) -/
def primeB (n : Int) : Bool := decide (∀ k : Nat, k < 1001 → 2 ≤ k → (k : Int) * k ≤ n → n % k ≠ 0)
theorem primeB_no {n : Int} {k : Nat} (h1 : k < 1001) (h2 : 2 ≤ k) (h3 : (k : Int) * k ≤ n) (h4 : n % k = 0) : primeB n = false :=
  decide_eq_false fun h => h k h1 h2 h3 h4
theorem primeB_yes {n : Int} {a : Nat} (h1 : n < (a : Int) * a) (h2 : ∀ k : Nat, 2 ≤ k → k < a → n % k ≠ 0) : primeB n = true :=
  decide_eq_true fun k _ k2 k3 => h2 k k2 (by
    refine Decidable.byContradiction fun z => ?_
    have z' : a ≤ k := by omega
    have : (a : Int) * a ≤ (k : Int) * k := by exact_mod_cast Nat.mul_le_mul z' z'
    omega)
theorem sq_le {a : Nat} {n : Int} (h : (a : Int) * a ≤ n) (hn : n ≤ 1000000) : a < 1001 := by
  refine Decidable.byContradiction fun z => ?_
  have z' : 1001 ≤ a := by omega
  have : (1001 * 1001 : Nat) ≤ a * a := Nat.mul_le_mul z' z'
  have : ((1001 * 1001 : Nat) : Int) ≤ (a : Int) * a := by exact_mod_cast this
  omega
def sp_prime (K : PySem.W.Frag) : Sp := fun vs H Q _ => ∃ (n : Int), vs = [.int n] ∧ 2 ≤ n ∧ n ≤ 1000000 ∧ Q (.bl (primeB n)) H
theorem ok_prime {f : Addr} {fd : FuncData} (F : C8.Def K mg "prime" s_prime f fd) (b : Binds K fd ["number"] []) (T : Txt mg) : C8.Cal P w K mg base 1 "prime" (sp_prime K) [] := by
  refine C8.cal0 F b .nil sc_prime (fun vs H Q E h => ?_) (fun cdv A outer s H vs Q E hr h => ?_)
  · obtain ⟨n, rfl, _⟩ := h
    rfl
  · obtain ⟨n, rfl, h2, hn, q⟩ := h
    refine ⟨_, (pss_cons (ps_set (i := 1) sc_prime.nd rfl (Or.inl rfl) pe_int)
      (pss_cons (ps_while PassesOwn.never (pt_cmpR op_le (pe_op op_mul (pv 1) (pv 1)) (pv 0) (nomark _)) (pss_cons (ps_if (pt_cmpR op_eq (pe_op op_mod (pv 0) (pv 1)) pe_int (nomark _)) (pss_one (ps_ret pe_bl)) pss_nil)
      (pss_one (ps_aug (i := 1) sc_prime.nd rfl (Or.inl rfl) pe_int ip_add))))
      (pss_one (ps_ret pe_bl)))), ?_⟩
    refine w_start (σ' := [some (.int n), none]) rfl ?_
    walk_at "rd"
    refine ⟨fun m σ H' => H' = H ∧ ∃ a : Nat, σ = [some (.int n), some (.int a)] ∧ 2 ≤ a ∧ a ≤ 1001 ∧ (∀ k : Nat, 2 ≤ k → k < a → n % k ≠ 0) ∧ m = 1002 - a, ⟨_, rfl, 2, rfl, by omega, by omega, fun k _ _ => by omega, rfl⟩, fun m σ H' hw => ?_⟩
    obtain ⟨rfl, a, rfl, a2, a3, hk, rfl⟩ := hw
    walk_at "rd"
    refine w_dec (fun h1 => ?_) (fun h1 => ?_)
    · have ha := sq_le h1 hn
      refine ⟨fun σ' H'' => H'' = H' ∧ σ' = [some (.int n), some (.int ((a + 1 : Nat) : Int))] ∧ n % (a : Int) ≠ 0, fun σ' H'' ⟨e1, e2, e3⟩ => ⟨1002 - (a + 1), by omega, e1, a + 1, e2, by omega, by omega, fun k k2 k3 => ?_, rfl⟩, ?_⟩
      · rcases Nat.lt_or_ge k a with z | z
        · exact hk k k2 z
        · have : k = a := by omega
          subst this
          exact e3
      · walk_at "rd"
        refine w_dec (fun h2 => ?_) (fun h2 => ?_)
        · walk_at "rd"
          rw [primeB_no ha a2 h1 h2] at q
          exact q
        · walk_at "rd"
          exact ⟨rfl, rfl, h2⟩
    · walk_at "rd"
      rw [primeB_yes (by omega) hk] at q
      exact q
/-! is_clock(thing) -/
def clockB (d : D) : Bool := match d with
  | .int n => decide (2 ≤ n) && decide (n ≤ 1000000) && primeB n
  | _ => false
def sp_is_clock (K : PySem.W.Frag) : Sp := fun vs H Q _ => ∃ (v : V) (d : D), vs = [v] ∧ Dp K H v d ∧ Q (.bl (clockB d)) H
theorem ok_is_clock {f : Addr} {fd : FuncData} (F : C8.Def K mg "is_clock" s_is_clock f fd) (b : Binds K fd ["thing"] []) (T : Txt mg)
    (c_is_within : C8.Cal P w K mg base 2 "is_within" (sp_is_within K) []) (c_prime : C8.Cal P w K mg base 1 "prime" (sp_prime K) []) : C8.Cal P w K mg base 3 "is_clock" (sp_is_clock K) [] := by
  refine C8.cal0 F b .nil sc_is_clock (fun vs H Q E h => ?_) (fun cdv A outer s H vs Q E hr h => ?_)
  · obtain ⟨v, d, rfl, _⟩ := h
    rfl
  · obtain ⟨v, d, rfl, hd, q⟩ := h
    refine ⟨_, (pss_one (ps_ret (pe_and (C8.pe_c c_is_within hr (by decide) (by rfl) (pa_cons (pv 0) (pa_cons pe_int (pa_cons (C8.pe_gc (by rfl) T.g_MOST_HOURS) pa_nil)))) (pe_one (C8.pe_c c_prime hr (by decide) (by rfl) (pa_cons (pv 0) pa_nil)))))), ?_⟩
    refine w_start (σ' := [some v]) rfl ?_
    walk_at "rd"
    refine ⟨v, d, 2, 1000000, rfl, hd, ?_⟩
    walk_at "rd"
    refine w_bool (fun h1 => ?_) (fun h1 => ?_)
    · cases hd <;> first | (exact absurd h1 Bool.false_ne_true) | skip
      walk_at "rd"
      rw [inR_int] at h1
      have h2 := Bool.and_eq_true_iff.mp h1
      refine ⟨_, rfl, of_decide_eq_true h2.1, of_decide_eq_true h2.2, ?_⟩
      refine (show clockB (.int _) = primeB _ from ?_) ▸ q
      show (_ && primeB _) = primeB _
      rw [h1, Bool.true_and]
    · have e : clockB d = false := by
        cases d <;> try rfl
        rw [inR_int] at h1
        show (_ && primeB _) = false
        rw [h1, Bool.false_and]
      rw [e] at q
      exact q
/-! check_clock(thing), what is right -/
def sp_check_clock (K : PySem.W.Frag) : Sp := fun vs H Q _ => ∃ (v : V) (d : D), vs = [v] ∧ Dp K H v d ∧ clockB d = true ∧ Q .non H
theorem ok_check_clock {f : Addr} {fd : FuncData} (F : C8.Def K mg "check_clock" s_check_clock f fd) (b : Binds K fd ["thing"] []) (T : Txt mg)
    (c_is_clock : C8.Cal P w K mg base 3 "is_clock" (sp_is_clock K) []) : C8.Cal P w K mg base 4 "check_clock" (sp_check_clock K) [] := by
  refine C8.cal0 F b .nil sc_check_clock (fun vs H Q E h => ?_) (fun cdv A outer s H vs Q E hr h => ?_)
  · obtain ⟨v, d, rfl, _⟩ := h
    rfl
  · obtain ⟨v, d, rfl, hd, hc, q⟩ := h
    refine ⟨_, (pss_one (ps_if (pt_not (pt_val (C8.pe_c c_is_clock hr (by decide) (by rfl) (pa_cons (pv 0) pa_nil)))) (pss_one ps_never) pss_nil)), ?_⟩
    refine w_start (σ' := [some v]) rfl ?_
    walk_at "rd"
    refine ⟨v, d, rfl, hd, ?_⟩
    rw [hc]
    walk_at "rd"
    exact q
/-! inverse_of(p, value) -/
structure Inv0 (p v one other first second : Int) : Prop where
  a : (first * v - one) % p = 0
  b : (second * v - other) % p = 0
  g : Int.gcd one other = 1
  o : 0 ≤ other
  l : other ≤ p
  n : 0 < one
  m : one ≤ p
theorem Inv0.step {p v one other first second : Int} (h : Inv0 p v one other first second) (ho : 0 < other) : Inv0 p v other (one - one / other * other) second (first - one / other * second) := by
  have e : one - one / other * other = one % other := by
    have := Int.emod_def one other
    rw [this, Int.mul_comm]
  refine ⟨h.b, ?_, ?_, ?_, ?_, ho, h.l⟩
  · have e2 : (first - one / other * second) * v - (one - one / other * other) = (first * v - one) - one / other * (second * v - other) := by grind
    rw [e2]
    obtain ⟨x, hx⟩ := Int.dvd_of_emod_eq_zero h.a
    obtain ⟨y, hy⟩ := Int.dvd_of_emod_eq_zero h.b
    rw [hx, hy]
    have e3 : p * x - one / other * (p * y) = p * (x - one / other * y) := by grind
    rw [e3, Int.mul_emod_right]
  · rw [Int.gcd_sub_mul_right_right, Int.gcd_comm]
    exact h.g
  · rw [e]; exact Int.emod_nonneg _ (by omega)
  · rw [e]
    have := Int.emod_lt_of_pos one ho
    have := h.l
    omega
theorem Inv0.fin {p v one first second : Int} (h : Inv0 p v one 0 first second) (hp : 1 < p) : (v * (first % p)) % p = 1 := by
  have e1 : one = 1 := by
    have := h.g
    rw [Int.gcd_zero_right] at this
    have := h.n
    omega
  have ha := h.a
  rw [e1] at ha
  rw [Int.mul_emod, Int.emod_emod_of_dvd _ (Int.dvd_refl p), ← Int.mul_emod, Int.mul_comm]
  have e2 : first * v = (first * v - 1) + 1 := by omega
  rw [e2, Int.add_emod, ha, Int.zero_add, Int.emod_emod_of_dvd _ (Int.dvd_refl p)]
  exact Int.emod_eq_of_lt (by omega) hp
def sp_inverse_of (K : PySem.W.Frag) : Sp := fun vs H Q _ => ∃ (p v : Int), vs = [.int p, .int v] ∧ 1 < p ∧ p ≤ 1000000 ∧ 0 < v ∧ v < p ∧ Int.gcd p v = 1 ∧ ∀ (r : Int) (H' : Hp), Ex H H' → 0 ≤ r → r < p → (v * r) % p = 1 → Q (.int r) H'
theorem ok_inverse_of {f : Addr} {fd : FuncData} (F : C8.Def K mg "inverse_of" s_inverse_of f fd) (b : Binds K fd ["p", "value"] []) (T : Txt mg) : C8.Cal P w K mg base 1 "inverse_of" (sp_inverse_of K) [] := by
  refine C8.cal0 F b .nil sc_inverse_of (fun vs H Q E h => ?_) (fun cdv A outer s H vs Q E hr h => ?_)
  · obtain ⟨p, v, rfl, _⟩ := h
    rfl
  · obtain ⟨p, v, rfl, p1, pm, v0, vp, hg, q⟩ := h
    refine ⟨_, (pss_cons (ps_par (i := 2) (j := 3) rfl sc_inverse_of.nd rfl rfl (by decide) rfl rfl (pa_cons (pv 0) (pa_cons (pv 1) pa_nil)) (by rfl))
      (pss_cons (ps_asg (pe_tup (pa_cons pe_int (pa_cons pe_int pa_nil))) (TH.kpg_tup (K := K) (n := 2) rfl (pgs_cons (pg_name (i := 4) sc_inverse_of.nd rfl (Or.inl rfl) (Or.inr rfl)) (pgs_cons (pg_name (i := 5) sc_inverse_of.nd rfl (Or.inl rfl) (Or.inr rfl)) pgs_nil))))
      (pss_cons (ps_while PassesOwn.never (pt_cmpR op_gt (pv 3) pe_int (nomark _)) (pss_cons (ps_set (i := 6) sc_inverse_of.nd rfl (Or.inl rfl) (pe_op op_fdiv (pv 2) (pv 3)))
      (pss_cons (ps_par (i := 2) (j := 3) rfl sc_inverse_of.nd rfl rfl (by decide) rfl rfl (pa_cons (pv 3) (pa_cons (pe_op op_sub (pv 2) (pe_op op_mul (pv 6) (pv 3))) pa_nil)) (by rfl))
      (pss_one (ps_par (i := 4) (j := 5) rfl sc_inverse_of.nd rfl rfl (by decide) rfl rfl (pa_cons (pv 5) (pa_cons (pe_op op_sub (pv 4) (pe_op op_mul (pv 6) (pv 5))) pa_nil)) (by rfl))))))
      (pss_one (ps_ret (pe_op op_mod (pv 4) (pv 0))))))), ?_⟩
    refine w_start (σ' := [some (.int p), some (.int v), none, none, none, none, none]) rfl ?_
    walk_at "rd"
    refine w_dispT (by decide) fun a ha => ?_
    walk_at "rd"
    have hx : Ex H (upd H a (.tup [.int 0, .int 1])) := Ex.new ha
    refine ⟨fun m σ H' => Ex H H' ∧ ∃ one other first second : Int, ∃ mn : Option V, σ = [some (.int p), some (.int v), some (.int one), some (.int other), some (.int first), some (.int second), mn] ∧ Inv0 p v one other first second ∧ m = other.toNat,
      ⟨_, hx, p, v, 0, 1, none, rfl, ⟨by rw [Int.zero_mul, Int.zero_sub]; exact Int.emod_eq_zero_of_dvd ((Int.dvd_neg).mpr (Int.dvd_refl p)), by rw [Int.one_mul, Int.sub_self, Int.zero_emod], hg, by omega, by omega, by omega, by omega⟩, rfl⟩, fun m σ H' hw => ?_⟩
    obtain ⟨ex, one, other, first, second, mn, rfl, hi, rfl⟩ := hw
    have i1 := hi.o
    have i2 := hi.l
    have i3 := hi.n
    have i4 := hi.m
    walk_at "rd"
    refine w_dec (fun h1 => ?_) (fun h1 => ?_)
    · refine ⟨fun σ' H'' => H'' = H' ∧ σ' = [some (.int p), some (.int v), some (.int other), some (.int (one - one / other * other)), some (.int second), some (.int (first - one / other * second)), some (.int (one / other))], fun σ' H'' ⟨e1, e2⟩ => ⟨_, ?_, e1 ▸ ex, _, _, _, _, _, e2, hi.step h1, rfl⟩, ?_⟩
      · have e : one - one / other * other = one % other := by rw [Int.emod_def, Int.mul_comm]
        rw [e]
        have := Int.emod_lt_of_pos one h1
        have := Int.emod_nonneg one (show other ≠ 0 by omega)
        omega
      · have d1 : 0 ≤ one / other := Int.ediv_nonneg (by omega) (by omega)
        have d2 : one / other ≤ one := Int.ediv_le_self _ (by omega)
        walk_at "rd"
        exact ⟨rfl, rfl⟩
    · have e0 : other = 0 := by omega
      subst e0
      walk_at "rd"
      have p0 : (0 : Int) < p := by omega
      exact q _ _ ex (Int.emod_nonneg _ (by omega)) (Int.emod_lt_of_pos _ p0) (hi.fin p1)
end TK

namespace TK
open PySem PySem.Spec PyProof.Rows L2 TH
local macro_rules | `(tactic| walk_at "rd1") => `(tactic| first
  | (with_reducible refine TH.w_seq ?_)
  | (with_reducible refine TH.w_asg ?_)
  | (with_reducible refine TH.w_ret ?_)
  | (with_reducible refine TH.w_drop ?_)
  | (with_reducible refine TH.w_ifS ?_)
  | (with_reducible refine TH.w_next ?_)
  | ((with_reducible refine TH.w_var (v := ?vv) ?hv ?_); (case hv => rfl))
  | (with_reducible refine TH.w_c ?_)
  | ((with_reducible refine TH.w_gname (σ' := ?ss) ?hs ?_); (case hs => (dsimp only [List.set]; rfl)))
  | (with_reducible refine TH.w_op ?_)
  | (with_reducible refine TH.w_un ?_)
  | (with_reducible refine TH.w_chain ?_)
  | (with_reducible refine TH.w_I0 ?_)
  | ((with_reducible refine TH.w_I ?hm ?_); (case hm => first | (exact TH.CMul.l (by omega) (by omega)) | (exact TH.CMul.r (by omega) (by omega)) | (exact TH.CDiv.mk (by omega) (by omega)) | (show (0 : Int) < _; omega) | (exact TH.CPow.mk (by omega) (by omega) (by decide))))
  | (with_reducible refine TH.w_U ?_)
  | (with_reducible refine TH.w_eqI ?_)
  | (with_reducible refine TH.w_neI ?_)
  | (with_reducible refine TH.w_eqB ?_)
  | (with_reducible refine TH.w_isN ?_)
  | (with_reducible refine TH.w_nil ?_)
  | (with_reducible refine TH.w_cons ?_)
  | (with_reducible refine TH.w_test ?_)
  | (with_reducible refine TH.w_B ?_)
  | (with_reducible refine TH.w_bl ?_)
  | (with_reducible refine TH.w_and ?_)
  | (with_reducible refine TH.w_or ?_)
  | (with_reducible refine TH.w_not ?_)
  | (with_reducible refine TH.w_andV ?_)
  | (with_reducible refine TH.w_orV ?_)
  | (with_reducible refine TH.w_notV ?_)
  | (with_reducible refine TH.w_if ?_)
  | (with_reducible refine TH.w_parT ?_)
  | (with_reducible refine TH.w_par ?_)
  | (with_reducible refine TH.w_cb ?_)
  | (with_reducible refine TH.w_call ?_)
  | ((with_reducible refine TH.w_aug (v := ?vv) ?hv ?_); (case hv => rfl))
  | (with_reducible refine TH.w_ip ?_)
  | (with_reducible refine TH.w_bm ?_)
  | (with_reducible refine TH.w_sl ?_)
  | (with_reducible refine TH.w_np ?_)
  | (with_reducible refine TH.w_pt ?_)
  | (with_reducible refine TH.w_pti ?_)
  | (with_reducible refine TH.w_gsub ?_)
  | (with_reducible refine TH.w_int ?_)
  | (with_reducible refine TH.w_tupT ?_)
  | (with_reducible refine TH.w_lstT ?_)
  | ((with_reducible show L2.rIxL _ _ _ _ _); (first | (refine TH.w_ixL (TH.sqL upd_same) rfl ?_) | (refine TH.w_ixL (TH.sqL (by assumption)) rfl ?_)))
  | ((with_reducible show L2.rSetL _ _ _ _ _); (first | (refine TH.w_set1 upd_same ?_) | (refine TH.w_set2 upd_same ?_) | (refine TH.w_set3 upd_same ?_) | (refine TH.w_set4 upd_same ?_) | (refine TH.w_set1 (by assumption) ?_) | (refine TH.w_set2 (by assumption) ?_) | (refine TH.w_set3 (by assumption) ?_) | (refine TH.w_set4 (by assumption) ?_)))
  | (with_reducible refine TH.w_lc ?_)
  | (with_reducible refine TH.w_itup ?_)
  | (with_reducible refine TH.w_ilist ?_)
  | (with_reducible refine TH.w_ienum ?_)
  | (with_reducible refine TH.w_izip ?_)
  | (with_reducible refine TH.w_irng1 ?_)
  | (with_reducible refine TH.w_irng2 ?_)
  | (with_reducible refine TH.w_for ?_)
  | (with_reducible refine TH.w_gcons ?_)
  | (with_reducible refine TH.w_gnil ?_)
  | (with_reducible refine TH.w_yes ?_)
  | (with_reducible refine TH.w_gtup2 upd_same ?_)
  | (with_reducible refine TH.w_gtup3 upd_same ?_)
  | (with_reducible refine TH.w_T ?_)
  | (with_reducible refine TH.w_F ?_))
local macro_rules | `(tactic| walk_at "rd") => `(tactic| repeat (first | walk_at "rd1" | (dsimp only [List.set, L2.wipe, List.map, TH.isInt, TH.isBool, TH.isTup, TH.isLst, TH.bo_f, TH.bo_t, TH.ba_f, TH.ba_t, TH.bn_t, TH.bn_f, List.append_nil, List.cons_append, List.nil_append])))

variable {P : Program} {w : World} {K : PySem.W.Frag} {mg : Str → Option Value} {base : Heap}
/-! scaled(p, value, row) -/
def iScale (p c : Int) (ns : List Int) : List Int := ns.map fun x => c * x % p
def sp_scaled (K : PySem.W.Frag) : Sp := fun vs H Q _ => ∃ (p c : Int) (v : V) (ns : List Int), vs = [.int p, .int c, v] ∧ Dp K H v (row ns) ∧ 0 < p ∧ 0 ≤ c ∧ c ≤ 1000000 ∧ ns.length ≤ 1000000 ∧ ∀ u H', Ex H H' → Dp K H' u (row (iScale p c ns)) → Q u H'
theorem ok_scaled {f : Addr} {fd : FuncData} (F : C8.Def K mg "scaled" s_scaled f fd) (b : Binds K fd ["p", "value", "row"] []) (T : Txt mg) : C8.Cal P w K mg base 1 "scaled" (sp_scaled K) [] := by
  refine C8.cal0 F b .nil sc_scaled (fun vs H Q E h => ?_) (fun cdv A outer s H vs Q E hr h => ?_)
  · obtain ⟨p, c, v, ns, rfl, _⟩ := h
    rfl
  · obtain ⟨p, c, v, ns, rfl, hd, p0, c0, c1, hl, q⟩ := h
    obtain ⟨a, rfl, ha⟩ := dp_row hd
    refine ⟨_, (pss_one (ps_ret (pe_callTy (TH.kcall_tuple (K := K)) (by rfl) T.b_tuple (by decide +kernel) (pa_cons (pe_lc (own := [("one", 3)]) (g := gName 3) (tt := tYes) rfl sc_scaled.nd (TH.kpi_tup (K := K) (pv 2)) (blkOk_by (own := [("one", 3)]) (N := N_scaled) (sc := C8.fnScope s_scaled) (by decide +kernel)) (fun _ _ _ _ _ => (pg_name (i := 3) sc_scaled.nd rfl (Or.inl rfl) (Or.inr rfl))) (fun _ _ _ _ _ => pts_nil) (fun _ _ _ _ _ => (pe_op op_mod (pe_op op_mul (pv 1) (pv 3)) (pv 0)))) pa_nil)))), ?_⟩
    refine w_start (σ' := [some (.int p), some (.int c), some (.ref a), none]) rfl ?_
    walk_at "rd"
    refine ⟨a, rfl, ⟨_, ha⟩, fun Dl hD => ?_⟩
    refine lc_data (K := K) walk_tup (fun _ => true) (fun i => .int (c * ns.getD i 0 % p)) (fun _ => rfl) (fun H' e => e.t ha) hD (by simpa using hl) (fun i x H' H'' hi e y R R0 k _ => ?_) (fun H' ws e hw hda => ?_)
    · obtain ⟨rfl, hx⟩ := y
      obtain ⟨n, hn, rfl⟩ := ints_at hx
      walk_at "rd"
      refine ⟨rfl, ?_⟩
      walk_at "rd"
      refine k rfl _ _ (Ex.refl _) ?_
      rw [getD_of hn]
      exact .int _
    · walk_at "rd"
      refine ⟨Dl, ws, rfl, .inl ⟨sqL hw, fun l hl => ?_⟩⟩
      refine q _ _ (e.trans (Ex.new hl)) ?_
      rw [made_all, List.length_map, range_map 0 (fun x => PyData.int (c * x % p))] at hda
      refine .tup (sqT upd_same) ((Ex.new hl).dpa ?_)
      unfold iScale
      rw [List.map_map]
      exact hda
/-! without(p, row, other, value) -/
def iSub (p : Int) (ns ms : List Int) (c : Int) : List Int := List.zipWith (fun x y => (x - c * y) % p) ns ms
def sp_without (K : PySem.W.Frag) : Sp := fun vs H Q _ => ∃ (p c : Int) (v u : V) (ns ms : List Int), vs = [.int p, v, u, .int c] ∧ Dp K H v (row ns) ∧ Dp K H u (row ms) ∧ 0 < p ∧ -1000000 ≤ c ∧ c ≤ 1000000 ∧ ns.length ≤ 1000000 ∧ ∀ u H', Ex H H' → Dp K H' u (row (iSub p ns ms c)) → Q u H'
theorem ok_without {f : Addr} {fd : FuncData} (F : C8.Def K mg "without" s_without f fd) (b : Binds K fd ["p", "row", "other", "value"] []) (T : Txt mg) : C8.Cal P w K mg base 1 "without" (sp_without K) [] := by
  refine C8.cal0 F b .nil sc_without (fun vs H Q E h => ?_) (fun cdv A outer s H vs Q E hr h => ?_)
  · obtain ⟨p, c, v, u, ns, ms, rfl, _⟩ := h
    rfl
  · obtain ⟨p, c, v, u, ns, ms, rfl, hd, hd2, p0, c0, c1, hl, q⟩ := h
    obtain ⟨a, rfl, ha⟩ := dp_row hd
    obtain ⟨b, rfl, hb⟩ := dp_row hd2
    refine ⟨_, (pss_one (ps_ret (pe_callTy (TH.kcall_tuple (K := K)) (by rfl) T.b_tuple (by decide +kernel) (pa_cons (pe_lc (own := [("first", 4), ("second", 5)]) (g := gTup K 2 (gCons (gName 4) (gCons (gName 5) gNil))) (tt := tYes) rfl sc_without.nd (TH.kpi_zip (K := K) (by rfl) T.b_zip (pa_cons (pv 1) (pa_cons (pv 2) pa_nil))) (blkOk_by (own := [("first", 4), ("second", 5)]) (N := N_without) (sc := C8.fnScope s_without) (by decide +kernel)) (fun _ _ _ _ _ => (TH.kpg_tup (K := K) (n := 2) rfl (pgs_cons (pg_name (i := 4) sc_without.nd rfl (Or.inl rfl) (Or.inr rfl)) (pgs_cons (pg_name (i := 5) sc_without.nd rfl (Or.inl rfl) (Or.inr rfl)) pgs_nil)))) (fun _ _ _ _ _ => pts_nil) (fun _ _ _ _ _ => (pe_op op_mod (pe_op op_sub (pv 4) (pe_op op_mul (pv 3) (pv 5))) (pv 0)))) pa_nil)))), ?_⟩
    refine w_start (σ' := [some (.int p), some (.ref a), some (.ref b), some (.int c), none, none]) rfl ?_
    walk_at "rd"
    refine ⟨a, b, _, _, rfl, .inr ⟨ha, hb, fun Dl hD => ?_⟩⟩
    refine lc_data (K := K) (walk_zipT rfl) (fun _ => true) (fun i => .int ((ns.getD i 0 - c * ms.getD i 0) % p)) (fun _ => rfl) (fun H' e => ⟨e.t ha, e.t hb⟩) hD (by simp; omega) (fun i x H' H'' hi e y R R0 k _ => ?_) (fun H' ws e hw hda => ?_)
    · obtain ⟨t, x1, x2, rfl, ht, rfl, h1, h2⟩ := y
      obtain ⟨n, hn, rfl⟩ := ints_at h1
      obtain ⟨m, hm, rfl⟩ := ints_at h2
      walk_at "rd"
      refine ⟨rfl, ?_⟩
      walk_at "rd"
      refine k rfl _ _ (Ex.new ht) ?_
      rw [getD_of hn, getD_of hm]
      exact .int _
    · walk_at "rd"
      refine ⟨Dl, ws, rfl, .inl ⟨sqL hw, fun l hl => ?_⟩⟩
      refine q _ _ (e.trans (Ex.new hl)) ?_
      rw [made_all, List.length_map, List.length_map, range_zip 0 0 (fun x y => PyData.int ((x - c * y) % p))] at hda
      refine .tup (sqT upd_same) ((Ex.new hl).dpa ?_)
      unfold iSub
      rw [List.map_zipWith]
      exact hda
/-! first_place(row) -/
def firstI (ns : List Int) : Option Nat := ns.findIdx? fun x => decide (x ≠ 0)
def optV : Option Nat → V
  | none => .non
  | some i => .int i
def sp_first_place (K : PySem.W.Frag) : Sp := fun vs H Q _ => ∃ (v : V) (ns : List Int), vs = [v] ∧ Dp K H v (row ns) ∧ ∀ H', Ex H H' → Q (optV (firstI ns)) H'
theorem firstI_some {ns : List Int} {i : Nat} {x : Int} (h : ∀ j, j < i → ns[j]? = some 0 ∨ ns[j]? = none) (hx : ns[i]? = some x) (h0 : x ≠ 0) : firstI ns = some i := by
  unfold firstI
  rw [List.findIdx?_eq_some_iff_getElem]
  obtain ⟨hi, e⟩ := List.getElem?_eq_some_iff.mp hx
  refine ⟨hi, by simp [e, h0], fun j hj => ?_⟩
  have hj' : j < ns.length := by omega
  rcases h j hj with z | z
  · have := (List.getElem?_eq_some_iff.mp z).2
    simp [this]
  · rw [List.getElem?_eq_getElem hj'] at z; cases z
theorem firstI_none {ns : List Int} (h : ∀ j, j < ns.length → ns[j]? = some 0) : firstI ns = none := by
  unfold firstI
  rw [List.findIdx?_eq_none_iff]
  intro x hx
  obtain ⟨j, hj, e⟩ := List.getElem_of_mem hx
  have := h j hj
  rw [List.getElem?_eq_getElem hj] at this
  have : ns[j] = 0 := Option.some.inj this
  rw [e] at this
  simp [this]
theorem ok_first_place {f : Addr} {fd : FuncData} (F : C8.Def K mg "first_place" s_first_place f fd) (b : Binds K fd ["row"] []) (T : Txt mg) : C8.Cal P w K mg base 1 "first_place" (sp_first_place K) [] := by
  refine C8.cal0 F b .nil sc_first_place (fun vs H Q E h => ?_) (fun cdv A outer s H vs Q E hr h => ?_)
  · obtain ⟨v, ns, rfl, _⟩ := h
    rfl
  · obtain ⟨v, ns, rfl, hd, q⟩ := h
    obtain ⟨a, rfl, ha⟩ := dp_row hd
    refine ⟨_, (pss_cons (ps_for PassesOwn.never rfl (TH.kpi_enum (K := K) (by rfl) T.b_enumerate (pa_cons (pv 0) pa_nil)) (TH.kpg_tup (K := K) (n := 2) rfl (pgs_cons (pg_name (i := 1) sc_first_place.nd rfl (Or.inl rfl) (Or.inr rfl)) (pgs_cons (pg_name (i := 2) sc_first_place.nd rfl (Or.inl rfl) (Or.inr rfl)) pgs_nil))) (pss_one (ps_if (pt_cmpR op_ne (pv 2) pe_int (nomark _)) (pss_one (ps_ret (pv 1))) pss_nil)))
      (pss_one (ps_ret pe_non))), ?_⟩
    refine w_start (σ' := [some (.ref a), none, none]) rfl ?_
    walk_at "rd"
    refine ⟨a, _, rfl, .inr ⟨ha, ?_⟩⟩
    refine for_go walk_enumT (fun i σ H' => Ex H H' ∧ (∃ y z, σ = [some (.ref a), y, z]) ∧ ∀ j, j < i → ns[j]? = some 0) ⟨Ex.refl _, ⟨_, _, rfl⟩, fun j hj => by omega⟩ (fun i σ H' _ p => p.1.t ha) (fun i x σ H' H'' hi p y => ?_) (fun σ H' p => ?_)
    · obtain ⟨e, ⟨y1, z1, rfl⟩, h0⟩ := p
      obtain ⟨t, x1, x2, rfl, ht, rfl, h1, h2⟩ := y
      obtain ⟨n, hn, rfl⟩ := ints_at h2
      cases h1
      walk_at "rd"
      refine w_decN (fun hz => ?_) (fun hz => ?_)
      · walk_at "rd"
        refine (show optV (firstI ns) = V.int (i : Nat) by rw [firstI_some (fun j hj => .inl (h0 j hj)) hn hz]; rfl) ▸ q _ (e.trans (Ex.new ht))
      · walk_at "rd"
        refine ⟨e.trans (Ex.new ht), ⟨_, _, rfl⟩, fun j hj => ?_⟩
        rcases Nat.lt_or_ge j i with z | z
        · exact h0 j z
        · have : j = i := by omega
          subst this
          rw [hn, hz]
    · obtain ⟨e, ⟨y1, z1, rfl⟩, h0⟩ := p
      walk_at "rd"
      exact (show optV (firstI ns) = V.non by rw [firstI_none (by simpa using h0)]; rfl) ▸ q _ e
end TK

namespace TK
open PySem PySem.Spec PyProof.Rows L2 TH
local macro_rules | `(tactic| walk_at "rd1") => `(tactic| first
  | (with_reducible refine TH.w_seq ?_)
  | (with_reducible refine TH.w_asg ?_)
  | (with_reducible refine TH.w_ret ?_)
  | (with_reducible refine TH.w_drop ?_)
  | (with_reducible refine TH.w_ifS ?_)
  | (with_reducible refine TH.w_next ?_)
  | ((with_reducible refine TH.w_var (v := ?vv) ?hv ?_); (case hv => rfl))
  | (with_reducible refine TH.w_c ?_)
  | ((with_reducible refine TH.w_gname (σ' := ?ss) ?hs ?_); (case hs => (dsimp only [List.set]; rfl)))
  | (with_reducible refine TH.w_op ?_)
  | (with_reducible refine TH.w_un ?_)
  | (with_reducible refine TH.w_chain ?_)
  | (with_reducible refine TH.w_I0 ?_)
  | ((with_reducible refine TH.w_I ?hm ?_); (case hm => first | (exact TH.CMul.l (by omega) (by omega)) | (exact TH.CMul.r (by omega) (by omega)) | (exact TH.CDiv.mk (by omega) (by omega)) | (show (0 : Int) < _; omega) | (exact TH.CPow.mk (by omega) (by omega) (by decide))))
  | (with_reducible refine TH.w_U ?_)
  | (with_reducible refine TH.w_eqI ?_)
  | (with_reducible refine TH.w_neI ?_)
  | (with_reducible refine TH.w_eqB ?_)
  | (with_reducible refine TH.w_isN ?_)
  | (with_reducible refine TH.w_nil ?_)
  | (with_reducible refine TH.w_cons ?_)
  | (with_reducible refine TH.w_test ?_)
  | (with_reducible refine TH.w_B ?_)
  | (with_reducible refine TH.w_bl ?_)
  | (with_reducible refine TH.w_and ?_)
  | (with_reducible refine TH.w_or ?_)
  | (with_reducible refine TH.w_not ?_)
  | (with_reducible refine TH.w_andV ?_)
  | (with_reducible refine TH.w_orV ?_)
  | (with_reducible refine TH.w_notV ?_)
  | (with_reducible refine TH.w_if ?_)
  | (with_reducible refine TH.w_parT ?_)
  | (with_reducible refine TH.w_par ?_)
  | (with_reducible refine TH.w_cb ?_)
  | (with_reducible refine TH.w_call ?_)
  | ((with_reducible refine TH.w_aug (v := ?vv) ?hv ?_); (case hv => rfl))
  | (with_reducible refine TH.w_ip ?_)
  | (with_reducible refine TH.w_bm ?_)
  | (with_reducible refine TH.w_sl ?_)
  | (with_reducible refine TH.w_np ?_)
  | (with_reducible refine TH.w_pt ?_)
  | (with_reducible refine TH.w_pti ?_)
  | (with_reducible refine TH.w_gsub ?_)
  | (with_reducible refine TH.w_int ?_)
  | (with_reducible refine TH.w_tupT ?_)
  | (with_reducible refine TH.w_lstT ?_)
  | ((with_reducible show L2.rIxL _ _ _ _ _); (first | (refine TH.w_ixL (TH.sqL upd_same) rfl ?_) | (refine TH.w_ixL (TH.sqL (by assumption)) rfl ?_)))
  | ((with_reducible show L2.rSetL _ _ _ _ _); (first | (refine TH.w_set1 upd_same ?_) | (refine TH.w_set2 upd_same ?_) | (refine TH.w_set3 upd_same ?_) | (refine TH.w_set4 upd_same ?_) | (refine TH.w_set1 (by assumption) ?_) | (refine TH.w_set2 (by assumption) ?_) | (refine TH.w_set3 (by assumption) ?_) | (refine TH.w_set4 (by assumption) ?_)))
  | (with_reducible refine TH.w_lc ?_)
  | (with_reducible refine TH.w_itup ?_)
  | (with_reducible refine TH.w_ilist ?_)
  | (with_reducible refine TH.w_ienum ?_)
  | (with_reducible refine TH.w_izip ?_)
  | (with_reducible refine TH.w_irng1 ?_)
  | (with_reducible refine TH.w_irng2 ?_)
  | (with_reducible refine TH.w_for ?_)
  | (with_reducible refine TH.w_gcons ?_)
  | (with_reducible refine TH.w_gnil ?_)
  | (with_reducible refine TH.w_yes ?_)
  | (with_reducible refine TH.w_gtup2 upd_same ?_)
  | (with_reducible refine TH.w_gtup3 upd_same ?_)
  | (with_reducible refine TH.w_T ?_)
  | (with_reducible refine TH.w_F ?_))
local macro_rules | `(tactic| walk_at "rd") => `(tactic| repeat (first | walk_at "rd1" | (dsimp only [List.set, L2.wipe, List.map, TH.isInt, TH.isBool, TH.isTup, TH.isLst, TH.bo_f, TH.bo_t, TH.ba_f, TH.ba_t, TH.bn_t, TH.bn_f, List.append_nil, List.cons_append, List.nil_append])))

abbrev s_law_int : Stmt := top 34
abbrev N_law_int : List Str := ["thing", "least", "most"]
theorem sc_law_int : FnScope N_law_int ["thing", "least", "most"] (C8.fnScope s_law_int) := ⟨rfl, rfl, rfl, by decide +kernel, rfl, by decide +kernel, by decide +kernel⟩
abbrev s_law_is_prime : Stmt := top 44
abbrev N_law_is_prime : List Str := ["thing", "other"]
theorem sc_law_is_prime : FnScope N_law_is_prime ["thing"] (C8.fnScope s_law_is_prime) := ⟨rfl, rfl, rfl, by decide +kernel, rfl, by decide +kernel, by decide +kernel⟩
abbrev s_law_less : Stmt := top 37
abbrev N_law_less : List Str := ["p", "row", "other", "many", "one", "two"]
theorem sc_law_less : FnScope N_law_less ["p", "row", "other", "many"] (C8.fnScope s_law_less) := ⟨rfl, rfl, rfl, by decide +kernel, rfl, by decide +kernel, by decide +kernel⟩
abbrev s_law_turn : Stmt := top 36
abbrev N_law_turn : List Str := ["p", "value", "found", "many", "left"]
theorem sc_law_turn : FnScope N_law_turn ["p", "value"] (C8.fnScope s_law_turn) := ⟨rfl, rfl, rfl, by decide +kernel, rfl, by decide +kernel, by decide +kernel⟩
abbrev s_law_many : Stmt := top 45
abbrev N_law_many : List Str := ["p", "times", "found", "turn"]
theorem sc_law_many : FnScope N_law_many ["p", "times"] (C8.fnScope s_law_many) := ⟨rfl, rfl, rfl, by decide +kernel, rfl, by decide +kernel, by decide +kernel⟩

variable {P : Program} {w : World} {K : PySem.W.Frag} {mg : Str → Option Value} {base : Heap}
/-! is_row(p, wide, thing) -/
def isRowD (p wide : Int) (d : D) : Bool := match d with
  | .tuple ds => decide ((ds.length : Int) = wide) && ds.all fun x => inR x 0 (p - 1)
  | _ => false
def sp_is_row (K : PySem.W.Frag) : Sp := fun vs H Q _ => ∃ (p wide : Int) (v : V) (d : D), vs = [.int p, .int wide, v] ∧ Dp K H v d ∧ (∀ ds, d = .tuple ds → ds.length ≤ 1000000) ∧ ∀ H', Ex H H' → Q (.bl (isRowD p wide d)) H'
theorem all_map {α : Type} (f : α → Bool) (xs : List α) : (xs.map f).all id = xs.all f := by
  induction xs with
  | nil => rfl
  | cons x xs ih => simp
theorem ok_is_row {f : Addr} {fd : FuncData} (F : C8.Def K mg "is_row" s_is_row f fd) (b : Binds K fd ["p", "wide", "thing"] []) (T : Txt mg)
    (c_is_within : C8.Cal P w K mg base 2 "is_within" (sp_is_within K) []) : C8.Cal P w K mg base 3 "is_row" (sp_is_row K) [] := by
  refine C8.cal0 F b .nil sc_is_row (fun vs H Q E h => ?_) (fun cdv A outer s H vs Q E hr h => ?_)
  · obtain ⟨p, wide, v, d, rfl, _⟩ := h
    rfl
  · obtain ⟨p, wide, v, d, rfl, hd, hl, q⟩ := h
    refine ⟨_, (pss_cons (ps_if (PW.pt (pw_or (pt_not (pt_val (pe_callB (TH.kcall_isi (K := K)) (by rfl) T.b_isinstance (by decide +kernel) (pa_cons (pv 2) (pa_cons (pe_bltn (v := .ty "tuple") (by rfl) T.b_tuple (by decide +kernel) rfl) pa_nil))))) (pw_or1 (pt_cmpR op_ne (pe_callB (TH.kcall_len (K := K)) (by rfl) T.b_len (by decide +kernel) (pa_cons (pv 2) pa_nil)) (pv 1) (nomark _))))) (pss_one (ps_ret pe_bl)) pss_nil)
      (pss_one (ps_ret (pe_callB (TH.kcr_all (K := K) rfl) (by rfl) T.b_all (by decide +kernel) (pa_cons (pe_lc (own := [("value", 3)]) (g := gName 3) (tt := tYes) rfl sc_is_row.nd (TH.kpi_tup (K := K) (pv 2)) (blkOk_by (own := [("value", 3)]) (N := N_is_row) (sc := C8.fnScope s_is_row) (by decide +kernel)) (fun _ _ _ _ _ => (pg_name (i := 3) sc_is_row.nd rfl (Or.inl rfl) (Or.inr rfl))) (fun _ _ _ _ _ => pts_nil) (fun _ _ _ _ _ => (C8.pe_c c_is_within hr (by decide) (by rfl) (pa_cons (pv 3) (pa_cons pe_int (pa_cons (pe_op op_sub (pv 0) pe_int) pa_nil)))))) pa_nil))))), ?_⟩
    refine w_start (σ' := [some (.int p), some (.int wide), some v, none]) rfl ?_
    walk_at "rd"
    refine w_isTup hd ?_
    cases hd <;> walk_at "rd"
    all_goals try exact q _ (Ex.refl _)
    rename_i a xs ds ha hda
    refine ⟨a, xs, rfl, .inr ha, ?_⟩
    walk_at "rd"
    have hle : xs.length = ds.length := dpa_len hda
    refine w_decN (fun h1 => ?_) (fun h1 => ?_)
    · walk_at "rd"
      refine (show isRowD p wide (.tuple ds) = false from ?_) ▸ q _ (Ex.refl _)
      show (_ && _) = false
      rw [decide_eq_false (by rw [← hle]; exact h1), Bool.false_and]
    · walk_at "rd"
      refine ⟨a, rfl, ⟨_, ha⟩, fun Dl hD => ?_⟩
      refine lc_data (K := K) walk_tup (fun _ => true) (fun i => .bool (inR (ds.getD i .none) 0 (p - 1))) (fun _ => rfl) (fun H' e => e.t ha) hD (by rw [hle]; exact hl _ rfl) (fun i x H' H'' hi e y R R0 k _ => ?_) (fun H' ws e hw hda' => ?_)
      · obtain ⟨rfl, hx⟩ := y
        obtain ⟨d, hd1, hd2⟩ := dpa_get (e.dpa hda) hx
        walk_at "rd"
        refine ⟨rfl, ?_⟩
        walk_at "rd"
        refine ⟨x, d, 0, p - 1, rfl, hd2, ?_⟩
        refine k rfl _ _ (Ex.refl _) ?_
        rw [getD_of hd1]
        exact .bl _
      · walk_at "rd"
        rw [made_all, hle, range_map PyData.none (fun x => PyData.bool (inR x 0 (p - 1)))] at hda'
        have e2 : ds.map (fun x => PyData.bool (inR x 0 (p - 1))) = (ds.map fun x => inR x 0 (p - 1)).map PyData.bool := by rw [List.map_map]; rfl
        rw [e2] at hda'
        have e3 := dpa_bools_inv hda'
        subst e3
        refine ⟨Dl, _, rfl, sqL hw, ?_⟩
        refine (show isRowD p wide (.tuple ds) = ((ds.map fun x => inR x 0 (p - 1)).all id) from ?_) ▸ q _ e
        rw [all_map]
        show (_ && _) = _
        rw [decide_eq_true (by rw [← hle]; exact h1), Bool.true_and]
/-! check_rows(p, wide, rows), what is right -/
structure RowsAt (K : PySem.W.Frag) (H : Hp) (v : V) (rs : List (List Int)) : Prop where
  at' : Dp K H v (rowsL rs) ∨ Dp K H v (rowsT rs)
theorem RowsAt.ex {H H' : Hp} {v : V} {rs : List (List Int)} (h : RowsAt K H v rs) (e : Ex H H') : RowsAt K H' v rs := ⟨h.at'.imp e.dp e.dp⟩
def Rin (p : Int) (wide : Nat) (r : List Int) : Prop := r.length = wide ∧ ∀ x ∈ r, 0 ≤ x ∧ x < p
theorem isRowD_row {p : Int} {wide : Nat} {r : List Int} (h : Rin p wide r) : isRowD p wide (row r) = true := by
  show (_ && _) = true
  rw [List.length_map, h.1, decide_eq_true rfl, Bool.true_and, List.all_eq_true]
  intro d hd
  obtain ⟨x, hx, rfl⟩ := List.mem_map.mp hd
  rw [inR_int]
  have := h.2 x hx
  rw [decide_eq_true (by omega), decide_eq_true (by omega)]
  rfl
theorem rowsAt_get {H : Hp} {vs : List V} {rs : List (List Int)} {i : Nat} {v : V} (h : DpAll K H vs (rs.map row)) (hv : vs[i]? = some v) : ∃ r, rs[i]? = some r ∧ Dp K H v (row r) := by
  obtain ⟨d, h1, h2⟩ := dpa_get h hv
  rw [List.getElem?_map] at h1
  cases e : rs[i]? with
  | none => rw [e] at h1; cases h1
  | some r => rw [e] at h1; cases h1; exact ⟨r, rfl, h2⟩
def sp_check_rows (K : PySem.W.Frag) : Sp := fun vs H Q _ => ∃ (p : Int) (wide : Nat) (v : V) (rs : List (List Int)), vs = [.int p, .int (wide : Nat), v] ∧ clockB (.int p) = true ∧ wide ≤ 200 ∧ RowsAt K H v rs ∧ rs.length ≤ 200 ∧ (∀ r ∈ rs, Rin p wide r) ∧ ∀ H', Ex H H' → Q .non H'
theorem ok_check_rows {f : Addr} {fd : FuncData} (F : C8.Def K mg "check_rows" s_check_rows f fd) (b : Binds K fd ["p", "wide", "rows"] []) (T : Txt mg)
    (c_check_clock : C8.Cal P w K mg base 4 "check_clock" (sp_check_clock K) []) (c_check_number : C8.Cal P w K mg base 3 "check_number" (sp_check_number K) []) (c_is_listed : C8.Cal P w K mg base 1 "is_listed" (sp_is_listed K) []) (c_is_row : C8.Cal P w K mg base 3 "is_row" (sp_is_row K) []) :
    C8.Cal P w K mg base 5 "check_rows" (sp_check_rows K) [] := by
  refine C8.cal0 F b .nil sc_check_rows (fun vs H Q E h => ?_) (fun cdv A outer s H vs Q E hr h => ?_)
  · obtain ⟨p, wide, v, rs, rfl, _⟩ := h
    rfl
  · obtain ⟨p, wide, v, rs, rfl, hc, hw, hR, hlen, hrin, q⟩ := h
    refine ⟨_, (pss_cons (ps_expr (C8.pe_c c_check_clock hr (by decide) (by rfl) (pa_cons (pv 0) pa_nil)))
      (pss_cons (ps_expr (C8.pe_c c_check_number hr (by decide) (by rfl) (pa_cons (pv 1) (pa_cons pe_int (pa_cons (C8.pe_gc (by rfl) T.g_MOST_WIDE) pa_nil)))))
      (pss_cons (ps_if (PW.pt (pw_or (pt_not (pt_val (C8.pe_c c_is_listed hr (by decide) (by rfl) (pa_cons (pv 2) pa_nil)))) (pw_or1 (pt_cmpR op_gt (pe_callB (TH.kcall_len (K := K)) (by rfl) T.b_len (by decide +kernel) (pa_cons (pv 2) pa_nil)) (C8.pe_gc (by rfl) T.g_MOST_ROWS) (nomark _))))) (pss_one ps_never) pss_nil)
      (pss_one (ps_for PassesOwn.never rfl (TH.kpi_enum (K := K) (by rfl) T.b_enumerate (pa_cons (pv 2) pa_nil)) (TH.kpg_tup (K := K) (n := 2) rfl (pgs_cons (pg_name (i := 3) sc_check_rows.nd rfl (Or.inl rfl) (Or.inr rfl)) (pgs_cons (pg_name (i := 4) sc_check_rows.nd rfl (Or.inl rfl) (Or.inr rfl)) pgs_nil))) (pss_one (ps_if (pt_not (pt_val (C8.pe_c c_is_row hr (by decide) (by rfl) (pa_cons (pv 0) (pa_cons (pv 1) (pa_cons (pv 4) pa_nil)))))) (pss_one ps_never) pss_nil))))))), ?_⟩
    refine w_start (σ' := [some (.int p), some (.int wide), some v, none, none]) rfl ?_
    walk_at "rd"
    refine ⟨_, _, rfl, .int p, hc, ?_⟩
    walk_at "rd"
    refine ⟨_, _, _, _, rfl, .int wide, by rw [inR_int, decide_eq_true (by omega), decide_eq_true (by omega)]; rfl, ?_⟩
    walk_at "rd"
    obtain ⟨d, hd, hdd⟩ : ∃ d, Dp K H v d ∧ (isLst d || isTup d) = true := by
      rcases hR.at' with h | h
      · exact ⟨_, h, rfl⟩
      · exact ⟨_, h, rfl⟩
    refine ⟨v, d, rfl, hd, fun H1 e1 => ?_⟩
    rw [hdd]
    walk_at "rd"
    obtain ⟨a, xs, rfl, hxs, hda⟩ : ∃ a xs, v = .ref a ∧ (SqL K H a xs ∨ SqT K H a xs) ∧ DpAll K H xs (rs.map row) := by
      rcases hR.at' with h | h
      · obtain ⟨a, xs, e, h1, h2⟩ := dp_lst h
        exact ⟨a, xs, e, .inl h1, h2⟩
      · obtain ⟨a, xs, e, h1, h2⟩ := dp_tup h
        exact ⟨a, xs, e, .inr h1, h2⟩
    have hxl : xs.length = rs.length := by rw [dpa_len hda, List.length_map]
    refine ⟨a, xs, rfl, hxs.imp e1.l e1.t, ?_⟩
    walk_at "rd"
    refine w_dec (fun h1 => by omega) (fun _ => ?_)
    walk_at "rd"
    have turn : ∀ (i : Nat) (x : V) (H2 : Hp) (y z : Option V) (t : Addr) (nx bk ct : L2.St → Hp → Prop) (rt : VK), Ex H H2 → H2 t = none → xs[i]? = some x → (∀ H3, Ex H2 H3 → nx [some (.int p), some (.int wide), some (.ref a), some (.int i), some x] H3) →
        (tIfS (tNot (tB (tCall (sp_is_row K) [] C8.E0 (tCons (tVar 0) (tCons (tVar 1) (tCons (tVar 4) tNil)))))) tNever tNext) { nx := nx, rt := rt, bk := bk, ct := ct } [some (.int p), some (.int wide), some (.ref a), some (.int i), some x] (upd H2 t (.tup [.int i, x])) := by
      intro i x H2 y z t nx bk ct rt e2 ht hx hk
      obtain ⟨r, hr1, hr2⟩ := rowsAt_get hda hx
      have hrin' : Rin p wide r := hrin r (List.mem_of_getElem? hr1)
      walk_at "rd"
      refine ⟨p, wide, x, row r, rfl, (e2.trans (Ex.new ht)).dp hr2, fun ds hds => ?_, fun H3 e3 => ?_⟩
      · cases hds
        rw [List.length_map, hrin'.1]
        omega
      · rw [isRowD_row hrin']
        walk_at "rd"
        exact hk _ ((Ex.new ht).trans e3)
    refine ⟨a, xs, rfl, ?_⟩
    rcases hxs with hxs | hxs
    · refine .inl ⟨e1.l hxs, ?_⟩
      refine for_go walk_enum (fun i σ H' => Ex H H' ∧ ∃ y z, σ = [some (.int p), some (.int wide), some (.ref a), y, z]) ⟨e1, _, _, rfl⟩ (fun i σ H' _ p => p.1.l hxs) (fun i x σ H' H'' hi p y => ?_) (fun σ H' p => ?_)
      · obtain ⟨e, y1, z1, rfl⟩ := p
        obtain ⟨t, x1, x2, rfl, ht, rfl, h1, h2⟩ := y
        cases h1
        refine w_gtup2 upd_same ?_
        refine w_gcons ?_
        refine w_gname (σ' := _) rfl ?_
        refine w_gcons ?_
        refine w_gname (σ' := _) rfl ?_
        refine w_gnil ?_
        exact turn i x2 H' y1 z1 t _ _ _ _ e ht h2 fun H3 e3 => ⟨e.trans e3, _, _, rfl⟩
      · obtain ⟨e, y1, z1, rfl⟩ := p
        exact q _ e
    · refine .inr ⟨e1.t hxs, ?_⟩
      refine for_go walk_enumT (fun i σ H' => Ex H H' ∧ ∃ y z, σ = [some (.int p), some (.int wide), some (.ref a), y, z]) ⟨e1, _, _, rfl⟩ (fun i σ H' _ p => p.1.t hxs) (fun i x σ H' H'' hi p y => ?_) (fun σ H' p => ?_)
      · obtain ⟨e, y1, z1, rfl⟩ := p
        obtain ⟨t, x1, x2, rfl, ht, rfl, h1, h2⟩ := y
        cases h1
        refine w_gtup2 upd_same ?_
        refine w_gcons ?_
        refine w_gname (σ' := _) rfl ?_
        refine w_gcons ?_
        refine w_gname (σ' := _) rfl ?_
        refine w_gnil ?_
        exact turn i x2 H' y1 z1 t _ _ _ _ e ht h2 fun H3 e3 => ⟨e.trans e3, _, _, rfl⟩
      · obtain ⟨e, y1, z1, rfl⟩ := p
        exact q _ e
/-! the law's own: _law_int -/
def sp_law_int (K : PySem.W.Frag) : Sp := fun vs H Q _ => ∃ (v : V) (d : D) (lo hi : Int), vs = [v, .int lo, .int hi] ∧ Dp K H v d ∧ Q (.bl (inR d lo hi)) H
theorem ok_law_int {f : Addr} {fd : FuncData} (F : C8.Def K mg "_law_int" s_law_int f fd) (b : Binds K fd ["thing", "least", "most"] []) (T : Txt mg) : C8.Cal P w K mg base 1 "_law_int" (sp_law_int K) [] := by
  refine C8.cal0 F b .nil sc_law_int (fun vs H Q E h => ?_) (fun cdv A outer s H vs Q E hr h => ?_)
  · obtain ⟨v, d, lo, hi, rfl, _⟩ := h
    rfl
  · obtain ⟨v, d, lo, hi, rfl, hd, q⟩ := h
    refine ⟨_, (pss_one (ps_ret (pe_and (pe_callB (TH.kcall_isi (K := K)) (by rfl) T.b_isinstance (by decide +kernel) (pa_cons (pv 0) (pa_cons (pe_bltn (v := .ty "int") (by rfl) T.b_int (by decide +kernel) rfl) pa_nil))) (pe_and (pe_not (pe_callB (TH.kcall_isi (K := K)) (by rfl) T.b_isinstance (by decide +kernel) (pa_cons (pv 0) (pa_cons (pe_bltn (v := .ty "bool") (by rfl) T.b_bool (by decide +kernel) rfl) pa_nil)))) (pe_one (pe_chain op_le op_le (pv 1) (pv 0) (pv 2))))))), ?_⟩
    refine w_start (σ' := [some v, some (.int lo), some (.int hi)]) rfl ?_
    walk_at "rd"
    refine w_isInt hd ?_
    cases hd <;> walk_at "rd"
    all_goals try exact q
    · refine w_isBool (.bl _) ?_
      walk_at "rd"
      exact q
    · refine w_isBool (.int _) ?_
      walk_at "rd"
      rw [inR_int] at q
      refine w_dec (fun h1 => ?_) (fun h1 => ?_)
      · walk_at "rd"
        rw [decide_eq_true h1, Bool.true_and] at q
        exact q
      · rw [decide_eq_false h1, Bool.false_and] at q
        exact q
end TK

namespace TK
open PySem PySem.Spec PyProof.Rows L2 TH
local macro_rules | `(tactic| walk_at "rd1") => `(tactic| first
  | (with_reducible refine TH.w_seq ?_)
  | (with_reducible refine TH.w_asg ?_)
  | (with_reducible refine TH.w_ret ?_)
  | (with_reducible refine TH.w_drop ?_)
  | (with_reducible refine TH.w_ifS ?_)
  | (with_reducible refine TH.w_next ?_)
  | ((with_reducible refine TH.w_var (v := ?vv) ?hv ?_); (case hv => rfl))
  | (with_reducible refine TH.w_c ?_)
  | ((with_reducible refine TH.w_gname (σ' := ?ss) ?hs ?_); (case hs => (dsimp only [List.set]; rfl)))
  | (with_reducible refine TH.w_op ?_)
  | (with_reducible refine TH.w_un ?_)
  | (with_reducible refine TH.w_chain ?_)
  | (with_reducible refine TH.w_I0 ?_)
  | ((with_reducible refine TH.w_I ?hm ?_); (case hm => first | (exact TH.CMul.l (by omega) (by omega)) | (exact TH.CMul.r (by omega) (by omega)) | (exact TH.CDiv.mk (by omega) (by omega)) | (show (0 : Int) < _; omega) | (exact TH.CPow.mk (by omega) (by omega) (by decide))))
  | (with_reducible refine TH.w_U ?_)
  | (with_reducible refine TH.w_eqI ?_)
  | (with_reducible refine TH.w_neI ?_)
  | (with_reducible refine TH.w_eqB ?_)
  | (with_reducible refine TH.w_isN ?_)
  | (with_reducible refine TH.w_nil ?_)
  | (with_reducible refine TH.w_cons ?_)
  | (with_reducible refine TH.w_test ?_)
  | (with_reducible refine TH.w_B ?_)
  | (with_reducible refine TH.w_bl ?_)
  | (with_reducible refine TH.w_and ?_)
  | (with_reducible refine TH.w_or ?_)
  | (with_reducible refine TH.w_not ?_)
  | (with_reducible refine TH.w_andV ?_)
  | (with_reducible refine TH.w_orV ?_)
  | (with_reducible refine TH.w_notV ?_)
  | (with_reducible refine TH.w_if ?_)
  | (with_reducible refine TH.w_parT ?_)
  | (with_reducible refine TH.w_par ?_)
  | (with_reducible refine TH.w_cb ?_)
  | (with_reducible refine TH.w_call ?_)
  | ((with_reducible refine TH.w_aug (v := ?vv) ?hv ?_); (case hv => rfl))
  | (with_reducible refine TH.w_ip ?_)
  | (with_reducible refine TH.w_bm ?_)
  | (with_reducible refine TH.w_sl ?_)
  | (with_reducible refine TH.w_np ?_)
  | (with_reducible refine TH.w_pt ?_)
  | (with_reducible refine TH.w_pti ?_)
  | (with_reducible refine TH.w_gsub ?_)
  | (with_reducible refine TH.w_int ?_)
  | (with_reducible refine TH.w_tupT ?_)
  | (with_reducible refine TH.w_lstT ?_)
  | ((with_reducible show L2.rIxL _ _ _ _ _); (first | (refine TH.w_ixL (TH.sqL upd_same) rfl ?_) | (refine TH.w_ixL (TH.sqL (by assumption)) rfl ?_)))
  | ((with_reducible show L2.rSetL _ _ _ _ _); (first | (refine TH.w_set1 upd_same ?_) | (refine TH.w_set2 upd_same ?_) | (refine TH.w_set3 upd_same ?_) | (refine TH.w_set4 upd_same ?_) | (refine TH.w_set1 (by assumption) ?_) | (refine TH.w_set2 (by assumption) ?_) | (refine TH.w_set3 (by assumption) ?_) | (refine TH.w_set4 (by assumption) ?_)))
  | (with_reducible refine TH.w_lc ?_)
  | (with_reducible refine TH.w_itup ?_)
  | (with_reducible refine TH.w_ilist ?_)
  | (with_reducible refine TH.w_ienum ?_)
  | (with_reducible refine TH.w_izip ?_)
  | (with_reducible refine TH.w_irng1 ?_)
  | (with_reducible refine TH.w_irng2 ?_)
  | (with_reducible refine TH.w_for ?_)
  | (with_reducible refine TH.w_gcons ?_)
  | (with_reducible refine TH.w_gnil ?_)
  | (with_reducible refine TH.w_yes ?_)
  | (with_reducible refine TH.w_gtup2 upd_same ?_)
  | (with_reducible refine TH.w_gtup3 upd_same ?_)
  | (with_reducible refine TH.w_T ?_)
  | (with_reducible refine TH.w_F ?_))
local macro_rules | `(tactic| walk_at "rd") => `(tactic| repeat (first | walk_at "rd1" | (dsimp only [List.set, L2.wipe, List.map, TH.isInt, TH.isBool, TH.isTup, TH.isLst, TH.bo_f, TH.bo_t, TH.ba_f, TH.ba_t, TH.bn_t, TH.bn_f, List.append_nil, List.cons_append, List.nil_append])))

abbrev s_law_hand : Stmt := top 30
abbrev N_law_hand : List Str := ["script", "cells", "cell"]
theorem sc_law_hand : FnScope N_law_hand ["script"] (C8.fnScope s_law_hand) := ⟨rfl, rfl, rfl, by decide +kernel, rfl, by decide +kernel, by decide +kernel⟩
abbrev s_law_draw : Stmt := top 31
abbrev N_law_draw : List Str := ["hand", "many", "number", "cell", "digit"]
theorem sc_law_draw : FnScope N_law_draw ["hand", "many"] (C8.fnScope s_law_draw) := ⟨rfl, rfl, rfl, by decide +kernel, rfl, by decide +kernel, by decide +kernel⟩
abbrev s_law_any : Stmt := top 32
abbrev N_law_any : List Str := ["hand", "items"]
theorem sc_law_any : FnScope N_law_any ["hand", "items"] (C8.fnScope s_law_any) := ⟨rfl, rfl, rfl, by decide +kernel, rfl, by decide +kernel, by decide +kernel⟩
abbrev s_law_is : Stmt := top 33
abbrev N_law_is : List Str := ["told", "due", "one", "two"]
theorem sc_law_is : FnScope N_law_is ["told", "due"] (C8.fnScope s_law_is) := ⟨rfl, rfl, rfl, by decide +kernel, rfl, by decide +kernel, by decide +kernel⟩

variable {P : Program} {w : World} {K : PySem.W.Frag} {mg : Str → Option Value} {base : Heap}
/-! the hand: cells, and four numbers that are told by a word alone -/
def HandW (c : Addr) (xs : List V) : Prop := ∃ (i : Nat) (cu sd tu : Int), xs = [.ref c, .int (i : Nat), .int cu, .int sd, .int tu] ∧ 0 ≤ cu ∧ 0 ≤ sd ∧ sd ≤ 2147483647 ∧ 0 ≤ tu
def HandAt (H : Hp) (v : V) : Prop := ∃ (h c : Addr) (ns : List Int), v = .ref h ∧ H h = some (LstP h (HandW c)) ∧ H c = some (.lst (ns.map V.int)) ∧ ∀ x ∈ ns, 0 ≤ x
theorem HandAt.ex {H H' : Hp} {v : V} (x : HandAt H v) (e : Ex H H') : HandAt H' v := by
  obtain ⟨h, c, ns, rfl, h1, h2, h3⟩ := x
  exact ⟨h, c, ns, rfl, e _ _ h1, e _ _ h2, h3⟩
/-! _law_draw(hand, many) -/
def sp_draw1 (K : PySem.W.Frag) : Sp := fun vs H Q _ => ∃ (h c : Addr) (ns : List Int) (xs : List V) (many : Int), vs = [.ref h, .int many] ∧ H h = some (.lst xs) ∧ HandW c xs ∧ H c = some (.lst (ns.map V.int)) ∧ (∀ x ∈ ns, 0 ≤ x) ∧ 0 < many ∧ many ≤ 1000000000 ∧
  ∀ (r : Int) (xs' : List V), 0 ≤ r → r < many → HandW c xs' → Q (.int r) (upd H h (.lst xs'))
theorem ok_draw1 {f : Addr} {fd : FuncData} (F : C8.Def K mg "_law_draw" s_law_draw f fd) (b : Binds K fd ["hand", "many"] []) (T : Txt mg) : C8.Cal P w K mg base 1 "_law_draw" (sp_draw1 K) [] := by
  refine C8.cal0 F b .nil sc_law_draw (fun vs H Q E h => ?_) (fun cdv A outer s H vs Q E hr h => ?_)
  · obtain ⟨h, c, ns, xs, many, rfl, _⟩ := h
    rfl
  · obtain ⟨h, c, ns, xs, many, rfl, hH, hW, hC, hns, m0, m1, q⟩ := h
    have hch : c ≠ h := fun e => by
      obtain ⟨i, cu, sd, tu, rfl, _⟩ := hW
      rw [e, hH] at hC
      have z := Option.some.inj hC
      have z2 : [V.ref h, V.int (i : Nat), V.int cu, V.int sd, V.int tu] = ns.map V.int := by
        injection z with z
        rw [← z, e]
      cases ns with
      | nil => cases z2
      | cons n ns => injection z2 with z3; cases z3
    refine ⟨_, (C8.pss_cut (ps_if (PW.pt (pw_and (pt_cmpR op_eq (pe_ix (TH.kix_list (K := K)) (pv 0) pe_int (fun _ _ => rfl)) pe_int (nomark _)) (pw_and1 (pt_cmpR op_lt (pe_ix (TH.kix_list (K := K)) (pv 0) pe_int (fun _ _ => rfl)) (pe_callB (TH.kcall_len (K := K)) (by rfl) T.b_len (by decide +kernel) (pa_cons (pe_ix (TH.kix_list (K := K)) (pv 0) pe_int (fun _ _ => rfl)) pa_nil)) (nomark _))))) (pss_cons (ps_set (i := 3) sc_law_draw.nd rfl (Or.inl rfl) (pe_ix (TH.kix_list (K := K)) (pe_ix (TH.kix_list (K := K)) (pv 0) pe_int (fun _ _ => rfl)) (pe_ix (TH.kix_list (K := K)) (pv 0) pe_int (fun _ _ => rfl)) (fun _ _ => rfl)))
      (pss_cons (ps_asg (pe_op op_add (pe_ix (TH.kix_list (K := K)) (pv 0) pe_int (fun _ _ => rfl)) pe_int) (pg_sub (pv 0) pe_int set_list))
      (pss_cons (ps_asg (pe_op op_mod (pe_callTy call_int1 (by rfl) T.b_int (by decide +kernel) (pa_cons (pe_op op_add (pe_op op_add (pe_op op_mul (pe_ix (TH.kix_list (K := K)) (pv 0) pe_int (fun _ _ => rfl)) pe_int) (pv 3)) pe_int) pa_nil)) pe_int) (pg_sub (pv 0) pe_int set_list))
      (pss_one (ps_if (pt_cmpR op_ge (pv 3) (pe_op op_pow pe_int pe_int) (nomark _)) (pss_one (ps_asg (pv 3) (pg_sub (pv 0) pe_int set_list))) pss_nil))))) pss_nil)
      (pss_cons (ps_if (pt_cmpR op_gt (pe_ix (TH.kix_list (K := K)) (pv 0) pe_int (fun _ _ => rfl)) pe_int (nomark _)) (pss_cons (ps_set (i := 4) sc_law_draw.nd rfl (Or.inl rfl) (pe_op op_mod (pe_callTy call_int1 (by rfl) T.b_int (by decide +kernel) (pa_cons (pe_ix (TH.kix_list (K := K)) (pv 0) pe_int (fun _ _ => rfl)) pa_nil)) (pv 1)))
      (pss_cons (ps_asg (pe_op op_fdiv (pe_ix (TH.kix_list (K := K)) (pv 0) pe_int (fun _ _ => rfl)) (pv 1)) (pg_sub (pv 0) pe_int set_list))
      (pss_one (ps_ret (pv 4))))) pss_nil)
      (pss_cons (ps_asg (pe_op op_add (pe_ix (TH.kix_list (K := K)) (pv 0) pe_int (fun _ _ => rfl)) pe_int) (pg_sub (pv 0) pe_int set_list))
      (pss_cons (ps_set (i := 2) sc_law_draw.nd rfl (Or.inl rfl) (pe_op op_mod (pe_callTy call_int1 (by rfl) T.b_int (by decide +kernel) (pa_cons (pe_op op_mul (pe_callTy call_int1 (by rfl) T.b_int (by decide +kernel) (pa_cons (pe_op op_add (pe_ix (TH.kix_list (K := K)) (pv 0) pe_int (fun _ _ => rfl)) (pe_op op_mul pe_int (pe_ix (TH.kix_list (K := K)) (pv 0) pe_int (fun _ _ => rfl)))) pa_nil)) pe_int) pa_nil)) pe_int))
      (pss_cons (ps_set (i := 2) sc_law_draw.nd rfl (Or.inl rfl) (pe_op op_mod (pe_callTy call_int1 (by rfl) T.b_int (by decide +kernel) (pa_cons (pe_op op_mul (pv 2) (pe_op op_add (pe_op op_fdiv (pv 2) pe_int) pe_int)) pa_nil)) pe_int))
      (pss_cons (ps_set (i := 2) sc_law_draw.nd rfl (Or.inl rfl) (pe_op op_mod (pe_callTy call_int1 (by rfl) T.b_int (by decide +kernel) (pa_cons (pe_op op_mul (pv 2) (pe_op op_add (pe_op op_fdiv (pv 2) pe_int) pe_int)) pa_nil)) pe_int))
      (pss_one (ps_ret (pe_op op_mod (pe_callTy call_int1 (by rfl) T.b_int (by decide +kernel) (pa_cons (pe_op op_fdiv (pv 2) pe_int) pa_nil)) (pv 1)))))))))), ?_⟩
    refine w_start (σ' := [some (.ref h), some (.int many), none, none, none]) rfl ?_
    refine ⟨fun σ' H' => ∃ (y2 y3 y4 : Option V) (xs' : List V), σ' = [some (.ref h), some (.int many), y2, y3, y4] ∧ HandW c xs' ∧ H' = upd H h (.lst xs'), ?_, ?_⟩
    · obtain ⟨i, cu, sd, tu, rfl, c0, s0, s1, t0⟩ := hW
      have fin : ∀ y2 y3 y4 : Option V, ∃ (z2 z3 z4 : Option V) (xs' : List V), [some (.ref h), some (.int many), y2, y3, y4] = [some (.ref h), some (.int many), z2, z3, z4] ∧ HandW c xs' ∧ H = upd H h (.lst xs') := fun y2 y3 y4 => ⟨y2, y3, y4, _, rfl, ⟨i, cu, sd, tu, rfl, c0, s0, s1, t0⟩, by
        funext b
        by_cases hb : b = h
        · rw [hb, upd_same, hH]
        · rw [upd_ne hb]⟩
      walk_at "rd"
      refine w_dec (fun h1 => ?_) (fun h1 => ?_)
      · walk_at "rd"
        refine ⟨c, _, rfl, .inl (sqL hC), ?_⟩
        walk_at "rd"
        refine w_dec (fun h2 => ?_) (fun h2 => ?_)
        · walk_at "rd"
          have hi : i < ns.length := by
            rw [List.length_map] at h2
            omega
          have hx := List.getElem?_eq_getElem hi
          have h0 := hns _ (List.getElem_mem hi)
          generalize ns[i] = x at hx h0
          refine w_ixL (sqL hC) (atI_int hx) ?_
          walk_at "rd"
          have e1 : 0 ≤ (sd * 69621 + x + 11) % 2147483629 := Int.emod_nonneg _ (by decide)
          have e2 := Int.emod_lt_of_pos (sd * 69621 + x + 11) (show (0 : Int) < 2147483629 by decide)
          have e3 : ((i : Int) + 1) = ((i + 1 : Nat) : Int) := by omega
          refine w_dec (fun h3 => ?_) (fun h3 => ?_)
          · walk_at "rd"
            refine ⟨_, _, _, _, rfl, ⟨i + 1, x, _, tu, by rw [← e3], h0, e1, by omega, t0⟩, ?_⟩
            simp only [upd_upd]
          · walk_at "rd"
            refine ⟨_, _, _, _, rfl, ⟨i + 1, cu, _, tu, by rw [← e3], c0, e1, by omega, t0⟩, ?_⟩
            simp only [upd_upd]
        · walk_at "rd"
          exact fin _ _ _
      · walk_at "rd"
        exact fin _ _ _
    · rintro σ' H' ⟨y2, y3, y4, xs', rfl, ⟨i, cu, sd, tu, rfl, c0, s0, s1, t0⟩, rfl⟩
      walk_at "rd"
      refine w_dec (fun h1 => ?_) (fun h1 => ?_)
      · walk_at "rd"
        have g := q (cu % many) [.ref c, .int (i : Nat), .int (cu / many), .int sd, .int tu] (Int.emod_nonneg _ (by omega)) (Int.emod_lt_of_pos _ m0) ⟨i, _, sd, tu, rfl, Int.ediv_nonneg (by omega) (by omega), s0, s1, t0⟩
        simp only [upd_upd]
        exact g
      · walk_at "rd"
        have b1 : 0 ≤ (sd + 7919 * (tu + 1)) * 48271 % 2147483647 := Int.emod_nonneg _ (by decide)
        have b2 := Int.emod_lt_of_pos ((sd + 7919 * (tu + 1)) * 48271) (show (0 : Int) < 2147483647 by decide)
        generalize (sd + 7919 * (tu + 1)) * 48271 % 2147483647 = n1 at b1 b2
        walk_at "rd"
        have b3 : 0 ≤ n1 * (n1 / 1009 + 69621) % 2147483647 := Int.emod_nonneg _ (by decide)
        have b4 := Int.emod_lt_of_pos (n1 * (n1 / 1009 + 69621)) (show (0 : Int) < 2147483647 by decide)
        generalize n1 * (n1 / 1009 + 69621) % 2147483647 = n2 at b3 b4
        walk_at "rd"
        have g := q (n2 * (n2 / 2003 + 40692) % 2147483399 / 16 % many) [.ref c, .int (i : Nat), .int cu, .int sd, .int (tu + 1)] (Int.emod_nonneg _ (by omega)) (Int.emod_lt_of_pos _ m0) ⟨i, _, sd, _, rfl, c0, s0, s1, by omega⟩
        simp only [upd_upd]
        exact g
/-- hand, many: some number below many; all that was tracked stands -/
def sp_draw (K : PySem.W.Frag) : Sp := fun vs H Q _ => ∃ (v : V) (many : Int), vs = [v, .int many] ∧ HandAt H v ∧ 0 < many ∧ many ≤ 1000000000 ∧ ∀ r : Int, 0 ≤ r → r < many → Q (.int r) H
theorem ok_law_draw {f : Addr} {fd : FuncData} (F : C8.Def K mg "_law_draw" s_law_draw f fd) (b : Binds K fd ["hand", "many"] []) (T : Txt mg) : C8.Cal P w K mg base 1 "_law_draw" (sp_draw K) [] := by
  refine cal_hide (ok_draw1 F b T) fun vs H Q E h => ?_
  obtain ⟨v, many, rfl, ⟨h, c, ns, rfl, h1, h2, h3⟩, m0, m1, q⟩ := h
  refine ⟨h, HandW c, h1, ⟨_, 0, 0, 0, 0, rfl, by omega, by omega, by omega, by omega⟩, fun xs hx => ?_⟩
  have hch : c ≠ h := fun e => by rw [e, h1] at h2; cases h2
  refine ⟨h, c, ns, xs, many, rfl, upd_same, hx, by rw [upd_ne hch]; exact h2, h3, m0, m1, fun r xs' r0 r1 hx' => ⟨xs', hx', upd_same, ?_⟩⟩
  rw [upd_upd, upd_upd]
  have e : upd H h (LstP h (HandW c)) = H := by
    funext b
    by_cases hb : b = h
    · rw [hb, upd_same, h1]
    · rw [upd_ne hb]
  rw [e]
  exact q r r0 r1
end TK

namespace TK
open PySem PySem.Spec PyProof.Rows L2 TH
local macro_rules | `(tactic| walk_at "rd1") => `(tactic| first
  | (with_reducible refine TH.w_seq ?_)
  | (with_reducible refine TH.w_asg ?_)
  | (with_reducible refine TH.w_ret ?_)
  | (with_reducible refine TH.w_drop ?_)
  | (with_reducible refine TH.w_ifS ?_)
  | (with_reducible refine TH.w_next ?_)
  | ((with_reducible refine TH.w_var (v := ?vv) ?hv ?_); (case hv => rfl))
  | (with_reducible refine TH.w_c ?_)
  | ((with_reducible refine TH.w_gname (σ' := ?ss) ?hs ?_); (case hs => (dsimp only [List.set]; rfl)))
  | (with_reducible refine TH.w_op ?_)
  | (with_reducible refine TH.w_un ?_)
  | (with_reducible refine TH.w_chain ?_)
  | (with_reducible refine TH.w_I0 ?_)
  | ((with_reducible refine TH.w_I ?hm ?_); (case hm => first | (exact TH.CMul.l (by omega) (by omega)) | (exact TH.CMul.r (by omega) (by omega)) | (exact TH.CDiv.mk (by omega) (by omega)) | (show (0 : Int) < _; omega) | (exact TH.CPow.mk (by omega) (by omega) (by decide))))
  | (with_reducible refine TH.w_U ?_)
  | (with_reducible refine TH.w_eqI ?_)
  | (with_reducible refine TH.w_neI ?_)
  | (with_reducible refine TH.w_eqB ?_)
  | (with_reducible refine TH.w_isN ?_)
  | (with_reducible refine TH.w_nil ?_)
  | (with_reducible refine TH.w_cons ?_)
  | (with_reducible refine TH.w_test ?_)
  | (with_reducible refine TH.w_B ?_)
  | (with_reducible refine TH.w_bl ?_)
  | (with_reducible refine TH.w_and ?_)
  | (with_reducible refine TH.w_or ?_)
  | (with_reducible refine TH.w_not ?_)
  | (with_reducible refine TH.w_andV ?_)
  | (with_reducible refine TH.w_orV ?_)
  | (with_reducible refine TH.w_notV ?_)
  | (with_reducible refine TH.w_if ?_)
  | (with_reducible refine TH.w_parT ?_)
  | (with_reducible refine TH.w_par ?_)
  | (with_reducible refine TH.w_cb ?_)
  | (with_reducible refine TH.w_call ?_)
  | ((with_reducible refine TH.w_aug (v := ?vv) ?hv ?_); (case hv => rfl))
  | (with_reducible refine TH.w_ip ?_)
  | (with_reducible refine TH.w_bm ?_)
  | (with_reducible refine TH.w_sl ?_)
  | (with_reducible refine TH.w_np ?_)
  | (with_reducible refine TH.w_pt ?_)
  | (with_reducible refine TH.w_pti ?_)
  | (with_reducible refine TH.w_gsub ?_)
  | (with_reducible refine TH.w_int ?_)
  | (with_reducible refine TH.w_tupT ?_)
  | (with_reducible refine TH.w_lstT ?_)
  | ((with_reducible show L2.rIxL _ _ _ _ _); (first | (refine TH.w_ixL (TH.sqL upd_same) rfl ?_) | (refine TH.w_ixL (TH.sqL (by assumption)) rfl ?_)))
  | ((with_reducible show L2.rSetL _ _ _ _ _); (first | (refine TH.w_set1 upd_same ?_) | (refine TH.w_set2 upd_same ?_) | (refine TH.w_set3 upd_same ?_) | (refine TH.w_set4 upd_same ?_) | (refine TH.w_set1 (by assumption) ?_) | (refine TH.w_set2 (by assumption) ?_) | (refine TH.w_set3 (by assumption) ?_) | (refine TH.w_set4 (by assumption) ?_)))
  | (with_reducible refine TH.w_lc ?_)
  | (with_reducible refine TH.w_itup ?_)
  | (with_reducible refine TH.w_ilist ?_)
  | (with_reducible refine TH.w_ienum ?_)
  | (with_reducible refine TH.w_izip ?_)
  | (with_reducible refine TH.w_irng1 ?_)
  | (with_reducible refine TH.w_irng2 ?_)
  | (with_reducible refine TH.w_for ?_)
  | (with_reducible refine TH.w_gcons ?_)
  | (with_reducible refine TH.w_gnil ?_)
  | (with_reducible refine TH.w_yes ?_)
  | (with_reducible refine TH.w_gtup2 upd_same ?_)
  | (with_reducible refine TH.w_gtup3 upd_same ?_)
  | (with_reducible refine TH.w_T ?_)
  | (with_reducible refine TH.w_F ?_))
local macro_rules | `(tactic| walk_at "rd") => `(tactic| repeat (first | walk_at "rd1" | (dsimp only [List.set, L2.wipe, List.map, TH.isInt, TH.isBool, TH.isTup, TH.isLst, TH.bo_f, TH.bo_t, TH.ba_f, TH.ba_t, TH.bn_t, TH.bn_f, List.append_nil, List.cons_append, List.nil_append])))

variable {P : Program} {w : World} {K : PySem.W.Frag} {mg : Str → Option Value} {base : Heap}
/-! _law_hand(script) -/
def absI (x : Int) : Int := if x < 0 then -x else x
theorem absI_nn (x : Int) : 0 ≤ absI x := by
  unfold absI
  split <;> omega
theorem cut_ints (ns : List Int) (lo hi : Option Int) : ∃ ms : List Int, cutV (ns.map V.int) lo hi = ms.map V.int ∧ ms.length ≤ ns.length := by
  refine ⟨(ns.drop (HT.sIx ns.length 0 lo)).take (HT.sIx ns.length ns.length hi - HT.sIx ns.length 0 lo), ?_, ?_⟩
  · unfold cutV
    rw [List.map_take, List.map_drop, List.length_map]
  · rw [List.length_take, List.length_drop]
    omega
def sp_hand1 (K : PySem.W.Frag) : Sp := fun vs H Q _ => ∃ (a : Addr) (ns : List Int), vs = [.ref a] ∧ SqL K H a (ns.map V.int) ∧ ns.length ≤ 1000000 ∧
  ∀ (h c : Addr) (ms : List Int) (H1 H' : Hp), Ex H H1 → H1 h = none → H1 c = some (.lst (ms.map V.int)) → (∀ x ∈ ms, 0 ≤ x) → ms.length ≤ 1000000 → H' = upd H1 h (.lst [.ref c, .int 0, .int 0, .int (1 + ms.length), .int 0]) → Q (.ref h) H'
theorem ok_hand1 {f : Addr} {fd : FuncData} (F : C8.Def K mg "_law_hand" s_law_hand f fd) (b : Binds K fd ["script"] []) (T : Txt mg) : C8.Cal P w K mg base 1 "_law_hand" (sp_hand1 K) [] := by
  refine C8.cal0 F b .nil sc_law_hand (fun vs H Q E h => ?_) (fun cdv A outer s H vs Q E hr h => ?_)
  · obtain ⟨a, ns, rfl, _⟩ := h
    rfl
  · obtain ⟨a, ns, rfl, ha, hl, q⟩ := h
    refine ⟨_, (pss_cons (ps_setLc (i := 1) (own := [("cell", 2)]) (g := gName 2) (tt := tYes) rfl sc_law_hand.nd rfl rfl (sw_true rfl rfl rfl (by decide +kernel)) (TH.kpi_list (K := K) (pe_slice (TH.ksl_list (K := K)) (pv 0) po_none (po_some pe_int))) (blkOk_by (own := [("cell", 2)]) (N := N_law_hand) (sc := C8.fnScope s_law_hand) (by decide +kernel)) (fun _ _ _ _ _ => (pg_name (i := 2) sc_law_hand.nd rfl (Or.inl rfl) (Or.inr rfl))) (fun _ _ _ _ _ => pts_nil) (fun _ _ _ _ _ => (pe_callB call_abs (by rfl) T.b_abs (by decide +kernel) (pa_cons (pe_callTy call_int1 (by rfl) T.b_int (by decide +kernel) (pa_cons (pv 2) pa_nil)) pa_nil))))
      (pss_one (ps_ret (pe_lst (pa_cons (pv 1) (pa_cons pe_int (pa_cons pe_int (pa_cons (pe_op op_add pe_int (pe_callB (TH.kcall_len (K := K)) (by rfl) T.b_len (by decide +kernel) (pa_cons (pv 1) pa_nil))) (pa_cons pe_int pa_nil))))))))), ?_⟩
    refine w_start (σ' := [some (.ref a), none, none]) rfl ?_
    walk_at "rd"
    obtain ⟨ms, e1, e2⟩ := cut_ints ns none (some 63)
    refine ⟨a, _, rfl, ha, fun p hp => ?_⟩
    rw [e1]
    refine ⟨p, rfl, ⟨_, sqL upd_same⟩, fun Dl hD => ?_⟩
    refine lc_data (K := K) (walk_list (xs := ms.map V.int)) (fun _ => true) (fun i => .int (absI (ms.getD i 0))) (fun _ => rfl) (fun H' e => e.l (sqL upd_same)) hD (by rw [List.length_map]; omega) (fun i x H' H'' hi e y R R0 k _ => ?_) (fun H' ws e hw hda => ?_)
    · obtain ⟨rfl, hx⟩ := y
      obtain ⟨n, hn, rfl⟩ := ints_at hx
      walk_at "rd"
      refine ⟨rfl, ?_⟩
      walk_at "rd"
      refine ⟨_, rfl, ?_⟩
      refine k rfl _ _ (Ex.refl _) ?_
      rw [getD_of hn]
      exact .int _
    · walk_at "rd"
      rw [made_all, List.length_map, range_map 0 (fun x : Int => PyData.int (absI x))] at hda
      have e3 : ms.map (fun x : Int => PyData.int (absI x)) = (ms.map absI).map PyData.int := by rw [List.map_map]; rfl
      rw [e3] at hda
      have e4 := dpa_ints_inv hda
      subst e4
      refine ⟨Dl, _, rfl, .inl (sqL hw), ?_⟩
      walk_at "rd"
      refine w_dispT (by simp) fun h hh => ?_
      refine q h Dl _ H' _ ((Ex.new hp).trans e) hh hw (fun x hx => ?_) (by rw [List.length_map]; omega) ?_
      · obtain ⟨y, _, rfl⟩ := List.mem_map.mp hx
        exact absI_nn y
      · rw [List.length_map]
/-- a script: a hand -/
def sp_hand (K : PySem.W.Frag) : Sp := fun vs H Q _ => ∃ (a : Addr) (ns : List Int), vs = [.ref a] ∧ SqL K H a (ns.map V.int) ∧ ns.length ≤ 1000000 ∧ ∀ v H', Ex H H' → HandAt H' v → Q v H'
theorem ok_law_hand {f : Addr} {fd : FuncData} (F : C8.Def K mg "_law_hand" s_law_hand f fd) (b : Binds K fd ["script"] []) (T : Txt mg) : C8.Cal P w K mg base 1 "_law_hand" (sp_hand K) [] := by
  refine cal_seal (ok_hand1 F b T) fun vs H Q E h => ?_
  obtain ⟨a, ns, rfl, ha, hl, q⟩ := h
  refine ⟨a, ns, rfl, ha, hl, fun h c ms H1 H' e hh hc hp hm hH => ?_⟩
  subst hH
  have hch : c ≠ h := fun z => by rw [z, hh] at hc; cases hc
  refine ⟨h, HandW c, _, e.fresh hh, ⟨0, 0, 1 + ms.length, 0, rfl, by omega, by omega, by omega, by omega⟩, upd_same, ?_⟩
  rw [upd_upd]
  exact q _ _ (e.trans (Ex.new hh)) ⟨h, c, ms, rfl, upd_same, by rw [upd_ne hch]; exact hc, hp⟩
/-! _law_any(hand, items) -/
def sp_any (K : PySem.W.Frag) : Sp := fun vs H Q _ => ∃ (v : V) (a : Addr) (xs : List V), vs = [v, .ref a] ∧ HandAt H v ∧ SqL K H a xs ∧ xs ≠ [] ∧ xs.length ≤ 1000000 ∧ ∀ x ∈ xs, Q x H
theorem ok_law_any {f : Addr} {fd : FuncData} (F : C8.Def K mg "_law_any" s_law_any f fd) (b : Binds K fd ["hand", "items"] []) (T : Txt mg)
    (c_law_draw : C8.Cal P w K mg base 1 "_law_draw" (sp_draw K) []) : C8.Cal P w K mg base 2 "_law_any" (sp_any K) [] := by
  refine C8.cal0 F b .nil sc_law_any (fun vs H Q E h => ?_) (fun cdv A outer s H vs Q E hr h => ?_)
  · obtain ⟨v, a, xs, rfl, _⟩ := h
    rfl
  · obtain ⟨v, a, xs, rfl, hv, ha, hne, hl, q⟩ := h
    refine ⟨_, (pss_one (ps_ret (pe_ix (TH.kix_list (K := K)) (pv 1) (C8.pe_c c_law_draw hr (by first | decide | exact Nat.le_refl _) (by rfl) (pa_cons (pv 0) (pa_cons (pe_callB (TH.kcall_len (K := K)) (by rfl) T.b_len (by decide +kernel) (pa_cons (pv 1) pa_nil)) pa_nil))) (fun _ _ => rfl)))), ?_⟩
    refine w_start (σ' := [some v, some (.ref a)]) rfl ?_
    have hpos := List.length_pos_iff.mpr hne
    walk_at "rd"
    refine ⟨a, _, rfl, .inl ha, ?_⟩
    walk_at "rd"
    refine ⟨v, _, rfl, hv, by omega, by omega, fun r r0 r1 => ?_⟩
    obtain ⟨n, rfl⟩ : ∃ n : Nat, r = n := ⟨r.toNat, by omega⟩
    have hn : n < xs.length := by omega
    exact w_ixL ha (atI_at (List.getElem?_eq_getElem hn)) (q _ (List.getElem_mem hn))
/-! _law_is(told, due): the same data -/
def wee : Nat → D → Prop
  | 0, d => d = .none ∨ (∃ b, d = .bool b) ∨ ∃ i, d = .int i
  | n + 1, d => (d = .none ∨ (∃ b, d = .bool b) ∨ ∃ i, d = .int i) ∨ ∃ ds : List D, (d = .tuple ds ∨ d = .list ds) ∧ ds.length ≤ 1000000 ∧ ∀ x ∈ ds, wee n x
def sp_is (n : Nat) (K : PySem.W.Frag) : Sp := fun vs H Q _ => ∃ (u v : V) (d : D), vs = [u, v] ∧ Dp K H u d ∧ Dp K H v d ∧ wee n d ∧ ∀ H', Ex H H' → Q (.bl true) H'
def sp_no : Sp := fun _ _ _ _ => False
theorem ok_law_is_no {f : Addr} {fd : FuncData} (F : C8.Def K mg "_law_is" s_law_is f fd) (b : Binds K fd ["told", "due"] []) : C8.Cal P w K mg base 1 "_law_is" sp_no [] :=
  C8.cal0 F b .nil sc_law_is (fun vs H Q E h => False.elim h) (fun cdv A outer s H vs Q E hr h => False.elim h)
theorem ok_law_is0 {f : Addr} {fd : FuncData} (F : C8.Def K mg "_law_is" s_law_is f fd) (b : Binds K fd ["told", "due"] []) (T : Txt mg)
    (c_law_is : C8.Cal P w K mg base 1 "_law_is" sp_no []) : C8.Cal P w K mg base 2 "_law_is" (sp_is 0 K) [] := by
  refine C8.cal0 F b .nil sc_law_is (fun vs H Q E h => ?_) (fun cdv A outer s H vs Q E hr h => ?_)
  · obtain ⟨u, v, d, rfl, _⟩ := h
    rfl
  · obtain ⟨u, v, d, rfl, hu1, hv1, hd, q⟩ := h
    refine ⟨_, (pss_cons (ps_if (pt_val (pe_callB (TH.kcall_isiT (K := K)) (by rfl) T.b_isinstance (by decide +kernel) (pa_cons (pv 1) (pa_cons (pe_tup (pa_cons (pe_bltn (v := .ty "tuple") (by rfl) T.b_tuple (by decide +kernel) rfl) (pa_cons (pe_bltn (v := .ty "list") (by rfl) T.b_list (by decide +kernel) rfl) pa_nil))) pa_nil)))) (pss_cons (ps_if (PW.pt (pw_or (pt_cmpR op_ne (pe_callB (TH.kcall_isi (K := K)) (by rfl) T.b_isinstance (by decide +kernel) (pa_cons (pv 0) (pa_cons (pe_bltn (v := .ty "tuple") (by rfl) T.b_tuple (by decide +kernel) rfl) pa_nil))) (pe_callB (TH.kcall_isi (K := K)) (by rfl) T.b_isinstance (by decide +kernel) (pa_cons (pv 1) (pa_cons (pe_bltn (v := .ty "tuple") (by rfl) T.b_tuple (by decide +kernel) rfl) pa_nil))) (nomark _)) (pw_or1 (pt_not (pt_val (pe_callB (TH.kcall_isiT (K := K)) (by rfl) T.b_isinstance (by decide +kernel) (pa_cons (pv 0) (pa_cons (pe_tup (pa_cons (pe_bltn (v := .ty "tuple") (by rfl) T.b_tuple (by decide +kernel) rfl) (pa_cons (pe_bltn (v := .ty "list") (by rfl) T.b_list (by decide +kernel) rfl) pa_nil))) pa_nil)))))))) (pss_one (ps_ret pe_bl)) pss_nil)
      (pss_one (ps_ret (pe_and (pe_cmpR op_eq (pe_callB (TH.kcall_len (K := K)) (by rfl) T.b_len (by decide +kernel) (pa_cons (pv 0) pa_nil)) (pe_callB (TH.kcall_len (K := K)) (by rfl) T.b_len (by decide +kernel) (pa_cons (pv 1) pa_nil)) (nomark _)) (pe_one (pe_callB (TH.kcr_all (K := K) rfl) (by rfl) T.b_all (by decide +kernel) (pa_cons (pe_lc (own := [("one", 2), ("two", 3)]) (g := gTup K 2 (gCons (gName 2) (gCons (gName 3) gNil))) (tt := tYes) rfl sc_law_is.nd (TH.kpi_zip (K := K) (by rfl) T.b_zip (pa_cons (pv 0) (pa_cons (pv 1) pa_nil))) (blkOk_by (own := [("one", 2), ("two", 3)]) (N := N_law_is) (sc := C8.fnScope s_law_is) (by decide +kernel)) (fun _ _ _ _ _ => (TH.kpg_tup (K := K) (n := 2) rfl (pgs_cons (pg_name (i := 2) sc_law_is.nd rfl (Or.inl rfl) (Or.inr rfl)) (pgs_cons (pg_name (i := 3) sc_law_is.nd rfl (Or.inl rfl) (Or.inr rfl)) pgs_nil)))) (fun _ _ _ _ _ => pts_nil) (fun _ _ _ _ _ => (C8.pe_c c_law_is hr (by first | decide | exact Nat.le_refl _) (by rfl) (pa_cons (pv 2) (pa_cons (pv 3) pa_nil))))) pa_nil))))))) pss_nil)
      (pss_one (ps_ret (pe_and (pe_cmpR op_eq (pe_callB (TH.kcall_isi (K := K)) (by rfl) T.b_isinstance (by decide +kernel) (pa_cons (pv 0) (pa_cons (pe_bltn (v := .ty "bool") (by rfl) T.b_bool (by decide +kernel) rfl) pa_nil))) (pe_callB (TH.kcall_isi (K := K)) (by rfl) T.b_isinstance (by decide +kernel) (pa_cons (pv 1) (pa_cons (pe_bltn (v := .ty "bool") (by rfl) T.b_bool (by decide +kernel) rfl) pa_nil))) (nomark _)) (pe_one (pe_cmpR op_eq (pv 0) (pv 1) (nomark _))))))), ?_⟩
    refine w_start (σ' := [some u, some v, none, none]) rfl ?_
    walk_at "rd"
    refine w_dispT (by decide) fun p hp => ?_
    walk_at "rd"
    refine w_isTL ((Ex.new hp).dp hv1) upd_same ?_
    have e1 := Ex.new (o := .tup [.ty "tuple", .ty "list"]) hp
    rcases hd with rfl | ⟨k, rfl⟩ | ⟨k, rfl⟩ <;> cases hu1 <;> cases hv1 <;> walk_at "rd"
    · refine w_isBool .non ?_
      walk_at "rd"
      refine w_isBool .non ?_
      walk_at "rd"
      refine w_dec (fun _ => ?_) (fun z => absurd rfl z)
      walk_at "rd"
      exact w_eq rfl (q _ e1)
    · refine w_isBool (.bl _) ?_
      walk_at "rd"
      refine w_isBool (.bl _) ?_
      walk_at "rd"
      refine w_dec (fun _ => ?_) (fun z => absurd rfl z)
      walk_at "rd"
      rw [decide_eq_true (rfl : k = k)]
      exact q _ e1
    · refine w_isBool (.int _) ?_
      walk_at "rd"
      refine w_isBool (.int _) ?_
      walk_at "rd"
      refine w_dec (fun _ => ?_) (fun z => absurd rfl z)
      walk_at "rd"
      rw [decide_eq_true (rfl : k = k)]
      exact q _ e1
theorem w_neBB {H : Hp} {Q : VK} {a : Bool} (k : Q (.bl false) H) : rNe (.bl a) (.bl a) H Q := ⟨rfl, by
  have e : (!decide (V.bl a = V.bl a)) = false := by rw [decide_eq_true rfl]; rfl
  rw [e]; exact k⟩
theorem wee_up : ∀ {n : Nat} {d : D}, wee n d → wee (n + 1) d
  | 0, _, h => .inl h
  | n + 1, _, .inl h => .inl h
  | n + 1, _, .inr ⟨ds, h1, h2, h3⟩ => .inr ⟨ds, h1, h2, fun x hx => wee_up (h3 x hx)⟩
theorem all_trues {n : Nat} : ((List.range n).map fun _ => true).all id = true := by
  rw [List.all_eq_true]
  intro x hx
  obtain ⟨_, _, rfl⟩ := List.mem_map.mp hx
  rfl
theorem ok_law_isS {n k : Nat} {f : Addr} {fd : FuncData} (F : C8.Def K mg "_law_is" s_law_is f fd) (b : Binds K fd ["told", "due"] []) (T : Txt mg)
    (c_law_is : C8.Cal P w K mg base k "_law_is" (sp_is n K) []) : C8.Cal P w K mg base (k + 1) "_law_is" (sp_is (n + 1) K) [] := by
  refine C8.cal0 F b .nil sc_law_is (fun vs H Q E h => ?_) (fun cdv A outer s H vs Q E hr h => ?_)
  · obtain ⟨u, v, d, rfl, _⟩ := h
    rfl
  · obtain ⟨u, v, d, rfl, hu1, hv1, hd, q⟩ := h
    refine ⟨_, (pss_cons (ps_if (pt_val (pe_callB (TH.kcall_isiT (K := K)) (by rfl) T.b_isinstance (by decide +kernel) (pa_cons (pv 1) (pa_cons (pe_tup (pa_cons (pe_bltn (v := .ty "tuple") (by rfl) T.b_tuple (by decide +kernel) rfl) (pa_cons (pe_bltn (v := .ty "list") (by rfl) T.b_list (by decide +kernel) rfl) pa_nil))) pa_nil)))) (pss_cons (ps_if (PW.pt (pw_or (pt_cmpR op_ne (pe_callB (TH.kcall_isi (K := K)) (by rfl) T.b_isinstance (by decide +kernel) (pa_cons (pv 0) (pa_cons (pe_bltn (v := .ty "tuple") (by rfl) T.b_tuple (by decide +kernel) rfl) pa_nil))) (pe_callB (TH.kcall_isi (K := K)) (by rfl) T.b_isinstance (by decide +kernel) (pa_cons (pv 1) (pa_cons (pe_bltn (v := .ty "tuple") (by rfl) T.b_tuple (by decide +kernel) rfl) pa_nil))) (nomark _)) (pw_or1 (pt_not (pt_val (pe_callB (TH.kcall_isiT (K := K)) (by rfl) T.b_isinstance (by decide +kernel) (pa_cons (pv 0) (pa_cons (pe_tup (pa_cons (pe_bltn (v := .ty "tuple") (by rfl) T.b_tuple (by decide +kernel) rfl) (pa_cons (pe_bltn (v := .ty "list") (by rfl) T.b_list (by decide +kernel) rfl) pa_nil))) pa_nil)))))))) (pss_one (ps_ret pe_bl)) pss_nil)
      (pss_one (ps_ret (pe_and (pe_cmpR op_eq (pe_callB (TH.kcall_len (K := K)) (by rfl) T.b_len (by decide +kernel) (pa_cons (pv 0) pa_nil)) (pe_callB (TH.kcall_len (K := K)) (by rfl) T.b_len (by decide +kernel) (pa_cons (pv 1) pa_nil)) (nomark _)) (pe_one (pe_callB (TH.kcr_all (K := K) rfl) (by rfl) T.b_all (by decide +kernel) (pa_cons (pe_lc (own := [("one", 2), ("two", 3)]) (g := gTup K 2 (gCons (gName 2) (gCons (gName 3) gNil))) (tt := tYes) rfl sc_law_is.nd (TH.kpi_zip (K := K) (by rfl) T.b_zip (pa_cons (pv 0) (pa_cons (pv 1) pa_nil))) (blkOk_by (own := [("one", 2), ("two", 3)]) (N := N_law_is) (sc := C8.fnScope s_law_is) (by decide +kernel)) (fun _ _ _ _ _ => (TH.kpg_tup (K := K) (n := 2) rfl (pgs_cons (pg_name (i := 2) sc_law_is.nd rfl (Or.inl rfl) (Or.inr rfl)) (pgs_cons (pg_name (i := 3) sc_law_is.nd rfl (Or.inl rfl) (Or.inr rfl)) pgs_nil)))) (fun _ _ _ _ _ => pts_nil) (fun _ _ _ _ _ => (C8.pe_c c_law_is hr (by first | decide | exact Nat.le_refl _) (by rfl) (pa_cons (pv 2) (pa_cons (pv 3) pa_nil))))) pa_nil))))))) pss_nil)
      (pss_one (ps_ret (pe_and (pe_cmpR op_eq (pe_callB (TH.kcall_isi (K := K)) (by rfl) T.b_isinstance (by decide +kernel) (pa_cons (pv 0) (pa_cons (pe_bltn (v := .ty "bool") (by rfl) T.b_bool (by decide +kernel) rfl) pa_nil))) (pe_callB (TH.kcall_isi (K := K)) (by rfl) T.b_isinstance (by decide +kernel) (pa_cons (pv 1) (pa_cons (pe_bltn (v := .ty "bool") (by rfl) T.b_bool (by decide +kernel) rfl) pa_nil))) (nomark _)) (pe_one (pe_cmpR op_eq (pv 0) (pv 1) (nomark _))))))), ?_⟩
    refine w_start (σ' := [some u, some v, none, none]) rfl ?_
    walk_at "rd"
    refine w_dispT (by decide) fun p hp => ?_
    walk_at "rd"
    refine w_isTL ((Ex.new hp).dp hv1) upd_same ?_
    have e1 := Ex.new (o := .tup [.ty "tuple", .ty "list"]) hp
    rcases hd with (rfl | ⟨k, rfl⟩ | ⟨k, rfl⟩) | ⟨ds, hds, hlen, hwee⟩
    · cases hu1; cases hv1
      walk_at "rd"
      refine w_isBool .non ?_
      walk_at "rd"
      refine w_isBool .non ?_
      walk_at "rd"
      refine w_dec (fun _ => ?_) (fun z => absurd rfl z)
      walk_at "rd"
      exact w_eq rfl (q _ e1)
    · cases hu1; cases hv1
      walk_at "rd"
      refine w_isBool (.bl _) ?_
      walk_at "rd"
      refine w_isBool (.bl _) ?_
      walk_at "rd"
      refine w_dec (fun _ => ?_) (fun z => absurd rfl z)
      walk_at "rd"
      rw [decide_eq_true (rfl : k = k)]
      exact q _ e1
    · cases hu1; cases hv1
      walk_at "rd"
      refine w_isBool (.int _) ?_
      walk_at "rd"
      refine w_isBool (.int _) ?_
      walk_at "rd"
      refine w_dec (fun _ => ?_) (fun z => absurd rfl z)
      walk_at "rd"
      rw [decide_eq_true (rfl : k = k)]
      exact q _ e1
    · have hsq : ∃ (ub vb : Addr) (xs ys : List V), u = .ref ub ∧ v = .ref vb ∧ ((SqL K H ub xs ∧ SqL K H vb ys) ∨ (SqT K H ub xs ∧ SqT K H vb ys)) ∧ DpAll K H xs ds ∧ DpAll K H ys ds ∧ (isTup d || isLst d) = true := by
        rcases hds with rfl | rfl
        · obtain ⟨a1, x1, rfl, h1, h2⟩ := dp_tup hu1
          obtain ⟨a2, x2, rfl, h3, h4⟩ := dp_tup hv1
          exact ⟨_, _, _, _, rfl, rfl, .inr ⟨h1, h3⟩, h2, h4, rfl⟩
        · obtain ⟨a1, x1, rfl, h1, h2⟩ := dp_lst hu1
          obtain ⟨a2, x2, rfl, h3, h4⟩ := dp_lst hv1
          exact ⟨_, _, _, _, rfl, rfl, .inl ⟨h1, h3⟩, h2, h4, rfl⟩
      obtain ⟨ub, vb, xs, ys, rfl, rfl, hsq, hxs, hys, htl⟩ := hsq
      have lx : xs.length = ds.length := dpa_len hxs
      have ly : ys.length = ds.length := dpa_len hys
      rw [htl]
      walk_at "rd"
      refine w_isTup (e1.dp hu1) ?_
      walk_at "rd"
      refine w_isTup (e1.dp hv1) ?_
      walk_at "rd"
      refine w_neBB ⟨_, rfl, ?_⟩
      walk_at "rd"
      refine w_dispT (by decide) fun p2 hp2 => ?_
      walk_at "rd"
      have e2 : Ex H _ := e1.trans (Ex.new (o := .tup [.ty "tuple", .ty "list"]) hp2)
      refine w_isTL (e2.dp hu1) upd_same ?_
      rw [htl]
      walk_at "rd"
      refine ⟨ub, xs, rfl, hsq.imp (fun z => e2.l z.1) (fun z => e2.t z.1), ?_⟩
      walk_at "rd"
      refine ⟨vb, ys, rfl, hsq.imp (fun z => e2.l z.2) (fun z => e2.t z.2), ?_⟩
      walk_at "rd"
      refine w_dec (fun _ => ?_) (fun z => absurd (by omega) z)
      walk_at "rd"
      have turn : ∀ (i : Nat) (H' : Hp) (t : Addr) (x1 x2 : V) (R : VK), i < ds.length → Ex H H' → H' t = none → xs[i]? = some x1 → ys[i]? = some x2 → (∀ v H3, Ex H' H3 → Dp K H3 v (.bool true) → R v H3) →
          sp_is n K [x1, x2] (upd H' t (.tup [x1, x2])) R C8.E0 := by
        intro i H' t x1 x2 R hi e ht h1 h2 k
        obtain ⟨d1, hd1, hd2⟩ := dpa_get hxs h1
        obtain ⟨d2, hd3, hd4⟩ := dpa_get hys h2
        rw [hd1] at hd3
        cases hd3
        have e3 := e.trans (Ex.new (o := .tup [x1, x2]) ht)
        exact ⟨x1, x2, d1, rfl, e3.dp hd2, e3.dp hd4, hwee _ (List.mem_of_getElem? hd1), fun H3 e4 => k _ _ ((Ex.new ht).trans e4) (.bl _)⟩
      have fin : ∀ (Dl : Addr) (H' : Hp) (ws : List V), Ex (upd (upd H p (.tup [.ty "tuple", .ty "list"])) p2 (.tup [.ty "tuple", .ty "list"])) H' → H' Dl = some (.lst ws) → DpAll K H' ws (made ds.length (fun _ => true) fun _ => PyData.bool true) → rAll K [.ref Dl] H' Q := by
        intro Dl H' ws e hw hda
        rw [made_all] at hda
        have e5 : (List.range ds.length).map (fun _ => PyData.bool true) = ((List.range ds.length).map fun _ => true).map PyData.bool := by rw [List.map_map]; rfl
        rw [e5] at hda
        have e6 := dpa_bools_inv hda
        subst e6
        refine ⟨Dl, _, rfl, sqL hw, ?_⟩
        rw [all_trues]
        exact q _ (e2.trans e)
      refine ⟨ub, vb, xs, ys, rfl, ?_⟩
      rcases hsq with ⟨ha, hb⟩ | ⟨ha, hb⟩
      · refine .inl ⟨e2.l ha, e2.l hb, fun Dl hD => ?_⟩
        refine lc_data (K := K) (walk_zip (by omega : ds.length = _)) (fun _ => true) (fun i => .bool true) (fun _ => rfl) (fun H' e => ⟨(e2.trans e).l ha, (e2.trans e).l hb⟩) hD hlen (fun i x H' H'' hi e y R R0 k _ => ?_) (fun H' ws e hw hda => fin Dl H' ws e hw hda)
        obtain ⟨t, x1, x2, rfl, ht, rfl, h1, h2⟩ := y
        walk_at "rd"
        refine ⟨rfl, ?_⟩
        walk_at "rd"
        exact turn i H' t x1 x2 R hi (e2.trans e) ht h1 h2 (k rfl)
      · refine .inr ⟨e2.t ha, e2.t hb, fun Dl hD => ?_⟩
        refine lc_data (K := K) (walk_zipT (by omega : ds.length = _)) (fun _ => true) (fun i => .bool true) (fun _ => rfl) (fun H' e => ⟨(e2.trans e).t ha, (e2.trans e).t hb⟩) hD hlen (fun i x H' H'' hi e y R R0 k _ => ?_) (fun H' ws e hw hda => fin Dl H' ws e hw hda)
        obtain ⟨t, x1, x2, rfl, ht, rfl, h1, h2⟩ := y
        walk_at "rd"
        refine ⟨rfl, ?_⟩
        walk_at "rd"
        exact turn i H' t x1 x2 R hi (e2.trans e) ht h1 h2 (k rfl)
end TK

namespace TK
open PySem PySem.Spec PyProof.Rows L2 TH
local macro_rules | `(tactic| walk_at "rd1") => `(tactic| first
  | (with_reducible refine TH.w_seq ?_)
  | (with_reducible refine TH.w_asg ?_)
  | (with_reducible refine TH.w_ret ?_)
  | (with_reducible refine TH.w_drop ?_)
  | (with_reducible refine TH.w_ifS ?_)
  | (with_reducible refine TH.w_next ?_)
  | ((with_reducible refine TH.w_var (v := ?vv) ?hv ?_); (case hv => rfl))
  | (with_reducible refine TH.w_c ?_)
  | ((with_reducible refine TH.w_gname (σ' := ?ss) ?hs ?_); (case hs => (dsimp only [List.set]; rfl)))
  | (with_reducible refine TH.w_op ?_)
  | (with_reducible refine TH.w_un ?_)
  | (with_reducible refine TH.w_chain ?_)
  | (with_reducible refine TH.w_I0 ?_)
  | ((with_reducible refine TH.w_I ?hm ?_); (case hm => first | (exact TH.CMul.l (by omega) (by omega)) | (exact TH.CMul.r (by omega) (by omega)) | (exact TH.CDiv.mk (by omega) (by omega)) | (show (0 : Int) < _; omega) | (exact TH.CPow.mk (by omega) (by omega) (by decide))))
  | (with_reducible refine TH.w_U ?_)
  | (with_reducible refine TH.w_eqI ?_)
  | (with_reducible refine TH.w_neI ?_)
  | (with_reducible refine TH.w_eqB ?_)
  | (with_reducible refine TH.w_isN ?_)
  | (with_reducible refine TH.w_nil ?_)
  | (with_reducible refine TH.w_cons ?_)
  | (with_reducible refine TH.w_test ?_)
  | (with_reducible refine TH.w_B ?_)
  | (with_reducible refine TH.w_bl ?_)
  | (with_reducible refine TH.w_and ?_)
  | (with_reducible refine TH.w_or ?_)
  | (with_reducible refine TH.w_not ?_)
  | (with_reducible refine TH.w_andV ?_)
  | (with_reducible refine TH.w_orV ?_)
  | (with_reducible refine TH.w_notV ?_)
  | (with_reducible refine TH.w_if ?_)
  | (with_reducible refine TH.w_parT ?_)
  | (with_reducible refine TH.w_par ?_)
  | (with_reducible refine TH.w_parT3 ?_)
  | (with_reducible refine TH.w_par3 ?_)
  | (with_reducible refine TH.w_cb ?_)
  | (with_reducible refine TH.w_call ?_)
  | ((with_reducible refine TH.w_aug (v := ?vv) ?hv ?_); (case hv => rfl))
  | (with_reducible refine TH.w_ip ?_)
  | (with_reducible refine TH.w_bm ?_)
  | (with_reducible refine TH.w_sl ?_)
  | (with_reducible refine TH.w_np ?_)
  | (with_reducible refine TH.w_pt ?_)
  | (with_reducible refine TH.w_pti ?_)
  | (with_reducible refine TH.w_gsub ?_)
  | (with_reducible refine TH.w_int ?_)
  | (with_reducible refine TH.w_tupT ?_)
  | (with_reducible refine TH.w_lstT ?_)
  | ((with_reducible show L2.rIxL _ _ _ _ _); (first | (refine TH.w_ixL (TH.sqL upd_same) rfl ?_) | (refine TH.w_ixL (TH.sqL (by assumption)) rfl ?_)))
  | ((with_reducible show L2.rSetL _ _ _ _ _); (first | (refine TH.w_set1 upd_same ?_) | (refine TH.w_set2 upd_same ?_) | (refine TH.w_set3 upd_same ?_) | (refine TH.w_set4 upd_same ?_) | (refine TH.w_set1 (by assumption) ?_) | (refine TH.w_set2 (by assumption) ?_) | (refine TH.w_set3 (by assumption) ?_) | (refine TH.w_set4 (by assumption) ?_)))
  | (with_reducible refine TH.w_lc ?_)
  | (with_reducible refine TH.w_itup ?_)
  | (with_reducible refine TH.w_ilist ?_)
  | (with_reducible refine TH.w_ienum ?_)
  | (with_reducible refine TH.w_izip ?_)
  | (with_reducible refine TH.w_irng1 ?_)
  | (with_reducible refine TH.w_irng2 ?_)
  | (with_reducible refine TH.w_for ?_)
  | (with_reducible refine TH.w_gcons ?_)
  | (with_reducible refine TH.w_gnil ?_)
  | (with_reducible refine TH.w_yes ?_)
  | (with_reducible refine TH.w_gtup2 upd_same ?_)
  | (with_reducible refine TH.w_gtup3 upd_same ?_)
  | (with_reducible refine TH.w_T ?_)
  | (with_reducible refine TH.w_F ?_))
local macro_rules | `(tactic| walk_at "rd") => `(tactic| repeat (first | walk_at "rd1" | (dsimp only [List.set, L2.wipe, List.map, TH.isInt, TH.isBool, TH.isTup, TH.isLst, TH.bo_f, TH.bo_t, TH.ba_f, TH.ba_t, TH.bn_t, TH.bn_f, List.append_nil, List.cons_append, List.nil_append])))

abbrev s_law_mixed : Stmt := top 35
abbrev N_law_mixed : List Str := ["hand", "items", "turn", "left", "found"]
theorem sc_law_mixed : FnScope N_law_mixed ["hand", "items"] (C8.fnScope s_law_mixed) := ⟨rfl, rfl, rfl, by decide +kernel, rfl, by decide +kernel, by decide +kernel⟩
abbrev s_law_summed : Stmt := top 39
abbrev N_law_summed : List Str := ["p", "wide", "rows", "many", "found", "row", "value"]
theorem sc_law_summed : FnScope N_law_summed ["p", "wide", "rows", "many"] (C8.fnScope s_law_summed) := ⟨rfl, rfl, rfl, by decide +kernel, rfl, by decide +kernel, by decide +kernel⟩
abbrev s_law_clock : Stmt := top 40
abbrev N_law_clock : List Str := ["hand"]
theorem sc_law_clock : FnScope N_law_clock ["hand"] (C8.fnScope s_law_clock) := ⟨rfl, rfl, rfl, by decide +kernel, rfl, by decide +kernel, by decide +kernel⟩
abbrev s_law_some_row : Stmt := top 41
abbrev N_law_some_row : List Str := ["hand", "p", "wide", "rows", "kind", "at", "many", "row", "place"]
theorem sc_law_some_row : FnScope N_law_some_row ["hand", "p", "wide", "rows"] (C8.fnScope s_law_some_row) := ⟨rfl, rfl, rfl, by decide +kernel, rfl, by decide +kernel, by decide +kernel⟩
abbrev s_law_some_rows : Stmt := top 42
abbrev N_law_some_rows : List Str := ["hand", "p", "wide", "many", "found", "turn"]
theorem sc_law_some_rows : FnScope N_law_some_rows ["hand", "p", "wide", "many"] (C8.fnScope s_law_some_rows) := ⟨rfl, rfl, rfl, by decide +kernel, rfl, by decide +kernel, by decide +kernel⟩

variable {P : Program} {w : World} {K : PySem.W.Frag} {mg : Str → Option Value} {base : Heap}
/-! _law_mixed(hand, items): the items in some order -/
def sp_mixed (K : PySem.W.Frag) : Sp := fun vs H Q _ => ∃ (v : V) (a : Addr) (xs : List V), vs = [v, .ref a] ∧ HandAt H v ∧ SqL K H a xs ∧ xs.length ≤ 1000000 ∧
  ∀ (l : Addr) (H' : Hp) (ys : List V), Ex H H' → H l = none → H' l = some (.lst ys) → ys.Perm xs → Q (.ref l) H'
theorem ok_law_mixed {f : Addr} {fd : FuncData} (F : C8.Def K mg "_law_mixed" s_law_mixed f fd) (b : Binds K fd ["hand", "items"] []) (T : Txt mg)
    (c_law_draw : C8.Cal P w K mg base 1 "_law_draw" (sp_draw K) []) : C8.Cal P w K mg base 2 "_law_mixed" (sp_mixed K) [] := by
  refine C8.cal0 F b .nil sc_law_mixed (fun vs H Q E h => ?_) (fun cdv A outer s H vs Q E hr h => ?_)
  · obtain ⟨v, a, xs, rfl, _⟩ := h
    rfl
  · obtain ⟨v, a, xs, rfl, hv, ha, hl, q⟩ := h
    refine ⟨_, (pss_cons (ps_par (i := 3) (j := 4) rfl sc_law_mixed.nd rfl rfl (by decide) rfl rfl (pa_cons (pe_callTy (TH.kcall_list (K := K)) (by rfl) T.b_list (by decide +kernel) (pa_cons (pv 1) pa_nil)) (pa_cons (pe_lst pa_nil) pa_nil)) (by rfl))
      (pss_cons (ps_for PassesOwn.never rfl (pi_range1 (by rfl) T.b_range (pa_cons (pe_callB (TH.kcall_len (K := K)) (by rfl) T.b_len (by decide +kernel) (pa_cons (pv 3) pa_nil)) pa_nil)) (pg_name (i := 2) sc_law_mixed.nd rfl (Or.inl rfl) (Or.inr rfl)) (pss_one (ps_expr (TH.kpe_bm (K := K) PySem.F.plainAttrs_list PySem.F.slot_list_append PySem.F.type_list_append mt_append (pv 4) (pa_cons (TH.kpe_bm (K := K) PySem.F.plainAttrs_list PySem.F.slot_list_pop PySem.F.type_list_pop mt_popAt (pv 3) (pa_cons (C8.pe_c c_law_draw hr (by first | decide | exact Nat.le_refl _) (by rfl) (pa_cons (pv 0) (pa_cons (pe_callB (TH.kcall_len (K := K)) (by rfl) T.b_len (by decide +kernel) (pa_cons (pv 3) pa_nil)) pa_nil))) pa_nil)) pa_nil)))))
      (pss_one (ps_ret (pv 4))))), ?_⟩
    refine w_start (σ' := [some v, some (.ref a), none, none, none]) rfl ?_
    walk_at "rd"
    refine ⟨a, _, rfl, .inl ha, fun l hl0 => ?_⟩
    walk_at "rd"
    refine w_dispT (by decide) fun g hg => ?_
    walk_at "rd"
    have hgl : g ≠ l := fun z => by rw [z, upd_same] at hg; cases hg
    have hg0 : H g = none := by rw [upd_ne hgl] at hg; exact hg
    refine ⟨l, _, rfl, .inl (sqL (by rw [upd_ne (Ne.symm hgl)]; exact upd_same)), ?_⟩
    walk_at "rd"
    refine w_isrng (by omega) (by omega) ?_
    refine for_go walk_range (fun i σ H' => Ex H H' ∧ (∃ y, σ = [some v, some (.ref a), y, some (.ref l), some (.ref g)]) ∧ ∃ lf fd, H' l = some (.lst lf) ∧ H' g = some (.lst fd) ∧ lf.length = xs.length - i ∧ (fd ++ lf).Perm xs)
      ⟨(Ex.new hl0).trans (Ex.new hg), ⟨_, rfl⟩, xs, [], by rw [upd_ne (Ne.symm hgl)]; exact upd_same, upd_same, rfl, .refl _⟩ (fun _ _ _ _ _ => trivial) (fun i x σ H' H'' hi p y => ?_) (fun σ H' p => ?_)
    · obtain ⟨e, ⟨y1, rfl⟩, lf, fd, h1, h2, h3, h4⟩ := p
      obtain ⟨rfl, rfl⟩ := y
      walk_at "rd"
      refine ⟨tyL h2, ?_⟩
      walk_at "rd"
      refine ⟨tyL h1, ?_⟩
      walk_at "rd"
      refine ⟨l, _, rfl, .inl (sqL h1), ?_⟩
      walk_at "rd"
      refine ⟨v, _, rfl, hv.ex e, by omega, by omega, fun r r0 r1 => ?_⟩
      obtain ⟨n, rfl⟩ : ∃ n : Nat, r = n := ⟨r.toNat, by omega⟩
      have hn : n < lf.length := by omega
      walk_at "rd"
      refine w_popAt h1 (List.getElem?_eq_getElem hn) (by omega) ?_
      walk_at "rd"
      have hlen : fd.length + lf.length = xs.length := by rw [← List.length_append]; exact h4.length_eq
      refine w_app (by rw [upd_ne hgl]; exact h2) (by omega) ?_
      walk_at "rd"
      refine ⟨(e.mut hl0).mut hg0, ⟨_, rfl⟩, lf.eraseIdx n, fd ++ [lf[n]], by rw [upd_ne (Ne.symm hgl)]; exact upd_same, upd_same, by rw [List.length_eraseIdx_of_lt hn]; omega, perm_take h4 (List.getElem?_eq_getElem hn)⟩
    · obtain ⟨e, ⟨y1, rfl⟩, lf, fd, h1, h2, h3, h4⟩ := p
      walk_at "rd"
      have : lf = [] := List.length_eq_zero_iff.mp (by omega)
      subst this
      rw [List.append_nil] at h4
      exact q g H' fd e hg0 h2 h4
/-! _law_less(p, row, other, many) -/
def sp_law_less (K : PySem.W.Frag) : Sp := fun vs H Q _ => ∃ (p c : Int) (v u : V) (ns ms : List Int), vs = [.int p, v, u, .int c] ∧ Dp K H v (row ns) ∧ Dp K H u (row ms) ∧ 0 < p ∧ -1000000 ≤ c ∧ c ≤ 1000000 ∧ ns.length ≤ 1000000 ∧ ∀ u H', Ex H H' → Dp K H' u (row (iSub p ns ms c)) → Q u H'
theorem ok_law_less {f : Addr} {fd : FuncData} (F : C8.Def K mg "_law_less" s_law_less f fd) (b : Binds K fd ["p", "row", "other", "many"] []) (T : Txt mg) : C8.Cal P w K mg base 1 "_law_less" (sp_law_less K) [] := by
  refine C8.cal0 F b .nil sc_law_less (fun vs H Q E h => ?_) (fun cdv A outer s H vs Q E hr h => ?_)
  · obtain ⟨p, c, v, u, ns, ms, rfl, _⟩ := h
    rfl
  · obtain ⟨p, c, v, u, ns, ms, rfl, hd, hd2, p0, c0, c1, hl, q⟩ := h
    obtain ⟨a, rfl, ha⟩ := dp_row hd
    obtain ⟨b, rfl, hb⟩ := dp_row hd2
    refine ⟨_, (pss_one (ps_ret (pe_callTy (TH.kcall_tuple (K := K)) (by rfl) T.b_tuple (by decide +kernel) (pa_cons (pe_lc (own := [("one", 4), ("two", 5)]) (g := gTup K 2 (gCons (gName 4) (gCons (gName 5) gNil))) (tt := tYes) rfl sc_law_less.nd (TH.kpi_zip (K := K) (by rfl) T.b_zip (pa_cons (pv 1) (pa_cons (pv 2) pa_nil))) (blkOk_by (own := [("one", 4), ("two", 5)]) (N := N_law_less) (sc := C8.fnScope s_law_less) (by decide +kernel)) (fun _ _ _ _ _ => (TH.kpg_tup (K := K) (n := 2) rfl (pgs_cons (pg_name (i := 4) sc_law_less.nd rfl (Or.inl rfl) (Or.inr rfl)) (pgs_cons (pg_name (i := 5) sc_law_less.nd rfl (Or.inl rfl) (Or.inr rfl)) pgs_nil)))) (fun _ _ _ _ _ => pts_nil) (fun _ _ _ _ _ => (pe_op op_mod (pe_callTy call_int1 (by rfl) T.b_int (by decide +kernel) (pa_cons (pe_op op_sub (pv 4) (pe_op op_mul (pv 3) (pv 5))) pa_nil)) (pv 0)))) pa_nil)))), ?_⟩
    refine w_start (σ' := [some (.int p), some (.ref a), some (.ref b), some (.int c), none, none]) rfl ?_
    walk_at "rd"
    refine ⟨a, b, _, _, rfl, .inr ⟨ha, hb, fun Dl hD => ?_⟩⟩
    refine lc_data (K := K) (walk_zipT rfl) (fun _ => true) (fun i => .int ((ns.getD i 0 - c * ms.getD i 0) % p)) (fun _ => rfl) (fun H' e => ⟨e.t ha, e.t hb⟩) hD (by simp; omega) (fun i x H' H'' hi e y R R0 k _ => ?_) (fun H' ws e hw hda => ?_)
    · obtain ⟨t, x1, x2, rfl, ht, rfl, h1, h2⟩ := y
      obtain ⟨n, hn, rfl⟩ := ints_at h1
      obtain ⟨m, hm, rfl⟩ := ints_at h2
      walk_at "rd"
      refine ⟨rfl, ?_⟩
      walk_at "rd"
      refine k rfl _ _ (Ex.new ht) ?_
      rw [getD_of hn, getD_of hm]
      exact .int _
    · walk_at "rd"
      refine ⟨Dl, ws, rfl, .inl ⟨sqL hw, fun l hl => ?_⟩⟩
      refine q _ _ (e.trans (Ex.new hl)) ?_
      rw [made_all, List.length_map, List.length_map, range_zip 0 0 (fun x y => PyData.int ((x - c * y) % p))] at hda
      refine .tup (sqT upd_same) ((Ex.new hl).dpa ?_)
      unfold iSub
      rw [List.map_zipWith]
      exact hda
/-! _law_clock(hand) -/
def clocks : List Int := [2, 3, 5, 7, 2, 11, 101, 999983]
def sp_clock (K : PySem.W.Frag) : Sp := fun vs H Q _ => ∃ (v : V), vs = [v] ∧ HandAt H v ∧ ∀ (p : Int) (H' : Hp), Ex H H' → p ∈ clocks → Q (.int p) H'
theorem ok_law_clock {f : Addr} {fd : FuncData} (F : C8.Def K mg "_law_clock" s_law_clock f fd) (b : Binds K fd ["hand"] []) (T : Txt mg)
    (c_law_any : C8.Cal P w K mg base 2 "_law_any" (sp_any K) []) : C8.Cal P w K mg base 3 "_law_clock" (sp_clock K) [] := by
  refine C8.cal0 F b .nil sc_law_clock (fun vs H Q E h => ?_) (fun cdv A outer s H vs Q E hr h => ?_)
  · obtain ⟨v, rfl, _⟩ := h
    rfl
  · obtain ⟨v, rfl, hv, q⟩ := h
    refine ⟨_, (pss_one (ps_ret (C8.pe_c c_law_any hr (by first | decide | exact Nat.le_refl _) (by rfl) (pa_cons (pv 0) (pa_cons (pe_lst (pa_cons pe_int (pa_cons pe_int (pa_cons pe_int (pa_cons pe_int (pa_cons pe_int (pa_cons pe_int (pa_cons pe_int (pa_cons pe_int pa_nil))))))))) pa_nil))))), ?_⟩
    refine w_start (σ' := [some v]) rfl ?_
    walk_at "rd"
    refine w_dispT (by decide) fun l hl => ?_
    refine ⟨v, l, clocks.map V.int, rfl, hv.ex (Ex.new hl), sqL upd_same, by simp [clocks], by decide, fun x hx => ?_⟩
    obtain ⟨p, hp, rfl⟩ := List.mem_map.mp hx
    exact q p _ (Ex.new hl) hp

/-! _law_summed(p, wide, rows, many) -/
theorem w_rep0 {l : Addr} {k : Nat} {H : Hp} {Q : VK} (h : H l = some (.tup [.int 0])) (hk : k ≤ 1000) (q : ∀ a H', Ex H H' → Dp K H' (.ref a) (row (List.replicate k 0)) → Q (.ref a) H') : rRepA K (.ref l) (.int (k : Nat)) H Q := by
  refine ⟨l, k, _, rfl, rfl, sqT h, by simp, by omega, by omega, by simp, fun e => ?_, fun e p hp => ?_⟩
  · have e1 : k = 1 := by omega
    subst e1
    exact q l H (Ex.refl _) (dp_row_of (ns := [0]) (sqT h))
  · refine q p _ (Ex.new hp) (dp_row_of (sqT ?_))
    rw [upd_same]
    congr 3
    rw [Int.toNat_natCast]
    clear e hk q
    induction k with
    | zero => rfl
    | succ k ih => rw [List.replicate_succ, List.flatten_cons, ih, List.replicate_succ]; rfl
def sumI (p : Int) (acc : List Int) : List (List Int) → List Int → List Int
  | r :: rs, m :: ms => sumI p (if m = 0 then acc else iSub p acc r (-m)) rs ms
  | _, _ => acc
theorem sumI_snoc (p : Int) : ∀ (rs : List (List Int)) (ms : List Int) (acc r : List Int) (m : Int) (i : Nat), rs[i]? = some r → ms[i]? = some m → sumI p acc (rs.take (i + 1)) (ms.take (i + 1)) = if m = 0 then sumI p acc (rs.take i) (ms.take i) else iSub p (sumI p acc (rs.take i) (ms.take i)) r (-m)
  | [], _, _, _, _, _, h, _ => by simp at h
  | _ :: _, [], _, _, _, _, _, h => by simp at h
  | r0 :: rs, m0 :: ms, acc, r, m, 0, h1, h2 => by
    cases h1; cases h2
    simp [sumI]
  | r0 :: rs, m0 :: ms, acc, r, m, i + 1, h1, h2 => by
    have := sumI_snoc p rs ms (if m0 = 0 then acc else iSub p acc r0 (-m0)) r m i (by simpa using h1) (by simpa using h2)
    simpa [sumI] using this
theorem iSub_len {p c : Int} {ns ms : List Int} (h : ms.length = ns.length) : (iSub p ns ms c).length = ns.length := by
  unfold iSub
  rw [List.length_zipWith, h, Nat.min_self]
theorem iSub_in {p c : Int} {wide : Nat} {ns ms : List Int} (hp : 0 < p) (h1 : ns.length = wide) (h2 : ms.length = wide) : Rin p wide (iSub p ns ms c) := by
  refine ⟨by rw [iSub_len (by omega)]; exact h1, fun x hx => ?_⟩
  unfold iSub at hx
  obtain ⟨i, hi, e⟩ := List.mem_iff_getElem.mp hx
  rw [List.getElem_zipWith] at e
  subst e
  exact ⟨Int.emod_nonneg _ (by omega), Int.emod_lt_of_pos _ hp⟩
theorem sumI_len {p : Int} {wide : Nat} : ∀ {rs : List (List Int)} {ms acc : List Int}, acc.length = wide → (∀ r ∈ rs, r.length = wide) → (sumI p acc rs ms).length = wide
  | [], _, _, h, _ => by simpa [sumI] using h
  | _ :: _, [], _, h, _ => by simpa [sumI] using h
  | r :: rs, m :: ms, acc, h, hr => by
    unfold sumI
    refine sumI_len ?_ fun r' h' => hr r' (List.mem_cons_of_mem _ h')
    split
    · exact h
    · rw [iSub_len (by rw [hr r (List.mem_cons_self ..), h])]
      exact h
def sp_summed (K : PySem.W.Frag) : Sp := fun vs H Q _ => ∃ (p : Int) (wide : Nat) (a b : Addr) (xs : List V) (rs : List (List Int)) (ms : List Int), vs = [.int p, .int (wide : Nat), .ref a, .ref b] ∧ SqL K H a xs ∧ DpAll K H xs (rs.map row) ∧ SqL K H b (ms.map V.int) ∧
  0 < p ∧ wide ≤ 1000 ∧ rs.length ≤ 1000000 ∧ (∀ r ∈ rs, r.length = wide) ∧ (∀ m ∈ ms, 0 ≤ m ∧ m ≤ 1000000) ∧ ∀ u H', Ex H H' → Dp K H' u (row (sumI p (List.replicate wide 0) rs ms)) → Q u H'
theorem ok_law_summed {f : Addr} {fd : FuncData} (F : C8.Def K mg "_law_summed" s_law_summed f fd) (b : Binds K fd ["p", "wide", "rows", "many"] []) (T : Txt mg)
    (c_law_less : C8.Cal P w K mg base 1 "_law_less" (sp_law_less K) []) : C8.Cal P w K mg base 2 "_law_summed" (sp_summed K) [] := by
  refine C8.cal0 F b .nil sc_law_summed (fun vs H Q E h => ?_) (fun cdv A outer s H vs Q E hr h => ?_)
  · obtain ⟨p, wide, a, b, xs, rs, ms, rfl, _⟩ := h
    rfl
  · obtain ⟨p, wide, a, b, xs, rs, ms, rfl, ha, hda, hb, p0, hw, hrl, hrw, hms, q⟩ := h
    refine ⟨_, (pss_cons (ps_set (i := 4) sc_law_summed.nd rfl (Or.inl rfl) (pe_op (TH.kop_repA (K := K)) (pe_tup (pa_cons pe_int pa_nil)) (pv 1)))
      (pss_cons (ps_for PassesOwn.never rfl (TH.kpi_zip (K := K) (by rfl) T.b_zip (pa_cons (pv 2) (pa_cons (pv 3) pa_nil))) (TH.kpg_tup (K := K) (n := 2) rfl (pgs_cons (pg_name (i := 5) sc_law_summed.nd rfl (Or.inl rfl) (Or.inr rfl)) (pgs_cons (pg_name (i := 6) sc_law_summed.nd rfl (Or.inl rfl) (Or.inr rfl)) pgs_nil))) (pss_one (ps_set (i := 4) sc_law_summed.nd rfl (Or.inl rfl) (pe_ifExp (pt_cmpR op_ne (pv 6) pe_int (nomark _)) (C8.pe_c c_law_less hr (by first | decide | exact Nat.le_refl _) (by rfl) (pa_cons (pv 0) (pa_cons (pv 4) (pa_cons (pv 5) (pa_cons (pe_un un_neg (pv 6)) pa_nil))))) (pv 4)))))
      (pss_one (ps_ret (pv 4))))), ?_⟩
    refine w_start (σ' := [some (.int p), some (.int wide), some (.ref a), some (.ref b), none, none, none]) rfl ?_
    walk_at "rd"
    refine w_dispT (by decide) fun t ht => ?_
    walk_at "rd"
    refine w_rep0 upd_same hw fun z H1 e1 hz => ?_
    have e1 : Ex H H1 := (Ex.new ht).trans e1
    walk_at "rd"
    have hxl : xs.length = rs.length := by rw [dpa_len hda, List.length_map]
    refine ⟨a, b, _, _, rfl, .inl ⟨e1.l ha, e1.l hb, ?_⟩⟩
    refine for_go (walk_zip rfl) (fun i σ H' => Ex H H' ∧ ∃ u y1 y2, σ = [some (.int p), some (.int wide), some (.ref a), some (.ref b), some u, y1, y2] ∧ Dp K H' u (row (sumI p (List.replicate wide 0) (rs.take i) (ms.take i))))
      ⟨e1, _, _, _, rfl, by cases rs <;> cases ms <;> exact hz⟩ (fun i σ H' _ p => ⟨p.1.l ha, p.1.l hb⟩) (fun i x σ H' H'' hi p y => ?_) (fun σ H' p => ?_)
    · obtain ⟨e, u, y1, y2, rfl, hu⟩ := p
      obtain ⟨t2, x1, x2, rfl, ht2, rfl, h1, h2⟩ := y
      obtain ⟨m, hm, rfl⟩ := ints_at h2
      obtain ⟨r, hr1, hr2⟩ := rowsAt_get hda h1
      have hlen : (sumI p (List.replicate wide 0) (rs.take i) (ms.take i)).length = wide := sumI_len (by simp) fun r hr => hrw r (List.mem_of_mem_take hr)
      have e3 := e.trans (Ex.new (o := .tup [x1, .int m]) ht2)
      have hmm := hms m (List.mem_of_getElem? hm)
      have hsn := sumI_snoc p rs ms (List.replicate wide 0) r m i hr1 hm
      walk_at "rd"
      refine w_decN (fun hz => ?_) (fun hz => ?_)
      · walk_at "rd"
        refine ⟨_, _, _, _, _, _, rfl, (Ex.new ht2).dp hu, e3.dp hr2, p0, by omega, by omega, by omega, fun u' H3 e4 hu' => ?_⟩
        walk_at "rd"
        refine ⟨e3.trans e4, _, _, _, rfl, ?_⟩
        rw [hsn, if_neg hz]
        exact hu'
      · walk_at "rd"
        refine ⟨e3, _, _, _, rfl, ?_⟩
        rw [hsn, if_pos hz]
        exact (Ex.new ht2).dp hu
    · obtain ⟨e, u, y1, y2, rfl, hu⟩ := p
      walk_at "rd"
      refine q u H' e ?_
      have e9 : ∀ (rs : List (List Int)) (ms acc : List Int), sumI p acc (rs.take (min rs.length ms.length)) (ms.take (min rs.length ms.length)) = sumI p acc rs ms := by
        intro rs
        induction rs with
        | nil => intro ms acc; simp [sumI]
        | cons r rs ih =>
          intro ms acc
          cases ms with
          | nil => simp [sumI]
          | cons m ms =>
            have := ih ms (if m = 0 then acc else iSub p acc r (-m))
            simpa [sumI, Nat.add_min_add_right] using this
      rw [hxl, List.length_map, e9] at hu
      exact hu
end TK

namespace TK
open PySem PySem.Spec PyProof.Rows L2 TH
local macro_rules | `(tactic| walk_at "rd1") => `(tactic| first
  | (with_reducible refine TH.w_seq ?_)
  | (with_reducible refine TH.w_asg ?_)
  | (with_reducible refine TH.w_ret ?_)
  | (with_reducible refine TH.w_drop ?_)
  | (with_reducible refine TH.w_ifS ?_)
  | (with_reducible refine TH.w_next ?_)
  | ((with_reducible refine TH.w_var (v := ?vv) ?hv ?_); (case hv => rfl))
  | (with_reducible refine TH.w_c ?_)
  | ((with_reducible refine TH.w_gname (σ' := ?ss) ?hs ?_); (case hs => (dsimp only [List.set]; rfl)))
  | (with_reducible refine TH.w_op ?_)
  | (with_reducible refine TH.w_un ?_)
  | (with_reducible refine TH.w_chain ?_)
  | (with_reducible refine TH.w_I0 ?_)
  | ((with_reducible refine TH.w_I ?hm ?_); (case hm => first | (exact TH.CMul.l (by omega) (by omega)) | (exact TH.CMul.r (by omega) (by omega)) | (exact TH.CDiv.mk (by omega) (by omega)) | (show (0 : Int) < _; omega) | (exact TH.CPow.mk (by omega) (by omega) (by decide))))
  | (with_reducible refine TH.w_U ?_)
  | (with_reducible refine TH.w_eqI ?_)
  | (with_reducible refine TH.w_neI ?_)
  | (with_reducible refine TH.w_eqB ?_)
  | (with_reducible refine TH.w_isN ?_)
  | (with_reducible refine TH.w_nil ?_)
  | (with_reducible refine TH.w_cons ?_)
  | (with_reducible refine TH.w_test ?_)
  | (with_reducible refine TH.w_B ?_)
  | (with_reducible refine TH.w_bl ?_)
  | (with_reducible refine TH.w_and ?_)
  | (with_reducible refine TH.w_or ?_)
  | (with_reducible refine TH.w_not ?_)
  | (with_reducible refine TH.w_andV ?_)
  | (with_reducible refine TH.w_orV ?_)
  | (with_reducible refine TH.w_notV ?_)
  | (with_reducible refine TH.w_if ?_)
  | (with_reducible refine TH.w_parT ?_)
  | (with_reducible refine TH.w_par ?_)
  | (with_reducible refine TH.w_parT3 ?_)
  | (with_reducible refine TH.w_par3 ?_)
  | (with_reducible refine TH.w_cb ?_)
  | (with_reducible refine TH.w_call ?_)
  | ((with_reducible refine TH.w_aug (v := ?vv) ?hv ?_); (case hv => rfl))
  | (with_reducible refine TH.w_ip ?_)
  | (with_reducible refine TH.w_bm ?_)
  | (with_reducible refine TH.w_sl ?_)
  | (with_reducible refine TH.w_np ?_)
  | (with_reducible refine TH.w_pt ?_)
  | (with_reducible refine TH.w_pti ?_)
  | (with_reducible refine TH.w_gsub ?_)
  | (with_reducible refine TH.w_int ?_)
  | (with_reducible refine TH.w_tupT ?_)
  | (with_reducible refine TH.w_lstT ?_)
  | ((with_reducible show L2.rIxL _ _ _ _ _); (first | (refine TH.w_ixL (TH.sqL upd_same) rfl ?_) | (refine TH.w_ixL (TH.sqL (by assumption)) rfl ?_)))
  | ((with_reducible show L2.rSetL _ _ _ _ _); (first | (refine TH.w_set1 upd_same ?_) | (refine TH.w_set2 upd_same ?_) | (refine TH.w_set3 upd_same ?_) | (refine TH.w_set4 upd_same ?_) | (refine TH.w_set1 (by assumption) ?_) | (refine TH.w_set2 (by assumption) ?_) | (refine TH.w_set3 (by assumption) ?_) | (refine TH.w_set4 (by assumption) ?_)))
  | (with_reducible refine TH.w_lc ?_)
  | (with_reducible refine TH.w_itup ?_)
  | (with_reducible refine TH.w_ilist ?_)
  | (with_reducible refine TH.w_ienum ?_)
  | (with_reducible refine TH.w_izip ?_)
  | (with_reducible refine TH.w_irng1 ?_)
  | (with_reducible refine TH.w_irng2 ?_)
  | (with_reducible refine TH.w_for ?_)
  | (with_reducible refine TH.w_gcons ?_)
  | (with_reducible refine TH.w_gnil ?_)
  | (with_reducible refine TH.w_yes ?_)
  | (with_reducible refine TH.w_gtup2 upd_same ?_)
  | (with_reducible refine TH.w_gtup3 upd_same ?_)
  | (with_reducible refine TH.w_T ?_)
  | (with_reducible refine TH.w_F ?_))
local macro_rules | `(tactic| walk_at "rd") => `(tactic| repeat (first | walk_at "rd1" | (dsimp only [List.set, L2.wipe, List.map, TH.isInt, TH.isBool, TH.isTup, TH.isLst, TH.bo_f, TH.bo_t, TH.ba_f, TH.ba_t, TH.bn_t, TH.bn_f, List.append_nil, List.cons_append, List.nil_append])))

variable {P : Program} {w : World} {K : PySem.W.Frag} {mg : Str → Option Value} {base : Heap}
/-! _law_some_row(hand, p, wide, rows): a row that is right -/
theorem sumI_in {p : Int} {wide : Nat} (hp : 0 < p) : ∀ {rs : List (List Int)} {ms acc : List Int}, Rin p wide acc → (∀ r ∈ rs, Rin p wide r) → Rin p wide (sumI p acc rs ms)
  | [], _, _, h, _ => by simpa [sumI] using h
  | _ :: _, [], _, h, _ => by simpa [sumI] using h
  | r :: rs, m :: ms, acc, h, hr => by
    unfold sumI
    refine sumI_in hp ?_ fun r' h' => hr r' (List.mem_cons_of_mem _ h')
    split
    · exact h
    · exact iSub_in hp h.1 (hr r (List.mem_cons_self ..)).1
theorem zero_in {p : Int} {wide : Nat} (hp : 0 < p) : Rin p wide (List.replicate wide 0) := ⟨by simp, fun x hx => by rw [(List.mem_replicate.mp hx).2]; omega⟩
theorem rin_of {p : Int} {wide : Nat} {ds : List D} (hl : ds.length = wide) (h : ∀ (i : Nat) (d : D), ds[i]? = some d → ∃ x, d = PyData.int x ∧ 0 ≤ x ∧ x < p) : ∃ ns, ds = ns.map PyData.int ∧ Rin p wide ns := by
  obtain ⟨ns, rfl, hns⟩ := ints_of (P := fun _ x => 0 ≤ x ∧ x < p) ds h
  refine ⟨ns, rfl, by simpa using hl, fun x hx => ?_⟩
  obtain ⟨i, hi⟩ := List.mem_iff_getElem?.mp hx
  exact hns i x hi
def sp_some_row (K : PySem.W.Frag) : Sp := fun vs H Q _ => ∃ (v : V) (p : Int) (wide : Nat) (a : Addr) (xs : List V) (rs : List (List Int)), vs = [v, .int p, .int (wide : Nat), .ref a] ∧ HandAt H v ∧ SqL K H a xs ∧ DpAll K H xs (rs.map row) ∧
  2 ≤ p ∧ p ≤ 1000000 ∧ wide ≤ 1000 ∧ rs.length ≤ 1000000 ∧ (∀ r ∈ rs, Rin p wide r) ∧ ∀ u H' r, Ex H H' → Dp K H' u (row r) → Rin p wide r → Q u H'
theorem ok_law_some_row {f : Addr} {fd : FuncData} (F : C8.Def K mg "_law_some_row" s_law_some_row f fd) (b : Binds K fd ["hand", "p", "wide", "rows"] []) (T : Txt mg)
    (c_law_draw : C8.Cal P w K mg base 1 "_law_draw" (sp_draw K) []) (c_law_any : C8.Cal P w K mg base 2 "_law_any" (sp_any K) []) (c_law_summed : C8.Cal P w K mg base 2 "_law_summed" (sp_summed K) []) : C8.Cal P w K mg base 3 "_law_some_row" (sp_some_row K) [] := by
  refine C8.cal0 F b .nil sc_law_some_row (fun vs H Q E h => ?_) (fun cdv A outer s H vs Q E hr h => ?_)
  · obtain ⟨v, p, wide, a, xs, rs, rfl, _⟩ := h
    rfl
  · obtain ⟨v, p, wide, a, xs, rs, rfl, hv, ha, hda, p2, pm, hw, hrl, hrs, q⟩ := h
    have hxl : xs.length = rs.length := by rw [dpa_len hda, List.length_map]
    have fin : ∀ (Dl : Addr) (H' : Hp) (ws : List V) (ds : List D), Ex H H' → H' Dl = some (.lst ws) → ds.length = wide → (∀ (i : Nat) (d : D), ds[i]? = some d → ∃ x, d = PyData.int x ∧ 0 ≤ x ∧ x < p) → DpAll K H' ws ds → ∃ p ys, [V.ref Dl] = [V.ref p] ∧ ((SqL K H' p ys ∧ ∀ l, H' l = none → Q (.ref l) (upd H' l (.tup ys))) ∨ (SqT K H' p ys ∧ Q (.ref p) H')) := by
      intro Dl H' ws ds e hw hl hφ hda
      obtain ⟨ns, rfl, hns⟩ := rin_of hl hφ
      refine ⟨Dl, ws, rfl, .inl ⟨sqL hw, fun l hl => ?_⟩⟩
      exact q _ _ ns (e.trans (Ex.new hl)) (.tup (sqT upd_same) ((Ex.new hl).dpa hda)) hns
    refine ⟨_, (pss_cons (ps_set (i := 4) sc_law_some_row.nd rfl (Or.inl rfl) (C8.pe_c c_law_draw hr (by first | decide | exact Nat.le_refl _) (by rfl) (pa_cons (pv 0) (pa_cons pe_int pa_nil))))
      (pss_cons (ps_if (pt_cmpR op_eq (pv 4) pe_int (nomark _)) (pss_one (ps_ret (pe_op (TH.kop_repA (K := K)) (pe_tup (pa_cons pe_int pa_nil)) (pv 2)))) pss_nil)
      (C8.pss_cut (ps_if (PW.pt (pw_and (pt_cmpR op_lt (pv 4) pe_int (nomark _)) (pw_and1 (pt_cmpR op_gt (pv 2) pe_int (nomark _))))) (pss_cons (ps_set (i := 5) sc_law_some_row.nd rfl (Or.inr rfl) (C8.pe_c c_law_draw hr (by first | decide | exact Nat.le_refl _) (by rfl) (pa_cons (pv 0) (pa_cons (pv 2) pa_nil))))
      (pss_one (ps_ret (pe_callTy (TH.kcall_tuple (K := K)) (by rfl) T.b_tuple (by decide +kernel) (pa_cons (pe_lc (own := [("place", 8)]) (g := gName 8) (tt := tYes) rfl sc_law_some_row.nd (pi_range1 (by rfl) T.b_range (pa_cons (pv 2) pa_nil)) (blkOk_by (own := [("place", 8)]) (N := N_law_some_row) (sc := C8.fnScope s_law_some_row) (by decide +kernel)) (fun _ _ _ _ _ => (pg_name (i := 8) sc_law_some_row.nd rfl (Or.inl rfl) (Or.inr rfl))) (fun _ _ _ _ _ => pts_nil) (fun _ _ _ _ _ => (pe_ifExp (pt_cmpR op_eq (pv 8) (pv 5) (nomark _)) (pe_op op_add pe_int (C8.pe_c c_law_draw hr (by first | decide | exact Nat.le_refl _) (by rfl) (pa_cons (pv 0) (pa_cons (pe_op op_sub (pv 1) pe_int) pa_nil)))) pe_int))) pa_nil))))) pss_nil)
      (C8.pss_cut (ps_if (PW.pt (pw_and (pt_cmpR op_lt (pv 4) pe_int (nomark _)) (pw_and1 (pt_cmpR op_gt (pe_callB (TH.kcall_len (K := K)) (by rfl) T.b_len (by decide +kernel) (pa_cons (pv 3) pa_nil)) pe_int (nomark _))))) (pss_cons (ps_setLc (i := 6) (own := [("row", 7)]) (g := gName 7) (tt := tYes) rfl sc_law_some_row.nd rfl rfl (sw_true rfl rfl rfl (by decide +kernel)) (TH.kpi_list (K := K) (pv 3)) (blkOk_by (own := [("row", 7)]) (N := N_law_some_row) (sc := C8.fnScope s_law_some_row) (by decide +kernel)) (fun _ _ _ _ _ => (pg_name (i := 7) sc_law_some_row.nd rfl (Or.inl rfl) (Or.inr rfl))) (fun _ _ _ _ _ => pts_nil) (fun _ _ _ _ _ => (C8.pe_c c_law_any hr (by first | decide | exact Nat.le_refl _) (by rfl) (pa_cons (pv 0) (pa_cons (pe_lst (pa_cons pe_int (pa_cons pe_int (pa_cons (pe_op op_sub (pv 1) pe_int) (pa_cons (C8.pe_c c_law_draw hr (by first | decide | exact Nat.le_refl _) (by rfl) (pa_cons (pv 0) (pa_cons (pv 1) pa_nil))) pa_nil))))) pa_nil)))))
      (pss_one (ps_ret (C8.pe_c c_law_summed hr (by first | decide | exact Nat.le_refl _) (by rfl) (pa_cons (pv 1) (pa_cons (pv 2) (pa_cons (pv 3) (pa_cons (pv 6) pa_nil)))))))) pss_nil)
      (C8.pss_cut (ps_if (pt_cmpR op_eq (pv 4) pe_int (nomark _)) (pss_one (ps_ret (pe_callTy (TH.kcall_tuple (K := K)) (by rfl) T.b_tuple (by decide +kernel) (pa_cons (pe_lc (own := [("place", 8)]) (g := gName 8) (tt := tYes) rfl sc_law_some_row.nd (pi_range1 (by rfl) T.b_range (pa_cons (pv 2) pa_nil)) (blkOk_by (own := [("place", 8)]) (N := N_law_some_row) (sc := C8.fnScope s_law_some_row) (by decide +kernel)) (fun _ _ _ _ _ => (pg_name (i := 8) sc_law_some_row.nd rfl (Or.inl rfl) (Or.inr rfl))) (fun _ _ _ _ _ => pts_nil) (fun _ _ _ _ _ => (pe_ifExp (pt_cmpR op_eq (C8.pe_c c_law_draw hr (by first | decide | exact Nat.le_refl _) (by rfl) (pa_cons (pv 0) (pa_cons pe_int pa_nil))) pe_int (nomark _)) (C8.pe_c c_law_draw hr (by first | decide | exact Nat.le_refl _) (by rfl) (pa_cons (pv 0) (pa_cons (pv 1) pa_nil))) pe_int))) pa_nil)))) pss_nil)
      (pss_one (ps_ret (pe_callTy (TH.kcall_tuple (K := K)) (by rfl) T.b_tuple (by decide +kernel) (pa_cons (pe_lc (own := [("place", 8)]) (g := gName 8) (tt := tYes) rfl sc_law_some_row.nd (pi_range1 (by rfl) T.b_range (pa_cons (pv 2) pa_nil)) (blkOk_by (own := [("place", 8)]) (N := N_law_some_row) (sc := C8.fnScope s_law_some_row) (by decide +kernel)) (fun _ _ _ _ _ => (pg_name (i := 8) sc_law_some_row.nd rfl (Or.inl rfl) (Or.inr rfl))) (fun _ _ _ _ _ => pts_nil) (fun _ _ _ _ _ => (C8.pe_c c_law_draw hr (by first | decide | exact Nat.le_refl _) (by rfl) (pa_cons (pv 0) (pa_cons (pv 1) pa_nil))))) pa_nil))))))))), ?_⟩
    refine w_start (σ' := [some v, some (.int p), some (.int wide), some (.ref a), none, none, none, none, none]) rfl ?_
    walk_at "rd"
    refine ⟨v, _, rfl, hv, by omega, by omega, fun kind k0 k1 => ?_⟩
    walk_at "rd"
    refine w_dec (fun _ => ?_) (fun _ => ?_)
    · walk_at "rd"
      refine w_dispT (by decide) fun t ht => ?_
      walk_at "rd"
      exact w_rep0 upd_same hw fun z H1 e1 hz => q _ _ _ ((Ex.new ht).trans e1) hz (zero_in (by omega))

    walk_at "rd"
    refine ⟨fun σ' H' => H' = H ∧ ∃ y1 y2 y3 y4, σ' = [some v, some (.int p), some (.int wide), some (.ref a), some (.int kind), y1, y2, y3, y4], ?_, ?_⟩
    · walk_at "rd"
      refine w_dec (fun _ => ?_) (fun _ => ?_)
      · walk_at "rd"
        refine w_dec (fun hw0 => ?_) (fun _ => ?_)
        · walk_at "rd"
          refine ⟨v, _, rfl, hv, by omega, by omega, fun at' a0 a1 => ?_⟩
          walk_at "rd"
          refine w_isrng (by omega) (by omega) fun Dl hD => ?_
          refine lc_some (K := K) walk_range (fun _ d => ∃ x, d = PyData.int x ∧ 0 ≤ x ∧ x < p) (fun i d hd => by obtain ⟨x, rfl, _⟩ := hd; rfl) (fun _ _ => trivial) hD (by omega) (fun i x H' H'' hi e y R k => ?_) (fun H' ws ds e hw hl hφ hda => ?_)
          · obtain ⟨rfl, rfl⟩ := y
            walk_at "rd"
            refine ⟨rfl, ?_⟩
            walk_at "rd"
            refine w_dec (fun _ => ?_) (fun _ => ?_)
            · walk_at "rd"
              refine ⟨v, _, rfl, hv.ex e, by omega, by omega, fun r r0 r1 => ?_⟩
              walk_at "rd"
              exact k _ _ _ (Ex.refl _) ⟨_, rfl, by omega, by omega⟩ (.int _)
            · walk_at "rd"
              exact k _ _ _ (Ex.refl _) ⟨_, rfl, by omega, by omega⟩ (.int _)
          · walk_at "rd"
            exact fin Dl H' ws ds e hw (by omega) hφ hda
        · walk_at "rd"
          exact ⟨rfl, _, _, _, _, rfl⟩
      · walk_at "rd"
        exact ⟨rfl, _, _, _, _, rfl⟩
    rintro σ' H' ⟨rfl, y1, y2, y3, y4, rfl⟩
    refine ⟨fun σ' H'' => H'' = H' ∧ ∃ y1 y2 y3 y4, σ' = [some v, some (.int p), some (.int wide), some (.ref a), some (.int kind), y1, y2, y3, y4], ?_, ?_⟩
    · walk_at "rd"
      refine w_dec (fun _ => ?_) (fun _ => ?_)
      · walk_at "rd"
        refine ⟨a, _, rfl, .inl ha, ?_⟩
        walk_at "rd"
        refine w_dec (fun hw0 => ?_) (fun _ => ?_)
        · walk_at "rd"
          refine ⟨a, rfl, ⟨_, ha⟩, fun Dl hD => ?_⟩
          refine lc_some (K := K) walk_list (fun _ d => ∃ x, d = PyData.int x ∧ 0 ≤ x ∧ x < p) (fun i d hd => by obtain ⟨x, rfl, _⟩ := hd; rfl) (fun H' e => e.l ha) hD (by omega) (fun i x H2 H'' hi e y R k => ?_) (fun H2 ws ds e hws hl hφ hda' => ?_)
          · obtain ⟨rfl, hx⟩ := y
            walk_at "rd"
            refine ⟨rfl, ?_⟩
            walk_at "rd"
            refine ⟨v, _, rfl, hv.ex e, by omega, by omega, fun r r0 r1 => ?_⟩
            walk_at "rd"
            refine w_dispT (by simp) fun l hl => ?_
            refine ⟨v, l, [.int 0, .int 1, .int (p - 1), .int r], rfl, (hv.ex e).ex (Ex.new hl), sqL upd_same, by simp, by simp, fun x hx => ?_⟩
            have hx' : ∃ n : Int, x = .int n ∧ 0 ≤ n ∧ n < p := by
              simp only [List.mem_cons, List.not_mem_nil, or_false] at hx
              rcases hx with rfl | rfl | rfl | rfl
              · exact ⟨_, rfl, by omega, by omega⟩
              · exact ⟨_, rfl, by omega, by omega⟩
              · exact ⟨_, rfl, by omega, by omega⟩
              · exact ⟨_, rfl, by omega, by omega⟩
            obtain ⟨n, rfl, n0, n1⟩ := hx'
            exact k _ _ _ (Ex.new hl) ⟨_, rfl, n0, n1⟩ (.int n)
          · obtain ⟨ms, rfl, hms⟩ := rin_of (p := p) rfl hφ
            have e5 := dpa_ints_inv hda'
            subst e5
            walk_at "rd"
            refine ⟨p, wide, a, Dl, xs, rs, ms, rfl, e.l ha, e.dpa hda, sqL hws, by omega, hw, hrl, fun r hr => (hrs r hr).1, fun m hm => ?_, fun u H3 e3 hu => ?_⟩
            · have := hms.2 m hm
              omega
            · exact q u H3 _ (e.trans e3) hu (sumI_in (by omega) (zero_in (by omega)) hrs)
        · walk_at "rd"
          exact ⟨rfl, _, _, _, _, rfl⟩
      · walk_at "rd"
        exact ⟨rfl, _, _, _, _, rfl⟩
    rintro σ' H'' ⟨rfl, y1, y2, y3, y4, rfl⟩
    refine ⟨fun σ' H' => H' = H'' ∧ ∃ y1 y2 y3 y4, σ' = [some v, some (.int p), some (.int wide), some (.ref a), some (.int kind), y1, y2, y3, y4], ?_, ?_⟩
    · walk_at "rd"
      refine w_dec (fun _ => ?_) (fun _ => ?_)
      · walk_at "rd"
        refine w_isrng (by omega) (by omega) fun Dl hD => ?_
        refine lc_some (K := K) walk_range (fun _ d => ∃ x, d = PyData.int x ∧ 0 ≤ x ∧ x < p) (fun i d hd => by obtain ⟨x, rfl, _⟩ := hd; rfl) (fun _ _ => trivial) hD (by omega) (fun i x H2 H3 hi e y R k => ?_) (fun H2 ws ds e hws hl hφ hda' => ?_)
        · obtain ⟨rfl, rfl⟩ := y
          walk_at "rd"
          refine ⟨rfl, ?_⟩
          walk_at "rd"
          refine ⟨v, _, rfl, hv.ex e, by omega, by omega, fun r r0 r1 => ?_⟩
          walk_at "rd"
          refine w_dec (fun _ => ?_) (fun _ => ?_)
          · walk_at "rd"
            refine ⟨v, _, rfl, hv.ex e, by omega, by omega, fun r2 r3 r4 => ?_⟩
            exact k _ _ _ (Ex.refl _) ⟨_, rfl, by omega, by omega⟩ (.int _)
          · walk_at "rd"
            exact k _ _ _ (Ex.refl _) ⟨_, rfl, by omega, by omega⟩ (.int _)
        · walk_at "rd"
          exact fin Dl H2 ws ds e hws (by omega) hφ hda'
      · walk_at "rd"
        exact ⟨rfl, _, _, _, _, rfl⟩
    rintro σ' H' ⟨rfl, y1, y2, y3, y4, rfl⟩
    walk_at "rd"
    refine w_isrng (by omega) (by omega) fun Dl hD => ?_
    refine lc_some (K := K) walk_range (fun _ d => ∃ x, d = PyData.int x ∧ 0 ≤ x ∧ x < p) (fun i d hd => by obtain ⟨x, rfl, _⟩ := hd; rfl) (fun _ _ => trivial) hD (by omega) (fun i x H2 H3 hi e y R k => ?_) (fun H2 ws ds e hws hl hφ hda' => ?_)
    · obtain ⟨rfl, rfl⟩ := y
      walk_at "rd"
      refine ⟨rfl, ?_⟩
      walk_at "rd"
      refine ⟨v, _, rfl, hv.ex e, by omega, by omega, fun r r0 r1 => ?_⟩
      exact k _ _ _ (Ex.refl _) ⟨_, rfl, by omega, by omega⟩ (.int _)
    · walk_at "rd"
      exact fin Dl H2 ws ds e hws (by omega) hφ hda'
/-! _law_some_rows(hand, p, wide, many) -/
def sp_some_rows (K : PySem.W.Frag) : Sp := fun vs H Q _ => ∃ (v : V) (p : Int) (wide many : Nat), vs = [v, .int p, .int (wide : Nat), .int (many : Nat)] ∧ HandAt H v ∧
  2 ≤ p ∧ p ≤ 1000000 ∧ wide ≤ 1000 ∧ many ≤ 1000 ∧ ∀ (l : Addr) (H' : Hp) (xs : List V) (rs : List (List Int)), Ex H H' → H' l = some (.lst xs) → DpAll K H' xs (rs.map row) → rs.length = many → (∀ r ∈ rs, Rin p wide r) → Q (.ref l) H'
theorem ok_law_some_rows {f : Addr} {fd : FuncData} (F : C8.Def K mg "_law_some_rows" s_law_some_rows f fd) (b : Binds K fd ["hand", "p", "wide", "many"] []) (T : Txt mg)
    (c_law_some_row : C8.Cal P w K mg base 3 "_law_some_row" (sp_some_row K) []) : C8.Cal P w K mg base 4 "_law_some_rows" (sp_some_rows K) [] := by
  refine C8.cal0 F b .nil sc_law_some_rows (fun vs H Q E h => ?_) (fun cdv A outer s H vs Q E hr h => ?_)
  · obtain ⟨v, p, wide, many, rfl, _⟩ := h
    rfl
  · obtain ⟨v, p, wide, many, rfl, hv, p2, pm, hw, hm, q⟩ := h
    refine ⟨_, (pss_cons (ps_set (i := 4) sc_law_some_rows.nd rfl (Or.inl rfl) (pe_lst pa_nil))
      (pss_cons (ps_for PassesOwn.never rfl (pi_range1 (by rfl) T.b_range (pa_cons (pv 3) pa_nil)) (pg_name (i := 5) sc_law_some_rows.nd rfl (Or.inl rfl) (Or.inr rfl)) (pss_one (ps_expr (TH.kpe_bm (K := K) PySem.F.plainAttrs_list PySem.F.slot_list_append PySem.F.type_list_append mt_append (pv 4) (pa_cons (C8.pe_c c_law_some_row hr (by first | decide | exact Nat.le_refl _) (by rfl) (pa_cons (pv 0) (pa_cons (pv 1) (pa_cons (pv 2) (pa_cons (pv 4) pa_nil))))) pa_nil)))))
      (pss_one (ps_ret (pv 4))))), ?_⟩
    refine w_start (σ' := [some v, some (.int p), some (.int wide), some (.int many), none, none]) rfl ?_
    walk_at "rd"
    refine w_dispT (by decide) fun l hl => ?_
    walk_at "rd"
    refine w_isrng (by omega) (by omega) ?_
    refine for_go walk_range (fun i σ H' => Ex H H' ∧ (∃ y, σ = [some v, some (.int p), some (.int wide), some (.int many), some (.ref l), y]) ∧ ∃ xs rs, H' l = some (.lst xs) ∧ DpAll K H' xs (rs.map row) ∧ rs.length = i ∧ ∀ r ∈ rs, Rin p wide r)
      ⟨Ex.new hl, ⟨_, rfl⟩, [], [], upd_same, .nil, rfl, fun r hr => nomatch hr⟩ (fun _ _ _ _ _ => trivial) (fun i x σ H' H'' hi p y => ?_) (fun σ H' p => ?_)
    · obtain ⟨e, ⟨y1, rfl⟩, xs, rs, h1, h2, h3, h4⟩ := p
      obtain ⟨rfl, rfl⟩ := y
      have hxl : xs.length = rs.length := by rw [dpa_len h2, List.length_map]
      walk_at "rd"
      refine ⟨tyL h1, ?_⟩
      walk_at "rd"
      refine ⟨v, _, wide, l, xs, rs, rfl, hv.ex e, sqL h1, h2, p2, pm, hw, by omega, h4, fun u H3 r e3 hu hr => ?_⟩
      walk_at "rd"
      refine w_app (e3 _ _ h1) (by omega) ?_
      walk_at "rd"
      refine ⟨(e.trans e3).mut hl, ⟨_, rfl⟩, xs ++ [u], rs ++ [r], upd_same, ?_, by rw [List.length_append, h3]; rfl, fun r' hr' => ?_⟩
      · rw [List.map_append]
        exact dpa_snoc ((Tx.updL (e3 _ _ h1)).dpa (imm_rows rs) (e3.dpa h2)) ((Tx.updL (e3 _ _ h1)).dp (imm_row r) hu)
      · rcases List.mem_append.mp hr' with z | z
        · exact h4 r' z
        · rw [List.mem_singleton.mp z]
          exact hr
    · obtain ⟨e, ⟨y1, rfl⟩, xs, rs, h1, h2, h3, h4⟩ := p
      walk_at "rd"
      exact q l H' xs rs e h1 h2 (by omega) h4
end TK

namespace TK
open PySem PySem.Spec PyProof.Rows L2 TH
local macro_rules | `(tactic| walk_at "rd1") => `(tactic| first
  | (with_reducible refine TH.w_seq ?_)
  | (with_reducible refine TH.w_asg ?_)
  | (with_reducible refine TH.w_ret ?_)
  | (with_reducible refine TH.w_drop ?_)
  | (with_reducible refine TH.w_ifS ?_)
  | (with_reducible refine TH.w_next ?_)
  | ((with_reducible refine TH.w_var (v := ?vv) ?hv ?_); (case hv => rfl))
  | (with_reducible refine TH.w_c ?_)
  | ((with_reducible refine TH.w_gname (σ' := ?ss) ?hs ?_); (case hs => (dsimp only [List.set]; rfl)))
  | (with_reducible refine TH.w_op ?_)
  | (with_reducible refine TH.w_un ?_)
  | (with_reducible refine TH.w_chain ?_)
  | (with_reducible refine TH.w_I0 ?_)
  | ((with_reducible refine TH.w_I ?hm ?_); (case hm => first | (exact TH.CMul.l (by omega) (by omega)) | (exact TH.CMul.r (by omega) (by omega)) | (exact TH.CDiv.mk (by omega) (by omega)) | (show (0 : Int) < _; omega) | (exact TH.CPow.mk (by omega) (by omega) (by decide))))
  | (with_reducible refine TH.w_U ?_)
  | (with_reducible refine TH.w_eqI ?_)
  | (with_reducible refine TH.w_neI ?_)
  | (with_reducible refine TH.w_eqB ?_)
  | (with_reducible refine TH.w_isN ?_)
  | (with_reducible refine TH.w_nil ?_)
  | (with_reducible refine TH.w_cons ?_)
  | (with_reducible refine TH.w_test ?_)
  | (with_reducible refine TH.w_B ?_)
  | (with_reducible refine TH.w_bl ?_)
  | (with_reducible refine TH.w_and ?_)
  | (with_reducible refine TH.w_or ?_)
  | (with_reducible refine TH.w_not ?_)
  | (with_reducible refine TH.w_andV ?_)
  | (with_reducible refine TH.w_orV ?_)
  | (with_reducible refine TH.w_notV ?_)
  | (with_reducible refine TH.w_if ?_)
  | (with_reducible refine TH.w_parT ?_)
  | (with_reducible refine TH.w_par ?_)
  | (with_reducible refine TH.w_parT3 ?_)
  | (with_reducible refine TH.w_par3 ?_)
  | (with_reducible refine TH.w_cb ?_)
  | (with_reducible refine TH.w_call ?_)
  | ((with_reducible refine TH.w_aug (v := ?vv) ?hv ?_); (case hv => rfl))
  | (with_reducible refine TH.w_ip ?_)
  | (with_reducible refine TH.w_bm ?_)
  | (with_reducible refine TH.w_sl ?_)
  | (with_reducible refine TH.w_np ?_)
  | (with_reducible refine TH.w_pt ?_)
  | (with_reducible refine TH.w_pti ?_)
  | (with_reducible refine TH.w_gsub ?_)
  | (with_reducible refine TH.w_int ?_)
  | (with_reducible refine TH.w_tupT ?_)
  | (with_reducible refine TH.w_lstT ?_)
  | ((with_reducible show L2.rIxL _ _ _ _ _); (first | (refine TH.w_ixL (TH.sqL upd_same) rfl ?_) | (refine TH.w_ixL (TH.sqL (by assumption)) rfl ?_)))
  | ((with_reducible show L2.rSetL _ _ _ _ _); (first | (refine TH.w_set1 upd_same ?_) | (refine TH.w_set2 upd_same ?_) | (refine TH.w_set3 upd_same ?_) | (refine TH.w_set4 upd_same ?_) | (refine TH.w_set1 (by assumption) ?_) | (refine TH.w_set2 (by assumption) ?_) | (refine TH.w_set3 (by assumption) ?_) | (refine TH.w_set4 (by assumption) ?_)))
  | (with_reducible refine TH.w_lc ?_)
  | (with_reducible refine TH.w_itup ?_)
  | (with_reducible refine TH.w_ilist ?_)
  | (with_reducible refine TH.w_ienum ?_)
  | (with_reducible refine TH.w_izip ?_)
  | (with_reducible refine TH.w_irng1 ?_)
  | (with_reducible refine TH.w_irng2 ?_)
  | (with_reducible refine TH.w_for ?_)
  | (with_reducible refine TH.w_gcons ?_)
  | (with_reducible refine TH.w_gnil ?_)
  | (with_reducible refine TH.w_yes ?_)
  | (with_reducible refine TH.w_gtup2 upd_same ?_)
  | (with_reducible refine TH.w_gtup3 upd_same ?_)
  | (with_reducible refine TH.w_T ?_)
  | (with_reducible refine TH.w_F ?_))
local macro_rules | `(tactic| walk_at "rd") => `(tactic| repeat (first | walk_at "rd1" | (dsimp only [List.set, L2.wipe, List.map, TH.isInt, TH.isBool, TH.isTup, TH.isLst, TH.bo_f, TH.bo_t, TH.ba_f, TH.ba_t, TH.bn_t, TH.bn_f, List.append_nil, List.cons_append, List.nil_append])))

variable {P : Program} {w : World} {K : PySem.W.Frag} {mg : Str → Option Value} {base : Heap}
/-! numbers, rows over Fin n -/
section
open LA
variable {n : Nat} [NeZero n]
def toF (n : Nat) [NeZero n] (r : List Int) : List (Fin n) := r.map (cF n)
theorem toF_len (r : List Int) : (toF n r).length = r.length := List.length_map _
theorem toF_at (r : List Int) (j : Nat) : at' (toF n r) j = cF n (r.getD j 0) := by
  unfold at' toF
  rw [List.getD_eq_getElem?_getD, List.getD_eq_getElem?_getD, List.getElem?_map]
  cases r[j]? with
  | none => exact cF_zero.symm
  | some x => rfl
theorem toF_sub (r o : List Int) (c : Int) : toF n (iSub n r o c) = sub (toF n r) (toF n o) (cF n c) := by
  unfold toF iSub sub
  rw [List.map_zipWith, List.zipWith_map]
  congr 1
  funext x y
  rw [cF_mod, cF_sub, cF_mul]
theorem toF_scale (r : List Int) (c : Int) : toF n (iScale n c r) = smul (cF n c) (toF n r) := by
  unfold toF iScale smul
  rw [List.map_map, List.map_map]
  congr 1
  funext x
  show cF n (c * x % n) = cF n c * cF n x
  rw [cF_mod, cF_mul]
theorem toF_zero (w : Nat) : toF n (List.replicate w 0) = zero w := by
  unfold toF zero
  rw [List.map_replicate, cF_zero]
theorem toF_inj {w : Nat} {r s : List Int} (hr : Rin n w r) (hs : Rin n w s) (h : toF n r = toF n s) : r = s := by
  apply List.ext_getElem (by rw [hr.1, hs.1])
  intro i h1 h2
  have e := congrArg (fun l => l[i]?) h
  simp only [toF, List.getElem?_map, List.getElem?_eq_getElem h1, List.getElem?_eq_getElem h2] at e
  exact cF_inj (hr.2 _ (List.getElem_mem h1)) (hs.2 _ (List.getElem_mem h2)) (Option.some.inj e)
def rowsF (n : Nat) [NeZero n] (rs : List (List Int)) : List (List (Fin n)) := rs.map (toF n)
theorem rowsF_wd {w : Nat} {rs : List (List Int)} (h : ∀ r ∈ rs, r.length = w) : Wd w (rowsF n rs) := fun x hx => by
  obtain ⟨r, hr, rfl⟩ := List.mem_map.mp hx
  rw [toF_len]
  exact h r hr
theorem clk_of {n : Nat} (h : clockB (.int n) = true) : Clk n := by
  have h1 := Bool.and_eq_true_iff.mp h
  have h2 := Bool.and_eq_true_iff.mp h1.1
  have a1 := of_decide_eq_true h2.1
  have a2 := of_decide_eq_true h2.2
  exact ⟨by omega, by omega, of_decide_eq_true h1.2⟩
end
/-! _law_is_prime(thing) -/
def sp_law_is_prime (K : PySem.W.Frag) : Sp := fun vs H Q _ => ∃ (v : V) (d : D), vs = [v] ∧ Dp K H v d ∧ Q (.bl (clockB d)) H
theorem ok_law_is_prime {f : Addr} {fd : FuncData} (F : C8.Def K mg "_law_is_prime" s_law_is_prime f fd) (b : Binds K fd ["thing"] []) (T : Txt mg)
    (c_law_int : C8.Cal P w K mg base 1 "_law_int" (sp_law_int K) []) : C8.Cal P w K mg base 2 "_law_is_prime" (sp_law_is_prime K) [] := by
  refine C8.cal0 F b .nil sc_law_is_prime (fun vs H Q E h => ?_) (fun cdv A outer s H vs Q E hr h => ?_)
  · obtain ⟨v, d, rfl, _⟩ := h
    rfl
  · obtain ⟨v, d, rfl, hd, q⟩ := h
    refine ⟨_, (pss_cons (ps_if (pt_not (pt_val (C8.pe_c c_law_int hr (by first | decide | exact Nat.le_refl _) (by rfl) (pa_cons (pv 0) (pa_cons pe_int (pa_cons (pe_op op_pow pe_int pe_int) pa_nil)))))) (pss_one (ps_ret pe_bl)) pss_nil)
      (pss_cons (ps_for PassesOwn.never rfl (pi_range2 (by rfl) T.b_range (pa_cons pe_int (pa_cons pe_int pa_nil))) (pg_name (i := 1) sc_law_is_prime.nd rfl (Or.inl rfl) (Or.inr rfl)) (pss_one (ps_if (PW.pt (pw_and (pt_cmpR op_le (pe_op op_mul (pv 1) (pv 1)) (pv 0) (nomark _)) (pw_and1 (pt_cmpR op_eq (pe_op op_mod (pe_callTy call_int1 (by rfl) T.b_int (by decide +kernel) (pa_cons (pv 0) pa_nil)) (pv 1)) pe_int (nomark _))))) (pss_one (ps_ret pe_bl)) pss_nil)))
      (pss_one (ps_ret pe_bl)))), ?_⟩
    refine w_start (σ' := [some v, none]) rfl ?_
    walk_at "rd"
    refine ⟨v, d, 2, 10 ^ 6, rfl, hd, ?_⟩
    walk_at "rd"
    have e6 : (10 ^ 6 : Int) = 1000000 := rfl
    rw [e6]
    cases h1 : inR d 2 1000000 with
    | false =>
      walk_at "rd"
      have e : clockB d = false := by
        cases d <;> try rfl
        rw [inR_int] at h1
        show (_ && primeB _) = false
        rw [h1, Bool.false_and]
      rw [e] at q
      exact q
    | true =>
      walk_at "rd"
      obtain ⟨n, rfl⟩ : ∃ n, d = .int n := by
        cases d <;> first | exact ⟨_, rfl⟩ | cases h1
      cases hd
      rw [inR_int] at h1
      have h2 := Bool.and_eq_true_iff.mp h1
      have n2 := of_decide_eq_true h2.1
      have nm := of_decide_eq_true h2.2
      have ec : clockB (.int n) = primeB n := by
        show (_ && primeB _) = primeB _
        rw [h1, Bool.true_and]
      rw [ec] at q
      refine ⟨2, 1001, rfl, by omega, ?_⟩
      refine for_go walk_range (fun i σ H' => H' = H ∧ (∃ y, σ = [some (.int n), y]) ∧ ∀ k : Nat, k < 2 + i → 2 ≤ k → (k : Int) * k ≤ n → n % k ≠ 0)
        ⟨rfl, ⟨_, rfl⟩, fun k h1 h2 => by omega⟩ (fun _ _ _ _ _ => trivial) (fun i x σ H' H'' hi p y => ?_) (fun σ H' p => ?_)
      · obtain ⟨rfl, ⟨y1, rfl⟩, hk⟩ := p
        obtain ⟨rfl, rfl⟩ := y
        have hi' : i < 999 := hi
        walk_at "rd"
        have next : ¬ (((2 + i : Nat) : Int) * ((2 + i : Nat) : Int) ≤ n ∧ n % ((2 + i : Nat) : Int) = 0) → ∀ k : Nat, k < 2 + (i + 1) → 2 ≤ k → (k : Int) * k ≤ n → n % k ≠ 0 := fun hn k k1 k2 k3 k4 => by
          rcases Nat.lt_or_ge k (2 + i) with z | z
          · exact hk k z k2 k3 k4
          · have : k = 2 + i := by omega
            subst this
            exact hn ⟨k3, k4⟩
        have ei : (2 + (i : Int)) = ((2 + i : Nat) : Int) := by omega
        refine w_dec (fun h3 => ?_) (fun h3 => ?_)
        · walk_at "rd"
          refine w_dec (fun h4 => ?_) (fun h4 => ?_)
          · walk_at "rd"
            rw [ei] at h3 h4
            rw [primeB_no (by omega) (by omega) h3 h4] at q
            exact q
          · walk_at "rd"
            refine ⟨rfl, ⟨_, rfl⟩, next fun z => h4 ?_⟩
            rw [ei]; exact z.2
        · walk_at "rd"
          refine ⟨rfl, ⟨_, rfl⟩, next fun z => h3 ?_⟩
          rw [ei]; exact z.1
      · obtain ⟨rfl, ⟨y1, rfl⟩, hk⟩ := p
        walk_at "rd"
        have : primeB n = true := decide_eq_true fun k k1 k2 k3 => hk k (by show k < 2 + 999; omega) k2 k3
        rw [this] at q
        exact q
/-! _law_many(p, times) -/
def sp_law_many (K : PySem.W.Frag) : Sp := fun vs H Q _ => ∃ (p : Int) (times : Nat), vs = [.int p, .int (times : Nat)] ∧ 0 < p ∧ p ≤ 1000000 ∧ times ≤ 1000000 ∧ Q (.int (p ^ times)) H
theorem ok_law_many {f : Addr} {fd : FuncData} (F : C8.Def K mg "_law_many" s_law_many f fd) (b : Binds K fd ["p", "times"] []) (T : Txt mg) : C8.Cal P w K mg base 1 "_law_many" (sp_law_many K) [] := by
  refine C8.cal0 F b .nil sc_law_many (fun vs H Q E h => ?_) (fun cdv A outer s H vs Q E hr h => ?_)
  · obtain ⟨p, times, rfl, _⟩ := h
    rfl
  · obtain ⟨p, times, rfl, p0, pm, tm, q⟩ := h
    refine ⟨_, (pss_cons (ps_set (i := 2) sc_law_many.nd rfl (Or.inl rfl) pe_int)
      (pss_cons (ps_for PassesOwn.never rfl (pi_range1 (by rfl) T.b_range (pa_cons (pv 1) pa_nil)) (pg_name (i := 3) sc_law_many.nd rfl (Or.inl rfl) (Or.inr rfl)) (pss_one (ps_set (i := 2) sc_law_many.nd rfl (Or.inl rfl) (pe_op op_mul (pv 2) (pv 0)))))
      (pss_one (ps_ret (pv 2))))), ?_⟩
    refine w_start (σ' := [some (.int p), some (.int times), none, none]) rfl ?_
    walk_at "rd"
    refine w_isrng (by omega) (by omega) ?_
    refine for_go walk_range (fun i σ H' => H' = H ∧ ∃ y, σ = [some (.int p), some (.int times), some (.int (p ^ i)), y]) ⟨rfl, none, by rw [Int.pow_zero]⟩ (fun _ _ _ _ _ => trivial) (fun i x σ H' H'' hi p y => ?_) (fun σ H' p => ?_)
    · obtain ⟨rfl, y1, rfl⟩ := p
      obtain ⟨rfl, rfl⟩ := y
      walk_at "rd"
      refine ⟨rfl, some (.int (0 + i)), ?_⟩
      rw [Int.pow_succ]
    · obtain ⟨rfl, y1, rfl⟩ := p
      walk_at "rd"
      rw [Int.toNat_natCast]
      exact q
/-! _law_turn(p, value): the value's inverse -/
open LA in
def sp_law_turn (K : PySem.W.Frag) : Sp := fun vs H Q _ => ∃ (n : Nat) (_ : NeZero n) (v : Int), vs = [.int (n : Nat), .int v] ∧ Clk n ∧ 0 < v ∧ v < n ∧ ∀ r : Int, 0 ≤ r → r < n → cF n r * cF n v = 1 → Q (.int r) H
open LA in
theorem turn_fin {n : Nat} [NeZero n] (h : Clk n) {v r : Int} (v0 : 0 < v ∧ v < n) (e : cF n r = cF n v ^ (n - 2)) : cF n r * cF n v = 1 := by
  obtain ⟨m, rfl⟩ : ∃ m, n = m + 1 := ⟨n - 1, by have := h.two; omega⟩
  have hv := cF_nz (n := m + 1) v0
  have := fermat h _ hv
  have h2 := h.two
  have e2 : cF (m + 1) v ^ (m + 1 - 2) * cF (m + 1) v = cF (m + 1) v ^ m := by
    rw [← Lean.Grind.Semiring.pow_succ]
    congr 1
    omega
  rw [e, e2]
  exact this
open LA in
theorem ok_law_turn {f : Addr} {fd : FuncData} (F : C8.Def K mg "_law_turn" s_law_turn f fd) (b : Binds K fd ["p", "value"] []) (T : Txt mg) : C8.Cal P w K mg base 1 "_law_turn" (sp_law_turn K) [] := by
  refine C8.cal0 F b .nil sc_law_turn (fun vs H Q E h => ?_) (fun cdv A outer s H vs Q E hr h => ?_)
  · obtain ⟨n, _, v, rfl, _⟩ := h
    rfl
  · obtain ⟨n, inst, v, rfl, hc, v0, v1, q⟩ := h
    have n2 := hc.two
    have nm := hc.le
    refine ⟨_, (pss_cons (ps_par3 (i := 2) (j := 3) (l := 4) rfl sc_law_turn.nd rfl rfl rfl (by decide) (by decide) (by decide) rfl rfl rfl (pa_cons pe_int (pa_cons (pv 1) (pa_cons (pe_op op_sub (pv 0) pe_int) pa_nil))) (by rfl))
      (pss_cons (ps_while PassesOwn.never (pt_cmpR op_gt (pv 4) pe_int (nomark _)) (pss_cons (ps_if (pt_cmpR op_eq (pe_op op_mod (pe_callTy call_int1 (by rfl) T.b_int (by decide +kernel) (pa_cons (pv 4) pa_nil)) pe_int) pe_int (nomark _)) (pss_one (ps_set (i := 2) sc_law_turn.nd rfl (Or.inl rfl) (pe_op op_mod (pe_callTy call_int1 (by rfl) T.b_int (by decide +kernel) (pa_cons (pe_op op_mul (pv 2) (pv 3)) pa_nil)) (pv 0)))) pss_nil)
      (pss_cons (ps_set (i := 3) sc_law_turn.nd rfl (Or.inl rfl) (pe_op op_mod (pe_callTy call_int1 (by rfl) T.b_int (by decide +kernel) (pa_cons (pe_op op_mul (pv 3) (pv 3)) pa_nil)) (pv 0)))
      (pss_one (ps_set (i := 4) sc_law_turn.nd rfl (Or.inl rfl) (pe_op op_fdiv (pv 4) pe_int))))))
      (pss_one (ps_ret (pe_op op_mod (pe_callTy call_int1 (by rfl) T.b_int (by decide +kernel) (pa_cons (pv 2) pa_nil)) (pv 0)))))), ?_⟩
    refine w_start (σ' := [some (.int n), some (.int v), none, none, none]) rfl ?_
    walk_at "rd"
    refine ⟨fun m σ H' => H' = H ∧ ∃ (found many : Int) (left : Nat), σ = [some (.int n), some (.int v), some (.int found), some (.int many), some (.int left)] ∧ 0 ≤ found ∧ found < n ∧ 0 ≤ many ∧ many < n ∧ cF n found * cF n many ^ left = cF n v ^ (n - 2) ∧ m = left,
      ⟨n - 2, rfl, 1, v, n - 2, by simp; omega, by omega, by omega, by omega, by omega, by rw [cF_one]; grind, rfl⟩, fun m σ H' hw => ?_⟩
    obtain ⟨rfl, found, many, left, rfl, f0, f1, m0, m1, he, hml⟩ := hw
    walk_at "rd"
    refine w_dec (fun h1 => ?_) (fun h1 => ?_)
    · refine ⟨fun σ' H'' => H'' = H' ∧ ∃ (found' : Int), σ' = [some (.int n), some (.int v), some (.int found'), some (.int (many * many % n)), some (.int ((left : Int) / 2))] ∧ 0 ≤ found' ∧ found' < n ∧ cF n found' * cF n (many * many) ^ (left / 2) = cF n v ^ (n - 2), fun σ' H'' ⟨e1, f', e2, e3, e4, e5⟩ => ⟨left / 2, by omega, e1, f', many * many % n, left / 2, e2, e3, e4, Int.emod_nonneg _ (by omega), Int.emod_lt_of_pos _ (by omega), by rw [cF_mod]; exact e5, rfl⟩, ?_⟩
      have ee := hc.two
      have half : (cF n many ^ (left / 2)) * (cF n many ^ (left / 2)) = cF n (many * many) ^ (left / 2) := by
        rw [cF_mul]
        generalize left / 2 = k
        induction k with
        | zero => grind
        | succ k ih => rw [Lean.Grind.Semiring.pow_succ, Lean.Grind.Semiring.pow_succ, ← ih]; grind
      walk_at "rd"
      refine w_dec (fun h2 => ?_) (fun h2 => ?_)
      · walk_at "rd"
        refine ⟨rfl, _, rfl, Int.emod_nonneg _ (by omega), Int.emod_lt_of_pos _ (by omega), ?_⟩
        rw [cF_mod, cF_mul, ← he, ← half]
        have el : left = left / 2 + left / 2 + 1 := by omega
        have : cF n many ^ left = cF n many ^ (left / 2) * cF n many ^ (left / 2) * cF n many := by
          conv => lhs; rw [el]
          rw [Lean.Grind.Semiring.pow_succ, Lean.Grind.Semiring.pow_add]
        rw [this]
        grind
      · walk_at "rd"
        refine ⟨rfl, _, rfl, f0, f1, ?_⟩
        rw [← he, ← half]
        have el : left = left / 2 + left / 2 := by omega
        have : cF n many ^ left = cF n many ^ (left / 2) * cF n many ^ (left / 2) := by
          conv => lhs; rw [el]
          rw [Lean.Grind.Semiring.pow_add]
        rw [this]
    · have e0 : left = 0 := by omega
      subst e0
      walk_at "rd"
      refine q _ (Int.emod_nonneg _ (by omega)) (Int.emod_lt_of_pos _ (by omega)) (turn_fin hc ⟨v0, v1⟩ ?_)
      rw [cF_mod, ← he, Lean.Grind.Semiring.pow_zero]
      grind
end TK

namespace TK
open PySem PySem.Spec PyProof.Rows L2 TH
local macro_rules | `(tactic| walk_at "rd1") => `(tactic| first
  | (with_reducible refine TH.w_seq ?_)
  | (with_reducible refine TH.w_asg ?_)
  | (with_reducible refine TH.w_ret ?_)
  | (with_reducible refine TH.w_drop ?_)
  | (with_reducible refine TH.w_ifS ?_)
  | (with_reducible refine TH.w_next ?_)
  | ((with_reducible refine TH.w_var (v := ?vv) ?hv ?_); (case hv => rfl))
  | (with_reducible refine TH.w_c ?_)
  | ((with_reducible refine TH.w_gname (σ' := ?ss) ?hs ?_); (case hs => (dsimp only [List.set]; rfl)))
  | (with_reducible refine TH.w_op ?_)
  | (with_reducible refine TH.w_un ?_)
  | (with_reducible refine TH.w_chain ?_)
  | (with_reducible refine TH.w_I0 ?_)
  | ((with_reducible refine TH.w_I ?hm ?_); (case hm => first | (exact TH.CMul.l (by omega) (by omega)) | (exact TH.CMul.r (by omega) (by omega)) | (exact TH.CDiv.mk (by omega) (by omega)) | (show (0 : Int) < _; omega) | (exact TH.CPow.mk (by omega) (by omega) (by decide))))
  | (with_reducible refine TH.w_U ?_)
  | (with_reducible refine TH.w_eqI ?_)
  | (with_reducible refine TH.w_neI ?_)
  | (with_reducible refine TH.w_eqB ?_)
  | (with_reducible refine TH.w_isN ?_)
  | (with_reducible refine TH.w_nil ?_)
  | (with_reducible refine TH.w_cons ?_)
  | (with_reducible refine TH.w_test ?_)
  | (with_reducible refine TH.w_B ?_)
  | (with_reducible refine TH.w_bl ?_)
  | (with_reducible refine TH.w_and ?_)
  | (with_reducible refine TH.w_or ?_)
  | (with_reducible refine TH.w_not ?_)
  | (with_reducible refine TH.w_andV ?_)
  | (with_reducible refine TH.w_orV ?_)
  | (with_reducible refine TH.w_notV ?_)
  | (with_reducible refine TH.w_if ?_)
  | (with_reducible refine TH.w_parT ?_)
  | (with_reducible refine TH.w_par ?_)
  | (with_reducible refine TH.w_parT3 ?_)
  | (with_reducible refine TH.w_par3 ?_)
  | (with_reducible refine TH.w_cb ?_)
  | (with_reducible refine TH.w_call ?_)
  | ((with_reducible refine TH.w_aug (v := ?vv) ?hv ?_); (case hv => rfl))
  | (with_reducible refine TH.w_ip ?_)
  | (with_reducible refine TH.w_bm ?_)
  | (with_reducible refine TH.w_sl ?_)
  | (with_reducible refine TH.w_np ?_)
  | (with_reducible refine TH.w_pt ?_)
  | (with_reducible refine TH.w_pti ?_)
  | (with_reducible refine TH.w_gsub ?_)
  | (with_reducible refine TH.w_int ?_)
  | (with_reducible refine TH.w_tupT ?_)
  | (with_reducible refine TH.w_lstT ?_)
  | ((with_reducible show L2.rIxL _ _ _ _ _); (first | (refine TH.w_ixL (TH.sqL upd_same) rfl ?_) | (refine TH.w_ixL (TH.sqL (by assumption)) rfl ?_)))
  | ((with_reducible show L2.rSetL _ _ _ _ _); (first | (refine TH.w_set1 upd_same ?_) | (refine TH.w_set2 upd_same ?_) | (refine TH.w_set3 upd_same ?_) | (refine TH.w_set4 upd_same ?_) | (refine TH.w_set1 (by assumption) ?_) | (refine TH.w_set2 (by assumption) ?_) | (refine TH.w_set3 (by assumption) ?_) | (refine TH.w_set4 (by assumption) ?_)))
  | (with_reducible refine TH.w_lc ?_)
  | (with_reducible refine TH.w_itup ?_)
  | (with_reducible refine TH.w_ilist ?_)
  | (with_reducible refine TH.w_ienum ?_)
  | (with_reducible refine TH.w_izip ?_)
  | (with_reducible refine TH.w_irng1 ?_)
  | (with_reducible refine TH.w_irng2 ?_)
  | (with_reducible refine TH.w_for ?_)
  | (with_reducible refine TH.w_gcons ?_)
  | (with_reducible refine TH.w_gnil ?_)
  | (with_reducible refine TH.w_yes ?_)
  | (with_reducible refine TH.w_gtup2 upd_same ?_)
  | (with_reducible refine TH.w_gtup3 upd_same ?_)
  | (with_reducible refine TH.w_T ?_)
  | (with_reducible refine TH.w_F ?_))
local macro_rules | `(tactic| walk_at "rd") => `(tactic| repeat (first | walk_at "rd1" | (dsimp only [List.set, L2.wipe, List.map, TH.isInt, TH.isBool, TH.isTup, TH.isLst, TH.bo_f, TH.bo_t, TH.ba_f, TH.ba_t, TH.bn_t, TH.bn_f, List.append_nil, List.cons_append, List.nil_append])))

abbrev s_law_ladder : Stmt := top 38
abbrev N_law_ladder : List Str := ["p", "wide", "rows", "place", "left", "found", "some", "head", "turn", "at", "row", "one"]
theorem sc_law_ladder : FnScope N_law_ladder ["p", "wide", "rows"] (C8.fnScope s_law_ladder) := ⟨rfl, rfl, rfl, by decide +kernel, rfl, by decide +kernel, by decide +kernel⟩

variable {P : Program} {w : World} {K : PySem.W.Frag} {mg : Str → Option Value} {base : Heap}
/-! _law_ladder(p, wide, rows) -/
section
open LA
variable {n : Nat} [NeZero n]
/-- a row with a head taken off at a place -/
def offI (p : Int) (h : List Int) (q : Nat) (r : List Int) : List Int := if r.getD q 0 = 0 then r else iSub p r h (r.getD q 0)
theorem offI_in {w q : Nat} {r h : List Int} (hr : Rin n w r) (hh : Rin n w h) : Rin n w (offI n h q r) := by
  unfold offI
  split
  · exact hr
  · exact iSub_in n_pos hr.1 hh.1
theorem toF_off {w q : Nat} {r h : List Int} (hr : r.length = w) (hh : h.length = w) : toF n (offI n h q r) = sub (toF n r) (toF n h) (at' (toF n r) q) := by
  unfold offI
  rw [toF_at]
  split
  · next e => rw [e, cF_zero, sub_zero' (w := w) (by rw [toF_len, hr]) (by rw [toF_len, hh])]
  · rw [toF_sub]
theorem scale_in {w : Nat} {r : List Int} {c : Int} (hr : r.length = w) : Rin n w (iScale n c r) := ⟨by unfold iScale; rw [List.length_map]; exact hr, fun x hx => by
  unfold iScale at hx
  obtain ⟨y, _, rfl⟩ := List.mem_map.mp hx
  exact ⟨Int.emod_nonneg _ (by have := n_pos (n := n); omega), Int.emod_lt_of_pos _ n_pos⟩⟩
/-- what stands after some places -/
structure ColI (n : Nat) [NeZero n] (wide : Nat) (rs : List (List Int)) (i : Nat) (lf fd : List (List Int)) : Prop where
  inl : ∀ r ∈ lf, Rin n wide r
  inf : ∀ r ∈ fd, Rin n wide r
  len : lf.length + fd.length = rs.length
  col : ∃ L, rowsOf L = rowsF n fd ∧ Col wide (rowsF n rs) i (rowsF n lf) L
theorem colI_start {wide : Nat} {rs : List (List Int)} (h : ∀ r ∈ rs, Rin n wide r) : ColI n wide rs 0 rs [] := ⟨h, fun r hr => (nomatch hr), by simp, [], rfl, col_start (rowsF_wd fun r hr => (h r hr).1)⟩
theorem colI_none {wide i : Nat} {rs lf fd : List (List Int)} (h : ColI n wide rs i lf fd) (hz : ∀ r ∈ lf, r.getD i 0 = 0) : ColI n wide rs (i + 1) lf fd := by
  obtain ⟨L, e, c⟩ := h.col
  refine ⟨h.inl, h.inf, h.len, L, e, col_none c fun r hr => ?_⟩
  obtain ⟨r0, h0, rfl⟩ := List.mem_map.mp hr
  rw [toF_at, hz r0 h0, cF_zero]
theorem mem_erase_iff {α : Type} {xs : List α} {k : Nat} {y : α} (h : xs[k]? = some y) (r : α) : r ∈ xs ↔ r = y ∨ r ∈ xs.eraseIdx k := by
  rw [← (erase_perm h).mem_iff, List.mem_cons]
theorem colI_some {wide i k : Nat} {rs lf fd : List (List Int)} {head : List Int} {t : Int} (h : ColI n wide rs i lf fd) (hi : i < wide) (hk : lf[k]? = some head) (ht : cF n t * cF n (head.getD i 0) = 1) :
    ColI n wide rs (i + 1) ((lf.eraseIdx k).map (offI n (iScale n t head) i)) (fd.map (offI n (iScale n t head) i) ++ [iScale n t head]) := by
  obtain ⟨L, e, c⟩ := h.col
  have hhead := h.inl head (List.mem_of_getElem? hk)
  have hs : Rin n wide (iScale n t head) := scale_in hhead.1
  have hel : ∀ r ∈ lf.eraseIdx k, r ∈ lf := fun r hr => (mem_erase_iff hk r).mpr (.inr hr)
  refine ⟨fun r hr => ?_, fun r hr => ?_, ?_, L.map (fun a => (a.1, sub a.2 (smul (cF n t) (toF n head)) (at' a.2 i))) ++ [(i, smul (cF n t) (toF n head))], ?_, ?_⟩
  · obtain ⟨r0, h0, rfl⟩ := List.mem_map.mp hr
    exact offI_in (h.inl r0 (hel r0 h0)) hs
  · rcases List.mem_append.mp hr with m | m
    · obtain ⟨r0, h0, rfl⟩ := List.mem_map.mp m
      exact offI_in (h.inf r0 h0) hs
    · rw [List.mem_singleton.mp m]; exact hs
  · have hkl := (List.getElem?_eq_some_iff.mp hk).1
    have := h.len
    rw [List.length_map, List.length_append, List.length_map, List.length_eraseIdx_of_lt hkl]
    simp
    omega
  rotate_left 1
  · have := col_some (rest := rowsF n (lf.eraseIdx k)) (head := toF n head) (t := cF n t) c hi (fun r => ?_) (by rw [toF_at]; exact ht)
    · have e1 : (rowsF n (lf.eraseIdx k)).map (fun r => sub r (smul (cF n t) (toF n head)) (at' r i)) = rowsF n ((lf.eraseIdx k).map (offI n (iScale n t head) i)) := by
        unfold rowsF
        rw [List.map_map, List.map_map]
        refine List.map_congr_left fun r hr => ?_
        show _ = toF n (offI n (iScale n t head) i r)
        rw [toF_off (h.inl r (hel r hr)).1 hs.1, toF_scale]
        rfl
      rw [e1] at this
      exact this
    · constructor
      · intro hr
        obtain ⟨r0, h0, rfl⟩ := List.mem_map.mp hr
        rcases (mem_erase_iff hk r0).mp h0 with rfl | m
        · exact .inl rfl
        · exact .inr (List.mem_map.mpr ⟨r0, m, rfl⟩)
      · intro hr
        rcases hr with rfl | m
        · exact List.mem_map.mpr ⟨head, List.mem_of_getElem? hk, rfl⟩
        · obtain ⟨r0, h0, rfl⟩ := List.mem_map.mp m
          exact List.mem_map.mpr ⟨r0, hel r0 h0, rfl⟩
  · have e2 : rowsOf (L.map (fun a => (a.1, sub a.2 (smul (cF n t) (toF n head)) (at' a.2 i)))) = (rowsOf L).map fun r => sub r (smul (cF n t) (toF n head)) (at' r i) := by
      rw [rowsOf, rowsOf, List.map_map, List.map_map]; rfl
    rw [rowsOf, List.map_append, show (L.map (fun a => (a.1, sub a.2 (smul (cF n t) (toF n head)) (at' a.2 i)))).map (·.2) = _ from e2, e]
    unfold rowsF
    rw [List.map_append, List.map_map, List.map_map]
    congr 1
    · refine List.map_congr_left fun r hr => ?_
      show _ = toF n (offI n (iScale n t head) i r)
      rw [toF_off (h.inf r hr).1 hs.1, toF_scale]
      rfl
    · show [smul (cF n t) (toF n head)] = [toF n (iScale n t head)]
      rw [toF_scale]
/-- a ladder of these rows -/
structure LadI (n : Nat) [NeZero n] (wide : Nat) (rs ls : List (List Int)) : Prop where
  inr : ∀ r ∈ ls, Rin n wide r
  len : ls.length ≤ rs.length
  lad : ∃ L, rowsOf L = rowsF n ls ∧ Lad wide L
  eqv : Eqv wide (rowsF n ls) (rowsF n rs)
theorem colI_end {wide : Nat} {rs lf fd : List (List Int)} (h : ColI n wide rs wide lf fd) : LadI n wide rs fd := by
  obtain ⟨L, e, c⟩ := h.col
  refine ⟨h.inf, by have := h.len; omega, ⟨L, e, c.lad⟩, ?_⟩
  rw [← e]
  exact col_end c
theorem rowsF_inj {wide : Nat} : ∀ {as bs : List (List Int)}, (∀ r ∈ as, Rin n wide r) → (∀ r ∈ bs, Rin n wide r) → rowsF n as = rowsF n bs → as = bs
  | [], [], _, _, _ => rfl
  | [], b :: bs, _, _, e => by cases e
  | a :: as, [], _, _, e => by cases e
  | a :: as, b :: bs, ha, hb, e => by
    have e' : toF n a :: rowsF n as = toF n b :: rowsF n bs := e
    injection e' with e1 e2
    rw [toF_inj (ha a List.mem_cons_self) (hb b List.mem_cons_self) e1, rowsF_inj (fun r hr => ha r (List.mem_cons_of_mem _ hr)) (fun r hr => hb r (List.mem_cons_of_mem _ hr)) e2]
theorem ladI_one {wide : Nat} {rs rs' ls ls' : List (List Int)} (hc : Clk n) (h : LadI n wide rs ls) (h' : LadI n wide rs' ls') (e : Eqv wide (rowsF n rs) (rowsF n rs')) : ls = ls' := by
  obtain ⟨L, e1, l1⟩ := h.lad
  obtain ⟨M, e2, l2⟩ := h'.lad
  have : L = M := lad_one (fin_ne hc) l1 l2 (by rw [e1, e2]; exact h.eqv.trans (e.trans h'.eqv.symm))
  subst this
  exact rowsF_inj h.inr h'.inr (e1.symm.trans e2)
end
open LA in
def sp_law_ladder (K : PySem.W.Frag) : Sp := fun vs H Q _ => ∃ (n : Nat) (_ : NeZero n) (wide : Nat) (a : Addr) (xs : List V) (rs : List (List Int)), vs = [.int (n : Nat), .int (wide : Nat), .ref a] ∧ Clk n ∧ SqL K H a xs ∧ DpAll K H xs (rs.map row) ∧
  wide ≤ 1000 ∧ rs.length ≤ 1000 ∧ (∀ r ∈ rs, Rin n wide r) ∧ ∀ u H' ls, Ex H H' → Dp K H' u (rowsT ls) → LadI n wide rs ls → Q u H'
theorem made_row {m : Nat} {xs : List (List Int)} (f : List Int → List Int) (hm : xs.length = m) : made m (fun _ => true) (fun i => row (f (xs.getD i []))) = (xs.map f).map row := by
  subst hm
  rw [made_all, range_map [] (fun r => row (f r)), List.map_map]
  rfl
open LA in
theorem ok_law_ladder {f : Addr} {fd : FuncData} (F : C8.Def K mg "_law_ladder" s_law_ladder f fd) (b : Binds K fd ["p", "wide", "rows"] []) (T : Txt mg)
    (c_law_turn : C8.Cal P w K mg base 1 "_law_turn" (sp_law_turn K) []) (c_law_less : C8.Cal P w K mg base 1 "_law_less" (sp_law_less K) []) : C8.Cal P w K mg base 2 "_law_ladder" (sp_law_ladder K) [] := by
  refine C8.cal0 F b .nil sc_law_ladder (fun vs H Q E h => ?_) (fun cdv A outer s H vs Q E hr h => ?_)
  · obtain ⟨n, _, wide, a, xs, rs, rfl, _⟩ := h
    rfl
  · obtain ⟨n, inst, wide, a, xs, rs, rfl, hc, ha, hda, hw, hl, hrs, q⟩ := h
    have n2 := hc.two
    have nm := hc.le
    refine ⟨_, (pss_cons (ps_par (i := 4) (j := 5) rfl sc_law_ladder.nd rfl rfl (by decide) rfl rfl (pa_cons (pe_callTy (TH.kcall_list (K := K)) (by rfl) T.b_list (by decide +kernel) (pa_cons (pv 2) pa_nil)) (pa_cons (pe_lst pa_nil) pa_nil)) (by rfl))
      (pss_cons (ps_for PassesOwn.never rfl (pi_range1 (by rfl) T.b_range (pa_cons (pv 1) pa_nil)) (pg_name (i := 3) sc_law_ladder.nd rfl (Or.inr rfl) (Or.inl rfl)) (pss_cons (ps_setLc (i := 6) (own := [("at", 9), ("row", 10)]) (g := gTup K 2 (gCons (gName 9) (gCons (gName 10) gNil))) rfl sc_law_ladder.nd rfl rfl (sw_true rfl rfl rfl (by decide +kernel)) (TH.kpi_enum (K := K) (by rfl) T.b_enumerate (pa_cons (pv 4) pa_nil)) (blkOk_by (own := [("at", 9), ("row", 10)]) (N := N_law_ladder) (sc := C8.fnScope s_law_ladder) (by decide +kernel)) (fun _ _ _ _ _ => (TH.kpg_tup (K := K) (n := 2) rfl (pgs_cons (pg_name (i := 9) sc_law_ladder.nd rfl (Or.inl rfl) (Or.inr rfl)) (pgs_cons (pg_name (i := 10) sc_law_ladder.nd rfl (Or.inl rfl) (Or.inr rfl)) pgs_nil)))) (fun _ _ _ _ _ => (pts_one (pt_cmpR op_ne (pe_ix (TH.kix_tup (K := K)) (pv 10) (pv 3) (fun _ _ => rfl)) pe_int (nomark _)))) (fun _ _ _ _ _ => (pv 9)))
      (pss_one (ps_if (pt_cmpR op_gt (pe_callB (TH.kcall_len (K := K)) (by rfl) T.b_len (by decide +kernel) (pa_cons (pv 6) pa_nil)) pe_int (nomark _)) (pss_cons (ps_set (i := 7) sc_law_ladder.nd rfl (Or.inr rfl) (TH.kpe_bm (K := K) PySem.F.plainAttrs_list PySem.F.slot_list_pop PySem.F.type_list_pop mt_popAt (pv 4) (pa_cons (pe_ix (TH.kix_list (K := K)) (pv 6) pe_int (fun _ _ => rfl)) pa_nil)))
      (pss_cons (ps_set (i := 8) sc_law_ladder.nd rfl (Or.inr rfl) (C8.pe_c c_law_turn hr (by first | decide | exact Nat.le_refl _) (by rfl) (pa_cons (pv 0) (pa_cons (pe_ix (TH.kix_tup (K := K)) (pv 7) (pv 3) (fun _ _ => rfl)) pa_nil))))
      (pss_cons (ps_set (i := 7) sc_law_ladder.nd rfl (Or.inr rfl) (pe_callTy (TH.kcall_tuple (K := K)) (by rfl) T.b_tuple (by decide +kernel) (pa_cons (pe_lc (own := [("one", 11)]) (g := gName 11) (tt := tYes) rfl sc_law_ladder.nd (TH.kpi_tup (K := K) (pv 7)) (blkOk_by (own := [("one", 11)]) (N := N_law_ladder) (sc := C8.fnScope s_law_ladder) (by decide +kernel)) (fun _ _ _ _ _ => (pg_name (i := 11) sc_law_ladder.nd rfl (Or.inl rfl) (Or.inr rfl))) (fun _ _ _ _ _ => pts_nil) (fun _ _ _ _ _ => (pe_op op_mod (pe_callTy call_int1 (by rfl) T.b_int (by decide +kernel) (pa_cons (pe_op op_mul (pv 11) (pv 8)) pa_nil)) (pv 0)))) pa_nil)))
      (pss_cons (ps_setLc (i := 4) (own := [("row", 10)]) (g := gName 10) (tt := tYes) rfl sc_law_ladder.nd rfl rfl (sw_true rfl rfl rfl (by decide +kernel)) (TH.kpi_list (K := K) (pv 4)) (blkOk_by (own := [("row", 10)]) (N := N_law_ladder) (sc := C8.fnScope s_law_ladder) (by decide +kernel)) (fun _ _ _ _ _ => (pg_name (i := 10) sc_law_ladder.nd rfl (Or.inl rfl) (Or.inr rfl))) (fun _ _ _ _ _ => pts_nil) (fun _ _ _ _ _ => (pe_ifExp (pt_cmpR op_ne (pe_ix (TH.kix_tup (K := K)) (pv 10) (pv 3) (fun _ _ => rfl)) pe_int (nomark _)) (C8.pe_c c_law_less hr (by first | decide | exact Nat.le_refl _) (by rfl) (pa_cons (pv 0) (pa_cons (pv 10) (pa_cons (pv 7) (pa_cons (pe_ix (TH.kix_tup (K := K)) (pv 10) (pv 3) (fun _ _ => rfl)) pa_nil))))) (pv 10))))
      (pss_one (ps_set (i := 5) sc_law_ladder.nd rfl (Or.inl rfl) (pe_op op_cat (pe_lc (own := [("row", 10)]) (g := gName 10) (tt := tYes) rfl sc_law_ladder.nd (TH.kpi_list (K := K) (pv 5)) (blkOk_by (own := [("row", 10)]) (N := N_law_ladder) (sc := C8.fnScope s_law_ladder) (by decide +kernel)) (fun _ _ _ _ _ => (pg_name (i := 10) sc_law_ladder.nd rfl (Or.inl rfl) (Or.inr rfl))) (fun _ _ _ _ _ => pts_nil) (fun _ _ _ _ _ => (pe_ifExp (pt_cmpR op_ne (pe_ix (TH.kix_tup (K := K)) (pv 10) (pv 3) (fun _ _ => rfl)) pe_int (nomark _)) (C8.pe_c c_law_less hr (by first | decide | exact Nat.le_refl _) (by rfl) (pa_cons (pv 0) (pa_cons (pv 10) (pa_cons (pv 7) (pa_cons (pe_ix (TH.kix_tup (K := K)) (pv 10) (pv 3) (fun _ _ => rfl)) pa_nil))))) (pv 10)))) (pe_lst (pa_cons (pv 7) pa_nil))))))))) pss_nil))))
      (pss_one (ps_ret (pe_callTy (TH.kcall_tuple (K := K)) (by rfl) T.b_tuple (by decide +kernel) (pa_cons (pv 5) pa_nil)))))), ?_⟩
    refine w_start (σ' := [some (.int n), some (.int wide), some (.ref a), none, none, none, none, none, none, none, none, none]) rfl ?_
    walk_at "rd"
    refine ⟨a, _, rfl, .inl ha, fun l hl0 => ?_⟩
    walk_at "rd"
    refine w_dispT (by decide) fun g hg => ?_
    walk_at "rd"
    have hgl : g ≠ l := fun z => by rw [z, upd_same] at hg; cases hg
    refine w_isrng (by omega) (by omega) ?_
    have e0 := (Ex.new (o := .lst xs) hl0).trans (Ex.new (o := .lst []) hg)
    refine for_go walk_rng (fun i σ H' => Ex H H' ∧ ∃ (l g : Addr) (y3 y6 y7 y8 y9 y10 y11 : Option V) (lf fd : List (List Int)) (us vs : List V), σ = [some (.int n), some (.int wide), some (.ref a), y3, some (.ref l), some (.ref g), y6, y7, y8, y9, y10, y11] ∧
        H l = none ∧ H g = none ∧ l ≠ g ∧ H' l = some (.lst us) ∧ H' g = some (.lst vs) ∧ DpAll K H' us (lf.map row) ∧ DpAll K H' vs (fd.map row) ∧ ColI n wide rs i lf fd)
      ⟨e0, l, g, _, _, _, _, _, _, _, rs, [], xs, [], rfl, hl0, by rw [upd_ne hgl] at hg; exact hg, Ne.symm hgl, by rw [upd_ne (Ne.symm hgl)]; exact upd_same, upd_same, e0.dpa hda, .nil, colI_start hrs⟩ (fun _ _ _ _ _ => trivial) (fun i x σ H' H'' hi p y => ?_) (fun σ H' p => ?_)
    · obtain ⟨e, l, g, y3, y6, y7, y8, y9, y10, y11, lf, fd, us, vs, rfl, hl0, hg0, hlg, h1, h2, d1, d2, hcol⟩ := p
      obtain ⟨rfl, rfl⟩ := y
      have hi' : i < wide := by omega
      have hul : us.length = lf.length := by rw [dpa_len d1, List.length_map]
      have hvl : vs.length = fd.length := by rw [dpa_len d2, List.length_map]
      have hlen := hcol.len
      walk_at "rd"
      refine ⟨l, _, rfl, .inl ⟨sqL h1, fun Dl hD => ?_⟩⟩
      refine lc_data (K := K) walk_enum (fun j => !decide ((lf.getD j []).getD i 0 = 0)) (fun j => .int (j : Nat)) (fun _ => rfl) (fun H' e => e.l (sqL h1)) hD (by omega) (fun j x H2 H3 hj e2 y R R0 k k0 => ?_) (fun H2 ws e2 hws hdw => ?_)
      · obtain ⟨t, x1, x2, rfl, ht, rfl, z1, z2⟩ := y
        cases z1
        obtain ⟨r, hr1, hr2⟩ := rowsAt_get d1 z2
        have hri := hcol.inl r (List.mem_of_getElem? hr1)
        obtain ⟨ra, rfl, hra⟩ := dp_row hr2
        walk_at "rd"
        refine ⟨rfl, ?_⟩
        have e3 := e2.trans (Ex.new (o := .tup [.int (j : Nat), .ref ra]) ht)
        have hri2 := hri.1
        walk_at "rd"
        refine w_ixT (e3.t hra) (atI_int (getD_at (i := i) (d := 0) (by omega))) ?_
        walk_at "rd"
        have ek : (lf.getD j []).getD i 0 = r.getD i 0 := by rw [getD_of hr1]
        refine w_decN (fun hz => ?_) (fun hz => ?_)
        · walk_at "rd"
          exact k (by rw [ek, decide_eq_false hz]; rfl) _ _ (Ex.new ht) (.int _)
        · walk_at "rd"
          exact k0 (by rw [ek, decide_eq_true hz]; rfl) _ (Ex.new ht)
      · have h1' := e2 _ _ h1
        have h2' := e2 _ _ h2
        have eH := e.trans e2
        have d1' := e2.dpa d1
        have d2' := e2.dpa d2
        unfold made at hdw
        generalize hfl : (List.range us.length).filter (fun j => !decide ((lf.getD j []).getD i 0 = 0)) = fl at hdw
        have e5 : fl.map (fun j => PyData.int (j : Nat)) = (fl.map fun j => ((j : Nat) : Int)).map PyData.int := by rw [List.map_map]; rfl
        rw [e5] at hdw
        have e6 := dpa_ints_inv hdw
        subst e6
        walk_at "rd"
        refine ⟨Dl, _, rfl, .inl (sqL hws), ?_⟩
        walk_at "rd"
        cases fl with
        | nil =>
          refine w_dec (fun z => absurd z (by simp)) (fun _ => ?_)
          walk_at "rd"
          refine ⟨eH, l, g, _, _, _, _, _, _, _, lf, fd, us, vs, rfl, hl0, hg0, hlg, h1', h2', d1', d2', colI_none hcol fun r hr => ?_⟩
          obtain ⟨j, hj⟩ := List.mem_iff_getElem?.mp hr
          have hjl := (List.getElem?_eq_some_iff.mp hj).1
          have z := List.filter_eq_nil_iff.mp hfl j (List.mem_range.mpr (by omega))
          rw [getD_of hj] at z
          simpa using z
        | cons j0 fl =>
          refine w_dec (fun _ => ?_) (fun z => absurd (by simp) z)
          have hj0 : j0 ∈ (List.range us.length).filter (fun j => !decide ((lf.getD j []).getD i 0 = 0)) := by rw [hfl]; exact List.mem_cons_self
          obtain ⟨hjr, hjk⟩ := List.mem_filter.mp hj0
          have hjl := List.mem_range.mp hjr
          have hju := List.getElem?_eq_getElem hjl
          generalize us[j0] = hv at hju
          obtain ⟨r, hr1, hr2⟩ := rowsAt_get d1' hju
          have hri := hcol.inl r (List.mem_of_getElem? hr1)
          have hri1 := hri.1
          obtain ⟨ra, rfl, hra⟩ := dp_row hr2
          rw [getD_of hr1] at hjk
          have hnz : r.getD i 0 ≠ 0 := by simpa using hjk
          have hrr : 0 ≤ r.getD i 0 ∧ r.getD i 0 < n := hri.2 _ (List.mem_of_getElem? (getD_at (i := i) (d := 0) (by omega)))
          walk_at "rd"
          refine ⟨tyL h1', ?_⟩
          walk_at "rd"
          refine w_ixL (sqL hws) atI_zero ?_
          walk_at "rd"
          refine w_popAt h1' hju (by omega) ?_
          walk_at "rd"
          have tx : Tx H2 (upd H2 l (.lst (us.eraseIdx j0))) := Tx.updL h1'
          have eH3 : Ex H (upd H2 l (.lst (us.eraseIdx j0))) := eH.mut hl0
          have hra3 := tx.t hra
          have d1e : DpAll K (upd H2 l (.lst (us.eraseIdx j0))) (us.eraseIdx j0) ((lf.eraseIdx j0).map row) := by
            rw [erase_map]
            exact dpa_erase j0 (tx.dpa (imm_rows lf) d1')
          have d2e := tx.dpa (imm_rows fd) d2'
          have h2e : upd H2 l (.lst (us.eraseIdx j0)) g = some (.lst vs) := by rw [upd_ne (Ne.symm hlg)]; exact h2'
          have h1e : upd H2 l (.lst (us.eraseIdx j0)) l = some (.lst (us.eraseIdx j0)) := upd_same
          generalize upd H2 l (.lst (us.eraseIdx j0)) = H3 at eH3 hra3 d1e d2e h2e h1e ⊢
          clear tx
          refine w_ixT hra3 (atI_int (getD_at (i := i) (d := 0) (by omega))) ?_
          walk_at "rd"
          refine ⟨n, inst, _, rfl, hc, by omega, by omega, fun t t0 t1 ht => ?_⟩
          walk_at "rd"
          refine ⟨ra, rfl, ⟨_, hra3⟩, fun D2 hD2 => ?_⟩
          refine lc_data (K := K) walk_tup (fun _ => true) (fun j => .int (r.getD j 0 * t % n)) (fun _ => rfl) (fun H' e => e.t hra3) hD2 (by rw [List.length_map]; omega) (fun j x H4 H5 hj e4 y R R0 k _ => ?_) (fun H4 ws e4 hw4 hda4 => ?_)
          · obtain ⟨rfl, hx⟩ := y
            obtain ⟨m, hm, rfl⟩ := ints_at hx
            walk_at "rd"
            refine ⟨rfl, ?_⟩
            walk_at "rd"
            refine k rfl _ _ (Ex.refl _) ?_
            rw [getD_of hm]
            exact .int _
          · walk_at "rd"
            rw [made_all, List.length_map, range_map 0 (fun x => PyData.int (x * t % n))] at hda4
            have e7 : r.map (fun x => PyData.int (x * t % n)) = (iScale n t r).map PyData.int := by
              unfold iScale
              rw [List.map_map]
              refine List.map_congr_left fun x _ => ?_
              show PyData.int _ = PyData.int (t * x % n)
              rw [Int.mul_comm]
            rw [e7] at hda4
            refine ⟨D2, ws, rfl, .inl ⟨sqL hw4, fun ha5 hha5 => ?_⟩⟩
            walk_at "rd"
            have hdh : Dp K (upd H4 ha5 (.tup ws)) (.ref ha5) (row (iScale n t r)) := .tup (sqT upd_same) ((Ex.new hha5).dpa hda4)
            have e45 := e4.trans (Ex.new (o := .tup ws) hha5)
            generalize upd H4 ha5 (.tup ws) = H5 at hdh e45 ⊢
            have hh : (iScale n t r).length = wide := (scale_in (n := n) (c := t) hri.1).1
            generalize hhd : iScale n t r = hd at hdh hh
            have h1f := e45 _ _ h1e
            have h2f := e45 _ _ h2e
            have d1f := e45.dpa d1e
            have d2f := e45.dpa d2e
            have eH5 := eH3.trans e45
            clear e4 hw4 hda4 hha5
            have hle : (lf.eraseIdx j0).length ≤ 1000 := by rw [List.length_eraseIdx_of_lt (by omega)]; omega
            refine ⟨l, rfl, ⟨_, sqL h1f⟩, fun D3 hD3 => ?_⟩
            have turn : ∀ (qs : List (List Int)) (ps : List V) (j : Nat) (x : V) (H6 : Hp) (R : VK) (y3 y4 y5 y6 y7 y8 : Option V), (∀ r ∈ qs, Rin n wide r) → Ex H5 H6 → DpAll K H5 ps (qs.map row) → ps[j]? = some x → (∀ v H3, Ex H6 H3 → Dp K H3 v (row (offI n hd i (qs.getD j []))) → R v H3) →
                tIf (tTest (tOp rNe (tOp (rIxT K) (tVar 10) (tVar 3)) (tC (.int 0)))) (tCall (sp_law_less K) [] C8.E0 (tCons (tVar 0) (tCons (tVar 10) (tCons (tVar 7) (tCons (tOp (rIxT K) (tVar 10) (tVar 3)) tNil))))) (tVar 10)
                  [some (.int n), some (.int wide), some (.ref a), some (.int i), y3, y4, y5, some (.ref ha5), y6, y7, some x, y8] H6 R := by
              intro qs ps j x H6 R y3 y4 y5 y6 y7 y8 hqs e6 hps hx k
              obtain ⟨r6, hr6, hd6⟩ := rowsAt_get hps hx
              have hrin6 := hqs r6 (List.mem_of_getElem? hr6)
              have hl6 := hrin6.1
              obtain ⟨ra6, rfl, hra6⟩ := dp_row hd6
              have hb6 : 0 ≤ r6.getD i 0 ∧ r6.getD i 0 < n := hrin6.2 _ (List.mem_of_getElem? (getD_at (i := i) (d := 0) (by omega)))
              have ix : ∀ {Q : VK}, Q (.int (r6.getD i 0)) H6 → rIxT K (.ref ra6) (.int (i : Nat)) H6 Q := fun {Q} q => w_ixT (e6.t hra6) (atI_int (getD_at (i := i) (d := 0) (by omega))) q
              rw [getD_of hr6] at k
              walk_at "rd"
              refine ix ?_
              walk_at "rd"
              refine w_decN (fun hz => ?_) (fun hz => ?_)
              · walk_at "rd"
                refine ix ?_
                walk_at "rd"
                refine ⟨_, _, _, _, r6, hd, rfl, e6.dp hd6, e6.dp hdh, by omega, by omega, by omega, by omega, fun u H7 e7 hu => k u H7 e7 ?_⟩
                unfold offI
                rw [if_neg hz]
                exact hu
              · walk_at "rd"
                refine k _ _ (Ex.refl _) ?_
                unfold offI
                rw [if_pos hz]
                exact e6.dp hd6
            have hcol' := colI_some (t := t) hcol hi' hr1 ht
            rw [hhd] at hcol'
            refine lc_data (K := K) walk_list (fun _ => true) (fun j => row (offI n hd i ((lf.eraseIdx j0).getD j []))) (fun _ => imm_row _) (fun H' e => e.l (sqL h1f)) hD3 (by rw [dpa_len d1f, List.length_map]; omega) (fun j x H6 H7 hj e6 y R R0 k _ => ?_) (fun H6 ws6 e6 hw6 hda6 => ?_)
            · obtain ⟨rfl, hx⟩ := y
              walk_at "rd"
              refine ⟨rfl, ?_⟩
              refine w_yes (w_T (turn (lf.eraseIdx j0) _ j x _ R _ _ _ _ _ _ (fun r hr => hcol.inl r ((mem_erase_iff hr1 r).mpr (.inr hr))) e6 d1f hx (k rfl)))
            · have hlen6 : (us.eraseIdx j0).length = (lf.eraseIdx j0).length := by rw [dpa_len d1f, List.length_map]
              rw [made_row (offI n hd i) hlen6.symm] at hda6
              walk_at "rd"
              refine ⟨g, rfl, ⟨_, sqL (e6 _ _ h2f)⟩, fun D4 hD4 => ?_⟩
              refine lc_data (K := K) walk_list (fun _ => true) (fun j => row (offI n hd i (fd.getD j []))) (fun _ => imm_row _) (fun H' e => e.l (sqL (e6 _ _ h2f))) hD4 (by omega) (fun j x H7 H8 hj e7 y R R0 k _ => ?_) (fun H7 ws7 e7 hw7 hda7 => ?_)
              · obtain ⟨rfl, hx⟩ := y
                walk_at "rd"
                refine ⟨rfl, ?_⟩
                refine w_yes (w_T (turn fd _ j x _ R _ _ _ _ _ _ hcol.inf (e6.trans e7) d2f hx (k rfl)))
              · rw [made_row (offI n hd i) hvl.symm] at hda7
                walk_at "rd"
                refine w_dispT (by simp) fun D5 hD5 => ?_
                walk_at "rd"
                have hd57 : D4 ≠ D5 := fun z => by rw [z, hD5] at hw7; cases hw7
                refine ⟨D4, D5, _, _, rfl, rfl, by rw [upd_ne hd57]; exact hw7, upd_same, ?_, fun D6 hD6 => ?_⟩
                · refine small2 ?_
                  rw [dpa_len hda7]
                  simp
                  omega
                · walk_at "rd"
                  have e8 : Ex H7 (upd (upd H7 D5 (.lst [.ref ha5])) D6 (.lst (ws7 ++ [.ref ha5]))) := (Ex.new hD5).trans (Ex.new hD6)
                  have eF := (eH5.trans e6).trans (e7.trans e8)
                  have hn4 : ∀ a, H5 a = none → H a = none := fun a h => eH5.fresh h
                  have hD34 : D3 ≠ D6 := fun z => by
                    have z1 := e7 _ _ hw6
                    have z2 := (Ex.new (o := .lst [.ref ha5]) hD5) _ _ z1
                    rw [z, hD6] at z2
                    cases z2
                  refine ⟨eF, D3, D6, _, _, _, _, _, _, _, _, _, _, _, rfl, eH5.fresh hD3, (eH5.trans (e6.trans (e7.trans (Ex.new hD5)))).fresh hD6, hD34, e8 _ _ (e7 _ _ hw6), upd_same, (e7.trans e8).dpa hda6, ?_, hcol'⟩
                  rw [List.map_append]
                  exact dpa_snoc (e8.dpa hda7) ((e6.trans (e7.trans e8)).dp hdh)
    · obtain ⟨e, l, g, y3, y6, y7, y8, y9, y10, y11, lf, fd, us, vs, rfl, hl0, hg0, hlg, h1, h2, d1, d2, hcol⟩ := p
      walk_at "rd"
      refine ⟨g, _, rfl, .inl ⟨sqL h2, fun t ht => ?_⟩⟩
      rw [Int.toNat_natCast] at hcol
      exact q _ _ fd (e.trans (Ex.new ht)) (.tup (sqT upd_same) ((Ex.new ht).dpa d2)) (colI_end hcol)
end TK

namespace TK
open PySem PySem.Spec PyProof.Rows L2 TH
local macro_rules | `(tactic| walk_at "rd1") => `(tactic| first
  | (with_reducible refine TH.w_seq ?_)
  | (with_reducible refine TH.w_asg ?_)
  | (with_reducible refine TH.w_ret ?_)
  | (with_reducible refine TH.w_drop ?_)
  | (with_reducible refine TH.w_ifS ?_)
  | (with_reducible refine TH.w_next ?_)
  | ((with_reducible refine TH.w_var (v := ?vv) ?hv ?_); (case hv => rfl))
  | (with_reducible refine TH.w_c ?_)
  | ((with_reducible refine TH.w_gname (σ' := ?ss) ?hs ?_); (case hs => (dsimp only [List.set]; rfl)))
  | (with_reducible refine TH.w_op ?_)
  | (with_reducible refine TH.w_un ?_)
  | (with_reducible refine TH.w_chain ?_)
  | (with_reducible refine TH.w_I0 ?_)
  | ((with_reducible refine TH.w_I ?hm ?_); (case hm => first | (exact TH.CMul.l (by omega) (by omega)) | (exact TH.CMul.r (by omega) (by omega)) | (exact TH.CDiv.mk (by omega) (by omega)) | (show (0 : Int) < _; omega) | (exact TH.CPow.mk (by omega) (by omega) (by decide))))
  | (with_reducible refine TH.w_U ?_)
  | (with_reducible refine TH.w_eqI ?_)
  | (with_reducible refine TH.w_neI ?_)
  | (with_reducible refine TH.w_eqB ?_)
  | (with_reducible refine TH.w_isN ?_)
  | (with_reducible refine TH.w_nil ?_)
  | (with_reducible refine TH.w_cons ?_)
  | (with_reducible refine TH.w_test ?_)
  | (with_reducible refine TH.w_B ?_)
  | (with_reducible refine TH.w_bl ?_)
  | (with_reducible refine TH.w_and ?_)
  | (with_reducible refine TH.w_or ?_)
  | (with_reducible refine TH.w_not ?_)
  | (with_reducible refine TH.w_andV ?_)
  | (with_reducible refine TH.w_orV ?_)
  | (with_reducible refine TH.w_notV ?_)
  | (with_reducible refine TH.w_if ?_)
  | (with_reducible refine TH.w_parT ?_)
  | (with_reducible refine TH.w_par ?_)
  | (with_reducible refine TH.w_parT3 ?_)
  | (with_reducible refine TH.w_par3 ?_)
  | (with_reducible refine TH.w_cb ?_)
  | (with_reducible refine TH.w_call ?_)
  | ((with_reducible refine TH.w_aug (v := ?vv) ?hv ?_); (case hv => rfl))
  | (with_reducible refine TH.w_ip ?_)
  | (with_reducible refine TH.w_bm ?_)
  | (with_reducible refine TH.w_sl ?_)
  | (with_reducible refine TH.w_np ?_)
  | (with_reducible refine TH.w_pt ?_)
  | (with_reducible refine TH.w_pti ?_)
  | (with_reducible refine TH.w_gsub ?_)
  | (with_reducible refine TH.w_int ?_)
  | (with_reducible refine TH.w_tupT ?_)
  | (with_reducible refine TH.w_lstT ?_)
  | ((with_reducible show L2.rIxL _ _ _ _ _); (first | (refine TH.w_ixL (TH.sqL upd_same) rfl ?_) | (refine TH.w_ixL (TH.sqL (by assumption)) rfl ?_)))
  | ((with_reducible show L2.rSetL _ _ _ _ _); (first | (refine TH.w_set1 upd_same ?_) | (refine TH.w_set2 upd_same ?_) | (refine TH.w_set3 upd_same ?_) | (refine TH.w_set4 upd_same ?_) | (refine TH.w_set1 (by assumption) ?_) | (refine TH.w_set2 (by assumption) ?_) | (refine TH.w_set3 (by assumption) ?_) | (refine TH.w_set4 (by assumption) ?_)))
  | (with_reducible refine TH.w_lc ?_)
  | (with_reducible refine TH.w_itup ?_)
  | (with_reducible refine TH.w_ilist ?_)
  | (with_reducible refine TH.w_ienum ?_)
  | (with_reducible refine TH.w_izip ?_)
  | (with_reducible refine TH.w_irng1 ?_)
  | (with_reducible refine TH.w_irng2 ?_)
  | (with_reducible refine TH.w_for ?_)
  | (with_reducible refine TH.w_gcons ?_)
  | (with_reducible refine TH.w_gnil ?_)
  | (with_reducible refine TH.w_yes ?_)
  | (with_reducible refine TH.w_gtup2 upd_same ?_)
  | (with_reducible refine TH.w_gtup3 upd_same ?_)
  | (with_reducible refine TH.w_T ?_)
  | (with_reducible refine TH.w_F ?_))
local macro_rules | `(tactic| walk_at "rd") => `(tactic| repeat (first | walk_at "rd1" | (dsimp only [List.set, L2.wipe, List.map, TH.isInt, TH.isBool, TH.isTup, TH.isLst, TH.bo_f, TH.bo_t, TH.ba_f, TH.ba_t, TH.bn_t, TH.bn_f, List.append_nil, List.cons_append, List.nil_append])))

abbrev s_law_other_rows : Stmt := top 46
abbrev N_law_other_rows : List Str := ["hand", "p", "wide", "rows", "found", "turn", "extra", "at", "to", "many", "row", "value"]
theorem sc_law_other_rows : FnScope N_law_other_rows ["hand", "p", "wide", "rows"] (C8.fnScope s_law_other_rows) := ⟨rfl, rfl, rfl, by decide +kernel, rfl, by decide +kernel, by decide +kernel⟩

variable {P : Program} {w : World} {K : PySem.W.Frag} {mg : Str → Option Value} {base : Heap}
/-! _law_other_rows(hand, p, wide, rows) -/
section
open LA
variable {n : Nat} [NeZero n]
theorem rowsF_set (rs : List (List Int)) (i : Nat) (r : List Int) : rowsF n (rs.set i r) = (rowsF n rs).set i (toF n r) := by
  unfold rowsF
  rw [List.map_set]
theorem rowsF_get {rs : List (List Int)} {i : Nat} {r : List Int} (h : rs[i]? = some r) : (rowsF n rs)[i]? = some (toF n r) := by
  unfold rowsF
  rw [List.getElem?_map, h]
  rfl
theorem sumI_span {wide : Nat} {T : List (List (Fin n))} (hT : Wd wide T) : ∀ {rs : List (List Int)} {ms acc : List Int}, acc.length = wide → InS wide T (toF n acc) → (∀ r ∈ rs, r.length = wide ∧ InS wide T (toF n r)) → InS wide T (toF n (sumI n acc rs ms))
  | [], _, _, _, h, _ => by simpa [sumI] using h
  | _ :: _, [], _, _, h, _ => by simpa [sumI] using h
  | r :: rs, m :: ms, acc, hl, h, hr => by
    obtain ⟨r1, r2⟩ := hr r List.mem_cons_self
    unfold sumI
    refine sumI_span hT ?_ ?_ fun r' h' => hr r' (List.mem_cons_of_mem _ h')
    · split
      · exact hl
      · rw [iSub_len (by rw [r1, hl])]; exact hl
    · split
      · exact h
      · rw [toF_sub]
        exact inS_sub hT (by rw [toF_len, hl]) (by rw [toF_len, r1]) h r2
theorem sumI_rows {wide : Nat} {rs : List (List Int)} {ms : List Int} (h : ∀ r ∈ rs, r.length = wide) : InS wide (rowsF n rs) (toF n (sumI n (List.replicate wide 0) rs ms)) := by
  have hw := rowsF_wd (n := n) h
  refine sumI_span hw (by simp) ?_ fun r hr => ⟨h r hr, inS_mem hw (List.mem_map.mpr ⟨r, hr, rfl⟩)⟩
  rw [toF_zero]
  exact inS_zero hw
/-- rows of the same room -/
structure Same (n : Nat) [NeZero n] (wide : Nat) (rs os : List (List Int)) : Prop where
  inr : ∀ r ∈ os, Rin n wide r
  len : os.length = rs.length
  eqv : Eqv wide (rowsF n os) (rowsF n rs)
theorem Same.perm {wide : Nat} {rs os : List (List Int)} (h : ∀ r ∈ rs, Rin n wide r) (p : os.Perm rs) : Same n wide rs os := by
  have ho : ∀ r ∈ os, Rin n wide r := fun r hr => h r (p.mem_iff.mp hr)
  refine ⟨ho, p.length_eq, Eqv.mem (rowsF_wd fun r hr => (ho r hr).1) (rowsF_wd fun r hr => (h r hr).1) fun r => ?_⟩
  unfold rowsF
  exact (p.map (toF n)).mem_iff
theorem Same.scale {wide i : Nat} {rs os : List (List Int)} {r : List Int} {c : Int} (hc : Clk n) (h : Same n wide rs os) (hi : os[i]? = some r) (h0 : 0 < c) (h1 : c < n) : Same n wide rs (os.set i (iScale n c r)) := by
  have hr := h.inr r (List.mem_of_getElem? hi)
  refine ⟨fun x hx => ?_, by rw [List.length_set]; exact h.len, Eqv.trans ?_ h.eqv⟩
  · rcases List.mem_or_eq_of_mem_set hx with m | m
    · exact h.inr x m
    · rw [m]; exact scale_in hr.1
  · obtain ⟨t, ht⟩ := fin_inv hc (cF n c) (cF_nz ⟨h0, h1⟩)
    rw [rowsF_set, toF_scale]
    exact eqv_scale (t := t) (rowsF_wd fun r hr => (h.inr r hr).1) (rowsF_get hi) (by rw [Lean.Grind.CommSemiring.mul_comm]; exact ht)
theorem Same.less {wide i k : Nat} {rs os : List (List Int)} {r o : List Int} {c : Int} (h : Same n wide rs os) (hi : os[i]? = some r) (hk : os[k]? = some o) (ne : i ≠ k) : Same n wide rs (os.set i (iSub n r o c)) := by
  have hr := h.inr r (List.mem_of_getElem? hi)
  have ho := h.inr o (List.mem_of_getElem? hk)
  refine ⟨fun x hx => ?_, by rw [List.length_set]; exact h.len, Eqv.trans ?_ h.eqv⟩
  · rcases List.mem_or_eq_of_mem_set hx with m | m
    · exact h.inr x m
    · rw [m]; exact iSub_in n_pos hr.1 ho.1
  · rw [rowsF_set, toF_sub]
    exact eqv_less (rowsF_wd fun r hr => (h.inr r hr).1) (rowsF_get hi) (rowsF_get hk) ne
theorem Same.more {wide k : Nat} {rs os : List (List Int)} {ms : List Int} (hrs : ∀ r ∈ rs, Rin n wide r) (h : Same n wide rs os) :
    (∀ r ∈ os ++ List.replicate k (sumI n (List.replicate wide 0) rs ms), Rin n wide r) ∧ Eqv wide (rowsF n (os ++ List.replicate k (sumI n (List.replicate wide 0) rs ms))) (rowsF n rs) := by
  have hx : Rin n wide (sumI n (List.replicate wide 0) rs ms) := sumI_in n_pos (zero_in n_pos) hrs
  have ho := rowsF_wd (n := n) fun r hr => (h.inr r hr).1
  refine ⟨fun r hr => ?_, Eqv.trans ?_ h.eqv⟩
  · rcases List.mem_append.mp hr with m | m
    · exact h.inr r m
    · rw [(List.mem_replicate.mp m).2]; exact hx
  · have e : rowsF n (os ++ List.replicate k (sumI n (List.replicate wide 0) rs ms)) = rowsF n os ++ List.replicate k (toF n (sumI n (List.replicate wide 0) rs ms)) := by
      unfold rowsF
      rw [List.map_append, List.map_replicate]
    rw [e]
    refine eqv_more ho (fun x hx' => ?_) fun x hx' => ?_
    · rw [(List.mem_replicate.mp hx').2, toF_len]; exact hx.1
    · rw [(List.mem_replicate.mp hx').2]
      exact (h.eqv _ (by rw [toF_len]; exact hx.1)).mpr (sumI_rows fun r hr => (hrs r hr).1)
end
open LA in
def sp_other_rows (K : PySem.W.Frag) : Sp := fun vs H Q _ => ∃ (n : Nat) (_ : NeZero n) (v : V) (wide : Nat) (a : Addr) (xs : List V) (rs : List (List Int)), vs = [v, .int (n : Nat), .int (wide : Nat), .ref a] ∧ HandAt H v ∧ Clk n ∧ SqL K H a xs ∧ DpAll K H xs (rs.map row) ∧
  wide ≤ 1000 ∧ rs.length ≤ 200 ∧ (∀ r ∈ rs, Rin n wide r) ∧ ∀ (l : Addr) (H' : Hp) (ys : List V) (os : List (List Int)), Ex H H' → H' l = some (.lst ys) → DpAll K H' ys (os.map row) → os.length ≤ 200 → (∀ r ∈ os, Rin n wide r) → Eqv wide (rowsF n os) (rowsF n rs) → Q (.ref l) H'
theorem rows_perm {xs ys : List V} {H : Hp} {rs : List (List Int)} (p : ys.Perm xs) (h : DpAll K H xs (rs.map row)) : ∃ os : List (List Int), os.Perm rs ∧ DpAll K H ys (os.map row) := by
  induction p generalizing rs with
  | nil => cases rs with
    | nil => exact ⟨[], .nil, .nil⟩
    | cons r rs => cases h
  | cons x _ ih => cases rs with
    | nil => cases h
    | cons r rs => cases h with
      | cons h1 h2 =>
        obtain ⟨os, p1, p2⟩ := ih h2
        exact ⟨r :: os, .cons _ p1, .cons h1 p2⟩
  | swap x y _ => cases rs with
    | nil => cases h
    | cons r rs => cases rs with
      | nil => cases h with | cons _ h2 => cases h2
      | cons s rs => cases h with
        | cons h1 h2 => cases h2 with
          | cons h3 h4 => exact ⟨s :: r :: rs, .swap _ _ _, .cons h3 (.cons h1 h4)⟩
  | trans _ _ ih1 ih2 =>
    obtain ⟨os, p1, p2⟩ := ih2 h
    obtain ⟨os', p3, p4⟩ := ih1 p2
    exact ⟨os', p3.trans p1, p4⟩
open LA in
theorem ok_law_other_rows {f : Addr} {fd : FuncData} (F : C8.Def K mg "_law_other_rows" s_law_other_rows f fd) (b : Binds K fd ["hand", "p", "wide", "rows"] []) (T : Txt mg)
    (c_law_mixed : C8.Cal P w K mg base 2 "_law_mixed" (sp_mixed K) []) (c_law_draw : C8.Cal P w K mg base 1 "_law_draw" (sp_draw K) []) (c_law_less : C8.Cal P w K mg base 1 "_law_less" (sp_law_less K) []) (c_law_summed : C8.Cal P w K mg base 2 "_law_summed" (sp_summed K) []) : C8.Cal P w K mg base 3 "_law_other_rows" (sp_other_rows K) [] := by
  refine C8.cal0 F b .nil sc_law_other_rows (fun vs H Q E h => ?_) (fun cdv A outer s H vs Q E hr h => ?_)
  · obtain ⟨n, _, v, wide, a, xs, rs, rfl, _⟩ := h
    rfl
  · obtain ⟨n, inst, v, wide, a, xs, rs, rfl, hv, hc, ha, hda, hw, hl, hrs, q⟩ := h
    have n2 := hc.two
    have nm := hc.le
    have hxl : xs.length = rs.length := by rw [dpa_len hda, List.length_map]
    refine ⟨_, (pss_cons (ps_set (i := 4) sc_law_other_rows.nd rfl (Or.inl rfl) (C8.pe_c c_law_mixed hr (by first | decide | exact Nat.le_refl _) (by rfl) (pa_cons (pv 0) (pa_cons (pv 3) pa_nil))))
      (pss_cons (ps_for PassesOwn.never rfl (pi_range1 (by rfl) T.b_range (pa_cons pe_int pa_nil)) (pg_name (i := 5) sc_law_other_rows.nd rfl (Or.inl rfl) (Or.inr rfl)) (pss_one (ps_if (pt_cmpR op_gt (pe_callB (TH.kcall_len (K := K)) (by rfl) T.b_len (by decide +kernel) (pa_cons (pv 4) pa_nil)) pe_int (nomark _)) (pss_cons (ps_par (i := 7) (j := 8) rfl sc_law_other_rows.nd rfl rfl (by decide) rfl rfl (pa_cons (C8.pe_c c_law_draw hr (by first | decide | exact Nat.le_refl _) (by rfl) (pa_cons (pv 0) (pa_cons (pe_callB (TH.kcall_len (K := K)) (by rfl) T.b_len (by decide +kernel) (pa_cons (pv 4) pa_nil)) pa_nil))) (pa_cons (C8.pe_c c_law_draw hr (by first | decide | exact Nat.le_refl _) (by rfl) (pa_cons (pv 0) (pa_cons (pe_callB (TH.kcall_len (K := K)) (by rfl) T.b_len (by decide +kernel) (pa_cons (pv 4) pa_nil)) pa_nil))) pa_nil)) (by rfl))
      (pss_one (ps_if (pt_cmpR op_eq (pv 7) (pv 8) (nomark _)) (pss_cons (ps_set (i := 9) sc_law_other_rows.nd rfl (Or.inr rfl) (pe_op op_add pe_int (C8.pe_c c_law_draw hr (by first | decide | exact Nat.le_refl _) (by rfl) (pa_cons (pv 0) (pa_cons (pe_op op_sub (pv 1) pe_int) pa_nil)))))
      (pss_one (ps_asg (pe_callTy (TH.kcall_tuple (K := K)) (by rfl) T.b_tuple (by decide +kernel) (pa_cons (pe_lc (own := [("value", 11)]) (g := gName 11) (tt := tYes) rfl sc_law_other_rows.nd (TH.kpi_tup (K := K) (pe_ix (TH.kix_list (K := K)) (pv 4) (pv 7) (fun _ _ => rfl))) (blkOk_by (own := [("value", 11)]) (N := N_law_other_rows) (sc := C8.fnScope s_law_other_rows) (by decide +kernel)) (fun _ _ _ _ _ => (pg_name (i := 11) sc_law_other_rows.nd rfl (Or.inl rfl) (Or.inr rfl))) (fun _ _ _ _ _ => pts_nil) (fun _ _ _ _ _ => (pe_op op_mod (pe_callTy call_int1 (by rfl) T.b_int (by decide +kernel) (pa_cons (pe_op op_mul (pv 11) (pv 9)) pa_nil)) (pv 1)))) pa_nil)) (pg_sub (pv 4) (pv 7) set_list)))) (pss_one (ps_asg (C8.pe_c c_law_less hr (by first | decide | exact Nat.le_refl _) (by rfl) (pa_cons (pv 1) (pa_cons (pe_ix (TH.kix_list (K := K)) (pv 4) (pv 7) (fun _ _ => rfl)) (pa_cons (pe_ix (TH.kix_list (K := K)) (pv 4) (pv 8) (fun _ _ => rfl)) (pa_cons (C8.pe_c c_law_draw hr (by first | decide | exact Nat.le_refl _) (by rfl) (pa_cons (pv 0) (pa_cons (pv 1) pa_nil))) pa_nil))))) (pg_sub (pv 4) (pv 7) set_list)))))) pss_nil)))
      (pss_cons (ps_set (i := 6) sc_law_other_rows.nd rfl (Or.inl rfl) (C8.pe_c c_law_summed hr (by first | decide | exact Nat.le_refl _) (by rfl) (pa_cons (pv 1) (pa_cons (pv 2) (pa_cons (pv 3) (pa_cons (pe_lc (own := [("row", 10)]) (g := gName 10) (tt := tYes) rfl sc_law_other_rows.nd (TH.kpi_list (K := K) (pv 3)) (blkOk_by (own := [("row", 10)]) (N := N_law_other_rows) (sc := C8.fnScope s_law_other_rows) (by decide +kernel)) (fun _ _ _ _ _ => (pg_name (i := 10) sc_law_other_rows.nd rfl (Or.inl rfl) (Or.inr rfl))) (fun _ _ _ _ _ => pts_nil) (fun _ _ _ _ _ => (C8.pe_c c_law_draw hr (by first | decide | exact Nat.le_refl _) (by rfl) (pa_cons (pv 0) (pa_cons (pv 1) pa_nil))))) pa_nil))))))
      (pss_one (ps_ret (pe_op op_cat (pv 4) (pe_op op_rep (pe_lst (pa_cons (pv 6) pa_nil)) (pe_callB (call_min2 rfl) (by rfl) T.b_min (by decide +kernel) (pa_cons (C8.pe_c c_law_draw hr (by first | decide | exact Nat.le_refl _) (by rfl) (pa_cons (pv 0) (pa_cons pe_int pa_nil))) (pa_cons (pe_op op_sub pe_int (pe_callB (TH.kcall_len (K := K)) (by rfl) T.b_len (by decide +kernel) (pa_cons (pv 4) pa_nil))) pa_nil)))))))))), ?_⟩
    refine w_start (σ' := [some v, some (.int n), some (.int wide), some (.ref a), none, none, none, none, none, none, none, none]) rfl ?_
    walk_at "rd"
    refine ⟨v, a, xs, rfl, hv, ha, by omega, fun g H1 ys e1 hg hgl hp => ?_⟩
    walk_at "rd"
    obtain ⟨os, p1, p2⟩ := rows_perm hp (e1.dpa hda)
    refine ⟨3, rfl, by omega, by omega, ?_⟩
    refine for_go walk_rng (fun i σ H' => Ex H H' ∧ ∃ (y5 y6 y7 y8 y9 y10 y11 : Option V) (us : List V) (os : List (List Int)), σ = [some v, some (.int n), some (.int wide), some (.ref a), some (.ref g), y5, y6, y7, y8, y9, y10, y11] ∧ H' g = some (.lst us) ∧ DpAll K H' us (os.map row) ∧ Same n wide rs os)
      ⟨e1, _, _, _, _, _, _, _, ys, os, rfl, hgl, p2, Same.perm hrs p1⟩ (fun _ _ _ _ _ => trivial) (fun i x σ H' H'' hi p y => ?_) (fun σ H' p => ?_)
    · obtain ⟨e, y5, y6, y7, y8, y9, y10, y11, us, os, rfl, h1, d1, hsame⟩ := p
      obtain ⟨rfl, rfl⟩ := y
      have hlen := hsame.len
      have hul : us.length = os.length := by rw [dpa_len d1, List.length_map]
      walk_at "rd"
      refine ⟨g, _, rfl, .inl (sqL h1), ?_⟩
      walk_at "rd"
      refine w_dec (fun h0 => ?_) (fun h0 => ?_)
      · walk_at "rd"
        refine ⟨g, _, rfl, .inl (sqL h1), ?_⟩
        walk_at "rd"
        refine ⟨v, _, rfl, hv.ex e, by omega, by omega, fun at' a0 a1 => ?_⟩
        walk_at "rd"
        refine ⟨g, _, rfl, .inl (sqL h1), ?_⟩
        walk_at "rd"
        refine ⟨v, _, rfl, hv.ex e, by omega, by omega, fun to t0 t1 => ?_⟩
        obtain ⟨at', rfl⟩ : ∃ k : Nat, at' = k := ⟨at'.toNat, by omega⟩
        obtain ⟨to, rfl⟩ : ∃ k : Nat, to = k := ⟨to.toNat, by omega⟩
        have hu1 : at' < us.length := by omega
        have hu2 : to < us.length := by omega
        have hg1 := List.getElem?_eq_getElem hu1
        have hg2 := List.getElem?_eq_getElem hu2
        generalize us[at'] = w1 at hg1
        generalize us[to] = w2 at hg2
        obtain ⟨r1, hr1, hd1⟩ := rowsAt_get d1 hg1
        obtain ⟨r2, hr2, hd2⟩ := rowsAt_get d1 hg2
        have hrin1 := hsame.inr r1 (List.mem_of_getElem? hr1)
        have hl1 := hrin1.1
        obtain ⟨b1, rfl, hb1⟩ := dp_row hd1
        walk_at "rd"
        have fin : ∀ (H3 : Hp) (u : V) (r : List Int) (R : Hp → Prop), Ex H'' H3 → Dp K H3 u (row r) → Same n wide rs (os.set at' r) → (∀ us' H4, Ex H H4 → H4 g = some (.lst us') → DpAll K H4 us' ((os.set at' r).map row) → R H4) → rSetL (.ref g) (.int at') u H3 R := by
          intro H3 u r R e3 hu hs k
          have hg3 := e3 _ _ h1
          refine w_setN hg3 hu1 (k _ _ ((e.trans e3).mut hg) upd_same ?_)
          rw [List.map_set]
          exact dpa_set ((Tx.updL hg3).dp (imm_row r) hu) _ ((Tx.updL hg3).dpa (imm_rows os) (e3.dpa d1))
        refine w_dec (fun he => ?_) (fun he => ?_)
        · walk_at "rd"
          refine ⟨v, _, rfl, hv.ex e, by omega, by omega, fun many m0 m1 => ?_⟩
          walk_at "rd"
          refine w_ixL (sqL h1) (atI_at hg1) ?_
          refine ⟨b1, rfl, ⟨_, hb1⟩, fun D2 hD2 => ?_⟩
          refine lc_data (K := K) walk_tup (fun _ => true) (fun j => .int (r1.getD j 0 * (1 + many) % n)) (fun _ => rfl) (fun H' e => e.t hb1) hD2 (by rw [List.length_map]; omega) (fun j x H4 H5 hj e4 y R R0 k _ => ?_) (fun H4 ws e4 hw4 hda4 => ?_)
          · obtain ⟨rfl, hx⟩ := y
            obtain ⟨m, hm, rfl⟩ := ints_at hx
            walk_at "rd"
            refine ⟨rfl, ?_⟩
            walk_at "rd"
            refine k rfl _ _ (Ex.refl _) ?_
            rw [getD_of hm]
            exact .int _
          · walk_at "rd"
            rw [made_all, List.length_map, range_map 0 (fun x => PyData.int (x * (1 + many) % n))] at hda4
            have e7 : r1.map (fun x => PyData.int (x * (1 + many) % n)) = (iScale n (1 + many) r1).map PyData.int := by
              unfold iScale
              rw [List.map_map]
              refine List.map_congr_left fun x _ => ?_
              show PyData.int _ = PyData.int ((1 + many) * x % n)
              rw [Int.mul_comm]
            rw [e7] at hda4
            refine ⟨D2, ws, rfl, .inl ⟨sqL hw4, fun ha5 hha5 => ?_⟩⟩
            have hdh : Dp K (upd H4 ha5 (.tup ws)) (.ref ha5) (row (iScale n (1 + many) r1)) := .tup (sqT upd_same) ((Ex.new hha5).dpa hda4)
            walk_at "rd"
            refine fin _ _ _ _ (e4.trans (Ex.new hha5)) hdh (hsame.scale hc hr1 (by omega) (by omega)) fun us' H6 e6 hg6 hd6 => ?_
            exact ⟨e6, _, _, _, _, _, _, _, us', _, rfl, hg6, hd6, hsame.scale hc hr1 (by omega) (by omega)⟩
        · have hne : at' ≠ to := fun z => he (by rw [z])
          walk_at "rd"
          refine w_ixL (sqL h1) (atI_at hg1) ?_
          walk_at "rd"
          refine w_ixL (sqL h1) (atI_at hg2) ?_
          walk_at "rd"
          refine ⟨v, _, rfl, hv.ex e, by omega, by omega, fun many m0 m1 => ?_⟩
          walk_at "rd"
          refine ⟨_, _, _, _, r1, r2, rfl, hd1, hd2, by omega, by omega, by omega, by omega, fun u H3 e3 hu => ?_⟩
          walk_at "rd"
          refine fin _ _ _ _ e3 hu (hsame.less hr1 hr2 hne) fun us' H6 e6 hg6 hd6 => ?_
          exact ⟨e6, _, _, _, _, _, _, _, us', _, rfl, hg6, hd6, hsame.less hr1 hr2 hne⟩
      · walk_at "rd"
        exact ⟨e, _, _, _, _, _, _, _, us, os, rfl, h1, d1, hsame⟩
    · obtain ⟨e, y5, y6, y7, y8, y9, y10, y11, us, os, rfl, h1, d1, hsame⟩ := p
      have hlen := hsame.len
      have hul : us.length = os.length := by rw [dpa_len d1, List.length_map]
      walk_at "rd"
      refine ⟨a, rfl, ⟨_, e.l ha⟩, fun Dl hD => ?_⟩
      refine lc_some (K := K) walk_list (fun _ d => ∃ x, d = PyData.int x ∧ 0 ≤ x ∧ x < n) (fun i d hd => by obtain ⟨x, rfl, _⟩ := hd; rfl) (fun H' e2 => (e.trans e2).l ha) hD (by omega) (fun i x H2 H'' hi e2 y R k => ?_) (fun H2 ws ds e2 hws hl2 hφ hda' => ?_)
      · obtain ⟨rfl, hx⟩ := y
        walk_at "rd"
        refine ⟨rfl, ?_⟩
        walk_at "rd"
        refine ⟨v, _, rfl, hv.ex (e.trans e2), by omega, by omega, fun r r0 r1 => ?_⟩
        exact k _ _ _ (Ex.refl _) ⟨_, rfl, by omega, by omega⟩ (.int _)
      · obtain ⟨ms, rfl, hms⟩ := rin_of (p := n) rfl hφ
        have e5 := dpa_ints_inv hda'
        subst e5
        walk_at "rd"
        refine ⟨n, wide, a, Dl, xs, rs, ms, rfl, (e.trans e2).l ha, (e.trans e2).dpa hda, sqL hws, by omega, hw, by omega, fun r hr => (hrs r hr).1, fun m hm => ?_, fun u H3 e3 hu => ?_⟩
        · have := hms.2 m hm
          omega
        · walk_at "rd"
          refine w_dispT (by simp) fun D5 hD5 => ?_
          walk_at "rd"
          have e23 := e2.trans (e3.trans (Ex.new (o := .lst [u]) hD5))
          refine ⟨v, _, rfl, hv.ex (e.trans e23), by omega, by omega, fun r r0 r1 => ?_⟩
          walk_at "rd"
          refine ⟨g, _, rfl, .inl (sqL (e23 _ _ h1)), ?_⟩
          walk_at "rd"
          refine ⟨_, _, rfl, ?_⟩
          have hk : ∃ k : Nat, (if 200 - (us.length : Int) < r then 200 - (us.length : Int) else r) = k ∧ k ≤ 1 ∧ us.length + k ≤ 200 := by
            refine ⟨(if 200 - (us.length : Int) < r then 200 - (us.length : Int) else r).toNat, ?_, ?_, ?_⟩ <;> split <;> omega
          obtain ⟨k, hk, k1, k2⟩ := hk
          rw [hk]
          refine ⟨D5, k, [u], rfl, rfl, upd_same, by omega, by omega, small2 (by simp; omega), fun D6 hD6 => ?_⟩
          rw [Int.toNat_natCast, rep_one]
          have hu6 : Dp K (upd (upd H3 D5 (.lst [u])) D6 (.lst (List.replicate k u))) u _ := ((Ex.new (o := .lst [u]) hD5).trans (Ex.new (o := .lst (List.replicate k u)) hD6)).dp hu
          have e6 := e23.trans (Ex.new (o := .lst (List.replicate k u)) hD6)
          refine ⟨g, D6, _, _, rfl, rfl, e6 _ _ h1, upd_same, small2 (by rw [List.length_replicate]; omega), fun D7 hD7 => ?_⟩
          obtain ⟨m1, m2⟩ := hsame.more (k := k) (ms := ms) hrs
          refine q D7 _ _ _ (e.trans (e6.trans (Ex.new hD7))) upd_same ?_ ?_ m1 m2
          · rw [List.map_append, List.map_replicate]
            exact (Ex.new hD7).dpa (dpa_append (e6.dpa d1) (dpa_rep hu6 k))
          · rw [List.length_append, List.length_replicate]
            omega
end TK

namespace TK
open PySem PySem.Spec PyProof.Rows L2 TH
local macro_rules | `(tactic| walk_at "rd1") => `(tactic| first
  | (with_reducible refine TH.w_seq ?_)
  | (with_reducible refine TH.w_asg ?_)
  | (with_reducible refine TH.w_ret ?_)
  | (with_reducible refine TH.w_drop ?_)
  | (with_reducible refine TH.w_ifS ?_)
  | (with_reducible refine TH.w_next ?_)
  | ((with_reducible refine TH.w_var (v := ?vv) ?hv ?_); (case hv => rfl))
  | (with_reducible refine TH.w_c ?_)
  | ((with_reducible refine TH.w_gname (σ' := ?ss) ?hs ?_); (case hs => (dsimp only [List.set]; rfl)))
  | (with_reducible refine TH.w_op ?_)
  | (with_reducible refine TH.w_un ?_)
  | (with_reducible refine TH.w_chain ?_)
  | (with_reducible refine TH.w_I0 ?_)
  | ((with_reducible refine TH.w_I ?hm ?_); (case hm => first | (exact TH.CMul.l (by omega) (by omega)) | (exact TH.CMul.r (by omega) (by omega)) | (exact TH.CDiv.mk (by omega) (by omega)) | (show (0 : Int) < _; omega) | (exact TH.CPow.mk (by omega) (by omega) (by decide))))
  | (with_reducible refine TH.w_U ?_)
  | (with_reducible refine TH.w_eqI ?_)
  | (with_reducible refine TH.w_neI ?_)
  | (with_reducible refine TH.w_eqB ?_)
  | (with_reducible refine TH.w_isN ?_)
  | (with_reducible refine TH.w_nil ?_)
  | (with_reducible refine TH.w_cons ?_)
  | (with_reducible refine TH.w_test ?_)
  | (with_reducible refine TH.w_B ?_)
  | (with_reducible refine TH.w_bl ?_)
  | (with_reducible refine TH.w_and ?_)
  | (with_reducible refine TH.w_or ?_)
  | (with_reducible refine TH.w_not ?_)
  | (with_reducible refine TH.w_andV ?_)
  | (with_reducible refine TH.w_orV ?_)
  | (with_reducible refine TH.w_notV ?_)
  | (with_reducible refine TH.w_if ?_)
  | (with_reducible refine TH.w_parT ?_)
  | (with_reducible refine TH.w_par ?_)
  | (with_reducible refine TH.w_parT3 ?_)
  | (with_reducible refine TH.w_par3 ?_)
  | (with_reducible refine TH.w_cb ?_)
  | (with_reducible refine TH.w_call ?_)
  | ((with_reducible refine TH.w_aug (v := ?vv) ?hv ?_); (case hv => rfl))
  | (with_reducible refine TH.w_ip ?_)
  | (with_reducible refine TH.w_bm ?_)
  | (with_reducible refine TH.w_sl ?_)
  | (with_reducible refine TH.w_np ?_)
  | (with_reducible refine TH.w_pt ?_)
  | (with_reducible refine TH.w_pti ?_)
  | (with_reducible refine TH.w_gsub ?_)
  | (with_reducible refine TH.w_int ?_)
  | (with_reducible refine TH.w_tupT ?_)
  | (with_reducible refine TH.w_lstT ?_)
  | ((with_reducible show L2.rIxL _ _ _ _ _); (first | (refine TH.w_ixL (TH.sqL upd_same) rfl ?_) | (refine TH.w_ixL (TH.sqL (by assumption)) rfl ?_)))
  | ((with_reducible show L2.rSetL _ _ _ _ _); (first | (refine TH.w_set1 upd_same ?_) | (refine TH.w_set2 upd_same ?_) | (refine TH.w_set3 upd_same ?_) | (refine TH.w_set4 upd_same ?_) | (refine TH.w_set1 (by assumption) ?_) | (refine TH.w_set2 (by assumption) ?_) | (refine TH.w_set3 (by assumption) ?_) | (refine TH.w_set4 (by assumption) ?_)))
  | (with_reducible refine TH.w_lc ?_)
  | (with_reducible refine TH.w_itup ?_)
  | (with_reducible refine TH.w_ilist ?_)
  | (with_reducible refine TH.w_ienum ?_)
  | (with_reducible refine TH.w_izip ?_)
  | (with_reducible refine TH.w_irng1 ?_)
  | (with_reducible refine TH.w_irng2 ?_)
  | (with_reducible refine TH.w_for ?_)
  | (with_reducible refine TH.w_gcons ?_)
  | (with_reducible refine TH.w_gnil ?_)
  | (with_reducible refine TH.w_yes ?_)
  | (with_reducible refine TH.w_gtup2 upd_same ?_)
  | (with_reducible refine TH.w_gtup3 upd_same ?_)
  | (with_reducible refine TH.w_dput ?_)
  | (with_reducible refine TH.w_lock ?_)
  | (with_reducible refine TH.w_ikeys ?_)
  | (with_reducible refine TH.w_iitems ?_)
  | (with_reducible refine TH.w_dispT1 ?_)
  | (with_reducible refine TH.w_dnewT ?_)
  | (with_reducible refine TH.w_dnewK ?_)
  | (with_reducible refine TH.w_fld ?_)
  | (with_reducible refine TH.w_meth ?_)
  | (with_reducible refine TH.w_make ?_)
  | (with_reducible refine TH.w_dget2 ?_)
  | (with_reducible refine TH.w_revL ?_)
  | (with_reducible refine TH.w_T ?_)
  | (with_reducible refine TH.w_F ?_))
local macro_rules | `(tactic| walk_at "rd") => `(tactic| repeat (first | walk_at "rd1" | (dsimp only [List.set, L2.wipe, List.map, TH.isInt, TH.isBool, TH.isTup, TH.isLst, TH.bo_f, TH.bo_t, TH.ba_f, TH.ba_t, TH.bn_t, TH.bn_f, List.append_nil, List.cons_append, List.nil_append])))

abbrev s_law_all_mixtures : Stmt := top 43
abbrev N_law_all_mixtures : List Str := ["p", "wide", "rows", "found", "row", "more", "one", "many"]
theorem sc_law_all_mixtures : FnScope N_law_all_mixtures ["p", "wide", "rows"] (C8.fnScope s_law_all_mixtures) := ⟨rfl, rfl, rfl, by decide +kernel, rfl, by decide +kernel, by decide +kernel⟩

variable {P : Program} {w : World} {K : PySem.W.Frag} {mg : Str → Option Value} {base : Heap}
/-! _law_all_mixtures(p, wide, rows) -/
/-- all rows below p -/
def allRows (n : Nat) : Nat → List (List Int)
  | 0 => [[]]
  | w + 1 => (allRows n w).flatMap fun r => (List.range n).map fun x => ((x : Nat) : Int) :: r
theorem flat_len {α β : Type} {n : Nat} (f : α → List β) (hf : ∀ a, (f a).length = n) : ∀ L : List α, (L.flatMap f).length = L.length * n
  | [] => by simp
  | a :: L => by rw [List.flatMap_cons, List.length_append, hf, flat_len f hf L, List.length_cons, Nat.succ_mul, Nat.add_comm]
theorem allRows_len (n : Nat) : ∀ w, (allRows n w).length = n ^ w
  | 0 => rfl
  | w + 1 => by
    unfold allRows
    rw [flat_len _ (fun r => by rw [List.length_map, List.length_range]), allRows_len n w, Nat.pow_succ]
theorem mem_allRows {n : Nat} : ∀ {w : Nat} {r : List Int}, Rin n w r → r ∈ allRows n w
  | 0, r, h => by
    have : r = [] := List.length_eq_zero_iff.mp h.1
    rw [this]
    exact List.mem_singleton.mpr rfl
  | w + 1, [], h => by cases h.1
  | w + 1, x :: r, h => by
    have hx := h.2 x List.mem_cons_self
    refine List.mem_flatMap.mpr ⟨r, mem_allRows ⟨by have := h.1; simpa using this, fun y hy => h.2 y (List.mem_cons_of_mem _ hy)⟩, List.mem_map.mpr ⟨x.toNat, List.mem_range.mpr (by omega), ?_⟩⟩
    rw [show ((x.toNat : Nat) : Int) = x by omega]
theorem rows_few {n w : Nat} {ks : List (List Int)} (h : ks.Nodup) (hr : ∀ r ∈ ks, Rin n w r) (hn : n < 8) (hw : w < 8) : ks.length < 1000000 := by
  have h1 := LA.nodup_le h fun r hr' => mem_allRows (hr r hr')
  rw [allRows_len] at h1
  have h2 : n ^ w ≤ 7 ^ w := Nat.pow_le_pow_left (by omega) w
  have h3 : 7 ^ w ≤ 7 ^ 7 := Nat.pow_le_pow_right (by omega) (by omega)
  have h4 : 7 ^ 7 = 823543 := by decide
  omega
section
open LA
variable {n : Nat} [NeZero n]
/-- the mixtures of these rows -/
def Mix (n : Nat) [NeZero n] (wide : Nat) (rs ks : List (List Int)) : Prop := ks.Nodup ∧ ∀ v, v ∈ ks ↔ Rin n wide v ∧ InS wide (rowsF n rs) (toF n v)
theorem mix_nil {wide : Nat} : Mix n wide [] [List.replicate wide 0] := ⟨by simp, fun v => by
  rw [List.mem_singleton]
  constructor
  · rintro rfl
    exact ⟨zero_in n_pos, toF_zero wide⟩
  · intro ⟨h1, h2⟩
    refine toF_inj h1 (zero_in n_pos) ?_
    rw [toF_zero]
    exact h2⟩
/-- what the first a keys, and many more of the next, give -/
def Part (n : Nat) (r : List Int) (ks : List (List Int)) (j mm : Nat) (ms : List (List Int)) : Prop := ms.Nodup ∧ ∀ v, v ∈ ms ↔ ∃ (a m : Nat) (o : List Int), (a < j ∧ m < n ∨ a = j ∧ m < mm) ∧ ks[a]? = some o ∧ v = iSub n o r m
theorem part_start {r : List Int} {ks : List (List Int)} : Part n r ks 0 0 [] := ⟨.nil, fun v => ⟨fun h => (nomatch h), fun ⟨a, m, o, h, _⟩ => by omega⟩⟩
theorem part_turn {r o : List Int} {ks ms : List (List Int)} {j mm : Nat} (ho : ks[j]? = some o) (hm : mm < n) (h : Part n r ks j mm ms) : Part n r ks j (mm + 1) (insR ms (iSub n o r mm)) := ⟨nodup_insR h.1, fun v => by
  rw [mem_insR, h.2 v]
  constructor
  · rintro (⟨a, m, o', h1, h2, h3⟩ | e)
    · exact ⟨a, m, o', by omega, h2, h3⟩
    · exact ⟨j, mm, o, by omega, ho, e⟩
  · intro ⟨a, m, o', h1, h2, h3⟩
    by_cases e : a = j ∧ m = mm
    · obtain ⟨rfl, rfl⟩ := e
      rw [ho] at h2
      cases h2
      exact .inr h3
    · exact .inl ⟨a, m, o', by omega, h2, h3⟩⟩
theorem part_next {r : List Int} {ks ms : List (List Int)} {j : Nat} (h : Part n r ks j n ms) : Part n r ks (j + 1) 0 ms := ⟨h.1, fun v => (h.2 v).trans ⟨fun ⟨a, m, o, h1, h2⟩ => ⟨a, m, o, by omega, h2⟩, fun ⟨a, m, o, h1, h2⟩ => ⟨a, m, o, by omega, h2⟩⟩⟩
theorem part_in {wide : Nat} {r : List Int} {ks ms : List (List Int)} {j mm : Nat} (hr : Rin n wide r) (hk : ∀ o ∈ ks, Rin n wide o) (h : Part n r ks j mm ms) : ∀ v ∈ ms, Rin n wide v := fun v hv => by
  obtain ⟨a, m, o, _, h2, rfl⟩ := (h.2 v).mp hv
  exact iSub_in n_pos (hk o (List.mem_of_getElem? h2)).1 hr.1
theorem part_end {wide : Nat} {r : List Int} {rs ks ms : List (List Int)} (hr : Rin n wide r) (hrs : ∀ x ∈ rs, Rin n wide x) (hk : Mix n wide rs ks) (h : Part n r ks ks.length 0 ms) : Mix n wide (r :: rs) ms := ⟨h.1, fun v => by
  have hS : Wd wide (rowsF n (r :: rs)) := rowsF_wd fun x hx => by
    rcases List.mem_cons.mp hx with rfl | m
    · exact hr.1
    · exact (hrs x m).1
  have hT : Wd wide (rowsF n rs) := rowsF_wd fun x hx => (hrs x hx).1
  have lr : (toF n r).length = wide := by rw [toF_len]; exact hr.1
  constructor
  · intro hv
    obtain ⟨a, m, o, _, h2, rfl⟩ := (h.2 v).mp hv
    obtain ⟨h3, h4⟩ := (hk.2 o).mp (List.mem_of_getElem? h2)
    have lo : (toF n o).length = wide := by rw [toF_len]; exact h3.1
    refine ⟨iSub_in n_pos h3.1 hr.1, ?_⟩
    rw [toF_sub]
    exact inS_sub hS lo lr (inS_cons hS lo h4) (inS_mem hS List.mem_cons_self)
  · intro ⟨h1, c, hc⟩
    have lv : (toF n v).length = wide := by rw [toF_len]; exact h1.1
    obtain ⟨ci, c0, c1, ec⟩ := cF_all c
    have ho : iSub n v r ci ∈ ks := (hk.2 _).mpr ⟨iSub_in n_pos h1.1 hr.1, by rw [toF_sub, ec]; exact hc⟩
    obtain ⟨a, ha⟩ := List.mem_iff_getElem?.mp ho
    have hal := (List.getElem?_eq_some_iff.mp ha).1
    have m0 := Int.emod_nonneg (-ci) (show (n : Int) ≠ 0 by have := n_pos (n := n); omega)
    have m1 := Int.emod_lt_of_pos (-ci) (n_pos (n := n))
    refine (h.2 v).mpr ⟨a, ((-ci) % n).toNat, _, .inl ⟨hal, by omega⟩, ha, ?_⟩
    rw [show ((((-ci) % (n : Int)).toNat : Nat) : Int) = (-ci) % n by omega]
    refine toF_inj h1 (iSub_in n_pos (iSub_in n_pos h1.1 hr.1).1 hr.1) ?_
    rw [toF_sub, toF_sub, cF_mod, cF_neg]
    apply ext'
    · rw [lv, sub_len (sub_len lv lr) lr]
    · intro j
      rw [sub_at (by rw [sub_len lv lr, lr]), sub_at (by rw [lv, lr])]
      grind⟩
theorem mix_same {wide : Nat} {rs os ks ls : List (List Int)} (e : Eqv wide (rowsF n rs) (rowsF n os)) (h : Mix n wide rs ks) (h' : Mix n wide os ls) : ks.Perm ls := by
  have hm : ∀ v, v ∈ ks ↔ v ∈ ls := fun v => by
    rw [h.2 v, h'.2 v]
    exact ⟨fun ⟨a, b⟩ => ⟨a, (e _ (by rw [toF_len]; exact a.1)).mp b⟩, fun ⟨a, b⟩ => ⟨a, (e _ (by rw [toF_len]; exact a.1)).mpr b⟩⟩
  exact nodup_perm h.1 (fun x hx => (hm x).mp hx) (nodup_le h'.1 fun x hx => (hm x).mpr hx)
end
open LA in
def sp_mixtures (K : PySem.W.Frag) : Sp := fun vs H Q _ => ∃ (n : Nat) (_ : NeZero n) (wide : Nat) (a : Addr) (xs : List V) (rs : List (List Int)), vs = [.int (n : Nat), .int (wide : Nat), .ref a] ∧ Clk n ∧ n < 8 ∧ wide < 8 ∧ SqL K H a xs ∧ DpAll K H xs (rs.map row) ∧
  (∀ r ∈ rs, Rin n wide r) ∧ ∀ (l : Addr) (H' : Hp) (ws : List V) (ks : List (List Int)), Ex H H' → H' l = some (.lst ws) → DpAll K H' ws ((ks.map row).mergeSort (PySem.W.dataLe false id)) → Mix n wide rs.reverse ks → Q (.ref l) H'
/-- _law_less, its tuple told plainly -/
def sp_less_new (K : PySem.W.Frag) : Sp := fun vs H Q _ => ∃ (p c : Int) (v u : V) (ns ms : List Int), vs = [.int p, v, u, .int c] ∧ Dp K H v (row ns) ∧ Dp K H u (row ms) ∧ 0 < p ∧ -1000000 ≤ c ∧ c ≤ 1000000 ∧ ns.length ≤ 1000000 ∧ ∀ a H', Ex H H' → H' a = some (.tup ((iSub p ns ms c).map V.int)) → Q (.ref a) H'
theorem ok_law_less_new {f : Addr} {fd : FuncData} (F : C8.Def K mg "_law_less" s_law_less f fd) (b : Binds K fd ["p", "row", "other", "many"] []) (T : Txt mg) : C8.Cal P w K mg base 1 "_law_less" (sp_less_new K) [] := by
  refine C8.cal0 F b .nil sc_law_less (fun vs H Q E h => ?_) (fun cdv A outer s H vs Q E hr h => ?_)
  · obtain ⟨p, c, v, u, ns, ms, rfl, _⟩ := h
    rfl
  · obtain ⟨p, c, v, u, ns, ms, rfl, hd, hd2, p0, c0, c1, hl, q⟩ := h
    obtain ⟨a, rfl, ha⟩ := dp_row hd
    obtain ⟨b, rfl, hb⟩ := dp_row hd2
    refine ⟨_, (pss_one (ps_ret (pe_callTy (TH.kcall_tuple (K := K)) (by rfl) T.b_tuple (by decide +kernel) (pa_cons (pe_lc (own := [("one", 4), ("two", 5)]) (g := gTup K 2 (gCons (gName 4) (gCons (gName 5) gNil))) (tt := tYes) rfl sc_law_less.nd (TH.kpi_zip (K := K) (by rfl) T.b_zip (pa_cons (pv 1) (pa_cons (pv 2) pa_nil))) (blkOk_by (own := [("one", 4), ("two", 5)]) (N := N_law_less) (sc := C8.fnScope s_law_less) (by decide +kernel)) (fun _ _ _ _ _ => (TH.kpg_tup (K := K) (n := 2) rfl (pgs_cons (pg_name (i := 4) sc_law_less.nd rfl (Or.inl rfl) (Or.inr rfl)) (pgs_cons (pg_name (i := 5) sc_law_less.nd rfl (Or.inl rfl) (Or.inr rfl)) pgs_nil)))) (fun _ _ _ _ _ => pts_nil) (fun _ _ _ _ _ => (pe_op op_mod (pe_callTy call_int1 (by rfl) T.b_int (by decide +kernel) (pa_cons (pe_op op_sub (pv 4) (pe_op op_mul (pv 3) (pv 5))) pa_nil)) (pv 0)))) pa_nil)))), ?_⟩
    refine w_start (σ' := [some (.int p), some (.ref a), some (.ref b), some (.int c), none, none]) rfl ?_
    walk_at "rd"
    refine ⟨a, b, _, _, rfl, .inr ⟨ha, hb, fun Dl hD => ?_⟩⟩
    refine lc_data (K := K) (walk_zipT rfl) (fun _ => true) (fun i => .int ((ns.getD i 0 - c * ms.getD i 0) % p)) (fun _ => rfl) (fun H' e => ⟨e.t ha, e.t hb⟩) hD (by simp; omega) (fun i x H' H'' hi e y R R0 k _ => ?_) (fun H' ws e hw hda => ?_)
    · obtain ⟨t, x1, x2, rfl, ht, rfl, h1, h2⟩ := y
      obtain ⟨n, hn, rfl⟩ := ints_at h1
      obtain ⟨m, hm, rfl⟩ := ints_at h2
      walk_at "rd"
      refine ⟨rfl, ?_⟩
      walk_at "rd"
      refine k rfl _ _ (Ex.new ht) ?_
      rw [getD_of hn, getD_of hm]
      exact .int _
    · walk_at "rd"
      refine ⟨Dl, ws, rfl, .inl ⟨sqL hw, fun l hl => ?_⟩⟩
      refine q _ _ (e.trans (Ex.new hl)) ?_
      rw [made_all, List.length_map, List.length_map, range_zip 0 0 (fun x y => PyData.int ((x - c * y) % p))] at hda
      have e1 : List.zipWith (fun x y => PyData.int ((x - c * y) % p)) ns ms = (iSub p ns ms c).map PyData.int := by
        unfold iSub
        rw [List.map_zipWith]
      rw [e1] at hda
      rw [upd_same, dpa_ints_inv hda]
theorem ok_law_less' {f : Addr} {fd : FuncData} (F : C8.Def K mg "_law_less" s_law_less f fd) (b : Binds K fd ["p", "row", "other", "many"] []) (T : Txt mg) : C8.Cal P w K mg base 1 "_law_less" (sp_law_less K) [] :=
  cal_mono (ok_law_less_new F b T) fun vs H Q E h => by
    obtain ⟨p, c, v, u, ns, ms, e, hd, hd2, p0, c0, c1, hl, q⟩ := h
    exact ⟨p, c, v, u, ns, ms, e, hd, hd2, p0, c0, c1, hl, fun a H' e1 e2 => q _ H' e1 (dp_row_of (sqT e2))⟩
theorem upd_comm' {H : Hp} {a b : Addr} {u v : HO} (h : b ≠ a) : upd (upd H a u) b v = upd (upd H b v) a u := by
  funext c
  by_cases h1 : c = a
  · subst h1
    rw [upd_ne (Ne.symm h), upd_same, upd_same]
  · by_cases h2 : c = b
    · subst h2
      rw [upd_same, upd_ne h1, upd_same]
    · rw [upd_ne h2, upd_ne h1, upd_ne h1, upd_ne h2]
theorem w_rep0' {l : Addr} {k : Nat} {H : Hp} {Q : VK} (h : H l = some (.tup [.int 0])) (hk : k ≤ 1000) (q : ∀ a H', Ex H H' → H' a = some (.tup ((List.replicate k 0).map V.int)) → Q (.ref a) H') : rRepA K (.ref l) (.int (k : Nat)) H Q := by
  refine ⟨l, k, _, rfl, rfl, sqT h, by simp, by omega, by omega, by simp, fun e => ?_, fun e p hp => ?_⟩
  · have e1 : k = 1 := by omega
    subst e1
    exact q l H (Ex.refl _) h
  · refine q p _ (Ex.new hp) ?_
    rw [upd_same, Int.toNat_natCast, rep_one, List.map_replicate]
open LA in
theorem ok_law_all_mixtures {f : Addr} {fd : FuncData} (F : C8.Def K mg "_law_all_mixtures" s_law_all_mixtures f fd) (b : Binds K fd ["p", "wide", "rows"] []) (T : Txt mg)
    (c_law_less : C8.Cal P w K mg base 1 "_law_less" (sp_less_new K) []) : C8.Cal P w K mg base 2 "_law_all_mixtures" (sp_mixtures K) [] := by
  refine C8.cal0 F b .nil sc_law_all_mixtures (fun vs H Q E h => ?_) (fun cdv A outer s H vs Q E hr h => ?_)
  · obtain ⟨n, _, wide, a, xs, rs, rfl, _⟩ := h
    rfl
  · obtain ⟨n, inst, wide, a, xs, rs, rfl, hc, hn8, hw8, ha, hda, hrs, q⟩ := h
    have n2 := hc.two
    have hu := hu_of hr
    have hu64 := hu64_of hr
    refine ⟨_, (pss_cons (ps_set (i := 3) sc_law_all_mixtures.nd rfl (Or.inl rfl) (TH.pe_dispT1 hu (pe_op (TH.kop_repA (K := K)) (pe_tup (pa_cons pe_int pa_nil)) (pv 1)) pe_bl))
      (pss_cons (ps_for PassesOwn.never rfl (TH.kpi_list (K := K) (pv 2)) (pg_name (i := 4) sc_law_all_mixtures.nd rfl (Or.inl rfl) (Or.inr rfl)) (pss_cons (ps_set (i := 5) sc_law_all_mixtures.nd rfl (Or.inl rfl) pe_dnewT)
      (pss_cons (ps_lock (ps_for PassesOwn.never rfl (pi_keys (pv 3)) (pg_name (i := 6) sc_law_all_mixtures.nd rfl (Or.inl rfl) (Or.inr rfl)) (pss_one (ps_for PassesOwn.never rfl (pi_range1 (by rfl) T.b_range (pa_cons (pv 0) pa_nil)) (pg_name (i := 7) sc_law_all_mixtures.nd rfl (Or.inl rfl) (Or.inr rfl)) (pss_one (ps_dput hu (pv 5) (C8.pe_c c_law_less hr (by first | decide | exact Nat.le_refl _) (by rfl) (pa_cons (pv 0) (pa_cons (pv 6) (pa_cons (pv 4) (pa_cons (pv 7) pa_nil))))) pe_bl rfl))))))
      (pss_one (ps_set (i := 3) sc_law_all_mixtures.nd rfl (Or.inl rfl) (pv 5))))))
      (pss_one (ps_ret (pe_callB (TH.call_sortedDT (K := K) rfl hu64) (by rfl) T.b_sorted (by decide +kernel) (pa_cons (pv 3) pa_nil)))))), ?_⟩
    refine w_start (σ' := [some (.int n), some (.int wide), some (.ref a), none, none, none, none, none]) rfl ?_
    walk_at "rd"
    intro d hd0
    walk_at "rd"
    refine w_dispT (by simp) fun t ht => ?_
    walk_at "rd"
    refine w_rep0' upd_same (by omega) fun z H1 e1 hz => ?_
    have hd1 : H1 d = some (.dT []) := e1 _ _ (by rw [upd_ne (ne_of_none upd_same ht)]; exact upd_same)
    have e01 : Ex H (upd H1 d (.dT [((List.replicate wide 0).map Sum.inl, .bl true)])) := (((Ex.new hd0).trans (Ex.new ht)).trans e1).mut hd0
    walk_at "rd"
    refine ⟨z, (List.replicate wide 0).map Sum.inl, rfl, hd1, by rw [hz, kv_row], ?_⟩
    walk_at "rd"
    have hxl : xs.length = rs.length := by rw [dpa_len hda, List.length_map]
    refine ⟨a, rfl, ⟨_, e01.l ha⟩, ?_⟩
    refine for_go walk_list (fun i σ H' => Ex H H' ∧ ∃ (d : Addr) (y4 y5 y6 y7 : Option V) (kvs : List (List Key × V)) (ks : List (List Int)), σ = [some (.int n), some (.int wide), some (.ref a), some (.ref d), y4, y5, y6, y7] ∧ H d = none ∧ H' d = some (.dT kvs) ∧ KeyRows kvs ks ∧ Mix n wide (rs.take i).reverse ks)
      ⟨e01, d, _, _, _, _, _, [List.replicate wide 0], rfl, hd0, upd_same, rfl, mix_nil⟩ (fun i σ H' _ p => p.1.l ha) (fun i x σ H' H'' hi p y => ?_) (fun σ H' p => ?_)
    · obtain ⟨e, d, y4, y5, y6, y7, kvs, ks, rfl, hd0, hd, hkr, hmix⟩ := p
      obtain ⟨rfl, hx⟩ := y
      obtain ⟨r, hr1, hr2⟩ := rowsAt_get (e.dpa hda) hx
      have hrin := hrs r (List.mem_of_getElem? hr1)
      have hks : ∀ o ∈ ks, Rin n wide o := fun o ho => ((hmix.2 o).mp ho).1
      have hkl := keyRows_len hkr
      walk_at "rd"
      intro mo hmo
      walk_at "rd"
      have hdm : d ≠ mo := fun z => by rw [z, hmo] at hd; cases hd
      refine ⟨d, .dT kvs, by rw [upd_ne hdm]; exact hd, trivial, fun od => ?_⟩
      walk_at "rd"
      refine ⟨d, od, rfl, .inr ⟨kvs, upd_same, ?_⟩⟩
      refine for_go walk_keysT (fun j σ H2 => H2 d = some (.frz od (.dT kvs)) ∧ Ex H (upd H2 d (.dT kvs)) ∧ Dp K H2 x (row r) ∧ ∃ (y6 y7 : Option V) (mvs : List (List Key × V)) (ms : List (List Int)), σ = [some (.int n), some (.int wide), some (.ref a), some (.ref d), some x, some (.ref mo), y6, y7] ∧ H2 mo = some (.dT mvs) ∧ KeyRows mvs ms ∧ Part n r ks j 0 ms)
        ⟨upd_same, ?_, ?_, _, _, [], [], rfl, ?_, rfl, part_start⟩ (fun j σ H2 _ p => p.1) (fun j x2 σ H2 H3 hj p y => ?_) (fun σ H2 p => ?_)
      · rw [upd_upd]
        refine fun a o h => ?_
        by_cases had : a = d
        · rw [had, hd0] at h; cases h
        · rw [upd_ne had]
          exact (e.trans (Ex.new hmo)) a o h
      · exact (Tx.updT (by rw [upd_ne hdm]; exact hd)).dp (imm_row r) ((Ex.new hmo).dp hr2)
      · rw [upd_ne (Ne.symm hdm)]
        exact upd_same
      · obtain ⟨g1, g2, g3, y6, y7, mvs, ms, rfl, g4, g5, g6⟩ := p
        obtain ⟨rfl, k, kv, b, hk1, rfl, hb⟩ := y
        obtain ⟨o, ho1, rfl⟩ := keyRows_at hkr hk1
        rw [kv_row] at hb
        have hoin := hks o (List.mem_of_getElem? ho1)
        walk_at "rd"
        refine w_isrng (by omega) (by omega) ?_
        refine for_go walk_rng (fun m σ H2 => H2 d = some (.frz od (.dT kvs)) ∧ Ex H (upd H2 d (.dT kvs)) ∧ Dp K H2 x (row r) ∧ H2 b = some (.tup (o.map V.int)) ∧ ∃ (y7 : Option V) (mvs : List (List Key × V)) (ms : List (List Int)), σ = [some (.int n), some (.int wide), some (.ref a), some (.ref d), some x, some (.ref mo), some (.ref b), y7] ∧ H2 mo = some (.dT mvs) ∧ KeyRows mvs ms ∧ Part n r ks j m ms)
          ⟨g1, g2, g3, hb, _, mvs, ms, rfl, g4, g5, g6⟩ (fun _ _ _ _ _ => trivial) (fun m x3 σ H4 H5 hm p y => ?_) (fun σ H4 p => ?_)
        · obtain ⟨g1, g2, g3, hb, y7, mvs, ms, rfl, g4, g5, g6⟩ := p
          obtain ⟨rfl, rfl⟩ := y
          have hml := rows_few g6.1 (part_in hrin hks g6) hn8 hw8
          have hmvl := keyRows_len g5
          have hb' : Dp K H5 (.ref b) (row o) := dp_row_of (sqT hb)
          walk_at "rd"
          refine ⟨n, m, .ref b, x, o, r, rfl, hb', g3, by omega, by omega, by omega, by rw [hoin.1]; omega, fun a5 H6 e6 ha6 => ?_⟩
          walk_at "rd"
          have hmo6 := e6 _ _ g4
          have hd6 := e6 _ _ g1
          refine ⟨mo, _, rfl, DPut.t (k := (iSub n o r m).map Sum.inl) hmo6 (by rw [ha6, kv_row]) (Nat.lt_of_lt_of_le (by omega) (small2 (Nat.le_refl _))), ?_⟩
          have tx : Tx H6 (upd H6 mo (.dT (putK mvs ((iSub n o r m).map Sum.inl) (.bl true)))) := Tx.updT hmo6
          refine ⟨by rw [upd_ne hdm]; exact hd6, ?_, tx.dp (imm_row r) (e6.dp g3), (tx _ _).1 (e6 _ _ hb), _, _, _, rfl, upd_same, keyRows_put g5, part_turn ho1 (by omega) g6⟩
          have hcomm : upd (upd H6 mo (.dT (putK mvs ((iSub n o r m).map Sum.inl) (.bl true)))) d (.dT kvs) = upd (upd H6 d (.dT kvs)) mo (.dT (putK mvs ((iSub n o r m).map Sum.inl) (.bl true))) := upd_comm' hdm
          rw [hcomm]
          exact (g2.trans e6.both).mut (e.fresh hmo)
        · obtain ⟨g1, g2, g3, hb, y7, mvs, ms, rfl, g4, g5, g6⟩ := p
          walk_at "rd"
          rw [Int.toNat_natCast] at g6
          exact ⟨g1, g2, g3, _, _, mvs, ms, rfl, g4, g5, part_next g6⟩
      · obtain ⟨g1, g2, g3, y6, y7, mvs, ms, rfl, g4, g5, g6⟩ := p
        have e9 : (rs.take (i + 1)).reverse = r :: (rs.take i).reverse := by
          rw [List.take_add_one, hr1]
          simp
        refine ⟨g1, ?_⟩
        walk_at "rd"
        refine ⟨g2, mo, _, _, _, _, mvs, ms, rfl, e.fresh hmo, by rw [upd_ne (Ne.symm hdm)]; exact g4, g5, ?_⟩
        rw [e9]
        rw [hkl] at g6
        exact part_end hrin (fun x hx => hrs x (List.mem_of_mem_take (List.mem_reverse.mp hx))) hmix g6
    · obtain ⟨e, d, y4, y5, y6, y7, kvs, ks, rfl, hd0, hd, hkr, hmix⟩ := p
      walk_at "rd"
      rw [hxl, List.take_length] at hmix
      have hks : ∀ o ∈ ks, Rin n wide o := fun o ho => ((hmix.2 o).mp ho).1
      refine ⟨d, kvs, ks, wide, rfl, .inl hd, hkr, fun r hr => (hks r hr).1, fun h0 => ?_, fun ws l hl hdw => ?_⟩
      · have := LA.nodup_le hmix.1 fun r hr' => mem_allRows (hks r hr')
        rw [allRows_len, h0] at this
        exact this
      · exact q l _ ws ks (e.trans (Ex.new hl)) upd_same ((Ex.new hl).dpa hdw) hmix
end TK

namespace TK
open PySem PySem.Spec PyProof.Rows L2 TH
local macro_rules | `(tactic| walk_at "rd1") => `(tactic| first
  | (with_reducible refine TH.w_seq ?_)
  | (with_reducible refine TH.w_asg ?_)
  | (with_reducible refine TH.w_ret ?_)
  | (with_reducible refine TH.w_drop ?_)
  | (with_reducible refine TH.w_ifS ?_)
  | (with_reducible refine TH.w_next ?_)
  | ((with_reducible refine TH.w_var (v := ?vv) ?hv ?_); (case hv => rfl))
  | (with_reducible refine TH.w_c ?_)
  | ((with_reducible refine TH.w_gname (σ' := ?ss) ?hs ?_); (case hs => (dsimp only [List.set]; rfl)))
  | (with_reducible refine TH.w_op ?_)
  | (with_reducible refine TH.w_un ?_)
  | (with_reducible refine TH.w_chain ?_)
  | (with_reducible refine TH.w_I0 ?_)
  | ((with_reducible refine TH.w_I ?hm ?_); (case hm => first | (exact TH.CMul.l (by omega) (by omega)) | (exact TH.CMul.r (by omega) (by omega)) | (exact TH.CDiv.mk (by omega) (by omega)) | (show (0 : Int) < _; omega) | (exact TH.CPow.mk (by omega) (by omega) (by decide))))
  | (with_reducible refine TH.w_U ?_)
  | (with_reducible refine TH.w_eqI ?_)
  | (with_reducible refine TH.w_neI ?_)
  | (with_reducible refine TH.w_eqB ?_)
  | (with_reducible refine TH.w_isN ?_)
  | (with_reducible refine TH.w_nil ?_)
  | (with_reducible refine TH.w_cons ?_)
  | (with_reducible refine TH.w_test ?_)
  | (with_reducible refine TH.w_B ?_)
  | (with_reducible refine TH.w_bl ?_)
  | (with_reducible refine TH.w_and ?_)
  | (with_reducible refine TH.w_or ?_)
  | (with_reducible refine TH.w_not ?_)
  | (with_reducible refine TH.w_andV ?_)
  | (with_reducible refine TH.w_orV ?_)
  | (with_reducible refine TH.w_notV ?_)
  | (with_reducible refine TH.w_if ?_)
  | (with_reducible refine TH.w_parT ?_)
  | (with_reducible refine TH.w_par ?_)
  | (with_reducible refine TH.w_parT3 ?_)
  | (with_reducible refine TH.w_par3 ?_)
  | (with_reducible refine TH.w_cb ?_)
  | (with_reducible refine TH.w_call ?_)
  | ((with_reducible refine TH.w_aug (v := ?vv) ?hv ?_); (case hv => rfl))
  | (with_reducible refine TH.w_ip ?_)
  | (with_reducible refine TH.w_bm ?_)
  | (with_reducible refine TH.w_sl ?_)
  | (with_reducible refine TH.w_np ?_)
  | (with_reducible refine TH.w_pt ?_)
  | (with_reducible refine TH.w_pti ?_)
  | (with_reducible refine TH.w_gsub ?_)
  | (with_reducible refine TH.w_int ?_)
  | (with_reducible refine TH.w_tupT ?_)
  | (with_reducible refine TH.w_lstT ?_)
  | ((with_reducible show L2.rIxL _ _ _ _ _); (first | (refine TH.w_ixL (TH.sqL upd_same) rfl ?_) | (refine TH.w_ixL (TH.sqL (by assumption)) rfl ?_)))
  | ((with_reducible show L2.rSetL _ _ _ _ _); (first | (refine TH.w_set1 upd_same ?_) | (refine TH.w_set2 upd_same ?_) | (refine TH.w_set3 upd_same ?_) | (refine TH.w_set4 upd_same ?_) | (refine TH.w_set1 (by assumption) ?_) | (refine TH.w_set2 (by assumption) ?_) | (refine TH.w_set3 (by assumption) ?_) | (refine TH.w_set4 (by assumption) ?_)))
  | (with_reducible refine TH.w_lc ?_)
  | (with_reducible refine TH.w_dc ?_)
  | (with_reducible refine TH.w_itup ?_)
  | (with_reducible refine TH.w_ilist ?_)
  | (with_reducible refine TH.w_ienum ?_)
  | (with_reducible refine TH.w_izip ?_)
  | (with_reducible refine TH.w_irng1 ?_)
  | (with_reducible refine TH.w_irng2 ?_)
  | (with_reducible refine TH.w_for ?_)
  | (with_reducible refine TH.w_gcons ?_)
  | (with_reducible refine TH.w_gnil ?_)
  | (with_reducible refine TH.w_yes ?_)
  | (with_reducible refine TH.w_gtup2 upd_same ?_)
  | (with_reducible refine TH.w_gtup3 upd_same ?_)
  | (with_reducible refine TH.w_dput ?_)
  | (with_reducible refine TH.w_lock ?_)
  | (with_reducible refine TH.w_ikeys ?_)
  | (with_reducible refine TH.w_iitems ?_)
  | (with_reducible refine TH.w_dispT1 ?_)
  | (with_reducible refine TH.w_dnewT ?_)
  | (with_reducible refine TH.w_dnewK ?_)
  | (with_reducible refine TH.w_fld ?_)
  | (with_reducible refine TH.w_sfld ?_)
  | (with_reducible refine TH.w_meth ?_)
  | (with_reducible refine TH.w_make ?_)
  | (with_reducible refine TH.w_dget2 ?_)
  | (with_reducible refine TH.w_revL ?_)
  | (with_reducible refine TH.w_T ?_)
  | (with_reducible refine TH.w_F ?_))
local macro_rules | `(tactic| walk_at "rd") => `(tactic| repeat (first | walk_at "rd1" | (dsimp only [List.set, L2.wipe, List.map, TH.isInt, TH.isBool, TH.isTup, TH.isLst, TH.bo_f, TH.bo_t, TH.ba_f, TH.ba_t, TH.bn_t, TH.bn_f, List.append_nil, List.cons_append, List.nil_append])))

abbrev s_Stairs_init : Stmt := inClass (top 20) 0
abbrev N_Stairs_init : List Str := ["self", "p"]
theorem sc_Stairs_init : FnScope N_Stairs_init ["self", "p"] (C8.fnScope s_Stairs_init) := ⟨rfl, rfl, rfl, by decide +kernel, rfl, by decide +kernel, by decide +kernel⟩
abbrev s_Stairs_less : Stmt := inClass (top 20) 1
abbrev N_Stairs_less : List Str := ["self", "row", "left", "used", "place", "step", "ways", "value", "number", "many"]
theorem sc_Stairs_less : FnScope N_Stairs_less ["self", "row"] (C8.fnScope s_Stairs_less) := ⟨rfl, rfl, rfl, by decide +kernel, rfl, by decide +kernel, by decide +kernel⟩
abbrev s_Stairs_take : Stmt := inClass (top 20) 2
abbrev N_Stairs_take : List Str := ["self", "number", "row", "place", "turn", "ways", "left", "used", "one", "many"]
theorem sc_Stairs_take : FnScope N_Stairs_take ["self", "number", "row"] (C8.fnScope s_Stairs_take) := ⟨rfl, rfl, rfl, by decide +kernel, rfl, by decide +kernel, by decide +kernel⟩
abbrev s_stairs_of : Stmt := top 21
abbrev N_stairs_of : List Str := ["p", "rows", "found", "number", "row"]
theorem sc_stairs_of : FnScope N_stairs_of ["p", "rows"] (C8.fnScope s_stairs_of) := ⟨rfl, rfl, rfl, by decide +kernel, rfl, by decide +kernel, by decide +kernel⟩
abbrev s_ladder_of : Stmt := top 22
abbrev N_ladder_of : List Str := ["p", "rows", "steps", "found", "place", "step", "row", "other", "later", "ways"]
theorem sc_ladder_of : FnScope N_ladder_of ["p", "rows"] (C8.fnScope s_ladder_of) := ⟨rfl, rfl, rfl, by decide +kernel, rfl, by decide +kernel, by decide +kernel⟩
abbrev s_rank_of : Stmt := top 23
abbrev N_rank_of : List Str := ["p", "rows"]
theorem sc_rank_of : FnScope N_rank_of ["p", "rows"] (C8.fnScope s_rank_of) := ⟨rfl, rfl, rfl, by decide +kernel, rfl, by decide +kernel, by decide +kernel⟩
abbrev s_ladder : Stmt := top 27
abbrev N_ladder : List Str := ["p", "wide", "rows"]
theorem sc_ladder : FnScope N_ladder ["p", "wide", "rows"] (C8.fnScope s_ladder) := ⟨rfl, rfl, rfl, by decide +kernel, rfl, by decide +kernel, by decide +kernel⟩
abbrev s_rank : Stmt := top 28
abbrev N_rank : List Str := ["p", "wide", "rows"]
theorem sc_rank : FnScope N_rank ["p", "wide", "rows"] (C8.fnScope s_rank) := ⟨rfl, rfl, rfl, by decide +kernel, rfl, by decide +kernel, by decide +kernel⟩

variable {P : Program} {w : World} {K : PySem.W.Frag} {mg : Str → Option Value} {base : Heap}
/-! the object -/
structure StC (K : PySem.W.Frag) (C : Addr) : Prop where
  cl : Cls K C
  nP : NoAttr K C "p"
  nS : NoAttr K C "steps"
  nT : NoAttr K C "taken"
def pf (p : Int) (st tk : Addr) : List (Str × V) := putF "taken" (.ref tk) (putF "steps" (.ref st) (putF "p" (.int p) []))
theorem pf_p {p : Int} {st tk : Addr} : (pf p st tk).lookup ("p" : Str) = some (.int p) := by
  unfold pf
  rw [lookup_putF, if_neg (by decide +kernel), lookup_putF, if_neg (by decide +kernel), lookup_putF, if_pos rfl]
theorem pf_steps {p : Int} {st tk : Addr} : (pf p st tk).lookup ("steps" : Str) = some (.ref st) := by
  unfold pf
  rw [lookup_putF, if_neg (by decide +kernel), lookup_putF, if_pos rfl]
theorem pf_taken {p : Int} {st tk : Addr} : (pf p st tk).lookup ("taken" : Str) = some (.ref tk) := by
  unfold pf
  rw [lookup_putF, if_pos rfl]
theorem pf_no {p : Int} {st tk : Addr} {m : Str} (h1 : ¬ m = "taken") (h2 : ¬ m = "steps") (h3 : ¬ m = "p") : (pf p st tk).lookup m = none := by
  unfold pf
  rw [lookup_putF, if_neg h1, lookup_putF, if_neg h2, lookup_putF, if_neg h3]
  rfl
/-! the ways: a dict of numbers that no answer rests on -/
def WaysAt (n B : Int) (kvs : List (Key × V)) : Prop := ∃ ks : List Int, kvs.map (·.1) = ks.map Sum.inl ∧ ks.Nodup ∧ (∀ k ∈ ks, 0 ≤ k ∧ k < B) ∧ ∀ p ∈ kvs, ∃ x : Int, p.2 = .int x ∧ 0 ≤ x ∧ x < n
theorem waysAt_nil {n B : Int} : WaysAt n B [] := ⟨[], rfl, .nil, fun k h => (nomatch h), fun p h => (nomatch h)⟩
theorem waysAt_len {n B : Int} {kvs : List (Key × V)} (h : WaysAt n B kvs) (hB : 0 ≤ B) : (kvs.length : Int) ≤ B := by
  obtain ⟨ks, e, nd, hk, _⟩ := h
  have e1 : kvs.length = ks.length := by simpa using congrArg List.length e
  have := LA.nodup_le (L := (List.range B.toNat).map fun i => ((i : Nat) : Int)) nd fun k hk' => by
    have := hk k hk'
    exact List.mem_map.mpr ⟨k.toNat, List.mem_range.mpr (by omega), by omega⟩
  rw [List.length_map, List.length_range] at this
  omega
theorem waysAt_put {n B k x : Int} {kvs : List (Key × V)} (h : WaysAt n B kvs) (hk : 0 ≤ k ∧ k < B) (hx : 0 ≤ x ∧ x < n) : WaysAt n B (putK kvs (Sum.inl k) (.int x)) := by
  obtain ⟨ks, e, nd, hks, hvs⟩ := h
  have hany : (kvs.any fun kv => decide (kv.1 = Sum.inl k)) = true ↔ k ∈ ks := by
    rw [List.any_eq_true]
    constructor
    · intro ⟨p, hp, e1⟩
      have hm : p.1 ∈ kvs.map (·.1) := List.mem_map.mpr ⟨p, hp, rfl⟩
      rw [e, of_decide_eq_true e1] at hm
      obtain ⟨k', hk', e2⟩ := List.mem_map.mp hm
      rw [← Sum.inl.inj e2]
      exact hk'
    · intro hk'
      have hm : Sum.inl k ∈ kvs.map (·.1) := by
        rw [e]
        exact List.mem_map.mpr ⟨k, hk', rfl⟩
      obtain ⟨p, hp, e1⟩ := List.mem_map.mp hm
      exact ⟨p, hp, decide_eq_true e1⟩
  unfold putK
  by_cases hm : k ∈ ks
  · rw [if_pos (hany.mpr hm)]
    refine ⟨ks, ?_, nd, hks, fun p hp => ?_⟩
    · rw [List.map_map, ← e]
      refine List.map_congr_left fun p _ => ?_
      show (if p.1 = Sum.inl k then (p.1, V.int x) else p).1 = p.1
      split <;> rfl
    · obtain ⟨p0, h0, rfl⟩ := List.mem_map.mp hp
      by_cases e1 : p0.1 = Sum.inl k
      · rw [if_pos e1]
        exact ⟨x, rfl, hx⟩
      · rw [if_neg e1]
        exact hvs p0 h0
  · rw [if_neg fun z => hm (hany.mp z)]
    refine ⟨ks ++ [k], ?_, List.nodup_append.mpr ⟨nd, by simp, fun a ha b hb e1 => hm (by rw [List.mem_singleton] at hb; rw [← hb, ← e1]; exact ha)⟩, fun j hj => ?_, fun p hp => ?_⟩
    · rw [List.map_append, List.map_append, e]
      rfl
    · rcases List.mem_append.mp hj with z | z
      · exact hks j z
      · rw [List.mem_singleton.mp z]; exact hk
    · rcases List.mem_append.mp hp with z | z
      · exact hvs p z
      · rw [List.mem_singleton.mp z]; exact ⟨x, rfl, hx⟩
theorem waysAt_get {n B : Int} {kvs : List (Key × V)} {k : Key} (h : WaysAt n B kvs) (hn : 0 < n) : ∃ x : Int, (valV kvs k).getD (.int 0) = .int x ∧ 0 ≤ x ∧ x < n := by
  obtain ⟨ks, e, nd, hks, hvs⟩ := h
  unfold valV
  cases g : kvs.find? fun kv => decide (kv.1 = k) with
  | none => exact ⟨0, rfl, by omega, hn⟩
  | some p =>
    obtain ⟨x, h1, h2⟩ := hvs p (List.mem_of_find?_eq_some g)
    exact ⟨x, h1, h2⟩
theorem waysAt_at {n B : Int} {kvs : List (Key × V)} {i : Nat} {p : Key × V} (h : WaysAt n B kvs) (hp : kvs[i]? = some p) : ∃ k x : Int, p = (Sum.inl k, .int x) ∧ (0 ≤ k ∧ k < B) ∧ 0 ≤ x ∧ x < n := by
  obtain ⟨ks, e, nd, hks, hvs⟩ := h
  obtain ⟨x, h1, h2⟩ := hvs p (List.mem_of_getElem? hp)
  have hm : p.1 ∈ kvs.map (·.1) := List.mem_map.mpr ⟨p, List.mem_of_getElem? hp, rfl⟩
  rw [e] at hm
  obtain ⟨k, hk, e2⟩ := List.mem_map.mp hm
  exact ⟨k, x, Prod.ext e2.symm h1, hks k hk, h2⟩
/-! the steps -/
def StepAt (K : PySem.W.Frag) (H : Hp) (n B : Int) (v : V) (a : Nat × List Int) : Prop := ∃ (t b d : Addr) (kvs : List (Key × V)), v = .ref t ∧ H t = some (.tup [.int (a.1 : Nat), .ref b, .ref d]) ∧ Dp K H (.ref b) (row a.2) ∧ H d = some (.dK kvs) ∧ WaysAt n B kvs
def StepsAt (K : PySem.W.Frag) (H : Hp) (n B : Int) (us : List V) (S : List (Nat × List Int)) : Prop := us.length = S.length ∧ ∀ (i : Nat) (v : V), us[i]? = some v → ∃ a, S[i]? = some a ∧ StepAt K H n B v a
theorem StepAt.ex {H H' : Hp} {n B : Int} {v : V} {a : Nat × List Int} (h : StepAt K H n B v a) (e : Ex H H') : StepAt K H' n B v a := by
  obtain ⟨t, b, d, kvs, rfl, h1, h2, h3, h4⟩ := h
  exact ⟨t, b, d, kvs, rfl, e _ _ h1, e.dp h2, e _ _ h3, h4⟩
theorem StepsAt.ex {H H' : Hp} {n B : Int} {us : List V} {S : List (Nat × List Int)} (h : StepsAt K H n B us S) (e : Ex H H') : StepsAt K H' n B us S := ⟨h.1, fun i v hv => by
  obtain ⟨a, h1, h2⟩ := h.2 i v hv
  exact ⟨a, h1, h2.ex e⟩⟩
/-- a list is written: the steps stand -/
theorem StepAt.wr {H : Hp} {n B : Int} {v : V} {a : Nat × List Int} {l : Addr} {xs ys : List V} (h : StepAt K H n B v a) (hl : H l = some (.lst xs)) : StepAt K (upd H l (.lst ys)) n B v a := by
  obtain ⟨t, b, d, kvs, rfl, h1, h2, h3, h4⟩ := h
  exact ⟨t, b, d, kvs, rfl, by rw [upd_ne fun z => by rw [z, hl] at h1; cases h1]; exact h1, (Tx.updL hl).dp (imm_row _) h2, by rw [upd_ne fun z => by rw [z, hl] at h3; cases h3]; exact h3, h4⟩
theorem StepsAt.wr {H : Hp} {n B : Int} {us : List V} {S : List (Nat × List Int)} {l : Addr} {xs ys : List V} (h : StepsAt K H n B us S) (hl : H l = some (.lst xs)) : StepsAt K (upd H l (.lst ys)) n B us S := ⟨h.1, fun i v hv => by
  obtain ⟨a, h1, h2⟩ := h.2 i v hv
  exact ⟨a, h1, h2.wr hl⟩⟩
theorem StepsAt.snoc {H : Hp} {n B : Int} {us : List V} {S : List (Nat × List Int)} {v : V} {a : Nat × List Int} (h : StepsAt K H n B us S) (g : StepAt K H n B v a) : StepsAt K H n B (us ++ [v]) (S ++ [a]) := ⟨by rw [List.length_append, List.length_append, h.1]; rfl, fun i x hx => by
  rcases Nat.lt_or_ge i us.length with z | z
  · rw [List.getElem?_append_left z] at hx
    obtain ⟨a', h1, h2⟩ := h.2 i x hx
    exact ⟨a', by rw [List.getElem?_append_left (by rw [← h.1]; exact z)]; exact h1, h2⟩
  · rw [List.getElem?_append_right z] at hx
    have z2 : i - us.length = 0 := by
      refine Decidable.byContradiction fun z3 => ?_
      rw [List.getElem?_eq_none (by simp; omega)] at hx
      cases hx
    rw [z2] at hx
    cases hx
    refine ⟨a, ?_, g⟩
    rw [List.getElem?_append_right (by rw [← h.1]; exact z), ← h.1, z2]
    rfl⟩
/-- stairs at s -/
structure StairsAt (K : PySem.W.Frag) (C : Addr) (H : Hp) (s st tk : Addr) (n B : Int) (us : List V) (S : List (Nat × List Int)) : Prop where
  obj : ∃ dx, H s = some (.ins C dx (pf n st tk))
  steps : H st = some (.lst us)
  taken : ∃ ts, H tk = some (.lst ts) ∧ ts.length = S.length
  at' : StepsAt K H n B us S
theorem StairsAt.ex {C : Addr} {H H' : Hp} {s st tk : Addr} {n B : Int} {us : List V} {S : List (Nat × List Int)} (h : StairsAt K C H s st tk n B us S) (e : Ex H H') : StairsAt K C H' s st tk n B us S := by
  obtain ⟨⟨dx, h1⟩, h2, ⟨ts, h3, h4⟩, h5⟩ := h
  exact ⟨⟨dx, e _ _ h1⟩, e _ _ h2, ⟨ts, e _ _ h3, h4⟩, h5.ex e⟩
/-! Stairs.__init__(p) -/
def sp_st_init (C : Addr) : Sp := fun vs H Q _ => ∃ (s dx : Addr) (p : Int), vs = [.ref s, .int p] ∧ H s = some (.ins C dx []) ∧ ∀ (st tk : Addr) (H' : Hp), H st = none → H tk = none → st ≠ tk → (∀ a, a ≠ s → ∀ o, H a = some o → H' a = some o) → H' s = some (.ins C dx (pf p st tk)) → H' st = some (.lst []) → H' tk = some (.lst []) → Q .non H'
theorem ok_st_init {C f : Addr} {fd : FuncData} (M : Mk K C f) (hm : mg "Stairs" = some (.ref C)) (F : C8.Fun K "__init__" "Stairs.__init__" s_Stairs_init f fd) (b : Binds K fd ["self", "p"] []) (T : StC K C) : C8.Mak P w K mg base 1 "Stairs" C (sp_st_init C) [] := by
  refine C8.mak0 M hm F b .nil sc_Stairs_init (fun vs H Q E h => ?_) (fun cdv A outer s H vs Q E hr h => ?_)
  · obtain ⟨s, dx, p, rfl, _⟩ := h
    rfl
  · obtain ⟨s, dx, p, rfl, hs, q⟩ := h
    refine ⟨_, (pss_cons (ps_fld (pv 0) (pv 1) rfl)
      (pss_cons (ps_fld (pv 0) (pe_lst pa_nil) rfl)
      (pss_one (ps_fld (pv 0) (pe_lst pa_nil) rfl)))), ?_⟩
    refine w_start (σ' := [some (.ref s), some (.int p)]) rfl ?_
    walk_at "rd"
    refine ⟨s, C, dx, [], rfl, hs, T.cl, T.nP, by decide, ?_⟩
    walk_at "rd"
    refine w_dispT (by simp) fun st hst => ?_
    walk_at "rd"
    have hs1 : s ≠ st := fun z => by rw [z, upd_same] at hst; cases hst
    refine ⟨s, C, dx, _, rfl, by rw [upd_ne hs1]; exact upd_same, T.cl, T.nS, Nat.lt_of_le_of_lt (length_putF _ _ _) (by decide), ?_⟩
    walk_at "rd"
    refine w_dispT (by simp) fun tk htk => ?_
    walk_at "rd"
    have hs2 : s ≠ tk := fun z => by rw [z, upd_same] at htk; cases htk
    have hst2 : st ≠ tk := fun z => by rw [z, upd_ne (Ne.symm (z ▸ hs1)), upd_same] at htk; cases htk
    refine ⟨s, C, dx, _, rfl, by rw [upd_ne hs2]; exact upd_same, T.cl, T.nT, Nat.lt_of_le_of_lt (length_putF _ _ _) (Nat.lt_of_le_of_lt (Nat.add_le_add_right (length_putF _ _ _) 1) (by decide)), ?_⟩
    have hst0 : H st = none := by rw [upd_ne (Ne.symm hs1)] at hst; exact hst
    have htk0 : H tk = none := by
      rw [upd_ne (Ne.symm hs2), upd_ne (Ne.symm hst2), upd_ne (Ne.symm hs2)] at htk
      exact htk
    refine q st tk _ hst0 htk0 hst2 (fun a ha o ho => ?_) upd_same ?_ ?_
    · rw [upd_ne ha, upd_ne (ne_of_none ho htk0), upd_ne ha, upd_ne (ne_of_none ho hst0), upd_ne ha]
      exact ho
    · rw [upd_ne (Ne.symm hs1), upd_ne hst2, upd_ne (Ne.symm hs1)]
      exact upd_same
    · rw [upd_ne (Ne.symm hs2)]
      exact upd_same
/-! Stairs.less(row) -/
def lessI (n : Int) (S : List (Nat × List Int)) (r : List Int) : List Int := S.foldl (fun l a => offI n a.2 a.1 l) r
theorem lessI_snoc {n : Int} {S : List (Nat × List Int)} {r : List Int} {i : Nat} {a : Nat × List Int} (h : S[i]? = some a) : lessI n (S.take (i + 1)) r = offI n a.2 a.1 (lessI n (S.take i) r) := by
  unfold lessI
  rw [List.take_add_one, h, List.foldl_append]
  rfl
section
open LA
variable {n : Nat} [NeZero n]
theorem lessI_in {wide : Nat} : ∀ {S : List (Nat × List Int)} {r : List Int}, (∀ a ∈ S, Rin n wide a.2) → Rin n wide r → Rin n wide (lessI n S r)
  | [], _, _, h => h
  | a :: S, r, hS, h => lessI_in (S := S) (fun b hb => hS b (List.mem_cons_of_mem _ hb)) (offI_in h (hS a List.mem_cons_self))
end
open LA in
def sp_st_less (K : PySem.W.Frag) (C : Addr) : Sp := fun vs H Q _ => ∃ (n : Nat) (_ : NeZero n) (wide : Nat) (B : Int) (s st tk : Addr) (us : List V) (S : List (Nat × List Int)) (u : V) (r : List Int), vs = [.ref s, u] ∧ Clk n ∧ 0 ≤ B ∧ B ≤ 1000 ∧ wide ≤ 1000 ∧ StairsAt K C H s st tk n B us S ∧
  (∀ a ∈ S, Rin n wide a.2 ∧ a.1 < wide) ∧ Dp K H u (row r) ∧ Rin n wide r ∧ ∀ (t a d : Addr) (kvs : List (Key × V)) (H' : Hp), Ex H H' → H' t = some (.tup [.ref a, .ref d]) → Dp K H' (.ref a) (row (lessI n S r)) → H' d = some (.dK kvs) → WaysAt n B kvs → Q (.ref t) H'
open LA in
theorem ok_st_less {C f : Addr} {fd : FuncData} (me : Meth K C "less" f) (F : C8.Fun K "less" "Stairs.less" s_Stairs_less f fd) (b : Binds K fd ["self", "row"] []) (T : Txt mg) (TC : StC K C)
    (c_without : C8.Cal P w K mg base 1 "without" (sp_without K) []) : C8.Met P w K mg base 2 C "less" (sp_st_less K C) [] := by
  refine C8.met0 TC.cl me F b sc_Stairs_less (fun vs H Q E h => ?_) (fun cdv A outer s H vs Q E hr h => ?_)
  · obtain ⟨n, _, wide, B, s, st, tk, us, S, u, r, rfl, _⟩ := h
    rfl
  · obtain ⟨n, inst, wide, B, s, st, tk, us, S, u, r, rfl, hc, hB0, hB, hw, hst, hS, hu1, hr1, q⟩ := h
    have n2 := hc.two
    have nm := hc.le
    have hu := hu_of hr
    have hsl := hst.at'.1
    refine ⟨_, (pss_cons (ps_par (i := 2) (j := 3) rfl sc_Stairs_less.nd rfl rfl (by decide) rfl rfl (pa_cons (pv 1) (pa_cons pe_dnewK pa_nil)) (by rfl))
      (pss_cons (ps_for PassesOwn.never rfl (TH.kpi_list (K := K) (TH.kpe_fld (K := K) (pv 0) rfl)) (TH.kpg_tup (K := K) (n := 3) rfl (pgs_cons (pg_name (i := 4) sc_Stairs_less.nd rfl (Or.inl rfl) (Or.inr rfl)) (pgs_cons (pg_name (i := 5) sc_Stairs_less.nd rfl (Or.inl rfl) (Or.inr rfl)) (pgs_cons (pg_name (i := 6) sc_Stairs_less.nd rfl (Or.inl rfl) (Or.inr rfl)) pgs_nil)))) (pss_cons (ps_set (i := 7) sc_Stairs_less.nd rfl (Or.inl rfl) (pe_ix (TH.kix_tup (K := K)) (pv 2) (pv 4) (fun _ _ => rfl)))
      (pss_one (ps_if (pt_cmpR op_ne (pv 7) pe_int (nomark _)) (pss_cons (ps_set (i := 2) sc_Stairs_less.nd rfl (Or.inl rfl) (C8.pe_c c_without hr (by first | decide | exact Nat.le_refl _) (by rfl) (pa_cons (TH.kpe_fld (K := K) (pv 0) rfl) (pa_cons (pv 2) (pa_cons (pv 5) (pa_cons (pv 7) pa_nil))))))
      (pss_one (ps_lock (ps_for PassesOwn.never rfl (pi_items (pv 6)) (TH.kpg_tup (K := K) (n := 2) rfl (pgs_cons (pg_name (i := 8) sc_Stairs_less.nd rfl (Or.inl rfl) (Or.inr rfl)) (pgs_cons (pg_name (i := 9) sc_Stairs_less.nd rfl (Or.inl rfl) (Or.inr rfl)) pgs_nil))) (pss_one (ps_dput hu (pv 3) (pv 8) (pe_op op_mod (pe_op op_add (pe_dget2 hu (pv 3) (pv 8) pe_int ⟨rfl, rfl, rfl, rfl⟩) (pe_op op_mul (pv 7) (pv 9))) (TH.kpe_fld (K := K) (pv 0) rfl)) rfl)))))) pss_nil))))
      (pss_one (ps_ret (pe_tup (pa_cons (pv 2) (pa_cons (pv 3) pa_nil))))))), ?_⟩
    refine w_start (σ' := [some (.ref s), some u, none, none, none, none, none, none, none, none]) rfl ?_
    walk_at "rd"
    intro ud hud
    walk_at "rd"
    have e0 : Ex H (upd H ud (.dK [])) := Ex.new hud
    have hst0 := hst.ex e0
    obtain ⟨⟨dx, hobj⟩, hsteps, _, _⟩ := hst0
    refine ⟨s, C, dx, _, _, rfl, hobj, TC.cl, TC.nS, pf_steps, ?_⟩
    refine ⟨st, rfl, ⟨_, sqL hsteps⟩, ?_⟩
    refine for_go walk_list (fun i σ H2 => Ex H H2 ∧ ∃ (l : V) (y4 y5 y6 y7 y8 y9 : Option V) (kvs : List (Key × V)), σ = [some (.ref s), some u, some l, some (.ref ud), y4, y5, y6, y7, y8, y9] ∧ Dp K H2 l (row (lessI n (S.take i) r)) ∧ H2 ud = some (.dK kvs) ∧ WaysAt n B kvs)
      ⟨e0, u, _, _, _, _, _, _, [], rfl, e0.dp hu1, upd_same, waysAt_nil⟩ (fun i σ H2 _ p => p.1.l (sqL hst.steps)) (fun i x σ H2 H3 hi p y => ?_) (fun σ H2 p => ?_)
    · obtain ⟨e, l, y4, y5, y6, y7, y8, y9, kvs, rfl, hl, hd, hk⟩ := p
      obtain ⟨rfl, hx⟩ := y
      obtain ⟨a, ha1, t, bb, d, wvs, rfl, h1, h2, h30, h4⟩ := hst.at'.2 i x hx
      have hdu : ud ≠ d := fun z => by rw [z, h30] at hud; cases hud
      have h1 := e _ _ h1
      have h2 := e.dp h2
      have h3 := e _ _ h30
      have hobj0 := e0 _ _ hst.obj.choose_spec
      obtain ⟨⟨dx', hobj'⟩, _, _, _⟩ := hst.ex e
      have hsd : s ≠ d := fun z => by rw [z, h3] at hobj'; cases hobj'
      have hsu : s ≠ ud := fun z => by rw [z, hd] at hobj'; cases hobj'
      obtain ⟨hain, hap⟩ := hS a (List.mem_of_getElem? ha1)
      have hain1 := hain.1
      have hli := lessI_in (n := n) (S := S.take i) (fun b hb => (hS b (List.mem_of_mem_take hb)).1) hr1
      have hln := lessI_snoc (n := n) (r := r) ha1
      generalize lessI n (S.take i) r = lr at hl hli hln
      have hli1 := hli.1
      obtain ⟨la, rfl, hla⟩ := dp_row hl
      have hb6 : 0 ≤ lr.getD a.1 0 ∧ lr.getD a.1 0 < n := hli.2 _ (List.mem_of_getElem? (getD_at (i := a.1) (d := 0) (by omega)))
      walk_at "rd"
      refine w_gtup3 h1 ?_
      walk_at "rd"
      refine w_ixT hla (atI_int (getD_at (i := a.1) (d := 0) (by omega))) ?_
      walk_at "rd"
      refine w_decN (fun hz => ?_) (fun hz => ?_)
      · walk_at "rd"
        refine ⟨s, C, dx', _, _, rfl, hobj', TC.cl, TC.nP, pf_p, ?_⟩
        walk_at "rd"
        refine ⟨_, _, _, _, lr, a.2, rfl, hl, h2, by omega, by omega, by omega, by omega, fun ln H4 e4 hln4 => ?_⟩
        walk_at "rd"
        have hoff : offI n a.2 a.1 lr = iSub n lr a.2 (lr.getD a.1 0) := by
          unfold offI
          rw [if_neg hz]
        rw [hoff] at hln
        have eH4 := e.trans e4
        have h34 := e4 _ _ h3
        have hd4 := e4 _ _ hd
        refine ⟨d, .dK wvs, h34, trivial, fun od => ?_⟩
        walk_at "rd"
        refine ⟨d, od, wvs, rfl, upd_same, ?_⟩
        refine for_go walk_items (fun j σ H5 => H5 d = some (.frz od (.dK wvs)) ∧ Ex H (upd H5 d (.dK wvs)) ∧ H5 s = some (.ins C dx' (pf n st tk)) ∧ ∃ (y8 y9 : Option V) (kvs : List (Key × V)), σ = [some (.ref s), some u, some ln, some (.ref ud), some (.int a.1), some (.ref bb), some (.ref d), some (.int (lr.getD a.1 0)), y8, y9] ∧ Dp K H5 ln (row (iSub n lr a.2 (lr.getD a.1 0))) ∧ H5 ud = some (.dK kvs) ∧ WaysAt n B kvs)
          ⟨upd_same, ?_, ?_, _, _, kvs, rfl, ?_, ?_, hk⟩ (fun j σ H5 _ p => p.1) (fun j x5 σ H5 H6 hj p y => ?_) (fun σ H5 p => ?_)
        · rw [upd_upd]
          refine fun c o h => ?_
          by_cases hcd : c = d
          · subst hcd
            rw [h30] at h
            rw [upd_same]
            exact h
          · rw [upd_ne hcd]
            exact eH4 c o h
        · rw [upd_ne hsd]
          exact e4 _ _ hobj'
        · exact (Tx.updK h34).dp (imm_row _) hln4
        · rw [upd_ne hdu]
          exact hd4
        · obtain ⟨g1, g2, g3, y8, y9, kvs, rfl, g4, g5, g6⟩ := p
          obtain ⟨tp, x1, x2, rfl, htp, rfl, k1, k2⟩ := y
          have hjl : j < wvs.length := by omega
          have hgj := List.getElem?_eq_getElem hjl
          obtain ⟨k, x, ek, hkk, hxx⟩ := waysAt_at h4 hgj
          rw [ek] at hgj
          have ek1 : x1 = .int k := by
            have k1' : (wvs[j]?).map (fun kv => kV kv.1) = some x1 := k1
            rw [hgj] at k1'
            exact (Option.some.inj k1').symm
          have ek2 : x2 = .int x := by
            have k2' : (wvs[j]?).map Prod.snd = some x2 := k2
            rw [hgj] at k2'
            exact (Option.some.inj k2').symm
          subst ek1 ek2
          have ud_ne : ud ≠ tp := fun z => by rw [z, htp] at g5; cases g5
          have d_ne : d ≠ tp := fun z => by rw [z, htp] at g1; cases g1
          have s_ne : s ≠ tp := fun z => by rw [z, htp] at g3; cases g3
          have g5' : upd H5 tp (.tup [.int k, .int x]) ud = some (.dK kvs) := by rw [upd_ne ud_ne]; exact g5
          have g3' : upd H5 tp (.tup [.int k, .int x]) s = some (.ins C dx' (pf n st tk)) := by rw [upd_ne s_ne]; exact g3
          walk_at "rd"
          refine ⟨ud, rfl, .inl ⟨kvs, .inl g5'⟩, ?_⟩
          walk_at "rd"
          refine ⟨_, DGet.k (k := Sum.inl k) g5', ?_⟩
          obtain ⟨v0, ev0, v1, v2⟩ := waysAt_get (k := Sum.inl k) g6 (show (0 : Int) < n by omega)
          rw [ev0]
          walk_at "rd"
          refine ⟨s, C, dx', _, _, rfl, g3', TC.cl, TC.nP, pf_p, ?_⟩
          walk_at "rd"
          have hlk := waysAt_len g6 hB0
          refine ⟨ud, _, rfl, DPut.k (k := Sum.inl k) g5' (Nat.lt_of_lt_of_le (show kvs.length < 1000000 by omega) (small2 (Nat.le_refl _))), ?_⟩
          refine ⟨by rw [upd_ne (Ne.symm hdu), upd_ne d_ne]; exact g1, ?_, by rw [upd_ne hsu]; exact g3', _, _, _, rfl, (Tx.updK g5').dp (imm_row _) ((Ex.new htp).dp g4), upd_same, waysAt_put g6 hkk ⟨Int.emod_nonneg _ (by omega), Int.emod_lt_of_pos _ (by omega)⟩⟩
          rw [upd_comm' (Ne.symm hdu)]
          refine Ex.mut ?_ hud
          rw [upd_comm' d_ne]
          refine Ex.mut g2 ?_
          cases hh : H tp with
          | none => rfl
          | some o =>
            have := g2 _ _ hh
            rw [upd_ne (Ne.symm d_ne), htp] at this
            cases this
        · obtain ⟨g1, g2, g3, y8, y9, kvs, rfl, g4, g5, g6⟩ := p
          refine ⟨g1, g2, ln, _, _, _, _, _, _, kvs, rfl, ?_, by rw [upd_ne hdu]; exact g5, g6⟩
          rw [hln]
          have tx : Tx H5 (upd H5 d (.dK wvs)) := Tx.wr g1 (fun _ z => by cases z) (fun _ _ z => by cases z)
          exact tx.dp (imm_row _) g4
      · walk_at "rd"
        refine ⟨e, _, _, _, _, _, _, _, kvs, rfl, ?_, hd, hk⟩
        rw [hln]
        unfold offI
        rw [if_pos hz]
        exact hl
    · obtain ⟨e, l, y4, y5, y6, y7, y8, y9, kvs, rfl, hl, hd, hk⟩ := p
      rw [hsl, List.take_length] at hl
      obtain ⟨la, rfl, hla⟩ := dp_row hl
      walk_at "rd"
      refine w_dispT (by simp) fun t ht => ?_
      exact q t la ud kvs _ (e.trans (Ex.new ht)) upd_same ((Ex.new ht).dp hl) ((Ex.new ht) _ _ hd) hk
end TK

namespace TK
open PySem PySem.Spec PyProof.Rows L2 TH
local macro_rules | `(tactic| walk_at "rd1") => `(tactic| first
  | (with_reducible refine TH.w_seq ?_)
  | (with_reducible refine TH.w_asg ?_)
  | (with_reducible refine TH.w_ret ?_)
  | (with_reducible refine TH.w_drop ?_)
  | (with_reducible refine TH.w_ifS ?_)
  | (with_reducible refine TH.w_next ?_)
  | ((with_reducible refine TH.w_var (v := ?vv) ?hv ?_); (case hv => rfl))
  | (with_reducible refine TH.w_c ?_)
  | ((with_reducible refine TH.w_gname (σ' := ?ss) ?hs ?_); (case hs => (dsimp only [List.set]; rfl)))
  | (with_reducible refine TH.w_op ?_)
  | (with_reducible refine TH.w_un ?_)
  | (with_reducible refine TH.w_chain ?_)
  | (with_reducible refine TH.w_I0 ?_)
  | ((with_reducible refine TH.w_I ?hm ?_); (case hm => first | (exact TH.CMul.l (by omega) (by omega)) | (exact TH.CMul.r (by omega) (by omega)) | (exact TH.CDiv.mk (by omega) (by omega)) | (show (0 : Int) < _; omega) | (exact TH.CPow.mk (by omega) (by omega) (by decide))))
  | (with_reducible refine TH.w_U ?_)
  | (with_reducible refine TH.w_eqI ?_)
  | (with_reducible refine TH.w_neI ?_)
  | (with_reducible refine TH.w_eqB ?_)
  | (with_reducible refine TH.w_isN ?_)
  | (with_reducible refine TH.w_nil ?_)
  | (with_reducible refine TH.w_cons ?_)
  | (with_reducible refine TH.w_test ?_)
  | (with_reducible refine TH.w_B ?_)
  | (with_reducible refine TH.w_bl ?_)
  | (with_reducible refine TH.w_and ?_)
  | (with_reducible refine TH.w_or ?_)
  | (with_reducible refine TH.w_not ?_)
  | (with_reducible refine TH.w_andV ?_)
  | (with_reducible refine TH.w_orV ?_)
  | (with_reducible refine TH.w_notV ?_)
  | (with_reducible refine TH.w_if ?_)
  | (with_reducible refine TH.w_parT ?_)
  | (with_reducible refine TH.w_par ?_)
  | (with_reducible refine TH.w_parT3 ?_)
  | (with_reducible refine TH.w_par3 ?_)
  | (with_reducible refine TH.w_cb ?_)
  | (with_reducible refine TH.w_call ?_)
  | ((with_reducible refine TH.w_aug (v := ?vv) ?hv ?_); (case hv => rfl))
  | (with_reducible refine TH.w_ip ?_)
  | (with_reducible refine TH.w_bm ?_)
  | (with_reducible refine TH.w_sl ?_)
  | (with_reducible refine TH.w_np ?_)
  | (with_reducible refine TH.w_pt ?_)
  | (with_reducible refine TH.w_pti ?_)
  | (with_reducible refine TH.w_gsub ?_)
  | (with_reducible refine TH.w_int ?_)
  | (with_reducible refine TH.w_tupT ?_)
  | (with_reducible refine TH.w_lstT ?_)
  | ((with_reducible show L2.rIxL _ _ _ _ _); (first | (refine TH.w_ixL (TH.sqL upd_same) rfl ?_) | (refine TH.w_ixL (TH.sqL (by assumption)) rfl ?_)))
  | ((with_reducible show L2.rSetL _ _ _ _ _); (first | (refine TH.w_set1 upd_same ?_) | (refine TH.w_set2 upd_same ?_) | (refine TH.w_set3 upd_same ?_) | (refine TH.w_set4 upd_same ?_) | (refine TH.w_set1 (by assumption) ?_) | (refine TH.w_set2 (by assumption) ?_) | (refine TH.w_set3 (by assumption) ?_) | (refine TH.w_set4 (by assumption) ?_)))
  | (with_reducible refine TH.w_lc ?_)
  | (with_reducible refine TH.w_dc ?_)
  | (with_reducible refine TH.w_itup ?_)
  | (with_reducible refine TH.w_ilist ?_)
  | (with_reducible refine TH.w_ienum ?_)
  | (with_reducible refine TH.w_izip ?_)
  | (with_reducible refine TH.w_irng1 ?_)
  | (with_reducible refine TH.w_irng2 ?_)
  | (with_reducible refine TH.w_for ?_)
  | (with_reducible refine TH.w_gcons ?_)
  | (with_reducible refine TH.w_gnil ?_)
  | (with_reducible refine TH.w_yes ?_)
  | (with_reducible refine TH.w_gtup2 upd_same ?_)
  | (with_reducible refine TH.w_gtup3 upd_same ?_)
  | (with_reducible refine TH.w_dput ?_)
  | (with_reducible refine TH.w_lock ?_)
  | (with_reducible refine TH.w_ikeys ?_)
  | (with_reducible refine TH.w_iitems ?_)
  | (with_reducible refine TH.w_dispT1 ?_)
  | (with_reducible refine TH.w_dnewT ?_)
  | (with_reducible refine TH.w_dnewK ?_)
  | (with_reducible refine TH.w_fld ?_)
  | (with_reducible refine TH.w_sfld ?_)
  | (with_reducible refine TH.w_meth ?_)
  | (with_reducible refine TH.w_make ?_)
  | (with_reducible refine TH.w_dget2 ?_)
  | (with_reducible refine TH.w_revL ?_)
  | (with_reducible refine TH.w_T ?_)
  | (with_reducible refine TH.w_F ?_))
local macro_rules | `(tactic| walk_at "rd") => `(tactic| repeat (first | walk_at "rd1" | (dsimp only [List.set, L2.wipe, List.map, TH.isInt, TH.isBool, TH.isTup, TH.isLst, TH.bo_f, TH.bo_t, TH.ba_f, TH.ba_t, TH.bn_t, TH.bn_f, List.append_nil, List.cons_append, List.nil_append])))

variable {P : Program} {w : World} {K : PySem.W.Frag} {mg : Str → Option Value} {base : Heap}
/-! Stairs.take(number, row) -/
theorem firstI_lt {ns : List Int} {q : Nat} (h : firstI ns = some q) : q < ns.length ∧ ns.getD q 0 ≠ 0 ∧ ∀ j, j < q → ns.getD j 0 = 0 := by
  unfold firstI at h
  rw [List.findIdx?_eq_some_iff_getElem] at h
  obtain ⟨h1, h2, h3⟩ := h
  refine ⟨h1, ?_, fun j hj => ?_⟩
  · rw [List.getD_eq_getElem?_getD, List.getElem?_eq_getElem h1]
    simpa using h2
  · have hj' : j < ns.length := by omega
    have := h3 j hj
    rw [List.getD_eq_getElem?_getD, List.getElem?_eq_getElem hj']
    simpa using this
theorem firstI_zero {ns : List Int} (h : firstI ns = none) (j : Nat) : ns.getD j 0 = 0 := by
  unfold firstI at h
  rw [List.findIdx?_eq_none_iff] at h
  rw [List.getD_eq_getElem?_getD]
  cases g : ns[j]? with
  | none => rfl
  | some x =>
    have := h x (List.mem_of_getElem? g)
    simpa using this
section
open LA
def Took (n : Nat) [NeZero n] (r : List Int) (S S' : List (Nat × List Int)) : Prop := (firstI (lessI n S r) = none ∧ S' = S) ∨
  ∃ (q : Nat) (t : Int), firstI (lessI n S r) = some q ∧ cF n t * cF n ((lessI n S r).getD q 0) = 1 ∧ S' = S ++ [(q, iScale n t (lessI n S r))]
def sp_st_take (K : PySem.W.Frag) (C : Addr) : Sp := fun vs H Q _ => ∃ (n : Nat) (_ : NeZero n) (wide : Nat) (B : Int) (s st tk : Addr) (us : List V) (S : List (Nat × List Int)) (u : V) (r : List Int) (number : Int) (H0 : Hp), vs = [.ref s, .int number, u] ∧ Clk n ∧ 0 ≤ B ∧ B ≤ 1000 ∧ 0 ≤ number ∧ number < B ∧
  wide ≤ 1000 ∧ S.length ≤ 1000 ∧ StairsAt K C H s st tk n B us S ∧ st ≠ tk ∧ (∀ a ∈ S, Rin n wide a.2 ∧ a.1 < wide) ∧ Dp K H u (row r) ∧ Rin n wide r ∧ Ex H0 H ∧ H0 st = none ∧ H0 tk = none ∧
  ∀ v H' us' S', Ex H0 H' → StairsAt K C H' s st tk n B us' S' → Took n r S S' → Q v H'
theorem ok_st_take {C f : Addr} {fd : FuncData} (me : Meth K C "take" f) (F : C8.Fun K "take" "Stairs.take" s_Stairs_take f fd) (b : Binds K fd ["self", "number", "row"] []) (T : Txt mg) (TC : StC K C)
    (c_Stairs_less : C8.Met P w K mg base 2 C "less" (sp_st_less K C) []) (c_first_place : C8.Cal P w K mg base 1 "first_place" (sp_first_place K) []) (c_inverse_of : C8.Cal P w K mg base 1 "inverse_of" (sp_inverse_of K) []) (c_scaled : C8.Cal P w K mg base 1 "scaled" (sp_scaled K) []) : C8.Met P w K mg base 3 C "take" (sp_st_take K C) [] := by
  refine C8.met0 TC.cl me F b sc_Stairs_take (fun vs H Q E h => ?_) (fun cdv A outer s H vs Q E hr h => ?_)
  · obtain ⟨n, _, wide, B, s, st, tk, us, S, u, r, number, H0, rfl, _⟩ := h
    rfl
  · obtain ⟨n, inst, wide, B, s, st, tk, us, S, u, r, number, H0, rfl, hc, hB0, hB, hn0, hnB, hw, hSl, hst, hstk, hS, hu1, hr1, ex0, z1, z2, q⟩ := h
    have n2 := hc.two
    have nm := hc.le
    have hu := hu_of hr
    refine ⟨_, (pss_cons (ps_asg (C8.pe_mt c_Stairs_less hr (by first | decide | exact Nat.le_refl _) (pv 0) (pa_cons (pv 2) pa_nil)) (TH.kpg_tup (K := K) (n := 2) rfl (pgs_cons (pg_name (i := 6) sc_Stairs_take.nd rfl (Or.inl rfl) (Or.inr rfl)) (pgs_cons (pg_name (i := 7) sc_Stairs_take.nd rfl (Or.inl rfl) (Or.inr rfl)) pgs_nil))))
      (pss_cons (ps_set (i := 3) sc_Stairs_take.nd rfl (Or.inl rfl) (C8.pe_c c_first_place hr (by first | decide | exact Nat.le_refl _) (by rfl) (pa_cons (pv 6) pa_nil)))
      (pss_cons (ps_if (pt_cmpR op_isN (pv 3) pe_non (nomark _)) (pss_one (ps_ret pe_bl)) pss_nil)
      (pss_cons (ps_set (i := 4) sc_Stairs_take.nd rfl (Or.inr rfl) (C8.pe_c c_inverse_of hr (by first | decide | exact Nat.le_refl _) (by rfl) (pa_cons (TH.kpe_fld (K := K) (pv 0) rfl) (pa_cons (pe_ix (TH.kix_tup (K := K)) (pv 6) (pv 3) (fun _ _ => rfl)) pa_nil))))
      (pss_cons (ps_lock (TH.ps_setDc (i := 5) (own := [("one", 8), ("many", 9)]) (g := gTup K 2 (gCons (gName 8) (gCons (gName 9) gNil))) (tt := tYes) rfl sc_Stairs_take.nd rfl rfl (TH.sw_trueD rfl rfl rfl (by decide +kernel)) (pi_items (pv 7)) (blkOk_by (own := [("one", 8), ("many", 9)]) (N := N_Stairs_take) (sc := C8.fnScope s_Stairs_take) (by decide +kernel)) (fun _ _ _ _ _ => (TH.kpg_tup (K := K) (n := 2) rfl (pgs_cons (pg_name (i := 8) sc_Stairs_take.nd rfl (Or.inl rfl) (Or.inr rfl)) (pgs_cons (pg_name (i := 9) sc_Stairs_take.nd rfl (Or.inl rfl) (Or.inr rfl)) pgs_nil)))) (fun _ _ _ _ _ => pts_nil) (fun _ _ _ _ _ => (pv 8)) (fun _ _ _ _ _ => (pe_op op_mod (pe_op op_mul (pe_un un_neg (pv 9)) (pv 4)) (TH.kpe_fld (K := K) (pv 0) rfl)))))
      (pss_cons (ps_dput hu (pv 5) (pv 1) (pv 4) rfl)
      (pss_cons (ps_expr (TH.kpe_bm (K := K) PySem.F.plainAttrs_list PySem.F.slot_list_append PySem.F.type_list_append mt_append (TH.kpe_fld (K := K) (pv 0) rfl) (pa_cons (pe_tup (pa_cons (pv 3) (pa_cons (C8.pe_c c_scaled hr (by first | decide | exact Nat.le_refl _) (by rfl) (pa_cons (TH.kpe_fld (K := K) (pv 0) rfl) (pa_cons (pv 4) (pa_cons (pv 6) pa_nil)))) (pa_cons (pv 5) pa_nil)))) pa_nil)))
      (pss_cons (ps_expr (TH.kpe_bm (K := K) PySem.F.plainAttrs_list PySem.F.slot_list_append PySem.F.type_list_append mt_append (TH.kpe_fld (K := K) (pv 0) rfl) (pa_cons (pv 1) pa_nil)))
      (pss_one (ps_ret pe_bl)))))))))), ?_⟩
    refine w_start (σ' := [some (.ref s), some (.int number), some u, none, none, none, none, none, none, none]) rfl ?_
    obtain ⟨⟨dx, hobj⟩, _, _, _⟩ := id hst
    walk_at "rd"
    refine ⟨s, dx, _, rfl, hobj, pf_no (by decide +kernel) (by decide +kernel) (by decide +kernel), ?_⟩
    walk_at "rd"
    refine ⟨n, inst, wide, B, s, st, tk, us, S, u, r, rfl, hc, hB0, hB, hw, hst, hS, hu1, hr1, fun t a d kvs H1 e1 ht ha hd hk => ?_⟩
    refine w_gtup2 ht ?_
    walk_at "rd"
    have hli := lessI_in (n := n) (S := S) (fun b hb => (hS b hb).1) hr1
    have hTook : ∀ S', Took n r S S' ↔ ((firstI (lessI n S r) = none ∧ S' = S) ∨ ∃ (q : Nat) (t : Int), firstI (lessI n S r) = some q ∧ cF n t * cF n ((lessI n S r).getD q 0) = 1 ∧ S' = S ++ [(q, iScale n t (lessI n S r))]) := fun _ => Iff.rfl
    generalize lessI n S r = lr at ha hli hTook
    have hli1 := hli.1
    refine ⟨_, lr, rfl, ha, fun H2 e2 => ?_⟩
    have e12 := e1.trans e2
    have hst2 := hst.ex e12
    cases hf : firstI lr with
    | none =>
      show _
      walk_at "rd"
      exact q _ H2 us S (ex0.trans e12) hst2 ((hTook S).mpr (.inl ⟨hf, rfl⟩))
    | some pl =>
      obtain ⟨f1, f2, f3⟩ := firstI_lt hf
      show _
      walk_at "rd"
      refine w_dec (fun z => by cases z) (fun _ => ?_)
      have eo : optV (some pl) = .int (pl : Nat) := rfl
      rw [eo]
      walk_at "rd"
      have hv : 0 ≤ lr.getD pl 0 ∧ lr.getD pl 0 < n := hli.2 _ (List.mem_of_getElem? (getD_at (i := pl) (d := 0) f1))
      have ha2 := e2.dp ha
      have hd2 := e2 _ _ hd
      obtain ⟨la, ela, hla⟩ := dp_row ha2
      cases ela
      have hobj2 := e12 _ _ hobj
      refine ⟨s, C, dx, _, _, rfl, hobj2, TC.cl, TC.nP, pf_p, ?_⟩
      walk_at "rd"
      refine w_ixT hla (atI_int (getD_at (i := pl) (d := 0) f1)) ?_
      walk_at "rd"
      have hcop : Int.gcd n (lr.getD pl 0) = 1 := by
        have := hc.cop (v := (lr.getD pl 0).toNat) (by omega) (by omega)
        have e : lr.getD pl 0 = (((lr.getD pl 0).toNat : Nat) : Int) := by omega
        rw [e]
        exact this
      refine ⟨_, _, rfl, by omega, by omega, by omega, hv.2, hcop, fun tn H3 e3 t0 t1 htn => ?_⟩
      have hinv : cF n tn * cF n (lr.getD pl 0) = 1 := by
        rw [← cF_mul, ← cF_one, cF_iff, Int.mul_comm, htn, Int.emod_eq_of_lt (by omega) (by omega)]
      walk_at "rd"
      have hd3 := e3 _ _ hd2
      have hobj3 := e3 _ _ hobj2
      have hsd : s ≠ d := fun z => by rw [z, hd3] at hobj3; cases hobj3
      refine ⟨d, .dK kvs, hd3, trivial, fun od => ?_⟩
      walk_at "rd"
      refine ⟨d, od, kvs, rfl, upd_same, fun wd hwd => ?_⟩
      have hwd0 : d ≠ wd := fun z => by rw [z, upd_same] at hwd; cases hwd
      have hwd3 : H3 wd = none := by rw [upd_ne (Ne.symm hwd0)] at hwd; exact hwd
      refine dc_go walk_items (fun j H5 => H5 d = some (.frz od (.dK kvs)) ∧ Ex H3 (upd H5 d (.dK kvs)) ∧ ∃ wvs, H5 wd = some (.dK wvs) ∧ WaysAt n B wvs) ⟨?_, ?_, [], upd_same, waysAt_nil⟩ (fun j H5 _ p => p.1) (fun j x5 H5 H6 hj p y => ?_) (fun H5 p => ?_)
      · rw [upd_ne hwd0]; exact upd_same
      · rw [upd_comm' hwd0]
        exact (lock_start hd3).mut hwd3
      · obtain ⟨g1, g2, wvs, g5, g6⟩ := p
        obtain ⟨tp, x1, x2, rfl, htp, rfl, k1, k2⟩ := y
        have hjl : j < kvs.length := by omega
        have hgj := List.getElem?_eq_getElem hjl
        obtain ⟨k, x, ek, hkk, hxx⟩ := waysAt_at hk hgj
        rw [ek] at hgj
        have ek1 : x1 = .int k := by
          have k1' : (kvs[j]?).map (fun kv => kV kv.1) = some x1 := k1
          rw [hgj] at k1'
          exact (Option.some.inj k1').symm
        have ek2 : x2 = .int x := by
          have k2' : (kvs[j]?).map Prod.snd = some x2 := k2
          rw [hgj] at k2'
          exact (Option.some.inj k2').symm
        subst ek1 ek2
        have d_ne : d ≠ tp := fun z => by rw [z, htp] at g1; cases g1
        have w_ne : wd ≠ tp := fun z => by rw [z, htp] at g5; cases g5
        have g3 := lock_back g2 hsd hobj3
        have s_ne : s ≠ tp := fun z => by rw [z, htp] at g3; cases g3
        have g5' : upd H5 tp (.tup [.int k, .int x]) wd = some (.dK wvs) := by rw [upd_ne w_ne]; exact g5
        have g3' : upd H5 tp (.tup [.int k, .int x]) s = some (.ins C dx (pf n st tk)) := by rw [upd_ne s_ne]; exact g3
        walk_at "rd"
        refine ⟨rfl, ?_⟩
        walk_at "rd"
        refine ⟨s, C, dx, _, _, rfl, g3', TC.cl, TC.nP, pf_p, ?_⟩
        walk_at "rd"
        have hlk := waysAt_len g6 hB0
        refine ⟨wvs, Sum.inl k, rfl, g5', Nat.lt_of_lt_of_le (show wvs.length < 1000000 by omega) (small2 (Nat.le_refl _)), ?_, ?_, _, upd_same, waysAt_put g6 hkk ⟨Int.emod_nonneg _ (by omega), Int.emod_lt_of_pos _ (by omega)⟩⟩
        · rw [upd_ne hwd0, upd_ne d_ne]; exact g1
        · rw [upd_comm' hwd0]
          refine Ex.mut ?_ hwd3
          rw [upd_comm' d_ne]
          refine Ex.mut g2 ?_
          cases hh : H3 tp with
          | none => rfl
          | some o =>
            have := g2 _ _ hh
            rw [upd_ne (Ne.symm d_ne), htp] at this
            cases this
      · obtain ⟨g1, g2, wvs, g5, g6⟩ := p
        walk_at "rd"
        refine ⟨g1, ?_⟩
        have g5' : upd H5 d (.dK kvs) wd = some (.dK wvs) := by rw [upd_ne (Ne.symm hwd0)]; exact g5
        generalize upd H5 d (.dK kvs) = H6 at g2 g5'
        walk_at "rd"
        have hlk := waysAt_len g6 hB0
        refine ⟨wd, _, rfl, DPut.k (k := Sum.inl number) g5' (Nat.lt_of_lt_of_le (show wvs.length < 1000000 by omega) (small2 (Nat.le_refl _))), ?_⟩
        have g7 : WaysAt n B (putK wvs (Sum.inl number) (.int tn)) := waysAt_put g6 ⟨hn0, hnB⟩ ⟨t0, t1⟩
        have e36 : Ex H3 (upd H6 wd (.dK (putK wvs (Sum.inl number) (.int tn)))) := g2.mut hwd3
        have g8 : upd H6 wd (.dK (putK wvs (Sum.inl number) (.int tn))) wd = some (.dK (putK wvs (Sum.inl number) (.int tn))) := upd_same
        generalize putK wvs (Sum.inl number) (.int tn) = wvs2 at g7 e36 g8 ⊢
        generalize upd H6 wd (.dK wvs2) = H7 at e36 g8 ⊢
        have e27 := e3.trans e36
        have hst7 := hst2.ex e27
        have hobj7 := e27 _ _ hobj2
        have ha7 := e27.dp ha2
        walk_at "rd"
        refine ⟨s, C, dx, _, _, rfl, hobj7, TC.cl, TC.nS, pf_steps, tyL hst7.steps, ?_⟩
        walk_at "rd"
        refine ⟨s, C, dx, _, _, rfl, hobj7, TC.cl, TC.nP, pf_p, ?_⟩
        walk_at "rd"
        refine ⟨_, _, _, lr, rfl, ha7, by omega, t0, by omega, by omega, fun sr H8 e8 hsr => ?_⟩
        walk_at "rd"
        refine w_dispT (by simp) fun tt htt => ?_
        have hst8 := hst7.ex (e8.trans (Ex.new (o := .tup [.int pl, sr, .ref wd]) htt))
        have e89 := e8.trans (Ex.new (o := .tup [.int pl, sr, .ref wd]) htt)
        obtain ⟨sra, esr, _⟩ := dp_row hsr
        subst esr
        have hnew : StepAt K (upd H8 tt (.tup [.int pl, .ref sra, .ref wd])) n B (.ref tt) (pl, iScale n tn lr) := ⟨tt, sra, wd, wvs2, rfl, upd_same, (Ex.new htt).dp hsr, e89 _ _ g8, g7⟩
        have hobj8 := e89 _ _ hobj7
        have ex8 : Ex H0 (upd H8 tt (.tup [.int pl, .ref sra, .ref wd])) := ex0.trans (e12.trans (e27.trans e89))
        generalize upd H8 tt (.tup [.int pl, .ref sra, .ref wd]) = H9 at hst8 hnew hobj8 ex8 ⊢
        obtain ⟨_, s1, ⟨ts, s2, s3⟩, s4⟩ := hst8
        have hul := s4.1
        walk_at "rd"
        refine w_app s1 (by omega) ?_
        walk_at "rd"
        have hss : s ≠ st := fun z => by rw [z, s1] at hobj8; cases hobj8
        have hsk : s ≠ tk := fun z => by rw [z, s2] at hobj8; cases hobj8
        have s2' : upd H9 st (.lst (us ++ [.ref tt])) tk = some (.lst ts) := by rw [upd_ne (Ne.symm hstk)]; exact s2
        refine ⟨s, C, dx, _, _, rfl, by rw [upd_ne hss]; exact hobj8, TC.cl, TC.nT, pf_taken, tyL s2', ?_⟩
        walk_at "rd"
        refine w_app s2' (by omega) ?_
        walk_at "rd"
        refine q _ _ (us ++ [.ref tt]) (S ++ [(pl, iScale n tn lr)]) ((ex8.mut z1).mut z2) ⟨⟨dx, by rw [upd_ne hsk, upd_ne hss]; exact hobj8⟩, by rw [upd_ne hstk]; exact upd_same, ⟨_, upd_same, by rw [List.length_append, List.length_append, s3]; rfl⟩, ?_⟩ ((hTook _).mpr (.inr ⟨pl, tn, hf, hinv, rfl⟩))
        exact (s4.snoc hnew |>.wr s1).wr s2'
end
end TK

namespace TK
open PySem PySem.Spec PyProof.Rows L2 TH
local macro_rules | `(tactic| walk_at "rd1") => `(tactic| first
  | (with_reducible refine TH.w_seq ?_)
  | (with_reducible refine TH.w_asg ?_)
  | (with_reducible refine TH.w_ret ?_)
  | (with_reducible refine TH.w_drop ?_)
  | (with_reducible refine TH.w_ifS ?_)
  | (with_reducible refine TH.w_next ?_)
  | ((with_reducible refine TH.w_var (v := ?vv) ?hv ?_); (case hv => rfl))
  | (with_reducible refine TH.w_c ?_)
  | ((with_reducible refine TH.w_gname (σ' := ?ss) ?hs ?_); (case hs => (dsimp only [List.set]; rfl)))
  | (with_reducible refine TH.w_op ?_)
  | (with_reducible refine TH.w_un ?_)
  | (with_reducible refine TH.w_chain ?_)
  | (with_reducible refine TH.w_I0 ?_)
  | ((with_reducible refine TH.w_I ?hm ?_); (case hm => first | (exact TH.CMul.l (by omega) (by omega)) | (exact TH.CMul.r (by omega) (by omega)) | (exact TH.CDiv.mk (by omega) (by omega)) | (show (0 : Int) < _; omega) | (exact TH.CPow.mk (by omega) (by omega) (by decide))))
  | (with_reducible refine TH.w_U ?_)
  | (with_reducible refine TH.w_eqI ?_)
  | (with_reducible refine TH.w_neI ?_)
  | (with_reducible refine TH.w_eqB ?_)
  | (with_reducible refine TH.w_isN ?_)
  | (with_reducible refine TH.w_nil ?_)
  | (with_reducible refine TH.w_cons ?_)
  | (with_reducible refine TH.w_test ?_)
  | (with_reducible refine TH.w_B ?_)
  | (with_reducible refine TH.w_bl ?_)
  | (with_reducible refine TH.w_and ?_)
  | (with_reducible refine TH.w_or ?_)
  | (with_reducible refine TH.w_not ?_)
  | (with_reducible refine TH.w_andV ?_)
  | (with_reducible refine TH.w_orV ?_)
  | (with_reducible refine TH.w_notV ?_)
  | (with_reducible refine TH.w_if ?_)
  | (with_reducible refine TH.w_parT ?_)
  | (with_reducible refine TH.w_par ?_)
  | (with_reducible refine TH.w_parT3 ?_)
  | (with_reducible refine TH.w_par3 ?_)
  | (with_reducible refine TH.w_cb ?_)
  | (with_reducible refine TH.w_call ?_)
  | ((with_reducible refine TH.w_aug (v := ?vv) ?hv ?_); (case hv => rfl))
  | (with_reducible refine TH.w_ip ?_)
  | (with_reducible refine TH.w_bm ?_)
  | (with_reducible refine TH.w_sl ?_)
  | (with_reducible refine TH.w_np ?_)
  | (with_reducible refine TH.w_pt ?_)
  | (with_reducible refine TH.w_pti ?_)
  | (with_reducible refine TH.w_gsub ?_)
  | (with_reducible refine TH.w_int ?_)
  | (with_reducible refine TH.w_tupT ?_)
  | (with_reducible refine TH.w_lstT ?_)
  | ((with_reducible show L2.rIxL _ _ _ _ _); (first | (refine TH.w_ixL (TH.sqL upd_same) rfl ?_) | (refine TH.w_ixL (TH.sqL (by assumption)) rfl ?_)))
  | ((with_reducible show L2.rSetL _ _ _ _ _); (first | (refine TH.w_set1 upd_same ?_) | (refine TH.w_set2 upd_same ?_) | (refine TH.w_set3 upd_same ?_) | (refine TH.w_set4 upd_same ?_) | (refine TH.w_set1 (by assumption) ?_) | (refine TH.w_set2 (by assumption) ?_) | (refine TH.w_set3 (by assumption) ?_) | (refine TH.w_set4 (by assumption) ?_)))
  | (with_reducible refine TH.w_lc ?_)
  | (with_reducible refine TH.w_dc ?_)
  | (with_reducible refine TH.w_itup ?_)
  | (with_reducible refine TH.w_ilist ?_)
  | (with_reducible refine TH.w_ienum ?_)
  | (with_reducible refine TH.w_izip ?_)
  | (with_reducible refine TH.w_irng1 ?_)
  | (with_reducible refine TH.w_irng2 ?_)
  | (with_reducible refine TH.w_for ?_)
  | (with_reducible refine TH.w_gcons ?_)
  | (with_reducible refine TH.w_gnil ?_)
  | (with_reducible refine TH.w_yes ?_)
  | (with_reducible refine TH.w_gtup2 upd_same ?_)
  | (with_reducible refine TH.w_gtup3 upd_same ?_)
  | (with_reducible refine TH.w_dput ?_)
  | (with_reducible refine TH.w_lock ?_)
  | (with_reducible refine TH.w_ikeys ?_)
  | (with_reducible refine TH.w_iitems ?_)
  | (with_reducible refine TH.w_dispT1 ?_)
  | (with_reducible refine TH.w_dnewT ?_)
  | (with_reducible refine TH.w_dnewK ?_)
  | (with_reducible refine TH.w_fld ?_)
  | (with_reducible refine TH.w_sfld ?_)
  | (with_reducible refine TH.w_meth ?_)
  | (with_reducible refine TH.w_make ?_)
  | (with_reducible refine TH.w_dget2 ?_)
  | (with_reducible refine TH.w_revL ?_)
  | (with_reducible refine TH.w_T ?_)
  | (with_reducible refine TH.w_F ?_))
local macro_rules | `(tactic| walk_at "rd") => `(tactic| repeat (first | walk_at "rd1" | (dsimp only [List.set, L2.wipe, List.map, TH.isInt, TH.isBool, TH.isTup, TH.isLst, TH.bo_f, TH.bo_t, TH.ba_f, TH.ba_t, TH.bn_t, TH.bn_f, List.append_nil, List.cons_append, List.nil_append])))

variable {P : Program} {w : World} {K : PySem.W.Frag} {mg : Str → Option Value} {base : Heap}
section
open LA
variable {n : Nat} [NeZero n]
/-! ### the stairs over Fin n -/
def stF (n : Nat) [NeZero n] (S : List (Nat × List Int)) : List (Nat × List (_root_.Fin n)) := S.map fun a => (a.1, toF n a.2)
theorem stF_rows (S : List (Nat × List Int)) : rowsOf (stF n S) = rowsF n (S.map (·.2)) := by
  unfold rowsOf stF rowsF
  rw [List.map_map, List.map_map]
  rfl
theorem toF_less {wide : Nat} : ∀ {S : List (Nat × List Int)} {r : List Int}, (∀ a ∈ S, Rin n wide a.2) → Rin n wide r → toF n (lessI n S r) = lessF (stF n S) (toF n r)
  | [], _, _, _ => rfl
  | a :: S, r, hS, h => by
    have ha := hS a List.mem_cons_self
    have := toF_less (S := S) (r := offI n a.2 a.1 r) (fun b hb => hS b (List.mem_cons_of_mem _ hb)) (offI_in h ha)
    rw [toF_off h.1 ha.1] at this
    exact this
structure StI (n : Nat) [NeZero n] (wide : Nat) (rs : List (List Int)) (S : List (Nat × List Int)) : Prop where
  inr : ∀ a ∈ S, Rin n wide a.2 ∧ a.1 < wide
  len : S.length ≤ rs.length
  sta : Sta wide (stF n S)
  eqv : Eqv wide (rowsOf (stF n S)) (rowsF n rs)
theorem stI_nil {wide : Nat} : StI n wide [] [] := ⟨fun a ha => (nomatch ha), Nat.le_refl _, ⟨fun a ha => (nomatch ha), .nil⟩, .refl _⟩
theorem stI_took {wide : Nat} {rs : List (List Int)} {S S' : List (Nat × List Int)} {r : List Int} (hc : Clk n) (hrs : ∀ x ∈ rs, Rin n wide x) (hr : Rin n wide r) (h : StI n wide rs S) (t : Took n r S S') : StI n wide (rs ++ [r]) S' := by
  have hR := rowsF_wd (n := n) fun x hx => (hrs x hx).1
  have hl : (toF n r).length = wide := by rw [toF_len]; exact hr.1
  have el := toF_less (n := n) (fun a ha => (h.inr a ha).1) hr
  have hli := lessI_in (n := n) (fun a ha => (h.inr a ha).1) hr
  have er : rowsF n (rs ++ [r]) = rowsF n rs ++ [toF n r] := by
    unfold rowsF
    rw [List.map_append]
    rfl
  rcases t with ⟨hf, rfl⟩ | ⟨q, c, hf, hc1, rfl⟩
  · refine ⟨h.inr, by rw [List.length_append]; have := h.len; omega, h.sta, ?_⟩
    rw [er]
    refine sta_none h.sta hR hl h.eqv ?_
    rw [← el]
    refine row_zero (by rw [toF_len]; exact hli.1) fun j _ => ?_
    rw [toF_at, firstI_zero hf, cF_zero]
  · obtain ⟨f1, f2, f3⟩ := firstI_lt hf
    have hq : q < wide := by rw [← hli.1]; exact f1
    have := sta_some (t := cF n c) (q := q) (fin_ne hc) h.sta hR hl h.eqv hq (fun j hj => by rw [← el, toF_at, f3 j hj, cF_zero]) (by rw [← el, toF_at]; exact hc1)
    have es : stF n (S ++ [(q, iScale n c (lessI n S r))]) = stF n S ++ [(q, smul (cF n c) (lessF (stF n S) (toF n r)))] := by
      unfold stF
      rw [List.map_append]
      show _ ++ [(q, toF n (iScale n c (lessI n S r)))] = _
      rw [toF_scale, el]
      rfl
    rw [← es] at this
    refine ⟨fun a ha => ?_, by rw [List.length_append, List.length_append]; have := h.len; simp; omega, this.1, by rw [er]; exact this.2⟩
    rcases List.mem_append.mp ha with m | m
    · exact h.inr a m
    · rw [List.mem_singleton.mp m]
      exact ⟨scale_in hli.1, hq⟩
/-! ### from the stairs to the ladder -/
def redI (n : Int) (D : List (Nat × List Int)) (r : List Int) : List Int := D.foldl (fun l a => iSub n l a.2 (l.getD a.1 0)) r
theorem redI_in {wide : Nat} : ∀ {D : List (Nat × List Int)} {r : List Int}, (∀ a ∈ D, Rin n wide a.2) → Rin n wide r → Rin n wide (redI n D r)
  | [], _, _, h => h
  | a :: D, r, hD, h => redI_in (D := D) (fun b hb => hD b (List.mem_cons_of_mem _ hb)) (iSub_in n_pos h.1 (hD a List.mem_cons_self).1)
theorem toF_red : ∀ (D : List (Nat × List Int)) (r : List Int), toF n (redI n D r) = lessF (stF n D) (toF n r)
  | [], _ => rfl
  | a :: D, r => by
    have := toF_red D (iSub n r a.2 (r.getD a.1 0))
    rw [toF_sub, ← toF_at] at this
    exact this
def desI (n : Int) (R : List (Nat × List Int)) : List (Nat × List Int) := R.foldl (fun D a => D ++ [(a.1, redI n D a.2)]) []
theorem desI_snoc (R : List (Nat × List Int)) (a : Nat × List Int) : desI n (R ++ [a]) = desI n R ++ [(a.1, redI n (desI n R) a.2)] := by
  unfold desI
  rw [List.foldl_append]
  rfl
structure DesOk (n : Nat) [NeZero n] (wide : Nat) (R D : List (Nat × List Int)) : Prop where
  inr : ∀ a ∈ D, Rin n wide a.2
  pl : D.map (·.1) = R.map (·.1)
  desc : Desc wide (stF n D)
  eqv : Eqv wide (rowsOf (stF n D)) (rowsOf (stF n R))
theorem desI_ok {wide : Nat} {R : List (Nat × List Int)} (hR : ∀ a ∈ R, Rin n wide a.2) (hg : ∀ a ∈ stF n R, Good wide a) (hp : R.Pairwise fun a b => b.1 < a.1) : ∀ i, DesOk n wide (R.take i) (desI n (R.take i))
  | 0 => ⟨fun a ha => by simp [desI] at ha, rfl, ⟨fun a ha => by simp [desI, stF] at ha, by simp [desI, stF]⟩, by simp [desI]; exact .refl _⟩
  | i + 1 => by
    have ih := desI_ok hR hg hp i
    rw [List.take_add_one]
    cases ha : R[i]? with
    | none => simpa using ih
    | some a =>
      show DesOk n wide (R.take i ++ [a]) (desI n (R.take i ++ [a]))
      rw [desI_snoc]
      have ham := List.mem_of_getElem? ha
      have hain := hR a ham
      have hgood : Good wide (a.1, toF n a.2) := hg _ (List.mem_map.mpr ⟨a, ham, rfl⟩)
      have hT : Wd wide (rowsOf (stF n (R.take i))) := fun x hx => by
        obtain ⟨b, hb, rfl⟩ := List.mem_map.mp hx
        obtain ⟨c, hc, rfl⟩ := List.mem_map.mp hb
        show (toF n c.2).length = wide
        rw [toF_len]
        exact (hR c (List.mem_of_mem_take hc)).1
      have hlt : ∀ b ∈ stF n (desI n (R.take i)), a.1 < b.1 := fun b hb => by
        obtain ⟨c, hc, rfl⟩ := List.mem_map.mp hb
        have hm : c.1 ∈ (desI n (R.take i)).map (·.1) := List.mem_map.mpr ⟨c, hc, rfl⟩
        rw [ih.pl] at hm
        obtain ⟨e, he, ee⟩ := List.mem_map.mp hm
        show a.1 < c.1
        rw [← ee]
        obtain ⟨j, hj⟩ := List.mem_iff_getElem?.mp he
        have hji : j < i := by
          have := (List.getElem?_eq_some_iff.mp hj).1
          rw [List.length_take] at this
          omega
        rw [List.getElem?_take_of_lt hji] at hj
        obtain ⟨j1, j2⟩ := List.getElem?_eq_some_iff.mp hj
        obtain ⟨i1, i2⟩ := List.getElem?_eq_some_iff.mp ha
        have := List.pairwise_iff_getElem.mp hp j i j1 i1 hji
        rw [j2, i2] at this
        exact this
      have step := desc_step ih.desc hgood hlt hT ih.eqv
      have es : stF n (desI n (R.take i) ++ [(a.1, redI n (desI n (R.take i)) a.2)]) = stF n (desI n (R.take i)) ++ [(a.1, lessF (stF n (desI n (R.take i))) (toF n a.2))] := by
        unfold stF
        rw [List.map_append]
        show _ ++ [(a.1, toF n (redI n (desI n (R.take i)) a.2))] = _
        rw [toF_red]
        rfl
      have er : rowsOf (stF n (R.take i ++ [a])) = rowsOf (stF n (R.take i)) ++ [toF n a.2] := by
        unfold rowsOf stF
        rw [List.map_append, List.map_append]
        rfl
      rw [← es, ← er] at step
      refine ⟨fun b hb => ?_, by rw [List.map_append, List.map_append, ih.pl]; rfl, step.1, step.2⟩
      rcases List.mem_append.mp hb with m | m
      · exact ih.inr b m
      · rw [List.mem_singleton.mp m]
        exact redI_in ih.inr hain
def lePl (a b : Nat × List Int) : Bool := decide (a.1 ≤ b.1)
def finI (n : Int) (S : List (Nat × List Int)) : List (List Int) := (desI n (S.mergeSort lePl).reverse).reverse.map (·.2)
theorem sorted_pl {wide : Nat} {S : List (Nat × List Int)} (h : Sta wide (stF n S)) : (S.mergeSort lePl).Pairwise fun a b => a.1 < b.1 := by
  have hp := List.mergeSort_perm S lePl
  have hs : (S.mergeSort lePl).Pairwise fun a b => lePl a b = true := List.pairwise_mergeSort (le := lePl) (fun a b c h1 h2 => by
    have h1 := of_decide_eq_true h1
    have h2 := of_decide_eq_true h2
    exact decide_eq_true (by omega)) (fun a b => by
    rcases Nat.le_total a.1 b.1 with z | z
    · rw [Bool.or_eq_true]; exact .inl (decide_eq_true z)
    · rw [Bool.or_eq_true]; exact .inr (decide_eq_true z)) S
  have hn : S.Pairwise fun a b => a.1 ≠ b.1 := by
    have := h.pw
    unfold stF at this
    rw [List.pairwise_map] at this
    exact this.imp fun z => z.1
  have hn' : (S.mergeSort lePl).Pairwise fun a b => a.1 ≠ b.1 := hp.symm.pairwise hn fun z => Ne.symm z
  exact (hs.and hn').imp fun ⟨a, b⟩ => by
    have := of_decide_eq_true a
    omega
theorem finI_ok {wide : Nat} {rs : List (List Int)} {S : List (Nat × List Int)} (h : StI n wide rs S) : LadI n wide rs (finI n S) ∧ (finI n S).length = S.length := by
  have hp := List.mergeSort_perm S lePl
  have hm : ∀ a, a ∈ (S.mergeSort lePl).reverse ↔ a ∈ S := fun a => by rw [List.mem_reverse]; exact hp.mem_iff
  have ok := desI_ok (n := n) (R := (S.mergeSort lePl).reverse) (fun a ha => (h.inr a ((hm a).mp ha)).1) (fun a ha => by
    obtain ⟨b, hb, rfl⟩ := List.mem_map.mp ha
    exact h.sta.good _ (List.mem_map.mpr ⟨b, (hm b).mp hb, rfl⟩)) (List.pairwise_reverse.mpr (sorted_pl h.sta)) (S.mergeSort lePl).reverse.length
  rw [List.take_length] at ok
  have hlen : (finI n S).length = S.length := by
    have e := congrArg List.length ok.pl
    rw [List.length_map, List.length_map, List.length_reverse] at e
    unfold finI
    rw [List.length_map, List.length_reverse, e, hp.length_eq]
  have ein : ∀ r ∈ finI n S, Rin n wide r := fun r hr => by
    obtain ⟨a, ha, rfl⟩ := List.mem_map.mp hr
    exact ok.inr a (List.mem_reverse.mp ha)
  have erow : rowsOf (stF n (desI n (S.mergeSort lePl).reverse)).reverse = rowsF n (finI n S) := by
    unfold rowsOf stF rowsF finI
    rw [List.map_reverse, List.map_map, List.map_reverse, List.map_reverse, List.map_map]
    rfl
  have hwD : Wd wide (rowsOf (stF n (desI n (S.mergeSort lePl).reverse))) := ok.desc.sta.wds.wd
  refine ⟨⟨ein, by rw [hlen]; exact h.len, ⟨_, erow, ok.desc.lad⟩, ?_⟩, hlen⟩
  have e1 : Eqv wide (rowsF n (finI n S)) (rowsOf (stF n (desI n (S.mergeSort lePl).reverse))) := Eqv.mem (rowsF_wd fun r hr => (ein r hr).1) hwD fun r => by
    rw [← erow, rowsOf, List.map_reverse, List.mem_reverse]
  have e2 : Eqv wide (rowsOf (stF n (S.mergeSort lePl).reverse)) (rowsOf (stF n S)) := Eqv.mem (fun r hr => by
    obtain ⟨a, ha, rfl⟩ := List.mem_map.mp hr
    obtain ⟨b, hb, rfl⟩ := List.mem_map.mp ha
    show (toF n b.2).length = wide
    rw [toF_len]
    exact (h.inr b ((hm b).mp hb)).1.1) h.sta.wds.wd fun r => by
    constructor
    · intro hr
      obtain ⟨a, ha, rfl⟩ := List.mem_map.mp hr
      obtain ⟨b, hb, rfl⟩ := List.mem_map.mp ha
      exact List.mem_map.mpr ⟨_, List.mem_map.mpr ⟨b, (hm b).mp hb, rfl⟩, rfl⟩
    · intro hr
      obtain ⟨a, ha, rfl⟩ := List.mem_map.mp hr
      obtain ⟨b, hb, rfl⟩ := List.mem_map.mp ha
      exact List.mem_map.mpr ⟨_, List.mem_map.mpr ⟨b, (hm b).mpr hb, rfl⟩, rfl⟩
  exact e1.trans (ok.eqv.trans (e2.trans h.eqv))
end
end TK

namespace TK
open PySem PySem.Spec PyProof.Rows L2 TH
local macro_rules | `(tactic| walk_at "rd1") => `(tactic| first
  | (with_reducible refine TH.w_seq ?_)
  | (with_reducible refine TH.w_asg ?_)
  | (with_reducible refine TH.w_ret ?_)
  | (with_reducible refine TH.w_drop ?_)
  | (with_reducible refine TH.w_ifS ?_)
  | (with_reducible refine TH.w_next ?_)
  | ((with_reducible refine TH.w_var (v := ?vv) ?hv ?_); (case hv => rfl))
  | (with_reducible refine TH.w_c ?_)
  | ((with_reducible refine TH.w_gname (σ' := ?ss) ?hs ?_); (case hs => (dsimp only [List.set]; rfl)))
  | (with_reducible refine TH.w_op ?_)
  | (with_reducible refine TH.w_un ?_)
  | (with_reducible refine TH.w_chain ?_)
  | (with_reducible refine TH.w_I0 ?_)
  | ((with_reducible refine TH.w_I ?hm ?_); (case hm => first | (exact TH.CMul.l (by omega) (by omega)) | (exact TH.CMul.r (by omega) (by omega)) | (exact TH.CDiv.mk (by omega) (by omega)) | (show (0 : Int) < _; omega) | (exact TH.CPow.mk (by omega) (by omega) (by decide))))
  | (with_reducible refine TH.w_U ?_)
  | (with_reducible refine TH.w_eqI ?_)
  | (with_reducible refine TH.w_neI ?_)
  | (with_reducible refine TH.w_eqB ?_)
  | (with_reducible refine TH.w_isN ?_)
  | (with_reducible refine TH.w_nil ?_)
  | (with_reducible refine TH.w_cons ?_)
  | (with_reducible refine TH.w_test ?_)
  | (with_reducible refine TH.w_B ?_)
  | (with_reducible refine TH.w_bl ?_)
  | (with_reducible refine TH.w_and ?_)
  | (with_reducible refine TH.w_or ?_)
  | (with_reducible refine TH.w_not ?_)
  | (with_reducible refine TH.w_andV ?_)
  | (with_reducible refine TH.w_orV ?_)
  | (with_reducible refine TH.w_notV ?_)
  | (with_reducible refine TH.w_if ?_)
  | (with_reducible refine TH.w_parT ?_)
  | (with_reducible refine TH.w_par ?_)
  | (with_reducible refine TH.w_parT3 ?_)
  | (with_reducible refine TH.w_par3 ?_)
  | (with_reducible refine TH.w_cb ?_)
  | (with_reducible refine TH.w_call ?_)
  | ((with_reducible refine TH.w_aug (v := ?vv) ?hv ?_); (case hv => rfl))
  | (with_reducible refine TH.w_ip ?_)
  | (with_reducible refine TH.w_bm ?_)
  | (with_reducible refine TH.w_sl ?_)
  | (with_reducible refine TH.w_np ?_)
  | (with_reducible refine TH.w_pt ?_)
  | (with_reducible refine TH.w_pti ?_)
  | (with_reducible refine TH.w_gsub ?_)
  | (with_reducible refine TH.w_int ?_)
  | (with_reducible refine TH.w_tupT ?_)
  | (with_reducible refine TH.w_lstT ?_)
  | ((with_reducible show L2.rIxL _ _ _ _ _); (first | (refine TH.w_ixL (TH.sqL upd_same) rfl ?_) | (refine TH.w_ixL (TH.sqL (by assumption)) rfl ?_)))
  | ((with_reducible show L2.rSetL _ _ _ _ _); (first | (refine TH.w_set1 upd_same ?_) | (refine TH.w_set2 upd_same ?_) | (refine TH.w_set3 upd_same ?_) | (refine TH.w_set4 upd_same ?_) | (refine TH.w_set1 (by assumption) ?_) | (refine TH.w_set2 (by assumption) ?_) | (refine TH.w_set3 (by assumption) ?_) | (refine TH.w_set4 (by assumption) ?_)))
  | (with_reducible refine TH.w_lc ?_)
  | (with_reducible refine TH.w_dc ?_)
  | (with_reducible refine TH.w_itup ?_)
  | (with_reducible refine TH.w_ilist ?_)
  | (with_reducible refine TH.w_ienum ?_)
  | (with_reducible refine TH.w_izip ?_)
  | (with_reducible refine TH.w_irng1 ?_)
  | (with_reducible refine TH.w_irng2 ?_)
  | (with_reducible refine TH.w_for ?_)
  | (with_reducible refine TH.w_gcons ?_)
  | (with_reducible refine TH.w_gnil ?_)
  | (with_reducible refine TH.w_yes ?_)
  | (with_reducible refine TH.w_gtup2 upd_same ?_)
  | (with_reducible refine TH.w_gtup3 upd_same ?_)
  | (with_reducible refine TH.w_dput ?_)
  | (with_reducible refine TH.w_lock ?_)
  | (with_reducible refine TH.w_ikeys ?_)
  | (with_reducible refine TH.w_iitems ?_)
  | (with_reducible refine TH.w_dispT1 ?_)
  | (with_reducible refine TH.w_dnewT ?_)
  | (with_reducible refine TH.w_dnewK ?_)
  | (with_reducible refine TH.w_fld ?_)
  | (with_reducible refine TH.w_sfld ?_)
  | (with_reducible refine TH.w_meth ?_)
  | (with_reducible refine TH.w_make ?_)
  | (with_reducible refine TH.w_dget2 ?_)
  | (with_reducible refine TH.w_revL ?_)
  | (with_reducible refine TH.w_T ?_)
  | (with_reducible refine TH.w_F ?_))
local macro_rules | `(tactic| walk_at "rd") => `(tactic| repeat (first | walk_at "rd1" | (dsimp only [List.set, L2.wipe, List.map, TH.isInt, TH.isBool, TH.isTup, TH.isLst, TH.bo_f, TH.bo_t, TH.ba_f, TH.ba_t, TH.bn_t, TH.bn_f, List.append_nil, List.cons_append, List.nil_append])))

variable {P : Program} {w : World} {K : PySem.W.Frag} {mg : Str → Option Value} {base : Heap}
section
open LA
/-! stairs_of(p, rows) -/
def sp_stairs_of (K : PySem.W.Frag) (C : Addr) : Sp := fun vs H Q _ => ∃ (n : Nat) (_ : NeZero n) (wide : Nat) (v : V) (rs : List (List Int)), vs = [.int (n : Nat), v] ∧ Clk n ∧ wide ≤ 1000 ∧ rs.length ≤ 200 ∧ RowsAt K H v rs ∧ (∀ r ∈ rs, Rin n wide r) ∧
  ∀ (s st tk : Addr) (us : List V) (S : List (Nat × List Int)) (H' : Hp), Ex H H' → StairsAt K C H' s st tk n 200 us S → StI n wide rs S → Q (.ref s) H'
theorem ok_stairs_of {C f : Addr} {fd : FuncData} (F : C8.Def K mg "stairs_of" s_stairs_of f fd) (b : Binds K fd ["p", "rows"] []) (T : Txt mg) (TC : StC K C)
    (c_Stairs : C8.Mak P w K mg base 1 "Stairs" C (sp_st_init C) []) (c_Stairs_take : C8.Met P w K mg base 3 C "take" (sp_st_take K C) []) : C8.Cal P w K mg base 4 "stairs_of" (sp_stairs_of K C) [] := by
  refine C8.cal0 F b .nil sc_stairs_of (fun vs H Q E h => ?_) (fun cdv A outer s H vs Q E hr h => ?_)
  · obtain ⟨n, _, wide, v, rs, rfl, _⟩ := h
    rfl
  · obtain ⟨n, inst, wide, v, rs, rfl, hc, hw, hl, hR, hrs, q⟩ := h
    have n2 := hc.two
    have nm := hc.le
    refine ⟨_, (pss_cons (ps_set (i := 2) sc_stairs_of.nd rfl (Or.inl rfl) (C8.pe_mk c_Stairs hr (by first | decide | exact Nat.le_refl _) (by rfl) (pa_cons (pv 0) pa_nil)))
      (pss_cons (ps_for PassesOwn.never rfl (TH.kpi_enum (K := K) (by rfl) T.b_enumerate (pa_cons (pv 1) pa_nil)) (TH.kpg_tup (K := K) (n := 2) rfl (pgs_cons (pg_name (i := 3) sc_stairs_of.nd rfl (Or.inl rfl) (Or.inr rfl)) (pgs_cons (pg_name (i := 4) sc_stairs_of.nd rfl (Or.inl rfl) (Or.inr rfl)) pgs_nil))) (pss_one (ps_expr (C8.pe_mt c_Stairs_take hr (by first | decide | exact Nat.le_refl _) (pv 2) (pa_cons (pv 3) (pa_cons (pv 4) pa_nil))))))
      (pss_one (ps_ret (pv 2))))), ?_⟩
    refine w_start (σ' := [some (.int n), some v, none, none, none]) rfl ?_
    walk_at "rd"
    intro s dx hs hdx hne
    refine ⟨s, dx, n, rfl, upd_same, fun st tk H1 h1 h2 h3 h4 h5 h6 h7 => ⟨rfl, ?_⟩⟩
    have hdx' : upd (upd H dx (.own s)) s (.ins C dx []) dx = some (.own s) := by rw [upd_ne hne]; exact upd_same
    have hsx : upd (upd H dx (.own s)) s (.ins C dx []) s = some (.ins C dx []) := upd_same
    have e1 : Ex H H1 := fun a o ha => h4 a (fun z => by rw [z, hs] at ha; cases ha) o (by
      rw [upd_ne (ne_of_none ha hs), upd_ne (ne_of_none ha hdx)]
      exact ha)
    have h1' : H st = none := by
      have z1 : st ≠ s := fun z => by rw [z, hsx] at h1; cases h1
      have z2 : st ≠ dx := fun z => by rw [z, hdx'] at h1; cases h1
      rw [upd_ne z1, upd_ne z2] at h1
      exact h1
    have h2' : H tk = none := by
      have z1 : tk ≠ s := fun z => by rw [z, hsx] at h2; cases h2
      have z2 : tk ≠ dx := fun z => by rw [z, hdx'] at h2; cases h2
      rw [upd_ne z1, upd_ne z2] at h2
      exact h2
    obtain ⟨a, xs, rfl, hxs, hda⟩ : ∃ a xs, v = .ref a ∧ (SqL K H a xs ∨ SqT K H a xs) ∧ DpAll K H xs (rs.map row) := by
      rcases hR.at' with h | h
      · obtain ⟨a, xs, e, h1, h2⟩ := dp_lst h
        exact ⟨a, xs, e, .inl h1, h2⟩
      · obtain ⟨a, xs, e, h1, h2⟩ := dp_tup h
        exact ⟨a, xs, e, .inr h1, h2⟩
    have hxl : xs.length = rs.length := by rw [dpa_len hda, List.length_map]
    have hst1 : StairsAt K C H1 s st tk n 200 [] [] := ⟨⟨dx, h5⟩, h6, ⟨[], h7, rfl⟩, rfl, fun i v hv => by simp at hv⟩
    walk_at "rd"
    have turn : ∀ (i : Nat) (x : V) (H2 : Hp) (us : List V) (S : List (Nat × List Int)) (y z : Option V) (t : Addr) (nx : L2.St → Hp → Prop) (R : L2.St → Hp → Prop) (D : Ends), Ex H H2 → H2 t = none → xs[i]? = some x → StairsAt K C H2 s st tk n 200 us S → StI n wide (rs.take i) S →
        (∀ us' S' H3, Ex H H3 → StairsAt K C H3 s st tk n 200 us' S' → StI n wide (rs.take (i + 1)) S' → D.nx [some (.int n), some (.ref a), some (.ref s), some (.int i), some x] H3) →
        tDrop (tMeth C "take" (sp_st_take K C) [] C8.E0 (tVar 2) (tCons (tVar 3) (tCons (tVar 4) tNil))) D [some (.int n), some (.ref a), some (.ref s), some (.int i), some x] (upd H2 t (.tup [.int i, x])) := by
      intro i x H2 us S y z t nx R D e2 ht hx hst hS hk
      obtain ⟨r, hr1, hr2⟩ := rowsAt_get hda hx
      have hrin : Rin n wide r := hrs r (List.mem_of_getElem? hr1)
      have hi := (List.getElem?_eq_some_iff.mp hr1).1
      have hsl := hS.len
      rw [List.length_take] at hsl
      have e3 := e2.trans (Ex.new (o := .tup [.int i, x]) ht)
      have hst3 := hst.ex (Ex.new (o := .tup [.int i, x]) ht)
      walk_at "rd"
      obtain ⟨⟨dx3, hob3⟩, _, _, _⟩ := id hst3
      refine ⟨s, dx3, _, rfl, hob3, pf_no (by decide +kernel) (by decide +kernel) (by decide +kernel), ?_⟩
      walk_at "rd"
      refine ⟨n, inst, wide, 200, s, st, tk, us, S, x, r, i, H, rfl, hc, by omega, by omega, by omega, by omega, hw, by omega, hst3, h3, hS.inr, e3.dp hr2, hrin, e3, h1', h2', fun v' H4 us' S' e4 hst4 ht4 => ?_⟩
      walk_at "rd"
      refine hk us' S' H4 e4 hst4 ?_
      rw [List.take_add_one, hr1]
      exact stI_took hc (fun y hy => hrs y (List.mem_of_mem_take hy)) hrin hS ht4
    refine ⟨a, xs, rfl, ?_⟩
    have hfin : ∀ H2 us S, Ex H H2 → StairsAt K C H2 s st tk n 200 us S → StI n wide (rs.take xs.length) S → Q (.ref s) H2 := fun H2 us S e hst hS => q s st tk us S H2 e hst (by rw [hxl, List.take_length] at hS; exact hS)
    rcases hxs with hxs | hxs
    · refine .inl ⟨e1.l hxs, ?_⟩
      refine for_go walk_enum (fun i σ H2 => Ex H H2 ∧ ∃ (y z : Option V) (us : List V) (S : List (Nat × List Int)), σ = [some (.int n), some (.ref a), some (.ref s), y, z] ∧ StairsAt K C H2 s st tk n 200 us S ∧ StI n wide (rs.take i) S) ⟨e1, _, _, [], [], rfl, hst1, stI_nil⟩ (fun i σ H' _ p => p.1.l hxs) (fun i x σ H' H'' hi p y => ?_) (fun σ H' p => ?_)
      · obtain ⟨e, y1, z1, us, S, rfl, hst, hS⟩ := p
        obtain ⟨t, x1, x2, rfl, ht, rfl, k1, k2⟩ := y
        cases k1
        refine w_gtup2 upd_same ?_
        refine w_gcons ?_
        refine w_gname (σ' := _) rfl ?_
        refine w_gcons ?_
        refine w_gname (σ' := _) rfl ?_
        refine w_gnil ?_
        exact turn i x2 H' us S y1 z1 t (fun _ _ => True) (fun _ _ => True) _ e ht k2 hst hS fun us' S' H3 e3 a1 a2 => ⟨e3, _, _, us', S', rfl, a1, a2⟩
      · obtain ⟨e, y1, z1, us, S, rfl, hst, hS⟩ := p
        walk_at "rd"
        exact hfin H' us S e hst hS
    · refine .inr ⟨e1.t hxs, ?_⟩
      refine for_go walk_enumT (fun i σ H2 => Ex H H2 ∧ ∃ (y z : Option V) (us : List V) (S : List (Nat × List Int)), σ = [some (.int n), some (.ref a), some (.ref s), y, z] ∧ StairsAt K C H2 s st tk n 200 us S ∧ StI n wide (rs.take i) S) ⟨e1, _, _, [], [], rfl, hst1, stI_nil⟩ (fun i σ H' _ p => p.1.t hxs) (fun i x σ H' H'' hi p y => ?_) (fun σ H' p => ?_)
      · obtain ⟨e, y1, z1, us, S, rfl, hst, hS⟩ := p
        obtain ⟨t, x1, x2, rfl, ht, rfl, k1, k2⟩ := y
        cases k1
        refine w_gtup2 upd_same ?_
        refine w_gcons ?_
        refine w_gname (σ' := _) rfl ?_
        refine w_gcons ?_
        refine w_gname (σ' := _) rfl ?_
        refine w_gnil ?_
        exact turn i x2 H' us S y1 z1 t (fun _ _ => True) (fun _ _ => True) _ e ht k2 hst hS fun us' S' H3 e3 a1 a2 => ⟨e3, _, _, us', S', rfl, a1, a2⟩
      · obtain ⟨e, y1, z1, us, S, rfl, hst, hS⟩ := p
        walk_at "rd"
        exact hfin H' us S e hst hS
/-! rank_of(p, rows) -/
def sp_rank_of (K : PySem.W.Frag) : Sp := fun vs H Q _ => ∃ (n : Nat) (_ : NeZero n) (wide : Nat) (v : V) (rs : List (List Int)), vs = [.int (n : Nat), v] ∧ Clk n ∧ wide ≤ 1000 ∧ rs.length ≤ 200 ∧ RowsAt K H v rs ∧ (∀ r ∈ rs, Rin n wide r) ∧
  ∀ (ls : List (List Int)) (H' : Hp), Ex H H' → LadI n wide rs ls → Q (.int (ls.length : Nat)) H'
theorem ok_rank_of {C f : Addr} {fd : FuncData} (F : C8.Def K mg "rank_of" s_rank_of f fd) (b : Binds K fd ["p", "rows"] []) (T : Txt mg) (TC : StC K C)
    (c_stairs_of : C8.Cal P w K mg base 4 "stairs_of" (sp_stairs_of K C) []) : C8.Cal P w K mg base 5 "rank_of" (sp_rank_of K) [] := by
  refine C8.cal0 F b .nil sc_rank_of (fun vs H Q E h => ?_) (fun cdv A outer s H vs Q E hr h => ?_)
  · obtain ⟨n, _, wide, v, rs, rfl, _⟩ := h
    rfl
  · obtain ⟨n, inst, wide, v, rs, rfl, hc, hw, hl, hR, hrs, q⟩ := h
    refine ⟨_, (pss_one (ps_ret (pe_callB (TH.kcall_len (K := K)) (by rfl) T.b_len (by decide +kernel) (pa_cons (TH.kpe_fld (K := K) (C8.pe_c c_stairs_of hr (by first | decide | exact Nat.le_refl _) (by rfl) (pa_cons (pv 0) (pa_cons (pv 1) pa_nil))) rfl) pa_nil)))), ?_⟩
    refine w_start (σ' := [some (.int n), some v]) rfl ?_
    walk_at "rd"
    refine ⟨n, inst, wide, v, rs, rfl, hc, hw, hl, hR, hrs, fun s st tk us S H1 e1 hst hS => ?_⟩
    obtain ⟨⟨dx, hob⟩, hsteps, _, hat⟩ := hst
    refine ⟨s, C, dx, _, _, rfl, hob, TC.cl, TC.nS, pf_steps, ?_⟩
    walk_at "rd"
    refine ⟨st, us, rfl, .inl (sqL hsteps), ?_⟩
    obtain ⟨f1, f2⟩ := finI_ok hS
    rw [hat.1, ← f2]
    exact q _ _ e1 f1
end
end TK

namespace TK
open PySem PySem.Spec PyProof.Rows L2 TH
local macro_rules | `(tactic| walk_at "rd1") => `(tactic| first
  | (with_reducible refine TH.w_seq ?_)
  | (with_reducible refine TH.w_asg ?_)
  | (with_reducible refine TH.w_ret ?_)
  | (with_reducible refine TH.w_drop ?_)
  | (with_reducible refine TH.w_ifS ?_)
  | (with_reducible refine TH.w_next ?_)
  | ((with_reducible refine TH.w_var (v := ?vv) ?hv ?_); (case hv => rfl))
  | (with_reducible refine TH.w_c ?_)
  | ((with_reducible refine TH.w_gname (σ' := ?ss) ?hs ?_); (case hs => (dsimp only [List.set]; rfl)))
  | (with_reducible refine TH.w_op ?_)
  | (with_reducible refine TH.w_un ?_)
  | (with_reducible refine TH.w_chain ?_)
  | (with_reducible refine TH.w_I0 ?_)
  | ((with_reducible refine TH.w_I ?hm ?_); (case hm => first | (exact TH.CMul.l (by omega) (by omega)) | (exact TH.CMul.r (by omega) (by omega)) | (exact TH.CDiv.mk (by omega) (by omega)) | (show (0 : Int) < _; omega) | (exact TH.CPow.mk (by omega) (by omega) (by decide))))
  | (with_reducible refine TH.w_U ?_)
  | (with_reducible refine TH.w_eqI ?_)
  | (with_reducible refine TH.w_neI ?_)
  | (with_reducible refine TH.w_eqB ?_)
  | (with_reducible refine TH.w_isN ?_)
  | (with_reducible refine TH.w_nil ?_)
  | (with_reducible refine TH.w_cons ?_)
  | (with_reducible refine TH.w_test ?_)
  | (with_reducible refine TH.w_B ?_)
  | (with_reducible refine TH.w_bl ?_)
  | (with_reducible refine TH.w_and ?_)
  | (with_reducible refine TH.w_or ?_)
  | (with_reducible refine TH.w_not ?_)
  | (with_reducible refine TH.w_andV ?_)
  | (with_reducible refine TH.w_orV ?_)
  | (with_reducible refine TH.w_notV ?_)
  | (with_reducible refine TH.w_if ?_)
  | (with_reducible refine TH.w_parT ?_)
  | (with_reducible refine TH.w_par ?_)
  | (with_reducible refine TH.w_parT3 ?_)
  | (with_reducible refine TH.w_par3 ?_)
  | (with_reducible refine TH.w_cb ?_)
  | (with_reducible refine TH.w_call ?_)
  | ((with_reducible refine TH.w_aug (v := ?vv) ?hv ?_); (case hv => rfl))
  | (with_reducible refine TH.w_ip ?_)
  | (with_reducible refine TH.w_bm ?_)
  | (with_reducible refine TH.w_sl ?_)
  | (with_reducible refine TH.w_np ?_)
  | (with_reducible refine TH.w_pt ?_)
  | (with_reducible refine TH.w_pti ?_)
  | (with_reducible refine TH.w_gsub ?_)
  | (with_reducible refine TH.w_int ?_)
  | (with_reducible refine TH.w_tupT ?_)
  | (with_reducible refine TH.w_lstT ?_)
  | ((with_reducible show L2.rIxL _ _ _ _ _); (first | (refine TH.w_ixL (TH.sqL upd_same) rfl ?_) | (refine TH.w_ixL (TH.sqL (by assumption)) rfl ?_)))
  | ((with_reducible show L2.rSetL _ _ _ _ _); (first | (refine TH.w_set1 upd_same ?_) | (refine TH.w_set2 upd_same ?_) | (refine TH.w_set3 upd_same ?_) | (refine TH.w_set4 upd_same ?_) | (refine TH.w_set1 (by assumption) ?_) | (refine TH.w_set2 (by assumption) ?_) | (refine TH.w_set3 (by assumption) ?_) | (refine TH.w_set4 (by assumption) ?_)))
  | (with_reducible refine TH.w_lc ?_)
  | (with_reducible refine TH.w_dc ?_)
  | (with_reducible refine TH.w_itup ?_)
  | (with_reducible refine TH.w_ilist ?_)
  | (with_reducible refine TH.w_ienum ?_)
  | (with_reducible refine TH.w_izip ?_)
  | (with_reducible refine TH.w_irng1 ?_)
  | (with_reducible refine TH.w_irng2 ?_)
  | (with_reducible refine TH.w_for ?_)
  | (with_reducible refine TH.w_gcons ?_)
  | (with_reducible refine TH.w_gnil ?_)
  | (with_reducible refine TH.w_yes ?_)
  | (with_reducible refine TH.w_gtup2 upd_same ?_)
  | (with_reducible refine TH.w_gtup3 upd_same ?_)
  | (with_reducible refine TH.w_dput ?_)
  | (with_reducible refine TH.w_lock ?_)
  | (with_reducible refine TH.w_ikeys ?_)
  | (with_reducible refine TH.w_iitems ?_)
  | (with_reducible refine TH.w_dispT1 ?_)
  | (with_reducible refine TH.w_dnewT ?_)
  | (with_reducible refine TH.w_dnewK ?_)
  | (with_reducible refine TH.w_fld ?_)
  | (with_reducible refine TH.w_sfld ?_)
  | (with_reducible refine TH.w_meth ?_)
  | (with_reducible refine TH.w_make ?_)
  | (with_reducible refine TH.w_dget2 ?_)
  | (with_reducible refine TH.w_revL ?_)
  | (with_reducible refine TH.w_T ?_)
  | (with_reducible refine TH.w_F ?_))
local macro_rules | `(tactic| walk_at "rd") => `(tactic| repeat (first | walk_at "rd1" | (dsimp only [List.set, L2.wipe, List.map, TH.isInt, TH.isBool, TH.isTup, TH.isLst, TH.bo_f, TH.bo_t, TH.ba_f, TH.ba_t, TH.bn_t, TH.bn_f, List.append_nil, List.cons_append, List.nil_append])))

variable {P : Program} {w : World} {K : PySem.W.Frag} {mg : Str → Option Value} {base : Heap}
/-- a place and a row -/
def pd (a : Nat × List Int) : D := .tuple [.int (a.1 : Nat), row a.2]
theorem imm_pd (a : Nat × List Int) : imm (pd a) = true := by
  show immAll [.int (a.1 : Nat), row a.2] = true
  rw [immAll_iff]
  intro d hd
  rcases List.mem_cons.mp hd with rfl | m
  · rfl
  · rw [List.mem_singleton.mp m]; exact imm_row _
theorem imm_pds (S : List (Nat × List Int)) : immAll (S.map pd) = true := immAll_iff.mpr fun d hd => by
  obtain ⟨a, _, rfl⟩ := List.mem_map.mp hd
  exact imm_pd a
section
open PySem.W
theorem alike_pd (a b : Nat × List Int) : alike (pd a) (pd b) = true := by
  have h1 : alike (row a.2) (row b.2) = true := by
    show alike (.tuple (a.2.map .int)) (.tuple (b.2.map .int)) = true
    simpa [alike] using alike_ints a.2 b.2
  show alike (.tuple [.int (a.1 : Nat), row a.2]) (.tuple [.int (b.1 : Nat), row b.2]) = true
  simp [alike, alikeAll, h1]
theorem depth_pd (a : Nat × List Int) : (pd a).depth ≤ 50 := by
  show PyData.depthAll [.int (a.1 : Nat), .tuple (a.2.map .int)] + 1 ≤ 50
  simp [PyData.depthAll, PyData.depth, depth_ints]
theorem lt_pd (a b : Nat × List Int) (h : a.1 ≠ b.1) : dataLt (pd a) (pd b) = decide (a.1 < b.1) := by
  have h1 : alike (row a.2) (row b.2) = true := by
    show alike (.tuple (a.2.map .int)) (.tuple (b.2.map .int)) = true
    simpa [alike] using alike_ints a.2 b.2
  unfold pd
  rw [dataLt_pair (by simp [alike]) h1, dataLt_int]
  have e : PyData.eqv (.int (a.1 : Nat)) (.int (b.1 : Nat)) = false := by
    simp [PyData.eqv]
    omega
  rw [e]
  simp
theorem sort_pd {S : List (Nat × List Int)} (h : S.Pairwise fun a b => a.1 ≠ b.1) : (S.map pd).mergeSort (dataLe false id) = (S.mergeSort lePl).map pd := by
  refine (sort_maps pd fun a ha b hb => ?_).symm
  show lePl a b = !dataLt (pd b) (pd a)
  by_cases e : a.1 = b.1
  · have : a = b := by
      refine Decidable.byContradiction fun ne => ?_
      obtain ⟨i, hi⟩ := List.mem_iff_getElem?.mp ha
      obtain ⟨j, hj⟩ := List.mem_iff_getElem?.mp hb
      obtain ⟨i1, i2⟩ := List.getElem?_eq_some_iff.mp hi
      obtain ⟨j1, j2⟩ := List.getElem?_eq_some_iff.mp hj
      rcases Nat.lt_trichotomy i j with z | z | z
      · have := List.pairwise_iff_getElem.mp h i j i1 j1 z
        rw [i2, j2] at this
        exact this e
      · subst z
        rw [hi] at hj
        exact ne (Option.some.inj hj)
      · have := List.pairwise_iff_getElem.mp h j i j1 i1 z
        rw [i2, j2] at this
        exact this e.symm
    subst this
    have e2 : dataLt (pd a) (pd a) = false := by
      unfold pd
      rw [dataLt_tuple]
      exact lex_irrefl _
    rw [e2]
    exact decide_eq_true (Nat.le_refl _)
  · rw [lt_pd b a (Ne.symm e)]
    unfold lePl
    by_cases z : a.1 ≤ b.1
    · rw [decide_eq_true z, decide_eq_false (by omega)]; rfl
    · rw [decide_eq_false z, decide_eq_true (by omega)]; rfl
end
section
open LA
/-! ladder_of(p, rows) -/
def sp_ladder_of (K : PySem.W.Frag) : Sp := fun vs H Q _ => ∃ (n : Nat) (_ : NeZero n) (wide : Nat) (v : V) (rs : List (List Int)), vs = [.int (n : Nat), v] ∧ Clk n ∧ wide ≤ 1000 ∧ rs.length ≤ 200 ∧ RowsAt K H v rs ∧ (∀ r ∈ rs, Rin n wide r) ∧
  ∀ (u : V) (ls : List (List Int)) (H' : Hp), Ex H H' → Dp K H' u (rowsT ls) → LadI n wide rs ls → Q u H'
theorem redI_snoc {n : Int} {D : List (Nat × List Int)} {r : List Int} {i : Nat} {a : Nat × List Int} (h : D[i]? = some a) : redI n (D.take (i + 1)) r = iSub n (redI n (D.take i) r) a.2 ((redI n (D.take i) r).getD a.1 0) := by
  unfold redI
  rw [List.take_add_one, h, List.foldl_append]
  rfl
theorem desI_take {n : Nat} [NeZero n] {R : List (Nat × List Int)} {i : Nat} {a : Nat × List Int} (h : R[i]? = some a) : desI n (R.take (i + 1)) = desI n (R.take i) ++ [(a.1, redI n (desI n (R.take i)) a.2)] := by
  rw [List.take_add_one, h]
  exact desI_snoc _ _
/-- a pair told -/
theorem dp_pd {H : Hp} {v : V} {a : Nat × List Int} (h : Dp K H v (pd a)) : ∃ t b, v = .ref t ∧ SqT K H t [.int (a.1 : Nat), .ref b] ∧ Dp K H (.ref b) (row a.2) := by
  obtain ⟨t, vs, rfl, h1, h2⟩ := dp_tup h
  cases h2 with
  | cons d1 d2 => cases d2 with
    | cons d3 d4 =>
      cases d4
      cases d1
      obtain ⟨b, rfl, _⟩ := dp_row d3
      exact ⟨t, b, rfl, h1, d3⟩
theorem dpa_pd {H : Hp} {vs : List V} {S : List (Nat × List Int)} {i : Nat} {v : V} (h : DpAll K H vs (S.map pd)) (hv : vs[i]? = some v) : ∃ a, S[i]? = some a ∧ Dp K H v (pd a) := by
  obtain ⟨d, h1, h2⟩ := dpa_get h hv
  rw [List.getElem?_map] at h1
  cases e : S[i]? with
  | none => rw [e] at h1; cases h1
  | some r => rw [e] at h1; cases h1; exact ⟨r, rfl, h2⟩
theorem ok_ladder_of {C f : Addr} {fd : FuncData} (F : C8.Def K mg "ladder_of" s_ladder_of f fd) (b : Binds K fd ["p", "rows"] []) (T : Txt mg) (TC : StC K C)
    (c_stairs_of : C8.Cal P w K mg base 4 "stairs_of" (sp_stairs_of K C) []) (c_without : C8.Cal P w K mg base 1 "without" (sp_without K) []) : C8.Cal P w K mg base 5 "ladder_of" (sp_ladder_of K) [] := by
  refine C8.cal0 F b .nil sc_ladder_of (fun vs H Q E h => ?_) (fun cdv A outer s H vs Q E hr h => ?_)
  · obtain ⟨n, _, wide, v, rs, rfl, _⟩ := h
    rfl
  · obtain ⟨n, inst, wide, v, rs, rfl, hc, hw, hl, hR, hrs, q⟩ := h
    have hu64 := hu64_of hr
    have n2 := hc.two
    have nm := hc.le
    refine ⟨_, (pss_cons (ps_set (i := 2) sc_ladder_of.nd rfl (Or.inl rfl) (pe_callB (TH.call_sortedD (K := K) hu64) (by rfl) T.b_sorted (by decide +kernel) (pa_cons (pe_lc (own := [("place", 4), ("step", 5), ("ways", 9)]) (g := gTup K 3 (gCons (gName 4) (gCons (gName 5) (gCons (gName 9) gNil)))) (tt := tYes) rfl sc_ladder_of.nd (TH.kpi_list (K := K) (TH.kpe_fld (K := K) (C8.pe_c c_stairs_of hr (by first | decide | exact Nat.le_refl _) (by rfl) (pa_cons (pv 0) (pa_cons (pv 1) pa_nil))) rfl)) (blkOk_by (own := [("place", 4), ("step", 5), ("ways", 9)]) (N := N_ladder_of) (sc := C8.fnScope s_ladder_of) (by decide +kernel)) (fun _ _ _ _ _ => (TH.kpg_tup (K := K) (n := 3) rfl (pgs_cons (pg_name (i := 4) sc_ladder_of.nd rfl (Or.inl rfl) (Or.inr rfl)) (pgs_cons (pg_name (i := 5) sc_ladder_of.nd rfl (Or.inl rfl) (Or.inr rfl)) (pgs_cons (pg_name (i := 9) sc_ladder_of.nd rfl (Or.inl rfl) (Or.inr rfl)) pgs_nil))))) (fun _ _ _ _ _ => pts_nil) (fun _ _ _ _ _ => (pe_tup (pa_cons (pv 4) (pa_cons (pv 5) pa_nil))))) pa_nil)))
      (pss_cons (ps_set (i := 3) sc_ladder_of.nd rfl (Or.inl rfl) (pe_lst pa_nil))
      (pss_cons (ps_for PassesOwn.never rfl (TH.kpi_list (K := K) (TH.kpe_revL (K := K) (pv 2))) (TH.kpg_tup (K := K) (n := 2) rfl (pgs_cons (pg_name (i := 4) sc_ladder_of.nd rfl (Or.inl rfl) (Or.inr rfl)) (pgs_cons (pg_name (i := 5) sc_ladder_of.nd rfl (Or.inl rfl) (Or.inr rfl)) pgs_nil))) (pss_cons (ps_set (i := 6) sc_ladder_of.nd rfl (Or.inl rfl) (pv 5))
      (pss_cons (ps_for PassesOwn.never rfl (TH.kpi_list (K := K) (pv 3)) (TH.kpg_tup (K := K) (n := 2) rfl (pgs_cons (pg_name (i := 7) sc_ladder_of.nd rfl (Or.inl rfl) (Or.inr rfl)) (pgs_cons (pg_name (i := 8) sc_ladder_of.nd rfl (Or.inl rfl) (Or.inr rfl)) pgs_nil))) (pss_one (ps_set (i := 6) sc_ladder_of.nd rfl (Or.inl rfl) (C8.pe_c c_without hr (by first | decide | exact Nat.le_refl _) (by rfl) (pa_cons (pv 0) (pa_cons (pv 6) (pa_cons (pv 8) (pa_cons (pe_ix (TH.kix_tup (K := K)) (pv 6) (pv 7) (fun _ _ => rfl)) pa_nil))))))))
      (pss_one (ps_expr (TH.kpe_bm (K := K) PySem.F.plainAttrs_list PySem.F.slot_list_append PySem.F.type_list_append mt_append (pv 3) (pa_cons (pe_tup (pa_cons (pv 4) (pa_cons (pv 6) pa_nil))) pa_nil)))))))
      (pss_one (ps_ret (pe_callTy (TH.kcall_tuple (K := K)) (by rfl) T.b_tuple (by decide +kernel) (pa_cons (pe_lc (own := [("place", 4), ("row", 6)]) (g := gTup K 2 (gCons (gName 4) (gCons (gName 6) gNil))) (tt := tYes) rfl sc_ladder_of.nd (TH.kpi_list (K := K) (TH.kpe_revL (K := K) (pv 3))) (blkOk_by (own := [("place", 4), ("row", 6)]) (N := N_ladder_of) (sc := C8.fnScope s_ladder_of) (by decide +kernel)) (fun _ _ _ _ _ => (TH.kpg_tup (K := K) (n := 2) rfl (pgs_cons (pg_name (i := 4) sc_ladder_of.nd rfl (Or.inl rfl) (Or.inr rfl)) (pgs_cons (pg_name (i := 6) sc_ladder_of.nd rfl (Or.inl rfl) (Or.inr rfl)) pgs_nil)))) (fun _ _ _ _ _ => pts_nil) (fun _ _ _ _ _ => (pv 6))) pa_nil))))))), ?_⟩
    refine w_start (σ' := [some (.int n), some v, none, none, none, none, none, none, none, none]) rfl ?_
    walk_at "rd"
    refine ⟨n, inst, wide, v, rs, rfl, hc, hw, hl, hR, hrs, fun s st tk us S H1 e1 hst hS => ?_⟩
    obtain ⟨⟨dx, hob⟩, hsteps, _, hat⟩ := hst
    have hSl := hS.len
    have hul := hat.1
    refine ⟨s, C, dx, _, _, rfl, hob, TC.cl, TC.nS, pf_steps, ?_⟩
    walk_at "rd"
    refine ⟨st, rfl, ⟨_, sqL hsteps⟩, fun Dl hD => ?_⟩
    refine lc_data (K := K) walk_list (fun _ => true) (fun i => pd (S.getD i (0, []))) (fun _ => imm_pd _) (fun H' e => e.l (sqL hsteps)) hD (by omega) (fun i x H' H'' hi e y R R0 k _ => ?_) (fun H2 ws e2 hws hda => ?_)
    · obtain ⟨rfl, hx⟩ := y
      obtain ⟨a, ha1, t, bb, d, wvs, rfl, h1, h2, h3, h4⟩ := hat.2 i x hx
      refine w_gtup3 (e _ _ h1) ?_
      walk_at "rd"
      refine ⟨rfl, ?_⟩
      walk_at "rd"
      refine w_dispT (by simp) fun p hp => ?_
      refine k rfl _ _ (Ex.new hp) ?_
      rw [getD_of ha1]
      exact .tup (sqT upd_same) (.cons (.int _) (.cons ((e.trans (Ex.new hp)).dp h2) .nil))
    · have e3 : (List.range us.length).map (fun i => pd (S.getD i (0, []))) = S.map pd := by
        rw [hul]
        exact range_map (0, []) pd S
      rw [made_all, e3] at hda
      have hne : S.Pairwise fun a b => a.1 ≠ b.1 := by
        have := hS.sta.pw
        unfold stF at this
        rw [List.pairwise_map] at this
        exact this.imp fun z => z.1
      walk_at "rd"
      refine ⟨Dl, ws, S.map pd, rfl, sqL hws, hda, PySem.W.AllAlike.of alike_pd, .inl fun d hd => ?_, fun d hd => ?_, fun ws3 p3 hp3 hd3 => ?_⟩
      · obtain ⟨a, _, rfl⟩ := List.mem_map.mp hd
        exact ⟨_, _, rfl⟩
      · obtain ⟨a, _, rfl⟩ := List.mem_map.mp hd
        exact depth_pd a
      · rw [sort_pd hne] at hd3
        have hperm := List.mergeSort_perm S lePl
        have hTin : ∀ a ∈ S.mergeSort lePl, Rin n wide a.2 ∧ a.1 < wide := fun a ha => hS.inr a (hperm.mem_iff.mp ha)
        have hTl : (S.mergeSort lePl).length = S.length := hperm.length_eq
        have hfin := finI_ok hS
        have hok := desI_ok (n := n) (wide := wide) (R := (S.mergeSort lePl).reverse) (fun a ha => (hTin a (List.mem_reverse.mp ha)).1) (fun a ha => by
          obtain ⟨b, hb, rfl⟩ := List.mem_map.mp ha
          exact hS.sta.good _ (List.mem_map.mpr ⟨b, hperm.mem_iff.mp (List.mem_reverse.mp hb), rfl⟩)) (List.pairwise_reverse.mpr (sorted_pl hS.sta))
        have hfe : finI n S = (desI n (S.mergeSort lePl).reverse).reverse.map (·.2) := rfl
        generalize S.mergeSort lePl = TT at hd3 hTin hTl hfe hok
        have eb : Ex H (upd H2 p3 (.lst ws3)) := e1.trans (e2.trans (Ex.new hp3))
        have hd3' := (Ex.new (o := .lst ws3) hp3).dpa hd3
        have hb3 : upd H2 p3 (.lst ws3) p3 = some (.lst ws3) := upd_same
        generalize upd H2 p3 (.lst ws3) = Hb at eb hd3' hb3 ⊢
        walk_at "rd"
        refine w_dispT (by simp) fun fl hfl => ?_
        walk_at "rd"
        refine ⟨p3, ws3, rfl, sqL ((Ex.new hfl) _ _ hb3), fun rv hrv => ?_⟩
        have hrf : fl ≠ rv := fun z => by rw [z, upd_same] at hrv; cases hrv
        have hdr : DpAll K Hb ws3.reverse (TT.reverse.map pd) := by
          rw [List.map_reverse]
          exact dpa_rev hd3'
        have hrl : ws3.reverse.length = TT.reverse.length := by rw [dpa_len hdr, List.length_map]
        have hD : ∀ i, ∀ c ∈ desI n (TT.reverse.take i), Rin n wide c.2 ∧ c.1 < wide := fun i c hc => by
          have o := hok i
          refine ⟨o.inr c hc, ?_⟩
          have hm : c.1 ∈ (desI n (TT.reverse.take i)).map (·.1) := List.mem_map.mpr ⟨c, hc, rfl⟩
          rw [o.pl] at hm
          obtain ⟨e, he, ee⟩ := List.mem_map.mp hm
          rw [← ee]
          exact (hTin e (List.mem_reverse.mp (List.mem_of_mem_take he))).2
        have hDl : ∀ i, (desI n (TT.reverse.take i)).length ≤ TT.length := fun i => by
          have := congrArg List.length (hok i).pl
          rw [List.length_map, List.length_map, List.length_take, List.length_reverse] at this
          omega
        refine ⟨rv, rfl, ⟨_, sqL upd_same⟩, ?_⟩
        refine for_go walk_list (fun i σ H' => Ex Hb H' ∧ H' rv = some (.lst ws3.reverse) ∧ ∃ (fs : List V) (y4 y5 y6 y7 y8 : Option V), σ = [some (.int n), some v, some (.ref p3), some (.ref fl), y4, y5, y6, y7, y8, none] ∧ H' fl = some (.lst fs) ∧ DpAll K H' fs ((desI n (TT.reverse.take i)).map pd))
          ⟨(Ex.new hfl).trans (Ex.new hrv), upd_same, [], _, _, _, _, _, rfl, by rw [upd_ne hrf]; exact upd_same, .nil⟩ (fun i σ H' _ p => sqL p.2.1) (fun i x σ H' H'' hi p y => ?_) (fun σ H' p => ?_)
        · obtain ⟨e, hrv', fs, y4, y5, y6, y7, y8, rfl, hfl', hfd⟩ := p
          obtain ⟨rfl, hx⟩ := y
          obtain ⟨a, ha1, ha2⟩ := dpa_pd hdr hx
          obtain ⟨t, b, rfl, ht, hb⟩ := dp_pd ha2
          have hain := hTin a (List.mem_reverse.mp (List.mem_of_getElem? ha1))
          have hdes := desI_take (n := n) ha1
          have hDi := hD i
          have hDli := hDl i
          generalize desI n (TT.reverse.take i) = DD at hfd hdes hDi hDli
          have hfsl : fs.length = DD.length := by rw [dpa_len hfd, List.length_map]
          refine w_gtup (e.t ht) rfl ?_
          walk_at "rd"
          refine ⟨fl, rfl, ⟨_, sqL hfl'⟩, ?_⟩
          refine for_go walk_list (fun j σ H5 => Ex H'' H5 ∧ ∃ (l : V) (y7 y8 : Option V), σ = [some (.int n), some v, some (.ref p3), some (.ref fl), some (.int a.1), some (.ref b), some l, y7, y8, none] ∧ Dp K H5 l (row (redI n (DD.take j) a.2)))
            ⟨Ex.refl _, _, _, _, rfl, e.dp hb⟩ (fun j σ H5 _ p => p.1.l (sqL hfl')) (fun j x5 σ H5 H6 hj p y => ?_) (fun σ H5 p => ?_)
          · obtain ⟨e5, l, z7, z8, rfl, hl5⟩ := p
            obtain ⟨rfl, hx5⟩ := y
            obtain ⟨c, hc1, hc2⟩ := dpa_pd (e5.dpa hfd) hx5
            obtain ⟨t5, b5, rfl, ht5, hb5⟩ := dp_pd hc2
            have hcin := hDi c (List.mem_of_getElem? hc1)
            have hrd := redI_in (n := n) (D := DD.take j) (fun b hb => (hDi b (List.mem_of_mem_take hb)).1) hain.1
            have hsn := redI_snoc (n := n) (r := a.2) hc1
            generalize redI n (DD.take j) a.2 = lr at hl5 hrd hsn
            have hrd1 := hrd.1
            obtain ⟨la, rfl, hla⟩ := dp_row hl5
            have hv6 : 0 ≤ lr.getD c.1 0 ∧ lr.getD c.1 0 < n := hrd.2 _ (List.mem_of_getElem? (getD_at (i := c.1) (d := 0) (by omega)))
            refine w_gtup ht5 rfl ?_
            walk_at "rd"
            refine w_ixT hla (atI_int (getD_at (i := c.1) (d := 0) (by omega))) ?_
            walk_at "rd"
            refine ⟨_, _, _, _, lr, c.2, rfl, hl5, hb5, by omega, by omega, by omega, by omega, fun u7 H7 e7 hu7 => ?_⟩
            walk_at "rd"
            refine ⟨e5.trans e7, u7, _, _, rfl, ?_⟩
            rw [hsn]
            exact hu7
          · obtain ⟨e5, l, z7, z8, rfl, hl5⟩ := p
            rw [hfsl, List.take_length] at hl5
            have hfl5 := e5 _ _ hfl'
            walk_at "rd"
            refine ⟨tyL hfl5, ?_⟩
            walk_at "rd"
            refine w_dispT (by simp) fun t6 ht6 => ?_
            have hfl6 : upd H5 t6 (.tup [.int a.1, l]) fl = some (.lst fs) := (Ex.new ht6) _ _ hfl5
            walk_at "rd"
            refine w_app hfl6 (by omega) ?_
            walk_at "rd"
            have hrv6 : upd (upd H5 t6 (.tup [.int a.1, l])) fl (.lst (fs ++ [.ref t6])) rv = some (.lst ws3.reverse) := by
              rw [upd_ne (Ne.symm hrf)]
              exact (Ex.new ht6) _ _ (e5 _ _ hrv')
            refine ⟨((e.trans e5).trans (Ex.new ht6)).mut hfl, hrv6, fs ++ [.ref t6], _, _, _, _, _, rfl, upd_same, ?_⟩
            rw [hdes, List.map_append]
            have tx : Tx (upd H5 t6 (.tup [.int a.1, l])) (upd (upd H5 t6 (.tup [.int a.1, l])) fl (.lst (fs ++ [.ref t6]))) := Tx.updL hfl6
            refine dpa_snoc (tx.dpa (imm_pds DD) ((e5.trans (Ex.new ht6)).dpa hfd)) (tx.dp (imm_pd (a.1, redI n DD a.2)) ?_)
            exact .tup (sqT upd_same) (.cons (.int _) (.cons ((Ex.new ht6).dp hl5) .nil))
        · obtain ⟨e, hrv', fs, y4, y5, y6, y7, y8, rfl, hfl', hfd⟩ := p
          rw [hrl, List.take_length] at hfd
          have hDl' := hDl TT.reverse.length
          rw [List.take_length] at hDl'
          generalize desI n TT.reverse = DD at hfd hfe hDl'
          have hfsl : fs.length = DD.length := by rw [dpa_len hfd, List.length_map]
          walk_at "rd"
          refine ⟨fl, fs, rfl, sqL hfl', fun r2 hr2 => ?_⟩
          have hd2 : DpAll K (upd H' r2 (.lst fs.reverse)) fs.reverse (DD.reverse.map pd) := by
            rw [List.map_reverse]
            exact dpa_rev ((Ex.new hr2).dpa hfd)
          refine ⟨r2, rfl, ⟨_, sqL upd_same⟩, fun D2 hD2 => ?_⟩
          refine lc_data (K := K) walk_list (fun _ => true) (fun i => row (DD.reverse.getD i (0, [])).2) (fun _ => imm_row _) (fun H' e => e.l (sqL upd_same)) hD2 (by rw [List.length_reverse]; omega) (fun i x H3 H4 hi e3 y R R0 k _ => ?_) (fun H3 ws4 e3 hws4 hda4 => ?_)
          · obtain ⟨rfl, hx⟩ := y
            obtain ⟨a, ha1, ha2⟩ := dpa_pd (e3.dpa hd2) hx
            obtain ⟨t, b, rfl, ht, hb⟩ := dp_pd ha2
            refine w_gtup ht rfl ?_
            walk_at "rd"
            refine ⟨rfl, ?_⟩
            walk_at "rd"
            refine k rfl _ _ (Ex.refl _) ?_
            rw [getD_of ha1]
            exact hb
          · have e4 : (List.range fs.reverse.length).map (fun i => row (DD.reverse.getD i (0, [])).2) = DD.reverse.map fun a => row a.2 := by
              rw [show fs.reverse.length = DD.reverse.length by rw [List.length_reverse, List.length_reverse, hfsl]]
              exact range_map (0, []) (fun a => row a.2) DD.reverse
            rw [made_all, e4] at hda4
            walk_at "rd"
            refine ⟨D2, ws4, rfl, .inl ⟨sqL hws4, fun l hl => ?_⟩⟩
            refine q _ (finI n S) _ (eb.trans (e.trans ((Ex.new hr2).trans (e3.trans (Ex.new hl))))) (.tup (sqT upd_same) ((Ex.new hl).dpa ?_)) hfin.1
            rw [hfe, List.map_map]
            exact hda4
end
end TK

namespace TK
open PySem PySem.Spec PyProof.Rows L2 TH
local macro_rules | `(tactic| walk_at "rd1") => `(tactic| first
  | (with_reducible refine TH.w_seq ?_)
  | (with_reducible refine TH.w_asg ?_)
  | (with_reducible refine TH.w_ret ?_)
  | (with_reducible refine TH.w_drop ?_)
  | (with_reducible refine TH.w_ifS ?_)
  | (with_reducible refine TH.w_next ?_)
  | ((with_reducible refine TH.w_var (v := ?vv) ?hv ?_); (case hv => rfl))
  | (with_reducible refine TH.w_c ?_)
  | ((with_reducible refine TH.w_gname (σ' := ?ss) ?hs ?_); (case hs => (dsimp only [List.set]; rfl)))
  | (with_reducible refine TH.w_op ?_)
  | (with_reducible refine TH.w_un ?_)
  | (with_reducible refine TH.w_chain ?_)
  | (with_reducible refine TH.w_I0 ?_)
  | ((with_reducible refine TH.w_I ?hm ?_); (case hm => first | (exact TH.CMul.l (by omega) (by omega)) | (exact TH.CMul.r (by omega) (by omega)) | (exact TH.CDiv.mk (by omega) (by omega)) | (show (0 : Int) < _; omega) | (exact TH.CPow.mk (by omega) (by omega) (by decide))))
  | (with_reducible refine TH.w_U ?_)
  | (with_reducible refine TH.w_eqI ?_)
  | (with_reducible refine TH.w_neI ?_)
  | (with_reducible refine TH.w_eqB ?_)
  | (with_reducible refine TH.w_isN ?_)
  | (with_reducible refine TH.w_nil ?_)
  | (with_reducible refine TH.w_cons ?_)
  | (with_reducible refine TH.w_test ?_)
  | (with_reducible refine TH.w_B ?_)
  | (with_reducible refine TH.w_bl ?_)
  | (with_reducible refine TH.w_and ?_)
  | (with_reducible refine TH.w_or ?_)
  | (with_reducible refine TH.w_not ?_)
  | (with_reducible refine TH.w_andV ?_)
  | (with_reducible refine TH.w_orV ?_)
  | (with_reducible refine TH.w_notV ?_)
  | (with_reducible refine TH.w_if ?_)
  | (with_reducible refine TH.w_parT ?_)
  | (with_reducible refine TH.w_par ?_)
  | (with_reducible refine TH.w_parT3 ?_)
  | (with_reducible refine TH.w_par3 ?_)
  | (with_reducible refine TH.w_cb ?_)
  | (with_reducible refine TH.w_call ?_)
  | ((with_reducible refine TH.w_aug (v := ?vv) ?hv ?_); (case hv => rfl))
  | (with_reducible refine TH.w_ip ?_)
  | (with_reducible refine TH.w_bm ?_)
  | (with_reducible refine TH.w_sl ?_)
  | (with_reducible refine TH.w_np ?_)
  | (with_reducible refine TH.w_pt ?_)
  | (with_reducible refine TH.w_pti ?_)
  | (with_reducible refine TH.w_gsub ?_)
  | (with_reducible refine TH.w_int ?_)
  | (with_reducible refine TH.w_tupT ?_)
  | (with_reducible refine TH.w_lstT ?_)
  | ((with_reducible show L2.rIxL _ _ _ _ _); (first | (refine TH.w_ixL (TH.sqL upd_same) rfl ?_) | (refine TH.w_ixL (TH.sqL (by assumption)) rfl ?_)))
  | ((with_reducible show L2.rSetL _ _ _ _ _); (first | (refine TH.w_set1 upd_same ?_) | (refine TH.w_set2 upd_same ?_) | (refine TH.w_set3 upd_same ?_) | (refine TH.w_set4 upd_same ?_) | (refine TH.w_set1 (by assumption) ?_) | (refine TH.w_set2 (by assumption) ?_) | (refine TH.w_set3 (by assumption) ?_) | (refine TH.w_set4 (by assumption) ?_)))
  | (with_reducible refine TH.w_lc ?_)
  | (with_reducible refine TH.w_dc ?_)
  | (with_reducible refine TH.w_itup ?_)
  | (with_reducible refine TH.w_ilist ?_)
  | (with_reducible refine TH.w_ienum ?_)
  | (with_reducible refine TH.w_izip ?_)
  | (with_reducible refine TH.w_irng1 ?_)
  | (with_reducible refine TH.w_irng2 ?_)
  | (with_reducible refine TH.w_for ?_)
  | (with_reducible refine TH.w_gcons ?_)
  | (with_reducible refine TH.w_gnil ?_)
  | (with_reducible refine TH.w_yes ?_)
  | (with_reducible refine TH.w_gtup2 upd_same ?_)
  | (with_reducible refine TH.w_gtup3 upd_same ?_)
  | (with_reducible refine TH.w_dput ?_)
  | (with_reducible refine TH.w_lock ?_)
  | (with_reducible refine TH.w_ikeys ?_)
  | (with_reducible refine TH.w_iitems ?_)
  | (with_reducible refine TH.w_dispT1 ?_)
  | (with_reducible refine TH.w_dnewT ?_)
  | (with_reducible refine TH.w_dnewK ?_)
  | (with_reducible refine TH.w_fld ?_)
  | (with_reducible refine TH.w_sfld ?_)
  | (with_reducible refine TH.w_meth ?_)
  | (with_reducible refine TH.w_make ?_)
  | (with_reducible refine TH.w_dget2 ?_)
  | (with_reducible refine TH.w_revL ?_)
  | (with_reducible refine TH.w_T ?_)
  | (with_reducible refine TH.w_F ?_))
local macro_rules | `(tactic| walk_at "rd") => `(tactic| repeat (first | walk_at "rd1" | (dsimp only [List.set, L2.wipe, List.map, TH.isInt, TH.isBool, TH.isTup, TH.isLst, TH.bo_f, TH.bo_t, TH.ba_f, TH.ba_t, TH.bn_t, TH.bn_f, List.append_nil, List.cons_append, List.nil_append])))

variable {P : Program} {w : World} {K : PySem.W.Frag} {mg : Str → Option Value} {base : Heap}
section
open LA
/-! ladder(p, wide, rows), rank(p, wide, rows), what is right -/
def sp_ladder (K : PySem.W.Frag) : Sp := fun vs H Q _ => ∃ (n : Nat) (_ : NeZero n) (wide : Nat) (v : V) (rs : List (List Int)), vs = [.int (n : Nat), .int (wide : Nat), v] ∧ clockB (.int n) = true ∧ wide ≤ 200 ∧ rs.length ≤ 200 ∧ RowsAt K H v rs ∧ (∀ r ∈ rs, Rin n wide r) ∧
  ∀ (u : V) (ls : List (List Int)) (H' : Hp), Ex H H' → Dp K H' u (rowsT ls) → LadI n wide rs ls → Q u H'
theorem ok_ladder {f : Addr} {fd : FuncData} (F : C8.Def K mg "ladder" s_ladder f fd) (b : Binds K fd ["p", "wide", "rows"] []) (T : Txt mg)
    (c_check_rows : C8.Cal P w K mg base 5 "check_rows" (sp_check_rows K) []) (c_ladder_of : C8.Cal P w K mg base 5 "ladder_of" (sp_ladder_of K) []) : C8.Cal P w K mg base 6 "ladder" (sp_ladder K) [] := by
  refine C8.cal0 F b .nil sc_ladder (fun vs H Q E h => ?_) (fun cdv A outer s H vs Q E hr h => ?_)
  · obtain ⟨n, _, wide, v, rs, rfl, _⟩ := h
    rfl
  · obtain ⟨n, inst, wide, v, rs, rfl, hc, hw, hl, hR, hrs, q⟩ := h
    refine ⟨_, (pss_cons (ps_expr (C8.pe_c c_check_rows hr (by first | decide | exact Nat.le_refl _) (by rfl) (pa_cons (pv 0) (pa_cons (pv 1) (pa_cons (pv 2) pa_nil)))))
      (pss_one (ps_ret (C8.pe_c c_ladder_of hr (by first | decide | exact Nat.le_refl _) (by rfl) (pa_cons (pv 0) (pa_cons (pv 2) pa_nil)))))), ?_⟩
    refine w_start (σ' := [some (.int n), some (.int wide), some v]) rfl ?_
    walk_at "rd"
    refine ⟨n, wide, v, rs, rfl, hc, hw, hR, hl, hrs, fun H1 e1 => ?_⟩
    walk_at "rd"
    exact ⟨n, inst, wide, v, rs, rfl, clk_of hc, by omega, hl, hR.ex e1, hrs, fun u ls H2 e2 hu hL => q u ls H2 (e1.trans e2) hu hL⟩
def sp_rank (K : PySem.W.Frag) : Sp := fun vs H Q _ => ∃ (n : Nat) (_ : NeZero n) (wide : Nat) (v : V) (rs : List (List Int)), vs = [.int (n : Nat), .int (wide : Nat), v] ∧ clockB (.int n) = true ∧ wide ≤ 200 ∧ rs.length ≤ 200 ∧ RowsAt K H v rs ∧ (∀ r ∈ rs, Rin n wide r) ∧
  ∀ (ls : List (List Int)) (H' : Hp), Ex H H' → LadI n wide rs ls → Q (.int (ls.length : Nat)) H'
theorem ok_rank {f : Addr} {fd : FuncData} (F : C8.Def K mg "rank" s_rank f fd) (b : Binds K fd ["p", "wide", "rows"] []) (T : Txt mg)
    (c_check_rows : C8.Cal P w K mg base 5 "check_rows" (sp_check_rows K) []) (c_rank_of : C8.Cal P w K mg base 5 "rank_of" (sp_rank_of K) []) : C8.Cal P w K mg base 6 "rank" (sp_rank K) [] := by
  refine C8.cal0 F b .nil sc_rank (fun vs H Q E h => ?_) (fun cdv A outer s H vs Q E hr h => ?_)
  · obtain ⟨n, _, wide, v, rs, rfl, _⟩ := h
    rfl
  · obtain ⟨n, inst, wide, v, rs, rfl, hc, hw, hl, hR, hrs, q⟩ := h
    refine ⟨_, (pss_cons (ps_expr (C8.pe_c c_check_rows hr (by first | decide | exact Nat.le_refl _) (by rfl) (pa_cons (pv 0) (pa_cons (pv 1) (pa_cons (pv 2) pa_nil)))))
      (pss_one (ps_ret (C8.pe_c c_rank_of hr (by first | decide | exact Nat.le_refl _) (by rfl) (pa_cons (pv 0) (pa_cons (pv 2) pa_nil)))))), ?_⟩
    refine w_start (σ' := [some (.int n), some (.int wide), some v]) rfl ?_
    walk_at "rd"
    refine ⟨n, wide, v, rs, rfl, hc, hw, hR, hl, hrs, fun H1 e1 => ?_⟩
    walk_at "rd"
    exact ⟨n, inst, wide, v, rs, rfl, clk_of hc, by omega, hl, hR.ex e1, hrs, fun ls H2 e2 hL => q ls H2 (e1.trans e2) hL⟩
end
/-! rows, sorted -/
section
open PySem.W
theorem le_row (a b : List Int) : dataLe false id (row a) (row b) = decide (a ≤ b) := by
  show (!dataLt (row b) (row a)) = _
  unfold row
  rw [dataLt_tuple]
  show (!rowLt (b.map .int) (a.map .int)) = _
  rw [dataLt_ints]
  by_cases h : b < a
  · have h' : ¬ a ≤ b := fun r => List.not_lt.mpr r h
    rw [decide_eq_true h, decide_eq_false h']; rfl
  · rw [decide_eq_false h, decide_eq_true (List.not_lt.mp h)]; rfl
theorem sort_rows_perm {ks ls : List (List Int)} (p : ks.Perm ls) : (ks.map row).mergeSort (dataLe false id) = (ls.map row).mergeSort (dataLe false id) := by
  have e : ∀ xs : List (List Int), (xs.map row).mergeSort (dataLe false id) = (xs.mergeSort fun a b => decide (a ≤ b)).map row := fun xs => (sort_maps row fun a _ b _ => (le_row a b).symm).symm
  rw [e, e]
  congr 1
  have hs : ∀ xs : List (List Int), (xs.mergeSort fun a b => decide (a ≤ b)).Pairwise fun a b => a ≤ b := fun xs =>
    (List.pairwise_mergeSort (le := fun a b : List Int => decide (a ≤ b)) (fun a b c h1 h2 => decide_eq_true (List.le_trans (of_decide_eq_true h1) (of_decide_eq_true h2))) (fun a b => by
      rw [Bool.or_eq_true]
      exact (List.le_total a b).imp decide_eq_true decide_eq_true) xs).imp of_decide_eq_true
  refine List.Perm.eq_of_pairwise (le := fun a b : List Int => a ≤ b) (fun a b _ _ h1 h2 => List.le_antisymm h1 h2) (hs ks) (hs ls) ?_
  exact (List.mergeSort_perm ks _).trans (p.trans (List.mergeSort_perm ls _).symm)
end
/-! data that is its own like -/
theorem lay_ints : ∀ ns : List Int, PyData.canLayAll0 (ns.map .int) = true
  | [] => rfl
  | n :: ns => by
    show (PyData.canLay0 (.int n) && PyData.canLayAll0 (ns.map .int)) = true
    rw [lay_ints ns]
    rfl
theorem lay_list : ∀ ds : List D, (∀ d ∈ ds, ∃ r : List Int, d = row r) → PyData.canLayAll0 ds = true
  | [], _ => rfl
  | d :: ds, h => by
    obtain ⟨r, rfl⟩ := h d List.mem_cons_self
    show (PyData.canLayAll0 (r.map .int) && PyData.canLayAll0 ds) = true
    rw [lay_ints, lay_list ds fun d hd => h d (List.mem_cons_of_mem _ hd)]
    rfl
theorem depth_list : ∀ ds : List D, (∀ d ∈ ds, ∃ r : List Int, d = row r) → PyData.depthAll ds ≤ 1
  | [], _ => Nat.zero_le _
  | d :: ds, h => by
    obtain ⟨r, rfl⟩ := h d List.mem_cons_self
    have := depth_list ds fun d hd => h d (List.mem_cons_of_mem _ hd)
    show max (PyData.depthAll (r.map .int) + 1) (PyData.depthAll ds) ≤ 1
    rw [PySem.W.depth_ints]
    omega
theorem ne_list {H : Hp} {Q : VK} {x y : V} {ds : List D} (hx : Dp K H x (.list ds)) (hy : Dp K H y (.list ds)) (h : ∀ d ∈ ds, ∃ r : List Int, d = row r) (q : Q (.bl false) H) : rNeD K x y H Q := by
  have hl : PyData.canLay0 (.list ds) = true := lay_list ds h
  have hd : (PyData.list ds).depth ≤ 64 := by
    have := depth_list ds h
    show PyData.depthAll ds + 1 ≤ 64
    omega
  have hs : SeqAt.shaped (.list ds) = true := by
    unfold SeqAt.shaped
    rw [hl, decide_eq_true hd]
    rfl
  refine ⟨_, _, hx, hy, hs, hs, ?_⟩
  rw [SeqAt.eqv_refl _ hl]
  exact q
theorem rows_are (rs : List (List Int)) : ∀ d ∈ rs.map row, ∃ r : List Int, d = row r := fun d hd => by
  obtain ⟨r, _, rfl⟩ := List.mem_map.mp hd
  exact ⟨r, rfl⟩
/-! the clocks that are drawn -/
theorem clock_ok {p : Int} (h : p ∈ clocks) : ∃ n : Nat, p = n ∧ clockB (.int n) = true ∧ n ≤ 1000000 := by
  simp only [clocks, List.mem_cons, List.not_mem_nil, or_false] at h
  rcases h with rfl | rfl | rfl | rfl | rfl | rfl | rfl | rfl
  · exact ⟨2, rfl, by decide +kernel, by decide⟩
  · exact ⟨3, rfl, by decide +kernel, by decide⟩
  · exact ⟨5, rfl, by decide +kernel, by decide⟩
  · exact ⟨7, rfl, by decide +kernel, by decide⟩
  · exact ⟨2, rfl, by decide +kernel, by decide⟩
  · exact ⟨11, rfl, by decide +kernel, by decide⟩
  · exact ⟨101, rfl, by decide +kernel, by decide⟩
  · exact ⟨999983, rfl, by decide +kernel, by decide⟩
theorem wee_rows {rs : List (List Int)} {wide : Nat} (h1 : rs.length ≤ 1000000) (h2 : ∀ r ∈ rs, r.length ≤ 1000000) : wee 2 (rowsT rs) := by
  refine .inr ⟨rs.map row, .inl rfl, by rw [List.length_map]; exact h1, fun d hd => ?_⟩
  obtain ⟨r, hr, rfl⟩ := List.mem_map.mp hd
  refine .inr ⟨r.map PyData.int, .inl rfl, by rw [List.length_map]; exact h2 r hr, fun x hx => ?_⟩
  obtain ⟨i, _, rfl⟩ := List.mem_map.mp hx
  exact .inr (.inr ⟨i, rfl⟩)
theorem wee_bool (b : Bool) : wee 2 (.bool b) := .inl (.inr (.inl ⟨b, rfl⟩))
theorem wee_int (i : Int) : wee 2 (.int i) := .inl (.inr (.inr ⟨i, rfl⟩))
end TK

namespace TK
open PySem PySem.Spec PyProof.Rows L2 TH
local macro_rules | `(tactic| walk_at "rd1") => `(tactic| first
  | (with_reducible refine TH.w_seq ?_)
  | (with_reducible refine TH.w_asg ?_)
  | (with_reducible refine TH.w_ret ?_)
  | (with_reducible refine TH.w_drop ?_)
  | (with_reducible refine TH.w_ifS ?_)
  | (with_reducible refine TH.w_next ?_)
  | ((with_reducible refine TH.w_var (v := ?vv) ?hv ?_); (case hv => rfl))
  | (with_reducible refine TH.w_c ?_)
  | ((with_reducible refine TH.w_gname (σ' := ?ss) ?hs ?_); (case hs => (dsimp only [List.set]; rfl)))
  | (with_reducible refine TH.w_op ?_)
  | (with_reducible refine TH.w_un ?_)
  | (with_reducible refine TH.w_chain ?_)
  | (with_reducible refine TH.w_I0 ?_)
  | ((with_reducible refine TH.w_I ?hm ?_); (case hm => first | (exact TH.CMul.l (by omega) (by omega)) | (exact TH.CMul.r (by omega) (by omega)) | (exact TH.CDiv.mk (by omega) (by omega)) | (show (0 : Int) < _; omega) | (exact TH.CPow.mk (by omega) (by omega) (by decide))))
  | (with_reducible refine TH.w_U ?_)
  | (with_reducible refine TH.w_eqI ?_)
  | (with_reducible refine TH.w_neI ?_)
  | (with_reducible refine TH.w_eqB ?_)
  | (with_reducible refine TH.w_isN ?_)
  | (with_reducible refine TH.w_nil ?_)
  | (with_reducible refine TH.w_cons ?_)
  | (with_reducible refine TH.w_test ?_)
  | (with_reducible refine TH.w_B ?_)
  | (with_reducible refine TH.w_bl ?_)
  | (with_reducible refine TH.w_and ?_)
  | (with_reducible refine TH.w_or ?_)
  | (with_reducible refine TH.w_not ?_)
  | (with_reducible refine TH.w_andV ?_)
  | (with_reducible refine TH.w_orV ?_)
  | (with_reducible refine TH.w_notV ?_)
  | (with_reducible refine TH.w_if ?_)
  | (with_reducible refine TH.w_parT ?_)
  | (with_reducible refine TH.w_par ?_)
  | (with_reducible refine TH.w_parT3 ?_)
  | (with_reducible refine TH.w_par3 ?_)
  | (with_reducible refine TH.w_cb ?_)
  | (with_reducible refine TH.w_call ?_)
  | ((with_reducible refine TH.w_aug (v := ?vv) ?hv ?_); (case hv => rfl))
  | (with_reducible refine TH.w_ip ?_)
  | (with_reducible refine TH.w_bm ?_)
  | (with_reducible refine TH.w_sl ?_)
  | (with_reducible refine TH.w_np ?_)
  | (with_reducible refine TH.w_pt ?_)
  | (with_reducible refine TH.w_pti ?_)
  | (with_reducible refine TH.w_gsub ?_)
  | (with_reducible refine TH.w_int ?_)
  | (with_reducible refine TH.w_tupT ?_)
  | (with_reducible refine TH.w_lstT ?_)
  | ((with_reducible show L2.rIxL _ _ _ _ _); (first | (refine TH.w_ixL (TH.sqL upd_same) rfl ?_) | (refine TH.w_ixL (TH.sqL (by assumption)) rfl ?_)))
  | ((with_reducible show L2.rSetL _ _ _ _ _); (first | (refine TH.w_set1 upd_same ?_) | (refine TH.w_set2 upd_same ?_) | (refine TH.w_set3 upd_same ?_) | (refine TH.w_set4 upd_same ?_) | (refine TH.w_set1 (by assumption) ?_) | (refine TH.w_set2 (by assumption) ?_) | (refine TH.w_set3 (by assumption) ?_) | (refine TH.w_set4 (by assumption) ?_)))
  | (with_reducible refine TH.w_lc ?_)
  | (with_reducible refine TH.w_dc ?_)
  | (with_reducible refine TH.w_itup ?_)
  | (with_reducible refine TH.w_ilist ?_)
  | (with_reducible refine TH.w_ienum ?_)
  | (with_reducible refine TH.w_izip ?_)
  | (with_reducible refine TH.w_irng1 ?_)
  | (with_reducible refine TH.w_irng2 ?_)
  | (with_reducible refine TH.w_for ?_)
  | (with_reducible refine TH.w_gcons ?_)
  | (with_reducible refine TH.w_gnil ?_)
  | (with_reducible refine TH.w_yes ?_)
  | (with_reducible refine TH.w_gtup2 upd_same ?_)
  | (with_reducible refine TH.w_gtup3 upd_same ?_)
  | (with_reducible refine TH.w_dput ?_)
  | (with_reducible refine TH.w_lock ?_)
  | (with_reducible refine TH.w_ikeys ?_)
  | (with_reducible refine TH.w_iitems ?_)
  | (with_reducible refine TH.w_dispT1 ?_)
  | (with_reducible refine TH.w_dnewT ?_)
  | (with_reducible refine TH.w_dnewK ?_)
  | (with_reducible refine TH.w_fld ?_)
  | (with_reducible refine TH.w_sfld ?_)
  | (with_reducible refine TH.w_meth ?_)
  | (with_reducible refine TH.w_make ?_)
  | (with_reducible refine TH.w_dget2 ?_)
  | (with_reducible refine TH.w_revL ?_)
  | (with_reducible refine TH.w_T ?_)
  | (with_reducible refine TH.w_F ?_))
local macro_rules | `(tactic| walk_at "rd") => `(tactic| repeat (first | walk_at "rd1" | (dsimp only [List.set, L2.wipe, List.map, TH.isInt, TH.isBool, TH.isTup, TH.isLst, TH.bo_f, TH.bo_t, TH.ba_f, TH.ba_t, TH.bn_t, TH.bn_f, List.append_nil, List.cons_append, List.nil_append])))

abbrev s_law : Stmt := top 47
abbrev N_law : List Str := ["script", "hand", "odd", "thing", "turn", "rows", "given", "told", "other", "p", "wide", "many", "kept", "due"]
theorem sc_law : FnScope N_law ["script"] (C8.fnScope s_law) := ⟨rfl, rfl, rfl, by decide +kernel, rfl, by decide +kernel, by decide +kernel⟩

variable {P : Program} {w : World} {K : PySem.W.Frag} {mg : Str → Option Value} {base : Heap}
/-! the law -/
def sp_law (K : PySem.W.Frag) : Sp := fun vs H Q _ => ∃ (a : Addr) (ns : List Int), vs = [.ref a] ∧ SqL K H a (ns.map V.int) ∧ ns.length ≤ 1000000 ∧ ∀ H', Q (.bl true) H'
open LA in
theorem ok_law {f : Addr} {fd : FuncData} (F : C8.Def K mg "law" s_law f fd) (b : Binds K fd ["script"] []) (T : Txt mg)
    (c_law_hand : C8.Cal P w K mg base 1 "_law_hand" (sp_hand K) []) (c_law_any : C8.Cal P w K mg base 2 "_law_any" (sp_any K) []) (c_law_draw : C8.Cal P w K mg base 1 "_law_draw" (sp_draw K) []) (c_law_is : C8.Cal P w K mg base 4 "_law_is" (sp_is 2 K) [])
    (c_is_clock : C8.Cal P w K mg base 3 "is_clock" (sp_is_clock K) []) (c_law_is_prime : C8.Cal P w K mg base 2 "_law_is_prime" (sp_law_is_prime K) []) (c_law_clock : C8.Cal P w K mg base 3 "_law_clock" (sp_clock K) []) (c_law_some_rows : C8.Cal P w K mg base 4 "_law_some_rows" (sp_some_rows K) [])
    (c_law_ladder : C8.Cal P w K mg base 2 "_law_ladder" (sp_law_ladder K) []) (c_ladder : C8.Cal P w K mg base 6 "ladder" (sp_ladder K) []) (c_rank : C8.Cal P w K mg base 6 "rank" (sp_rank K) []) (c_law_other_rows : C8.Cal P w K mg base 3 "_law_other_rows" (sp_other_rows K) [])
    (c_law_many : C8.Cal P w K mg base 1 "_law_many" (sp_law_many K) []) (c_law_all_mixtures : C8.Cal P w K mg base 2 "_law_all_mixtures" (sp_mixtures K) []) : FnOk P w K mg base C8.CX0 7 f fd ["script"] (sp_law K) := by
  refine C8.fn0 F.fn sc_law (fun vs H Q E h => ?_) (fun cdv A outer s H vs Q E hr h => ?_)
  · obtain ⟨a, ns, rfl, _⟩ := h
    rfl
  · obtain ⟨a, ns, rfl, ha, hl, q⟩ := h
    have hu64 := hu64_of hr
    refine ⟨_, (pss_cons (ps_set (i := 1) sc_law.nd rfl (Or.inl rfl) (C8.pe_c c_law_hand hr (by first | decide | exact Nat.le_refl _) (by rfl) (pa_cons (pv 0) pa_nil)))
      (pss_cons (ps_set (i := 2) sc_law.nd rfl (Or.inl rfl) (C8.pe_c c_law_any hr (by first | decide | exact Nat.le_refl _) (by rfl) (pa_cons (pv 1) (pa_cons (pe_lst (pa_cons pe_bl (pa_cons pe_non (pa_cons pe_str (pa_cons (pe_un un_neg pe_int) (pa_cons (pe_op op_pow pe_int pe_int) (pa_cons pe_int pa_nil))))))) pa_nil))))
      (pss_cons (ps_for PassesOwn.never rfl (TH.kpi_list (K := K) (pe_lst (pa_cons (C8.pe_c c_law_draw hr (by first | decide | exact Nat.le_refl _) (by rfl) (pa_cons (pv 1) (pa_cons (pe_op op_pow pe_int pe_int) pa_nil))) (pa_cons (pe_op op_add pe_int (C8.pe_c c_law_draw hr (by first | decide | exact Nat.le_refl _) (by rfl) (pa_cons (pv 1) (pa_cons pe_int pa_nil)))) (pa_cons (pv 2) pa_nil))))) (pg_name (i := 3) sc_law.nd rfl (Or.inl rfl) (Or.inr rfl)) (pss_one (ps_if (pt_not (pt_val (C8.pe_c c_law_is hr (by first | decide | exact Nat.le_refl _) (by rfl) (pa_cons (C8.pe_c c_is_clock hr (by first | decide | exact Nat.le_refl _) (by rfl) (pa_cons (pv 3) pa_nil)) (pa_cons (C8.pe_c c_law_is_prime hr (by first | decide | exact Nat.le_refl _) (by rfl) (pa_cons (pv 3) pa_nil)) pa_nil))))) (pss_one (ps_ret pe_bl)) pss_nil)))
      (pss_cons (ps_for PassesOwn.never rfl (pi_range1 (by rfl) T.b_range (pa_cons pe_int pa_nil)) (pg_name (i := 4) sc_law.nd rfl (Or.inl rfl) (Or.inr rfl)) (pss_cons (ps_par3 (i := 9) (j := 10) (l := 11) rfl sc_law.nd rfl rfl rfl (by decide) (by decide) (by decide) rfl rfl rfl (pa_cons (C8.pe_c c_law_clock hr (by first | decide | exact Nat.le_refl _) (by rfl) (pa_cons (pv 1) pa_nil)) (pa_cons (C8.pe_c c_law_draw hr (by first | decide | exact Nat.le_refl _) (by rfl) (pa_cons (pv 1) (pa_cons pe_int pa_nil))) (pa_cons (C8.pe_c c_law_draw hr (by first | decide | exact Nat.le_refl _) (by rfl) (pa_cons (pv 1) (pa_cons pe_int pa_nil))) pa_nil))) (by rfl))
      (C8.pss_cut (ps_if (pt_cmpR op_eq (C8.pe_c c_law_draw hr (by first | decide | exact Nat.le_refl _) (by rfl) (pa_cons (pv 1) (pa_cons pe_int pa_nil))) pe_int (nomark _)) (pss_one (ps_par (i := 10) (j := 11) rfl sc_law.nd rfl rfl (by decide) rfl rfl (pa_cons (pe_op op_add pe_int (C8.pe_c c_law_draw hr (by first | decide | exact Nat.le_refl _) (by rfl) (pa_cons (pv 1) (pa_cons pe_int pa_nil)))) (pa_cons (pe_op op_add pe_int (C8.pe_c c_law_draw hr (by first | decide | exact Nat.le_refl _) (by rfl) (pa_cons (pv 1) (pa_cons pe_int pa_nil)))) pa_nil)) (by rfl))) pss_nil)
      (C8.pss_cut (ps_if (pt_cmpR op_eq (C8.pe_c c_law_draw hr (by first | decide | exact Nat.le_refl _) (by rfl) (pa_cons (pv 1) (pa_cons pe_int pa_nil))) pe_int (nomark _)) (pss_one (ps_asg (C8.pe_c c_law_any hr (by first | decide | exact Nat.le_refl _) (by rfl) (pa_cons (pv 1) (pa_cons (pe_lst (pa_cons (pe_tup (pa_cons pe_int (pa_cons pe_int pa_nil))) (pa_cons (pe_tup (pa_cons pe_int (pa_cons pe_int pa_nil))) (pa_cons (pe_tup (pa_cons pe_int (pa_cons pe_int pa_nil))) (pa_cons (pe_tup (pa_cons pe_int (pa_cons pe_int pa_nil))) (pa_cons (pe_tup (pa_cons pe_int (pa_cons pe_int pa_nil))) pa_nil)))))) pa_nil))) (TH.kpg_tup (K := K) (n := 2) rfl (pgs_cons (pg_name (i := 10) sc_law.nd rfl (Or.inl rfl) (Or.inr rfl)) (pgs_cons (pg_name (i := 11) sc_law.nd rfl (Or.inl rfl) (Or.inr rfl)) pgs_nil))))) pss_nil)
      (pss_cons (ps_set (i := 5) sc_law.nd rfl (Or.inl rfl) (C8.pe_c c_law_some_rows hr (by first | decide | exact Nat.le_refl _) (by rfl) (pa_cons (pv 1) (pa_cons (pv 9) (pa_cons (pv 10) (pa_cons (pv 11) pa_nil))))))
      (pss_cons (ps_set (i := 6) sc_law.nd rfl (Or.inl rfl) (C8.pe_c c_law_any hr (by first | decide | exact Nat.le_refl _) (by rfl) (pa_cons (pv 1) (pa_cons (pe_lst (pa_cons (pe_callTy (TH.kcall_list (K := K)) (by rfl) T.b_list (by decide +kernel) (pa_cons (pv 5) pa_nil)) (pa_cons (pe_callTy (TH.kcall_tuple (K := K)) (by rfl) T.b_tuple (by decide +kernel) (pa_cons (pv 5) pa_nil)) pa_nil))) pa_nil))))
      (pss_cons (ps_par (i := 12) (j := 13) rfl sc_law.nd rfl rfl (by decide) rfl rfl (pa_cons (pe_callTy (TH.kcall_list (K := K)) (by rfl) T.b_list (by decide +kernel) (pa_cons (pv 6) pa_nil)) (pa_cons (C8.pe_c c_law_ladder hr (by first | decide | exact Nat.le_refl _) (by rfl) (pa_cons (pv 9) (pa_cons (pv 10) (pa_cons (pv 5) pa_nil)))) pa_nil)) (by rfl))
      (pss_cons (ps_set (i := 7) sc_law.nd rfl (Or.inl rfl) (C8.pe_c c_ladder hr (by first | decide | exact Nat.le_refl _) (by rfl) (pa_cons (pv 9) (pa_cons (pv 10) (pa_cons (pv 6) pa_nil)))))
      (pss_cons (ps_if (PW.pt (pw_or (pt_not (pt_val (C8.pe_c c_law_is hr (by first | decide | exact Nat.le_refl _) (by rfl) (pa_cons (pv 7) (pa_cons (pv 13) pa_nil))))) (pw_or (pt_not (pt_val (C8.pe_c c_law_is hr (by first | decide | exact Nat.le_refl _) (by rfl) (pa_cons (C8.pe_c c_rank hr (by first | decide | exact Nat.le_refl _) (by rfl) (pa_cons (pv 9) (pa_cons (pv 10) (pa_cons (pv 6) pa_nil)))) (pa_cons (pe_callB (TH.kcall_len (K := K)) (by rfl) T.b_len (by decide +kernel) (pa_cons (pv 13) pa_nil)) pa_nil))))) (pw_or1 (pt_cmpR (TH.kop_neD (K := K) hu64) (pe_callTy (TH.kcall_list (K := K)) (by rfl) T.b_list (by decide +kernel) (pa_cons (pv 6) pa_nil)) (pv 12) (nomark _)))))) (pss_one (ps_ret pe_bl)) pss_nil)
      (pss_cons (ps_if (pt_not (pt_val (C8.pe_c c_law_is hr (by first | decide | exact Nat.le_refl _) (by rfl) (pa_cons (C8.pe_c c_ladder hr (by first | decide | exact Nat.le_refl _) (by rfl) (pa_cons (pv 9) (pa_cons (pv 10) (pa_cons (pv 7) pa_nil)))) (pa_cons (pv 13) pa_nil))))) (pss_one (ps_ret pe_bl)) pss_nil)
      (pss_cons (ps_set (i := 8) sc_law.nd rfl (Or.inl rfl) (C8.pe_c c_law_other_rows hr (by first | decide | exact Nat.le_refl _) (by rfl) (pa_cons (pv 1) (pa_cons (pv 9) (pa_cons (pv 10) (pa_cons (pv 5) pa_nil))))))
      (pss_cons (ps_if (PW.pt (pw_or (pt_not (pt_val (C8.pe_c c_law_is hr (by first | decide | exact Nat.le_refl _) (by rfl) (pa_cons (C8.pe_c c_ladder hr (by first | decide | exact Nat.le_refl _) (by rfl) (pa_cons (pv 9) (pa_cons (pv 10) (pa_cons (pv 8) pa_nil)))) (pa_cons (pv 13) pa_nil))))) (pw_or1 (pt_cmpR op_ne (C8.pe_c c_rank hr (by first | decide | exact Nat.le_refl _) (by rfl) (pa_cons (pv 9) (pa_cons (pv 10) (pa_cons (pe_callTy (TH.kcall_tuple (K := K)) (by rfl) T.b_tuple (by decide +kernel) (pa_cons (pv 8) pa_nil)) pa_nil)))) (pe_callB (TH.kcall_len (K := K)) (by rfl) T.b_len (by decide +kernel) (pa_cons (pv 13) pa_nil)) (nomark _))))) (pss_one (ps_ret pe_bl)) pss_nil)
      (pss_one (ps_if (PW.pt (pw_and (pt_cmpR op_lt (pv 9) pe_int (nomark _)) (pw_and (pt_cmpR op_lt (pv 10) pe_int (nomark _)) (pw_and1 (pt_cmpR op_lt (C8.pe_c c_law_many hr (by first | decide | exact Nat.le_refl _) (by rfl) (pa_cons (pv 9) (pa_cons (pe_callB (TH.kcall_len (K := K)) (by rfl) T.b_len (by decide +kernel) (pa_cons (pv 13) pa_nil)) pa_nil))) pe_int (nomark _)))))) (pss_one (ps_if (pt_cmpR (TH.kop_neD (K := K) hu64) (C8.pe_c c_law_all_mixtures hr (by first | decide | exact Nat.le_refl _) (by rfl) (pa_cons (pv 9) (pa_cons (pv 10) (pa_cons (pv 5) pa_nil)))) (C8.pe_c c_law_all_mixtures hr (by first | decide | exact Nat.le_refl _) (by rfl) (pa_cons (pv 9) (pa_cons (pv 10) (pa_cons (pe_callTy (TH.kcall_list (K := K)) (by rfl) T.b_list (by decide +kernel) (pa_cons (pv 7) pa_nil)) pa_nil)))) (nomark _)) (pss_one (ps_ret pe_bl)) pss_nil)) pss_nil))))))))))))))
      (pss_one (ps_ret pe_bl)))))), ?_⟩
    refine w_start (σ' := [some (.ref a), none, none, none, none, none, none, none, none, none, none, none, none, none]) rfl ?_
    walk_at "rd"
    refine ⟨a, ns, rfl, ha, hl, fun hv H1 e1 hh => ?_⟩
    walk_at "rd"
    refine w_dispT (by simp) fun l1 hl1 => ?_
    refine ⟨hv, l1, _, rfl, hh.ex (Ex.new hl1), sqL upd_same, by simp, by simp, fun odd hodd => ?_⟩
    have hodd' : ∃ d : D, ∀ H', Dp K H' odd d := by
      simp only [List.mem_cons, List.not_mem_nil, or_false] at hodd
      rcases hodd with rfl | rfl | rfl | rfl | rfl | rfl
      · exact ⟨_, fun _ => .bl _⟩
      · exact ⟨_, fun _ => .non⟩
      · exact ⟨_, fun _ => .str _⟩
      · exact ⟨_, fun _ => .int _⟩
      · exact ⟨_, fun _ => .int _⟩
      · exact ⟨_, fun _ => .int _⟩
    obtain ⟨dodd, hodd'⟩ := hodd'
    have hh2 := hh.ex (Ex.new (o := .lst [V.bl true, V.non, V.str "7", V.int (-5), V.int (10 ^ Int.toNat 59), V.int 7]) hl1)
    generalize upd H1 l1 (.lst [V.bl true, V.non, V.str "7", V.int (-5), V.int (10 ^ Int.toNat 59), V.int 7]) = H2 at hh2 ⊢
    walk_at "rd"
    have e6 : (10 ^ Int.toNat 6 : Int) = 1000000 := rfl
    refine ⟨hv, _, rfl, hh2, by rw [e6]; omega, by rw [e6]; omega, fun r1 _ _ => ?_⟩
    walk_at "rd"
    refine ⟨hv, _, rfl, hh2, by omega, by omega, fun r2 _ _ => ?_⟩
    walk_at "rd"
    refine w_dispT (by simp) fun l2 hl2 => ?_
    have hh3 := hh2.ex (Ex.new (o := .lst [V.int r1, V.int (2 + r2), odd]) hl2)
    have hl2' : upd H2 l2 (.lst [V.int r1, V.int (2 + r2), odd]) l2 = some (.lst [V.int r1, V.int (2 + r2), odd]) := upd_same
    generalize upd H2 l2 (.lst [V.int r1, V.int (2 + r2), odd]) = H3 at hh3 hl2' ⊢
    refine ⟨l2, rfl, ⟨_, sqL hl2'⟩, ?_⟩
    refine for_go walk_list (fun i σ H' => Ex H3 H' ∧ ∃ y3, σ = [some (.ref a), some hv, some odd, y3, none, none, none, none, none, none, none, none, none, none]) ⟨Ex.refl _, _, rfl⟩ (fun i σ H' _ p => p.1.l (sqL hl2')) (fun i x σ H' H'' hi p y => ?_) (fun σ H' p => ?_)
    · obtain ⟨e, y3, rfl⟩ := p
      obtain ⟨rfl, hx⟩ := y
      have hxd : ∃ d, Dp K H'' x d := by
        match i, hx with
        | 0, hx => cases hx; exact ⟨_, .int _⟩
        | 1, hx => cases hx; exact ⟨_, .int _⟩
        | 2, hx => cases hx; exact ⟨_, hodd' _⟩
        | i + 3, hx => simp at hx
      obtain ⟨d, hd⟩ := hxd
      walk_at "rd"
      refine ⟨x, d, rfl, hd, ?_⟩
      walk_at "rd"
      refine ⟨x, d, rfl, hd, ?_⟩
      refine ⟨_, _, _, rfl, .bl _, .bl _, wee_bool _, fun H4 e4 => ?_⟩
      walk_at "rd"
      exact ⟨e.trans e4, _, rfl⟩
    · obtain ⟨e, y3, rfl⟩ := p
      have hh4 := hh3.ex e
      clear e hh3 hl2'
      walk_at "rd"
      refine w_isrng (by omega) (by omega) ?_
      refine for_go walk_rng (fun i σ H4 => Ex H' H4 ∧ ∃ y4 y5 y6 y7 y8 y9 y10 y11 y12 y13, σ = [some (.ref a), some hv, some odd, y3, y4, y5, y6, y7, y8, y9, y10, y11, y12, y13]) ⟨Ex.refl _, _, _, _, _, _, _, _, _, _, _, rfl⟩ (fun _ _ _ _ _ => trivial) (fun i x σ H4 H5 hi p y => ?_) (fun σ H4 p => ?_)
      · obtain ⟨e4, y4, y5, y6, y7, y8, y9, y10, y11, y12, y13, rfl⟩ := p
        obtain ⟨rfl, rfl⟩ := y
        have hh5 := hh4.ex e4
        walk_at "rd"
        refine ⟨hv, rfl, hh5, fun p H6 e6 hp => ?_⟩
        obtain ⟨n, rfl, hck, hnm⟩ := clock_ok hp
        have hc := clk_of hck
        have inst : NeZero n := hc.ne
        have n2 := hc.two
        have hh6 := hh5.ex e6
        walk_at "rd"
        refine ⟨hv, _, rfl, hh6, by omega, by omega, fun w0 w1 w2 => ?_⟩
        walk_at "rd"
        refine ⟨hv, _, rfl, hh6, by omega, by omega, fun m0 m1 m2 => ?_⟩
        obtain ⟨w0, rfl⟩ : ∃ k : Nat, w0 = k := ⟨w0.toNat, by omega⟩
        obtain ⟨m0, rfl⟩ : ∃ k : Nat, m0 = k := ⟨m0.toNat, by omega⟩
        walk_at "rd"
        refine ⟨fun σ' H7 => H7 = H6 ∧ ∃ (wd my : Nat), wd ≤ 200 ∧ my ≤ 200 ∧ σ' = [some (.ref a), some hv, some odd, y3, some (.int i), y5, y6, y7, y8, some (.int n), some (.int wd), some (.int my), y12, y13], ?_, ?_⟩
        · walk_at "rd"
          refine ⟨hv, _, rfl, hh6, by omega, by omega, fun r _ _ => ?_⟩
          walk_at "rd"
          refine w_dec (fun _ => ?_) (fun _ => ?_)
          · walk_at "rd"
            refine ⟨hv, _, rfl, hh6, by omega, by omega, fun w3 w4 w5 => ?_⟩
            walk_at "rd"
            refine ⟨hv, _, rfl, hh6, by omega, by omega, fun m3 m4 m5 => ?_⟩
            walk_at "rd"
            refine ⟨rfl, (20 + w3).toNat, (10 + m3).toNat, by omega, by omega, ?_⟩
            rw [show (((20 + w3).toNat : Nat) : Int) = 20 + w3 by omega, show (((10 + m3).toNat : Nat) : Int) = 10 + m3 by omega]
          · walk_at "rd"
            exact ⟨rfl, w0, m0, by omega, by omega, rfl⟩
        rintro σ' H7 ⟨rfl, wd, my, hwd, hmy, rfl⟩
        refine ⟨fun σ' H8 => Ex H7 H8 ∧ ∃ (wd my : Nat), wd ≤ 200 ∧ my ≤ 200 ∧ σ' = [some (.ref a), some hv, some odd, y3, some (.int i), y5, y6, y7, y8, some (.int n), some (.int wd), some (.int my), y12, y13], ?_, ?_⟩
        · walk_at "rd"
          refine ⟨hv, _, rfl, hh6, by omega, by omega, fun r _ _ => ?_⟩
          walk_at "rd"
          refine w_dec (fun _ => ?_) (fun _ => ?_)
          · walk_at "rd"
            refine w_dispT (by simp) fun t1 g1 => ?_
            have k1 := Ex.new (o := .tup [V.int 200, V.int 3]) g1
            have u1 : upd H7 t1 (.tup [V.int 200, V.int 3]) t1 = some (.tup [V.int 200, V.int 3]) := upd_same
            generalize upd H7 t1 (.tup [V.int 200, V.int 3]) = G1 at k1 u1 ⊢
            walk_at "rd"
            refine w_dispT (by simp) fun t2 g2 => ?_
            have k2 := Ex.new (o := .tup [V.int 2, V.int 200]) g2
            have u2 : upd G1 t2 (.tup [V.int 2, V.int 200]) t2 = some (.tup [V.int 2, V.int 200]) := upd_same
            generalize upd G1 t2 (.tup [V.int 2, V.int 200]) = G2 at k2 u2 ⊢
            walk_at "rd"
            refine w_dispT (by simp) fun t3 g3 => ?_
            have k3 := Ex.new (o := .tup [V.int 200, V.int 0]) g3
            have u3 : upd G2 t3 (.tup [V.int 200, V.int 0]) t3 = some (.tup [V.int 200, V.int 0]) := upd_same
            generalize upd G2 t3 (.tup [V.int 200, V.int 0]) = G3 at k3 u3 ⊢
            walk_at "rd"
            refine w_dispT (by simp) fun t4 g4 => ?_
            have k4 := Ex.new (o := .tup [V.int 0, V.int 200]) g4
            have u4 : upd G3 t4 (.tup [V.int 0, V.int 200]) t4 = some (.tup [V.int 0, V.int 200]) := upd_same
            generalize upd G3 t4 (.tup [V.int 0, V.int 200]) = G4 at k4 u4 ⊢
            walk_at "rd"
            refine w_dispT (by simp) fun t5 g5 => ?_
            have k5 := Ex.new (o := .tup [V.int 200, V.int 1]) g5
            have u5 : upd G4 t5 (.tup [V.int 200, V.int 1]) t5 = some (.tup [V.int 200, V.int 1]) := upd_same
            generalize upd G4 t5 (.tup [V.int 200, V.int 1]) = G5 at k5 u5 ⊢
            walk_at "rd"
            refine w_dispT (by simp) fun l3 g6 => ?_
            have k6 := Ex.new (o := .lst [V.ref t1, V.ref t2, V.ref t3, V.ref t4, V.ref t5]) g6
            have kk : Ex H7 (upd G5 l3 (.lst [V.ref t1, V.ref t2, V.ref t3, V.ref t4, V.ref t5])) := k1.trans (k2.trans (k3.trans (k4.trans (k5.trans k6))))
            refine ⟨hv, l3, _, rfl, hh6.ex kk, sqL upd_same, by simp, by simp, fun x hx => ?_⟩
            have hx' : ∃ (t : Addr) (wd my : Nat), x = .ref t ∧ upd G5 l3 (.lst [V.ref t1, V.ref t2, V.ref t3, V.ref t4, V.ref t5]) t = some (.tup [.int wd, .int my]) ∧ wd ≤ 200 ∧ my ≤ 200 := by
              simp only [List.mem_cons, List.not_mem_nil, or_false] at hx
              rcases hx with rfl | rfl | rfl | rfl | rfl
              · exact ⟨t1, 200, 3, rfl, k6 _ _ (k5 _ _ (k4 _ _ (k3 _ _ (k2 _ _ u1)))), by omega, by omega⟩
              · exact ⟨t2, 2, 200, rfl, k6 _ _ (k5 _ _ (k4 _ _ (k3 _ _ u2))), by omega, by omega⟩
              · exact ⟨t3, 200, 0, rfl, k6 _ _ (k5 _ _ (k4 _ _ u3)), by omega, by omega⟩
              · exact ⟨t4, 0, 200, rfl, k6 _ _ (k5 _ _ u4), by omega, by omega⟩
              · exact ⟨t5, 200, 1, rfl, k6 _ _ u5, by omega, by omega⟩
            obtain ⟨t, wd', my', rfl, ht, b1, b2⟩ := hx'
            refine w_gtup2 ht ?_
            walk_at "rd"
            exact ⟨kk, wd', my', b1, b2, rfl⟩
          · walk_at "rd"
            exact ⟨Ex.refl _, wd, my, hwd, hmy, rfl⟩
        rintro σ' H8 ⟨e8, wd, my, hwd, hmy, rfl⟩
        have hh8 := hh6.ex e8
        walk_at "rd"
        refine ⟨hv, n, wd, my, rfl, hh8, by omega, by omega, by omega, by omega, fun l9 H9 xs rs e9 hl9 hd9 hlen hrin => ?_⟩
        have hh9 := hh8.ex e9
        have hxl : xs.length = rs.length := by rw [dpa_len hd9, List.length_map]
        walk_at "rd"
        refine ⟨l9, _, rfl, .inl (sqL hl9), fun la ha' => ?_⟩
        have k1 := Ex.new (o := .lst xs) ha'
        have u1 : upd H9 la (.lst xs) la = some (.lst xs) := upd_same
        generalize upd H9 la (.lst xs) = G1 at k1 u1 ⊢
        walk_at "rd"
        refine ⟨l9, _, rfl, .inl ⟨sqL (k1 _ _ hl9), fun ta ht' => ?_⟩⟩
        have k2 := Ex.new (o := .tup xs) ht'
        have u2 : upd G1 ta (.tup xs) ta = some (.tup xs) := upd_same
        generalize upd G1 ta (.tup xs) = G2 at k2 u2 ⊢
        walk_at "rd"
        refine w_dispT (by simp) fun l3 g3 => ?_
        have k3 := Ex.new (o := .lst [V.ref la, V.ref ta]) g3
        have u3 : upd G2 l3 (.lst [V.ref la, V.ref ta]) l3 = some (.lst [V.ref la, V.ref ta]) := upd_same
        have k13 := k1.trans (k2.trans k3)
        have u1' := k3 _ _ (k2 _ _ u1)
        have u2' := k3 _ _ u2
        generalize upd G2 l3 (.lst [V.ref la, V.ref ta]) = G3 at k13 u1' u2' u3 ⊢
        clear k1 k2 k3
        have k13' := k13
        have hh10 := hh9.ex k13
        have hd10 := k13.dpa hd9
        have hl10 := k13 _ _ hl9
        refine ⟨hv, l3, _, rfl, hh10, sqL u3, by simp, by simp, fun gv hgv => ?_⟩
        have hgv' : RowsAt K G3 gv rs ∧ ∃ ga, gv = .ref ga ∧ (SqL K G3 ga xs ∨ SqT K G3 ga xs) := by
          simp only [List.mem_cons, List.not_mem_nil, or_false] at hgv
          rcases hgv with rfl | rfl
          · exact ⟨⟨.inl (.lst (sqL u1') hd10)⟩, la, rfl, .inl (sqL u1')⟩
          · exact ⟨⟨.inr (.tup (sqT u2') hd10)⟩, ta, rfl, .inr (sqT u2')⟩
        obtain ⟨hgR, ga, rfl, hgs⟩ := hgv'
        clear hgv u1 u2 u3 u1' u2'
        walk_at "rd"
        refine ⟨ga, _, rfl, hgs, fun kp hkp => ?_⟩
        have k4 := Ex.new (o := .lst xs) hkp
        have u4 : upd G3 kp (.lst xs) kp = some (.lst xs) := upd_same
        generalize upd G3 kp (.lst xs) = G4 at k4 u4 ⊢
        walk_at "rd"
        refine ⟨n, inst, wd, l9, xs, rs, rfl, hc, sqL (k4 _ _ hl10), k4.dpa hd10, by omega, by omega, hrin, fun due G5 ls k5 hdue hL => ?_⟩
        have hLr : ∀ r ∈ ls, r.length ≤ 1000000 := fun r hr => by rw [(hL.inr r hr).1]; omega
        have hLl := hL.len
        have hwee : wee 2 (rowsT ls) := wee_rows (wide := wd) (by omega) hLr
        walk_at "rd"
        refine ⟨n, inst, wd, .ref ga, rs, rfl, hck, hwd, by omega, hgR.ex (k4.trans k5), hrin, fun told ls' G6 k6 htold hL' => ?_⟩
        have els : ls' = ls := ladI_one hc hL' hL (.refl _)
        subst els
        clear hL'
        have hdue6 := k6.dp hdue
        have u6 := k6 _ _ (k5 _ _ u4)
        have k46 := k4.trans (k5.trans k6)
        have hgs6 := hgs.imp k46.l k46.t
        have hgR6 := hgR.ex k46
        have hh11 := hh10.ex k46
        have hl11 := k46 _ _ hl10
        have hd11 := k46.dpa hd10
        have kE1 := e4.trans (e6.trans (e8.trans (e9.trans (k13'.trans k46))))
        clear hdue u4 k4 k5 k6 k46 hgs hgR
        obtain ⟨da, dv, rfl, hda, hdd⟩ := dp_tup hdue6
        have hdl : dv.length = ls'.length := by rw [dpa_len hdd, List.length_map]
        walk_at "rd"
        refine ⟨told, .ref da, _, rfl, htold, hdue6, hwee, fun G7 k7 => ?_⟩
        walk_at "rd"
        refine ⟨n, inst, wd, .ref ga, rs, rfl, hck, hwd, by omega, hgR6.ex k7, hrin, fun ls2 G8 k8 hL2 => ?_⟩
        have els : ls2 = ls' := ladI_one hc hL2 hL (.refl _)
        subst els
        clear hL2
        have k78 := k7.trans k8
        walk_at "rd"
        refine ⟨da, dv, rfl, .inr (k78.t hda), ?_⟩
        rw [hdl]
        refine ⟨_, _, _, rfl, .int _, .int _, wee_int _, fun G9 k9 => ?_⟩
        have k79 := k78.trans k9
        walk_at "rd"
        refine ⟨ga, xs, rfl, hgs6.imp k79.l k79.t, fun q1 hq1 => ?_⟩
        walk_at "rd"
        have kn := k79.trans (Ex.new (o := .lst xs) hq1)
        refine ne_list (ds := rs.map row) (.lst (sqL upd_same) (kn.dpa hd11)) (.lst (sqL (kn _ _ u6)) (kn.dpa hd11)) (rows_are rs) ?_
        generalize upd G9 q1 (.lst xs) = G10 at kn ⊢
        have hdue10 := kn.dp hdue6
        have hda10 := kn.t hda
        have htold10 := kn.dp htold
        have hh12 := hh11.ex kn
        have hl12 := kn _ _ hl11
        have hd12 := kn.dpa hd11
        have kE2 := kE1.trans kn
        clear k7 k8 k78 k9 k79 kn hdue6 hda htold hgs6 hgR6 u6
        walk_at "rd"
        refine ⟨n, inst, wd, told, ls2, rfl, hck, hwd, by omega, ⟨.inr htold10⟩, hL.inr, fun u2 ls3 G11 k11 hu2 hL3 => ?_⟩
        have els : ls3 = ls2 := ladI_one hc hL3 hL hL.eqv
        subst els
        clear hL3
        walk_at "rd"
        refine ⟨u2, .ref da, _, rfl, hu2, k11.dp hdue10, hwee, fun G12 k12 => ?_⟩
        have kn := k11.trans k12
        walk_at "rd"
        refine ⟨n, inst, hv, wd, l9, xs, rs, rfl, hh12.ex kn, hc, sqL (kn _ _ hl12), kn.dpa hd12, by omega, by omega, hrin, fun lo G13 ys os k13 ho hdo hol hor heq => ?_⟩
        have kn := kn.trans k13
        walk_at "rd"
        refine ⟨n, inst, wd, .ref lo, os, rfl, hck, hwd, hol, ⟨.inl (.lst (sqL ho) hdo)⟩, hor, fun u4 ls4 G14 k14 hu4 hL4 => ?_⟩
        have els : ls4 = ls3 := ladI_one hc hL4 hL heq
        subst els
        clear hL4
        have kn := kn.trans k14
        walk_at "rd"
        refine ⟨u4, .ref da, _, rfl, hu4, kn.dp hdue10, hwee, fun G15 k15 => ?_⟩
        have kn := kn.trans k15
        have ko := k14.trans k15
        walk_at "rd"
        refine ⟨lo, ys, rfl, .inl ⟨sqL (ko _ _ ho), fun tq htq => ?_⟩⟩
        have kn := kn.trans (Ex.new (o := .tup ys) htq)
        have ko := ko.trans (Ex.new (o := .tup ys) htq)
        walk_at "rd"
        refine ⟨n, inst, wd, .ref tq, os, rfl, hck, hwd, hol, ⟨.inr (.tup (sqT upd_same) (ko.dpa hdo))⟩, hor, fun ls5 G16 k16 hL5 => ?_⟩
        have els : ls5 = ls4 := ladI_one hc hL5 hL heq
        subst els
        have kn := kn.trans k16
        walk_at "rd"
        refine ⟨da, dv, rfl, .inr (kn.t hda10), ?_⟩
        rw [hdl]
        walk_at "rd"
        refine w_decN (fun z => absurd rfl z) (fun _ => ?_)
        have hend : Ex H' G16 := kE2.trans kn
        walk_at "rd"
        refine w_dec (fun hn8 => ?_) (fun _ => ?_)
        · walk_at "rd"
          refine w_dec (fun hw8 => ?_) (fun _ => ?_)
          · walk_at "rd"
            refine ⟨da, dv, rfl, .inr (kn.t hda10), ?_⟩
            rw [hdl]
            walk_at "rd"
            refine ⟨n, _, rfl, by omega, by omega, by omega, ?_⟩
            walk_at "rd"
            refine w_dec (fun _ => ?_) (fun _ => ?_)
            · walk_at "rd"
              refine ⟨n, inst, wd, l9, xs, rs, rfl, hc, by omega, by omega, sqL (kn _ _ hl12), kn.dpa hd12, hrin, fun lm G17 ws ks k17 hlm hdm hmix => ?_⟩
              have kn := kn.trans k17
              walk_at "rd"
              obtain ⟨ta2, tv, rfl, hta, htv⟩ := dp_tup htold10
              refine ⟨ta2, tv, rfl, .inr (kn.t hta), fun tl htl => ?_⟩
              have kn := kn.trans (Ex.new (o := .lst tv) htl)
              walk_at "rd"
              refine ⟨n, inst, wd, tl, tv, ls5, rfl, hc, by omega, by omega, sqL upd_same, kn.dpa htv, hL.inr, fun lm2 G18 ws2 ks2 k18 hlm2 hdm2 hmix2 => ?_⟩
              have rev : ∀ zs : List (List Int), (∀ r ∈ zs, Rin n wd r) → Eqv wd (rowsF n zs.reverse) (rowsF n zs) := fun zs hz => Eqv.mem (rowsF_wd fun r hr => (hz r (List.mem_reverse.mp hr)).1) (rowsF_wd fun r hr => (hz r hr).1) fun r => by
                unfold rowsF
                rw [List.map_reverse, List.mem_reverse]
              have hperm := mix_same ((rev rs hrin).trans (hL.eqv.symm.trans (rev ls5 hL.inr).symm)) hmix hmix2
              have hsame := sort_rows_perm hperm
              rw [← hsame] at hdm2
              have ko := (Ex.new (o := .lst tv) htl).trans k18
              refine ne_list (ds := (ks.map row).mergeSort (PySem.W.dataLe false id)) (.lst (sqL (ko _ _ hlm)) (ko.dpa hdm)) (.lst (sqL hlm2) hdm2) (fun d hd => ?_) ?_
              · exact rows_are ks d ((List.mergeSort_perm _ _).mem_iff.mp hd)
              · walk_at "rd"
                exact ⟨(kE2.trans kn).trans k18, _, _, _, _, _, _, _, _, _, _, rfl⟩
            · walk_at "rd"
              exact ⟨hend, _, _, _, _, _, _, _, _, _, _, rfl⟩
          · walk_at "rd"
            exact ⟨hend, _, _, _, _, _, _, _, _, _, _, rfl⟩
        · walk_at "rd"
          exact ⟨hend, _, _, _, _, _, _, _, _, _, _, rfl⟩
      · obtain ⟨e4, y4, y5, y6, y7, y8, y9, y10, y11, y12, y13, rfl⟩ := p
        walk_at "rd"
        exact q _
end TK

namespace TK
open PySem PySem.Spec PyProof.Rows L2 TH
/-! what the top has written, by names -/
theorem all_mk {l : PySem.W.OpenLaw} {w : World} {K : PySem.W.Frag} {h : Heap} {mg : Str → Option Value} {fa C : Addr} (X : K.In h) (G : h.Ns mainGlobals mg) (hfa : mg "law" = some (.ref fa))
    {f0 f1 f2 f3 f4 f5 f6 f7 f8 f9 f10 f11 f12 f13 f14 f15 f16 f17 f18 f19 f20 f21 f22 f23 f24 f25 f26 f27 f28 f29 f30 f31 f32 f33 f34 f35 f36 f37 f38 : Addr} {od0 an0 od1 an1 od2 an2 od3 an3 od4 an4 od5 an5 od6 an6 od7 an7 od8 an8 od9 an9 od10 an10 od11 an11 od12 an12 od13 an13 od14 an14 od15 an15 od16 an16 od17 an17 od18 an18 od19 an19 od20 an20 od21 an21 od22 an22 od23 an23 od24 an24 od25 an25 od26 an26 od27 an27 od28 an28 od29 an29 od30 an30 od31 an31 od32 an32 od33 an33 od34 an34 od35 an35 od36 an36 od37 an37 od38 an38 : Option Addr} {sl0 sl1 sl2 sl3 sl4 sl5 sl6 sl7 sl8 sl9 sl10 sl11 sl12 sl13 sl14 sl15 sl16 sl17 sl18 sl19 sl20 sl21 sl22 sl23 sl24 sl25 sl26 sl27 sl28 sl29 sl30 sl31 sl32 sl33 sl34 sl35 sl36 sl37 sl38 : Array (Option Value)} {oc0 kV0 dc0 pm0 cd0 ct0 oc1 kV1 dc1 pm1 cd1 ct1 oc2 kV2 dc2 pm2 cd2 ct2 oc3 kV3 dc3 pm3 cd3 ct3 oc4 kV4 dc4 pm4 cd4 ct4 oc5 kV5 dc5 pm5 cd5 ct5 oc6 kV6 dc6 pm6 cd6 ct6 oc7 kV7 dc7 pm7 cd7 ct7 oc8 kV8 dc8 pm8 cd8 ct8 oc9 kV9 dc9 pm9 cd9 ct9 oc10 kV10 dc10 pm10 cd10 ct10 oc11 kV11 dc11 pm11 cd11 ct11 oc12 kV12 dc12 pm12 cd12 ct12 oc13 kV13 dc13 pm13 cd13 ct13 oc14 kV14 dc14 pm14 cd14 ct14 oc15 kV15 dc15 pm15 cd15 ct15 oc16 kV16 dc16 pm16 cd16 ct16 oc17 kV17 dc17 pm17 cd17 ct17 oc18 kV18 dc18 pm18 cd18 ct18 oc19 kV19 dc19 pm19 cd19 ct19 oc20 kV20 dc20 pm20 cd20 ct20 oc21 kV21 dc21 pm21 cd21 ct21 oc22 kV22 dc22 pm22 cd22 ct22 oc23 kV23 dc23 pm23 cd23 ct23 oc24 kV24 dc24 pm24 cd24 ct24 oc25 kV25 dc25 pm25 cd25 ct25 oc26 kV26 dc26 pm26 cd26 ct26 oc27 kV27 dc27 pm27 cd27 ct27 oc28 kV28 dc28 pm28 cd28 ct28 oc29 kV29 dc29 pm29 cd29 ct29 oc30 kV30 dc30 pm30 cd30 ct30 oc31 kV31 dc31 pm31 cd31 ct31 oc32 kV32 dc32 pm32 cd32 ct32 oc33 kV33 dc33 pm33 cd33 ct33 oc34 kV34 dc34 pm34 cd34 ct34 oc35 kV35 dc35 pm35 cd35 ct35 oc36 kV36 dc36 pm36 cd36 ct36 oc37 kV37 dc37 pm37 cd37 ct37 oc38 kV38 dc38 pm38 cd38 ct38 : Value} {t_MOST_HOURS t_MOST_WIDE t_MOST_ROWS : Tok}
    (a0 : PySem.W.nsIn K mainGlobals "is_integer" = some (some (.ref f0)))
    (l0 : K.lookup f0 = some ⟨oc0, od0, .func (PySem.W.fnOf "is_integer" "is_integer" (C8.fnArgs s_is_integer) (C8.fnBody s_is_integer) (C8.fnScope s_is_integer) .none kV0 dc0 pm0 an0 cd0 ct0), sl0⟩)
    (c0 : PySem.W.codeIn K cd0 "is_integer" = true)
    (k0 : PySem.W.keepIn K (.ref f0) = true)
    (a1 : PySem.W.nsIn K mainGlobals "is_within" = some (some (.ref f1)))
    (l1 : K.lookup f1 = some ⟨oc1, od1, .func (PySem.W.fnOf "is_within" "is_within" (C8.fnArgs s_is_within) (C8.fnBody s_is_within) (C8.fnScope s_is_within) .none kV1 dc1 pm1 an1 cd1 ct1), sl1⟩)
    (c1 : PySem.W.codeIn K cd1 "is_within" = true)
    (k1 : PySem.W.keepIn K (.ref f1) = true)
    (a2 : PySem.W.nsIn K mainGlobals "is_listed" = some (some (.ref f2)))
    (l2 : K.lookup f2 = some ⟨oc2, od2, .func (PySem.W.fnOf "is_listed" "is_listed" (C8.fnArgs s_is_listed) (C8.fnBody s_is_listed) (C8.fnScope s_is_listed) .none kV2 dc2 pm2 an2 cd2 ct2), sl2⟩)
    (c2 : PySem.W.codeIn K cd2 "is_listed" = true)
    (k2 : PySem.W.keepIn K (.ref f2) = true)
    (a3 : PySem.W.nsIn K mainGlobals "check_number" = some (some (.ref f3)))
    (l3 : K.lookup f3 = some ⟨oc3, od3, .func (PySem.W.fnOf "check_number" "check_number" (C8.fnArgs s_check_number) (C8.fnBody s_check_number) (C8.fnScope s_check_number) .none kV3 dc3 pm3 an3 cd3 ct3), sl3⟩)
    (c3 : PySem.W.codeIn K cd3 "check_number" = true)
    (k3 : PySem.W.keepIn K (.ref f3) = true)
    (a4 : PySem.W.nsIn K mainGlobals "prime" = some (some (.ref f4)))
    (l4 : K.lookup f4 = some ⟨oc4, od4, .func (PySem.W.fnOf "prime" "prime" (C8.fnArgs s_prime) (C8.fnBody s_prime) (C8.fnScope s_prime) .none kV4 dc4 pm4 an4 cd4 ct4), sl4⟩)
    (c4 : PySem.W.codeIn K cd4 "prime" = true)
    (k4 : PySem.W.keepIn K (.ref f4) = true)
    (a5 : PySem.W.nsIn K mainGlobals "is_clock" = some (some (.ref f5)))
    (l5 : K.lookup f5 = some ⟨oc5, od5, .func (PySem.W.fnOf "is_clock" "is_clock" (C8.fnArgs s_is_clock) (C8.fnBody s_is_clock) (C8.fnScope s_is_clock) .none kV5 dc5 pm5 an5 cd5 ct5), sl5⟩)
    (c5 : PySem.W.codeIn K cd5 "is_clock" = true)
    (k5 : PySem.W.keepIn K (.ref f5) = true)
    (a6 : PySem.W.nsIn K mainGlobals "inverse_of" = some (some (.ref f6)))
    (l6 : K.lookup f6 = some ⟨oc6, od6, .func (PySem.W.fnOf "inverse_of" "inverse_of" (C8.fnArgs s_inverse_of) (C8.fnBody s_inverse_of) (C8.fnScope s_inverse_of) .none kV6 dc6 pm6 an6 cd6 ct6), sl6⟩)
    (c6 : PySem.W.codeIn K cd6 "inverse_of" = true)
    (k6 : PySem.W.keepIn K (.ref f6) = true)
    (a7 : PySem.W.nsIn K mainGlobals "scaled" = some (some (.ref f7)))
    (l7 : K.lookup f7 = some ⟨oc7, od7, .func (PySem.W.fnOf "scaled" "scaled" (C8.fnArgs s_scaled) (C8.fnBody s_scaled) (C8.fnScope s_scaled) .none kV7 dc7 pm7 an7 cd7 ct7), sl7⟩)
    (c7 : PySem.W.codeIn K cd7 "scaled" = true)
    (k7 : PySem.W.keepIn K (.ref f7) = true)
    (a8 : PySem.W.nsIn K mainGlobals "without" = some (some (.ref f8)))
    (l8 : K.lookup f8 = some ⟨oc8, od8, .func (PySem.W.fnOf "without" "without" (C8.fnArgs s_without) (C8.fnBody s_without) (C8.fnScope s_without) .none kV8 dc8 pm8 an8 cd8 ct8), sl8⟩)
    (c8 : PySem.W.codeIn K cd8 "without" = true)
    (k8 : PySem.W.keepIn K (.ref f8) = true)
    (a9 : PySem.W.nsIn K mainGlobals "first_place" = some (some (.ref f9)))
    (l9 : K.lookup f9 = some ⟨oc9, od9, .func (PySem.W.fnOf "first_place" "first_place" (C8.fnArgs s_first_place) (C8.fnBody s_first_place) (C8.fnScope s_first_place) .none kV9 dc9 pm9 an9 cd9 ct9), sl9⟩)
    (c9 : PySem.W.codeIn K cd9 "first_place" = true)
    (k9 : PySem.W.keepIn K (.ref f9) = true)
    (a10 : PySem.W.nsIn K mainGlobals "stairs_of" = some (some (.ref f10)))
    (l10 : K.lookup f10 = some ⟨oc10, od10, .func (PySem.W.fnOf "stairs_of" "stairs_of" (C8.fnArgs s_stairs_of) (C8.fnBody s_stairs_of) (C8.fnScope s_stairs_of) .none kV10 dc10 pm10 an10 cd10 ct10), sl10⟩)
    (c10 : PySem.W.codeIn K cd10 "stairs_of" = true)
    (k10 : PySem.W.keepIn K (.ref f10) = true)
    (a11 : PySem.W.nsIn K mainGlobals "ladder_of" = some (some (.ref f11)))
    (l11 : K.lookup f11 = some ⟨oc11, od11, .func (PySem.W.fnOf "ladder_of" "ladder_of" (C8.fnArgs s_ladder_of) (C8.fnBody s_ladder_of) (C8.fnScope s_ladder_of) .none kV11 dc11 pm11 an11 cd11 ct11), sl11⟩)
    (c11 : PySem.W.codeIn K cd11 "ladder_of" = true)
    (k11 : PySem.W.keepIn K (.ref f11) = true)
    (a12 : PySem.W.nsIn K mainGlobals "rank_of" = some (some (.ref f12)))
    (l12 : K.lookup f12 = some ⟨oc12, od12, .func (PySem.W.fnOf "rank_of" "rank_of" (C8.fnArgs s_rank_of) (C8.fnBody s_rank_of) (C8.fnScope s_rank_of) .none kV12 dc12 pm12 an12 cd12 ct12), sl12⟩)
    (c12 : PySem.W.codeIn K cd12 "rank_of" = true)
    (k12 : PySem.W.keepIn K (.ref f12) = true)
    (a13 : PySem.W.nsIn K mainGlobals "is_row" = some (some (.ref f13)))
    (l13 : K.lookup f13 = some ⟨oc13, od13, .func (PySem.W.fnOf "is_row" "is_row" (C8.fnArgs s_is_row) (C8.fnBody s_is_row) (C8.fnScope s_is_row) .none kV13 dc13 pm13 an13 cd13 ct13), sl13⟩)
    (c13 : PySem.W.codeIn K cd13 "is_row" = true)
    (k13 : PySem.W.keepIn K (.ref f13) = true)
    (a14 : PySem.W.nsIn K mainGlobals "check_clock" = some (some (.ref f14)))
    (l14 : K.lookup f14 = some ⟨oc14, od14, .func (PySem.W.fnOf "check_clock" "check_clock" (C8.fnArgs s_check_clock) (C8.fnBody s_check_clock) (C8.fnScope s_check_clock) .none kV14 dc14 pm14 an14 cd14 ct14), sl14⟩)
    (c14 : PySem.W.codeIn K cd14 "check_clock" = true)
    (k14 : PySem.W.keepIn K (.ref f14) = true)
    (a15 : PySem.W.nsIn K mainGlobals "check_rows" = some (some (.ref f15)))
    (l15 : K.lookup f15 = some ⟨oc15, od15, .func (PySem.W.fnOf "check_rows" "check_rows" (C8.fnArgs s_check_rows) (C8.fnBody s_check_rows) (C8.fnScope s_check_rows) .none kV15 dc15 pm15 an15 cd15 ct15), sl15⟩)
    (c15 : PySem.W.codeIn K cd15 "check_rows" = true)
    (k15 : PySem.W.keepIn K (.ref f15) = true)
    (a16 : PySem.W.nsIn K mainGlobals "ladder" = some (some (.ref f16)))
    (l16 : K.lookup f16 = some ⟨oc16, od16, .func (PySem.W.fnOf "ladder" "ladder" (C8.fnArgs s_ladder) (C8.fnBody s_ladder) (C8.fnScope s_ladder) .none kV16 dc16 pm16 an16 cd16 ct16), sl16⟩)
    (c16 : PySem.W.codeIn K cd16 "ladder" = true)
    (k16 : PySem.W.keepIn K (.ref f16) = true)
    (a17 : PySem.W.nsIn K mainGlobals "rank" = some (some (.ref f17)))
    (l17 : K.lookup f17 = some ⟨oc17, od17, .func (PySem.W.fnOf "rank" "rank" (C8.fnArgs s_rank) (C8.fnBody s_rank) (C8.fnScope s_rank) .none kV17 dc17 pm17 an17 cd17 ct17), sl17⟩)
    (c17 : PySem.W.codeIn K cd17 "rank" = true)
    (k17 : PySem.W.keepIn K (.ref f17) = true)
    (a18 : PySem.W.nsIn K mainGlobals "_law_hand" = some (some (.ref f18)))
    (l18 : K.lookup f18 = some ⟨oc18, od18, .func (PySem.W.fnOf "_law_hand" "_law_hand" (C8.fnArgs s_law_hand) (C8.fnBody s_law_hand) (C8.fnScope s_law_hand) .none kV18 dc18 pm18 an18 cd18 ct18), sl18⟩)
    (c18 : PySem.W.codeIn K cd18 "_law_hand" = true)
    (k18 : PySem.W.keepIn K (.ref f18) = true)
    (a19 : PySem.W.nsIn K mainGlobals "_law_draw" = some (some (.ref f19)))
    (l19 : K.lookup f19 = some ⟨oc19, od19, .func (PySem.W.fnOf "_law_draw" "_law_draw" (C8.fnArgs s_law_draw) (C8.fnBody s_law_draw) (C8.fnScope s_law_draw) .none kV19 dc19 pm19 an19 cd19 ct19), sl19⟩)
    (c19 : PySem.W.codeIn K cd19 "_law_draw" = true)
    (k19 : PySem.W.keepIn K (.ref f19) = true)
    (a20 : PySem.W.nsIn K mainGlobals "_law_any" = some (some (.ref f20)))
    (l20 : K.lookup f20 = some ⟨oc20, od20, .func (PySem.W.fnOf "_law_any" "_law_any" (C8.fnArgs s_law_any) (C8.fnBody s_law_any) (C8.fnScope s_law_any) .none kV20 dc20 pm20 an20 cd20 ct20), sl20⟩)
    (c20 : PySem.W.codeIn K cd20 "_law_any" = true)
    (k20 : PySem.W.keepIn K (.ref f20) = true)
    (a21 : PySem.W.nsIn K mainGlobals "_law_is" = some (some (.ref f21)))
    (l21 : K.lookup f21 = some ⟨oc21, od21, .func (PySem.W.fnOf "_law_is" "_law_is" (C8.fnArgs s_law_is) (C8.fnBody s_law_is) (C8.fnScope s_law_is) .none kV21 dc21 pm21 an21 cd21 ct21), sl21⟩)
    (c21 : PySem.W.codeIn K cd21 "_law_is" = true)
    (k21 : PySem.W.keepIn K (.ref f21) = true)
    (a22 : PySem.W.nsIn K mainGlobals "_law_int" = some (some (.ref f22)))
    (l22 : K.lookup f22 = some ⟨oc22, od22, .func (PySem.W.fnOf "_law_int" "_law_int" (C8.fnArgs s_law_int) (C8.fnBody s_law_int) (C8.fnScope s_law_int) .none kV22 dc22 pm22 an22 cd22 ct22), sl22⟩)
    (c22 : PySem.W.codeIn K cd22 "_law_int" = true)
    (k22 : PySem.W.keepIn K (.ref f22) = true)
    (a23 : PySem.W.nsIn K mainGlobals "_law_mixed" = some (some (.ref f23)))
    (l23 : K.lookup f23 = some ⟨oc23, od23, .func (PySem.W.fnOf "_law_mixed" "_law_mixed" (C8.fnArgs s_law_mixed) (C8.fnBody s_law_mixed) (C8.fnScope s_law_mixed) .none kV23 dc23 pm23 an23 cd23 ct23), sl23⟩)
    (c23 : PySem.W.codeIn K cd23 "_law_mixed" = true)
    (k23 : PySem.W.keepIn K (.ref f23) = true)
    (a24 : PySem.W.nsIn K mainGlobals "_law_turn" = some (some (.ref f24)))
    (l24 : K.lookup f24 = some ⟨oc24, od24, .func (PySem.W.fnOf "_law_turn" "_law_turn" (C8.fnArgs s_law_turn) (C8.fnBody s_law_turn) (C8.fnScope s_law_turn) .none kV24 dc24 pm24 an24 cd24 ct24), sl24⟩)
    (c24 : PySem.W.codeIn K cd24 "_law_turn" = true)
    (k24 : PySem.W.keepIn K (.ref f24) = true)
    (a25 : PySem.W.nsIn K mainGlobals "_law_less" = some (some (.ref f25)))
    (l25 : K.lookup f25 = some ⟨oc25, od25, .func (PySem.W.fnOf "_law_less" "_law_less" (C8.fnArgs s_law_less) (C8.fnBody s_law_less) (C8.fnScope s_law_less) .none kV25 dc25 pm25 an25 cd25 ct25), sl25⟩)
    (c25 : PySem.W.codeIn K cd25 "_law_less" = true)
    (k25 : PySem.W.keepIn K (.ref f25) = true)
    (a26 : PySem.W.nsIn K mainGlobals "_law_ladder" = some (some (.ref f26)))
    (l26 : K.lookup f26 = some ⟨oc26, od26, .func (PySem.W.fnOf "_law_ladder" "_law_ladder" (C8.fnArgs s_law_ladder) (C8.fnBody s_law_ladder) (C8.fnScope s_law_ladder) .none kV26 dc26 pm26 an26 cd26 ct26), sl26⟩)
    (c26 : PySem.W.codeIn K cd26 "_law_ladder" = true)
    (k26 : PySem.W.keepIn K (.ref f26) = true)
    (a27 : PySem.W.nsIn K mainGlobals "_law_summed" = some (some (.ref f27)))
    (l27 : K.lookup f27 = some ⟨oc27, od27, .func (PySem.W.fnOf "_law_summed" "_law_summed" (C8.fnArgs s_law_summed) (C8.fnBody s_law_summed) (C8.fnScope s_law_summed) .none kV27 dc27 pm27 an27 cd27 ct27), sl27⟩)
    (c27 : PySem.W.codeIn K cd27 "_law_summed" = true)
    (k27 : PySem.W.keepIn K (.ref f27) = true)
    (a28 : PySem.W.nsIn K mainGlobals "_law_clock" = some (some (.ref f28)))
    (l28 : K.lookup f28 = some ⟨oc28, od28, .func (PySem.W.fnOf "_law_clock" "_law_clock" (C8.fnArgs s_law_clock) (C8.fnBody s_law_clock) (C8.fnScope s_law_clock) .none kV28 dc28 pm28 an28 cd28 ct28), sl28⟩)
    (c28 : PySem.W.codeIn K cd28 "_law_clock" = true)
    (k28 : PySem.W.keepIn K (.ref f28) = true)
    (a29 : PySem.W.nsIn K mainGlobals "_law_some_row" = some (some (.ref f29)))
    (l29 : K.lookup f29 = some ⟨oc29, od29, .func (PySem.W.fnOf "_law_some_row" "_law_some_row" (C8.fnArgs s_law_some_row) (C8.fnBody s_law_some_row) (C8.fnScope s_law_some_row) .none kV29 dc29 pm29 an29 cd29 ct29), sl29⟩)
    (c29 : PySem.W.codeIn K cd29 "_law_some_row" = true)
    (k29 : PySem.W.keepIn K (.ref f29) = true)
    (a30 : PySem.W.nsIn K mainGlobals "_law_some_rows" = some (some (.ref f30)))
    (l30 : K.lookup f30 = some ⟨oc30, od30, .func (PySem.W.fnOf "_law_some_rows" "_law_some_rows" (C8.fnArgs s_law_some_rows) (C8.fnBody s_law_some_rows) (C8.fnScope s_law_some_rows) .none kV30 dc30 pm30 an30 cd30 ct30), sl30⟩)
    (c30 : PySem.W.codeIn K cd30 "_law_some_rows" = true)
    (k30 : PySem.W.keepIn K (.ref f30) = true)
    (a31 : PySem.W.nsIn K mainGlobals "_law_all_mixtures" = some (some (.ref f31)))
    (l31 : K.lookup f31 = some ⟨oc31, od31, .func (PySem.W.fnOf "_law_all_mixtures" "_law_all_mixtures" (C8.fnArgs s_law_all_mixtures) (C8.fnBody s_law_all_mixtures) (C8.fnScope s_law_all_mixtures) .none kV31 dc31 pm31 an31 cd31 ct31), sl31⟩)
    (c31 : PySem.W.codeIn K cd31 "_law_all_mixtures" = true)
    (k31 : PySem.W.keepIn K (.ref f31) = true)
    (a32 : PySem.W.nsIn K mainGlobals "_law_is_prime" = some (some (.ref f32)))
    (l32 : K.lookup f32 = some ⟨oc32, od32, .func (PySem.W.fnOf "_law_is_prime" "_law_is_prime" (C8.fnArgs s_law_is_prime) (C8.fnBody s_law_is_prime) (C8.fnScope s_law_is_prime) .none kV32 dc32 pm32 an32 cd32 ct32), sl32⟩)
    (c32 : PySem.W.codeIn K cd32 "_law_is_prime" = true)
    (k32 : PySem.W.keepIn K (.ref f32) = true)
    (a33 : PySem.W.nsIn K mainGlobals "_law_many" = some (some (.ref f33)))
    (l33 : K.lookup f33 = some ⟨oc33, od33, .func (PySem.W.fnOf "_law_many" "_law_many" (C8.fnArgs s_law_many) (C8.fnBody s_law_many) (C8.fnScope s_law_many) .none kV33 dc33 pm33 an33 cd33 ct33), sl33⟩)
    (c33 : PySem.W.codeIn K cd33 "_law_many" = true)
    (k33 : PySem.W.keepIn K (.ref f33) = true)
    (a34 : PySem.W.nsIn K mainGlobals "_law_other_rows" = some (some (.ref f34)))
    (l34 : K.lookup f34 = some ⟨oc34, od34, .func (PySem.W.fnOf "_law_other_rows" "_law_other_rows" (C8.fnArgs s_law_other_rows) (C8.fnBody s_law_other_rows) (C8.fnScope s_law_other_rows) .none kV34 dc34 pm34 an34 cd34 ct34), sl34⟩)
    (c34 : PySem.W.codeIn K cd34 "_law_other_rows" = true)
    (k34 : PySem.W.keepIn K (.ref f34) = true)
    (a35 : PySem.W.nsIn K mainGlobals "law" = some (some (.ref f35)))
    (l35 : K.lookup f35 = some ⟨oc35, od35, .func (PySem.W.fnOf "law" "law" (C8.fnArgs s_law) (C8.fnBody s_law) (C8.fnScope s_law) .none kV35 dc35 pm35 an35 cd35 ct35), sl35⟩)
    (c35 : PySem.W.codeIn K cd35 "law" = true)
    (k35 : PySem.W.keepIn K (.ref f35) = true)
    (aC : PySem.W.nsIn K mainGlobals "Stairs" = some (some (.ref C)))
    (a36 : PySem.W.findIn K (.ref C) "__init__" = some (some (.ref f36)))
    (i36 : PySem.W.isFn K (.ref f36) = true)
    (l36 : K.lookup f36 = some ⟨oc36, od36, .func (PySem.W.fnOf "__init__" "Stairs.__init__" (C8.fnArgs s_Stairs_init) (C8.fnBody s_Stairs_init) (C8.fnScope s_Stairs_init) .none kV36 dc36 pm36 an36 cd36 ct36), sl36⟩)
    (c36 : PySem.W.codeIn K cd36 "Stairs.__init__" = true)
    (k36 : PySem.W.keepIn K (.ref f36) = true)
    (a37 : PySem.W.findIn K (.ref C) "less" = some (some (.ref f37)))
    (i37 : PySem.W.isFn K (.ref f37) = true)
    (l37 : K.lookup f37 = some ⟨oc37, od37, .func (PySem.W.fnOf "less" "Stairs.less" (C8.fnArgs s_Stairs_less) (C8.fnBody s_Stairs_less) (C8.fnScope s_Stairs_less) .none kV37 dc37 pm37 an37 cd37 ct37), sl37⟩)
    (c37 : PySem.W.codeIn K cd37 "Stairs.less" = true)
    (k37 : PySem.W.keepIn K (.ref f37) = true)
    (a38 : PySem.W.findIn K (.ref C) "take" = some (some (.ref f38)))
    (i38 : PySem.W.isFn K (.ref f38) = true)
    (l38 : K.lookup f38 = some ⟨oc38, od38, .func (PySem.W.fnOf "take" "Stairs.take" (C8.fnArgs s_Stairs_take) (C8.fnBody s_Stairs_take) (C8.fnScope s_Stairs_take) .none kV38 dc38 pm38 an38 cd38 ct38), sl38⟩)
    (c38 : PySem.W.codeIn K cd38 "Stairs.take" = true)
    (k38 : PySem.W.keepIn K (.ref f38) = true)
    (pg : PySem.W.plainGet K C Str.empty = true)
    (hd : PySem.W.hasDictIn K C = true)
    (po : PySem.W.plainOver K C = true)
    (sa : PySem.W.findIn K (.ref C) "__setattr__" = some (some (.builtin "object.__setattr__")))
    (mk : PySem.W.makesIn K C = true)
    (kc : PySem.W.keepIn K (.ref C) = true)
    (n_p : PySem.W.findIn K (.ref C) "p" = some none)
    (n_steps : PySem.W.findIn K (.ref C) "steps" = some none)
    (n_taken : PySem.W.findIn K (.ref C) "taken" = some none)
    (b_all : PySem.W.nsIn K mainGlobals "all" = some none)
    (b_bool : PySem.W.nsIn K mainGlobals "bool" = some none)
    (b_enumerate : PySem.W.nsIn K mainGlobals "enumerate" = some none)
    (b_int : PySem.W.nsIn K mainGlobals "int" = some none)
    (b_isinstance : PySem.W.nsIn K mainGlobals "isinstance" = some none)
    (b_len : PySem.W.nsIn K mainGlobals "len" = some none)
    (b_list : PySem.W.nsIn K mainGlobals "list" = some none)
    (b_min : PySem.W.nsIn K mainGlobals "min" = some none)
    (b_range : PySem.W.nsIn K mainGlobals "range" = some none)
    (b_sorted : PySem.W.nsIn K mainGlobals "sorted" = some none)
    (b_tuple : PySem.W.nsIn K mainGlobals "tuple" = some none)
    (b_zip : PySem.W.nsIn K mainGlobals "zip" = some none)
    (b_abs : PySem.W.nsIn K mainGlobals "abs" = some none)
    (g_MOST_HOURS : PySem.W.nsIn K mainGlobals "MOST_HOURS" = some (some (.int 1000000 t_MOST_HOURS)))
    (g_MOST_WIDE : PySem.W.nsIn K mainGlobals "MOST_WIDE" = some (some (.int 200 t_MOST_WIDE)))
    (g_MOST_ROWS : PySem.W.nsIn K mainGlobals "MOST_ROWS" = some (some (.int 200 t_MOST_ROWS)))
    : ∃ fd : FuncData, (∀ (s : Shared) (v : Value), BindsTo s fd ⟨[v], []⟩ [("script", v)]) ∧ ∀ base : Heap, K.In base → base.Ns mainGlobals mg → FnOk l.prog w K mg base C8.CX0 7 fa fd ["script"] (sp_law K) := by
  have e := (PySem.W.mg_of X G a35).symm.trans hfa
  cases e
  have T : Txt mg := ⟨PySem.W.mg_none_of X G b_all, PySem.W.mg_none_of X G b_bool, PySem.W.mg_none_of X G b_enumerate, PySem.W.mg_none_of X G b_int, PySem.W.mg_none_of X G b_isinstance, PySem.W.mg_none_of X G b_len, PySem.W.mg_none_of X G b_list, PySem.W.mg_none_of X G b_min, PySem.W.mg_none_of X G b_range, PySem.W.mg_none_of X G b_sorted, PySem.W.mg_none_of X G b_tuple, PySem.W.mg_none_of X G b_zip, PySem.W.mg_none_of X G b_abs, ⟨_, PySem.W.mg_of X G g_MOST_HOURS, ⟨t_MOST_HOURS, rfl⟩⟩, ⟨_, PySem.W.mg_of X G g_MOST_WIDE, ⟨t_MOST_WIDE, rfl⟩⟩, ⟨_, PySem.W.mg_of X G g_MOST_ROWS, ⟨t_MOST_ROWS, rfl⟩⟩⟩
  have TC : StC K C := ⟨⟨pg, hd, po, sa⟩, n_p, n_steps, n_taken⟩
  have F0 : C8.Def K mg "is_integer" s_is_integer f0 _ := ⟨⟨_, _, _, _, _, _, _, _, _, _, rfl, l0, c0⟩, PySem.W.mg_of X G a0, k0⟩
  have B0 : Binds K _ ["thing"] [] := F0.fn.binds rfl fun _ _ _ _ _ _ us hl => match us, hl with | [_], _ => rfl
  have F1 : C8.Def K mg "is_within" s_is_within f1 _ := ⟨⟨_, _, _, _, _, _, _, _, _, _, rfl, l1, c1⟩, PySem.W.mg_of X G a1, k1⟩
  have B1 : Binds K _ ["thing", "least", "most"] [] := F1.fn.binds rfl fun _ _ _ _ _ _ us hl => match us, hl with | [_, _, _], _ => rfl
  have F2 : C8.Def K mg "is_listed" s_is_listed f2 _ := ⟨⟨_, _, _, _, _, _, _, _, _, _, rfl, l2, c2⟩, PySem.W.mg_of X G a2, k2⟩
  have B2 : Binds K _ ["thing"] [] := F2.fn.binds rfl fun _ _ _ _ _ _ us hl => match us, hl with | [_], _ => rfl
  have F3 : C8.Def K mg "check_number" s_check_number f3 _ := ⟨⟨_, _, _, _, _, _, _, _, _, _, rfl, l3, c3⟩, PySem.W.mg_of X G a3, k3⟩
  have B3 : Binds K _ ["thing", "least", "most"] [] := F3.fn.binds rfl fun _ _ _ _ _ _ us hl => match us, hl with | [_, _, _], _ => rfl
  have F4 : C8.Def K mg "prime" s_prime f4 _ := ⟨⟨_, _, _, _, _, _, _, _, _, _, rfl, l4, c4⟩, PySem.W.mg_of X G a4, k4⟩
  have B4 : Binds K _ ["number"] [] := F4.fn.binds rfl fun _ _ _ _ _ _ us hl => match us, hl with | [_], _ => rfl
  have F5 : C8.Def K mg "is_clock" s_is_clock f5 _ := ⟨⟨_, _, _, _, _, _, _, _, _, _, rfl, l5, c5⟩, PySem.W.mg_of X G a5, k5⟩
  have B5 : Binds K _ ["thing"] [] := F5.fn.binds rfl fun _ _ _ _ _ _ us hl => match us, hl with | [_], _ => rfl
  have F6 : C8.Def K mg "inverse_of" s_inverse_of f6 _ := ⟨⟨_, _, _, _, _, _, _, _, _, _, rfl, l6, c6⟩, PySem.W.mg_of X G a6, k6⟩
  have B6 : Binds K _ ["p", "value"] [] := F6.fn.binds rfl fun _ _ _ _ _ _ us hl => match us, hl with | [_, _], _ => rfl
  have F7 : C8.Def K mg "scaled" s_scaled f7 _ := ⟨⟨_, _, _, _, _, _, _, _, _, _, rfl, l7, c7⟩, PySem.W.mg_of X G a7, k7⟩
  have B7 : Binds K _ ["p", "value", "row"] [] := F7.fn.binds rfl fun _ _ _ _ _ _ us hl => match us, hl with | [_, _, _], _ => rfl
  have F8 : C8.Def K mg "without" s_without f8 _ := ⟨⟨_, _, _, _, _, _, _, _, _, _, rfl, l8, c8⟩, PySem.W.mg_of X G a8, k8⟩
  have B8 : Binds K _ ["p", "row", "other", "value"] [] := F8.fn.binds rfl fun _ _ _ _ _ _ us hl => match us, hl with | [_, _, _, _], _ => rfl
  have F9 : C8.Def K mg "first_place" s_first_place f9 _ := ⟨⟨_, _, _, _, _, _, _, _, _, _, rfl, l9, c9⟩, PySem.W.mg_of X G a9, k9⟩
  have B9 : Binds K _ ["row"] [] := F9.fn.binds rfl fun _ _ _ _ _ _ us hl => match us, hl with | [_], _ => rfl
  have F10 : C8.Def K mg "stairs_of" s_stairs_of f10 _ := ⟨⟨_, _, _, _, _, _, _, _, _, _, rfl, l10, c10⟩, PySem.W.mg_of X G a10, k10⟩
  have B10 : Binds K _ ["p", "rows"] [] := F10.fn.binds rfl fun _ _ _ _ _ _ us hl => match us, hl with | [_, _], _ => rfl
  have F11 : C8.Def K mg "ladder_of" s_ladder_of f11 _ := ⟨⟨_, _, _, _, _, _, _, _, _, _, rfl, l11, c11⟩, PySem.W.mg_of X G a11, k11⟩
  have B11 : Binds K _ ["p", "rows"] [] := F11.fn.binds rfl fun _ _ _ _ _ _ us hl => match us, hl with | [_, _], _ => rfl
  have F12 : C8.Def K mg "rank_of" s_rank_of f12 _ := ⟨⟨_, _, _, _, _, _, _, _, _, _, rfl, l12, c12⟩, PySem.W.mg_of X G a12, k12⟩
  have B12 : Binds K _ ["p", "rows"] [] := F12.fn.binds rfl fun _ _ _ _ _ _ us hl => match us, hl with | [_, _], _ => rfl
  have F13 : C8.Def K mg "is_row" s_is_row f13 _ := ⟨⟨_, _, _, _, _, _, _, _, _, _, rfl, l13, c13⟩, PySem.W.mg_of X G a13, k13⟩
  have B13 : Binds K _ ["p", "wide", "thing"] [] := F13.fn.binds rfl fun _ _ _ _ _ _ us hl => match us, hl with | [_, _, _], _ => rfl
  have F14 : C8.Def K mg "check_clock" s_check_clock f14 _ := ⟨⟨_, _, _, _, _, _, _, _, _, _, rfl, l14, c14⟩, PySem.W.mg_of X G a14, k14⟩
  have B14 : Binds K _ ["thing"] [] := F14.fn.binds rfl fun _ _ _ _ _ _ us hl => match us, hl with | [_], _ => rfl
  have F15 : C8.Def K mg "check_rows" s_check_rows f15 _ := ⟨⟨_, _, _, _, _, _, _, _, _, _, rfl, l15, c15⟩, PySem.W.mg_of X G a15, k15⟩
  have B15 : Binds K _ ["p", "wide", "rows"] [] := F15.fn.binds rfl fun _ _ _ _ _ _ us hl => match us, hl with | [_, _, _], _ => rfl
  have F16 : C8.Def K mg "ladder" s_ladder f16 _ := ⟨⟨_, _, _, _, _, _, _, _, _, _, rfl, l16, c16⟩, PySem.W.mg_of X G a16, k16⟩
  have B16 : Binds K _ ["p", "wide", "rows"] [] := F16.fn.binds rfl fun _ _ _ _ _ _ us hl => match us, hl with | [_, _, _], _ => rfl
  have F17 : C8.Def K mg "rank" s_rank f17 _ := ⟨⟨_, _, _, _, _, _, _, _, _, _, rfl, l17, c17⟩, PySem.W.mg_of X G a17, k17⟩
  have B17 : Binds K _ ["p", "wide", "rows"] [] := F17.fn.binds rfl fun _ _ _ _ _ _ us hl => match us, hl with | [_, _, _], _ => rfl
  have F18 : C8.Def K mg "_law_hand" s_law_hand f18 _ := ⟨⟨_, _, _, _, _, _, _, _, _, _, rfl, l18, c18⟩, PySem.W.mg_of X G a18, k18⟩
  have B18 : Binds K _ ["script"] [] := F18.fn.binds rfl fun _ _ _ _ _ _ us hl => match us, hl with | [_], _ => rfl
  have F19 : C8.Def K mg "_law_draw" s_law_draw f19 _ := ⟨⟨_, _, _, _, _, _, _, _, _, _, rfl, l19, c19⟩, PySem.W.mg_of X G a19, k19⟩
  have B19 : Binds K _ ["hand", "many"] [] := F19.fn.binds rfl fun _ _ _ _ _ _ us hl => match us, hl with | [_, _], _ => rfl
  have F20 : C8.Def K mg "_law_any" s_law_any f20 _ := ⟨⟨_, _, _, _, _, _, _, _, _, _, rfl, l20, c20⟩, PySem.W.mg_of X G a20, k20⟩
  have B20 : Binds K _ ["hand", "items"] [] := F20.fn.binds rfl fun _ _ _ _ _ _ us hl => match us, hl with | [_, _], _ => rfl
  have F21 : C8.Def K mg "_law_is" s_law_is f21 _ := ⟨⟨_, _, _, _, _, _, _, _, _, _, rfl, l21, c21⟩, PySem.W.mg_of X G a21, k21⟩
  have B21 : Binds K _ ["told", "due"] [] := F21.fn.binds rfl fun _ _ _ _ _ _ us hl => match us, hl with | [_, _], _ => rfl
  have F22 : C8.Def K mg "_law_int" s_law_int f22 _ := ⟨⟨_, _, _, _, _, _, _, _, _, _, rfl, l22, c22⟩, PySem.W.mg_of X G a22, k22⟩
  have B22 : Binds K _ ["thing", "least", "most"] [] := F22.fn.binds rfl fun _ _ _ _ _ _ us hl => match us, hl with | [_, _, _], _ => rfl
  have F23 : C8.Def K mg "_law_mixed" s_law_mixed f23 _ := ⟨⟨_, _, _, _, _, _, _, _, _, _, rfl, l23, c23⟩, PySem.W.mg_of X G a23, k23⟩
  have B23 : Binds K _ ["hand", "items"] [] := F23.fn.binds rfl fun _ _ _ _ _ _ us hl => match us, hl with | [_, _], _ => rfl
  have F24 : C8.Def K mg "_law_turn" s_law_turn f24 _ := ⟨⟨_, _, _, _, _, _, _, _, _, _, rfl, l24, c24⟩, PySem.W.mg_of X G a24, k24⟩
  have B24 : Binds K _ ["p", "value"] [] := F24.fn.binds rfl fun _ _ _ _ _ _ us hl => match us, hl with | [_, _], _ => rfl
  have F25 : C8.Def K mg "_law_less" s_law_less f25 _ := ⟨⟨_, _, _, _, _, _, _, _, _, _, rfl, l25, c25⟩, PySem.W.mg_of X G a25, k25⟩
  have B25 : Binds K _ ["p", "row", "other", "many"] [] := F25.fn.binds rfl fun _ _ _ _ _ _ us hl => match us, hl with | [_, _, _, _], _ => rfl
  have F26 : C8.Def K mg "_law_ladder" s_law_ladder f26 _ := ⟨⟨_, _, _, _, _, _, _, _, _, _, rfl, l26, c26⟩, PySem.W.mg_of X G a26, k26⟩
  have B26 : Binds K _ ["p", "wide", "rows"] [] := F26.fn.binds rfl fun _ _ _ _ _ _ us hl => match us, hl with | [_, _, _], _ => rfl
  have F27 : C8.Def K mg "_law_summed" s_law_summed f27 _ := ⟨⟨_, _, _, _, _, _, _, _, _, _, rfl, l27, c27⟩, PySem.W.mg_of X G a27, k27⟩
  have B27 : Binds K _ ["p", "wide", "rows", "many"] [] := F27.fn.binds rfl fun _ _ _ _ _ _ us hl => match us, hl with | [_, _, _, _], _ => rfl
  have F28 : C8.Def K mg "_law_clock" s_law_clock f28 _ := ⟨⟨_, _, _, _, _, _, _, _, _, _, rfl, l28, c28⟩, PySem.W.mg_of X G a28, k28⟩
  have B28 : Binds K _ ["hand"] [] := F28.fn.binds rfl fun _ _ _ _ _ _ us hl => match us, hl with | [_], _ => rfl
  have F29 : C8.Def K mg "_law_some_row" s_law_some_row f29 _ := ⟨⟨_, _, _, _, _, _, _, _, _, _, rfl, l29, c29⟩, PySem.W.mg_of X G a29, k29⟩
  have B29 : Binds K _ ["hand", "p", "wide", "rows"] [] := F29.fn.binds rfl fun _ _ _ _ _ _ us hl => match us, hl with | [_, _, _, _], _ => rfl
  have F30 : C8.Def K mg "_law_some_rows" s_law_some_rows f30 _ := ⟨⟨_, _, _, _, _, _, _, _, _, _, rfl, l30, c30⟩, PySem.W.mg_of X G a30, k30⟩
  have B30 : Binds K _ ["hand", "p", "wide", "many"] [] := F30.fn.binds rfl fun _ _ _ _ _ _ us hl => match us, hl with | [_, _, _, _], _ => rfl
  have F31 : C8.Def K mg "_law_all_mixtures" s_law_all_mixtures f31 _ := ⟨⟨_, _, _, _, _, _, _, _, _, _, rfl, l31, c31⟩, PySem.W.mg_of X G a31, k31⟩
  have B31 : Binds K _ ["p", "wide", "rows"] [] := F31.fn.binds rfl fun _ _ _ _ _ _ us hl => match us, hl with | [_, _, _], _ => rfl
  have F32 : C8.Def K mg "_law_is_prime" s_law_is_prime f32 _ := ⟨⟨_, _, _, _, _, _, _, _, _, _, rfl, l32, c32⟩, PySem.W.mg_of X G a32, k32⟩
  have B32 : Binds K _ ["thing"] [] := F32.fn.binds rfl fun _ _ _ _ _ _ us hl => match us, hl with | [_], _ => rfl
  have F33 : C8.Def K mg "_law_many" s_law_many f33 _ := ⟨⟨_, _, _, _, _, _, _, _, _, _, rfl, l33, c33⟩, PySem.W.mg_of X G a33, k33⟩
  have B33 : Binds K _ ["p", "times"] [] := F33.fn.binds rfl fun _ _ _ _ _ _ us hl => match us, hl with | [_, _], _ => rfl
  have F34 : C8.Def K mg "_law_other_rows" s_law_other_rows f34 _ := ⟨⟨_, _, _, _, _, _, _, _, _, _, rfl, l34, c34⟩, PySem.W.mg_of X G a34, k34⟩
  have B34 : Binds K _ ["hand", "p", "wide", "rows"] [] := F34.fn.binds rfl fun _ _ _ _ _ _ us hl => match us, hl with | [_, _, _, _], _ => rfl
  have F35 : C8.Def K mg "law" s_law fa _ := ⟨⟨_, _, _, _, _, _, _, _, _, _, rfl, l35, c35⟩, PySem.W.mg_of X G a35, k35⟩
  have B35 : Binds K _ ["script"] [] := F35.fn.binds rfl fun _ _ _ _ _ _ us hl => match us, hl with | [_], _ => rfl
  have F36 : C8.Fun K "__init__" "Stairs.__init__" s_Stairs_init f36 _ := ⟨_, _, _, _, _, _, _, _, _, _, rfl, l36, c36⟩
  have B36 : Binds K _ ["self", "p"] [] := F36.binds rfl fun _ _ _ _ _ _ us hl => match us, hl with | [_, _], _ => rfl
  have F37 : C8.Fun K "less" "Stairs.less" s_Stairs_less f37 _ := ⟨_, _, _, _, _, _, _, _, _, _, rfl, l37, c37⟩
  have B37 : Binds K _ ["self", "row"] [] := F37.binds rfl fun _ _ _ _ _ _ us hl => match us, hl with | [_, _], _ => rfl
  have F38 : C8.Fun K "take" "Stairs.take" s_Stairs_take f38 _ := ⟨_, _, _, _, _, _, _, _, _, _, rfl, l38, c38⟩
  have B38 : Binds K _ ["self", "number", "row"] [] := F38.binds rfl fun _ _ _ _ _ _ us hl => match us, hl with | [_, _, _], _ => rfl
  refine ⟨PySem.W.fnOf "law" "law" (C8.fnArgs s_law) (C8.fnBody s_law) (C8.fnScope s_law) .none kV35 dc35 pm35 an35 cd35 ct35, fun s v => .of_eq rfl, fun base KX _ => ?_⟩
  have m_is_integer := ok_is_integer (P := l.prog) (w := w) (base := base) F0 B0 T
  have m_is_within := ok_is_within F1 B1 T m_is_integer
  have m_is_listed := ok_is_listed (P := l.prog) (w := w) (base := base) F2 B2 T
  have m_check_number := ok_check_number F3 B3 T m_is_within
  have m_prime := ok_prime (P := l.prog) (w := w) (base := base) F4 B4 T
  have m_is_clock := ok_is_clock F5 B5 T m_is_within m_prime
  have m_check_clock := ok_check_clock F14 B14 T m_is_clock
  have m_inverse_of := ok_inverse_of (P := l.prog) (w := w) (base := base) F6 B6 T
  have m_scaled := ok_scaled (P := l.prog) (w := w) (base := base) F7 B7 T
  have m_without := ok_without (P := l.prog) (w := w) (base := base) F8 B8 T
  have m_first_place := ok_first_place (P := l.prog) (w := w) (base := base) F9 B9 T
  have m_is_row := ok_is_row F13 B13 T m_is_within
  have m_check_rows := ok_check_rows F15 B15 T m_check_clock m_check_number m_is_listed m_is_row
  have m_init := ok_st_init (P := l.prog) (w := w) (base := base) ⟨mk, a36, i36, kc⟩ (PySem.W.mg_of X G aC) F36 B36 TC
  have m_less := ok_st_less ⟨a37, i37, k37⟩ F37 B37 T TC m_without
  have m_take := ok_st_take ⟨a38, i38, k38⟩ F38 B38 T TC m_less m_first_place m_inverse_of m_scaled
  have m_stairs_of := ok_stairs_of F10 B10 T TC m_init m_take
  have m_ladder_of := ok_ladder_of F11 B11 T TC m_stairs_of m_without
  have m_rank_of := ok_rank_of F12 B12 T TC m_stairs_of
  have m_ladder := ok_ladder F16 B16 T m_check_rows m_ladder_of
  have m_rank := ok_rank F17 B17 T m_check_rows m_rank_of
  have n_hand := ok_law_hand (P := l.prog) (w := w) (base := base) F18 B18 T
  have n_draw := ok_law_draw (P := l.prog) (w := w) (base := base) F19 B19 T
  have n_any := ok_law_any F20 B20 T n_draw
  have n_is_no := ok_law_is_no (P := l.prog) (w := w) (base := base) F21 B21
  have n_is0 := ok_law_is0 F21 B21 T n_is_no
  have n_is1 := ok_law_isS F21 B21 T n_is0
  have n_is2 := ok_law_isS F21 B21 T n_is1
  have n_int := ok_law_int (P := l.prog) (w := w) (base := base) F22 B22 T
  have n_mixed := ok_law_mixed F23 B23 T n_draw
  have n_turn := ok_law_turn (P := l.prog) (w := w) (base := base) F24 B24 T
  have n_less_new := ok_law_less_new (P := l.prog) (w := w) (base := base) F25 B25 T
  have n_less := ok_law_less' (P := l.prog) (w := w) (base := base) F25 B25 T
  have n_ladder := ok_law_ladder F26 B26 T n_turn n_less
  have n_summed := ok_law_summed F27 B27 T n_less
  have n_clock := ok_law_clock F28 B28 T n_any
  have n_some_row := ok_law_some_row F29 B29 T n_draw n_any n_summed
  have n_some_rows := ok_law_some_rows F30 B30 T n_some_row
  have n_mixtures := ok_law_all_mixtures F31 B31 T n_less_new
  have n_is_prime := ok_law_is_prime F32 B32 T n_int
  have n_many := ok_law_many (P := l.prog) (w := w) (base := base) F33 B33 T
  have n_other := ok_law_other_rows F34 B34 T n_mixed n_draw n_less n_summed
  have n_law := ok_law F35 B35 T n_hand n_any n_draw n_is2 m_is_clock n_is_prime n_clock n_some_rows n_ladder m_ladder m_rank n_other n_many n_mixtures
  exact n_law
end TK

open PySem PySem.W PyProof.Rows in
set_option maxRecDepth 100000 in
set_option maxHeartbeats 0 in
theorem PySem.Challenge.cw_tollhall_k01_whole_ladders_and_ranks_holds : PySem.Challenge.rw_tollhall_k01_whole_ladders_and_ranks.Holds := by
  w_on; o_law; k_head; (case hw => w_witness2)
  k_fill
  refine L2.walk_of (l := PySem.Challenge.rw_tollhall_k01_whole_ladders_and_ranks) (n := 63) (k := 7) (x := "script") (CX := fun _ => C8.CX0) (sp := fun w => TK.sp_law _) rfl (by decide) rfl ⟨rfl, by decide, by decide⟩ (fun w h Y => PySem.W.kIn_of Y) ?F (fun _ _ a ns hl _ hS => ⟨a, ns, rfl, hS, Nat.le_trans hl (by decide), fun _ => rfl⟩) fun _ _ _ _ _ z => z
  case F =>
    intro w mg fa h KX G hmg
    refine' TK.all_mk KX G hmg ?a0 ?l0 ?c0 ?k0 ?a1 ?l1 ?c1 ?k1 ?a2 ?l2 ?c2 ?k2 ?a3 ?l3 ?c3 ?k3 ?a4 ?l4 ?c4 ?k4 ?a5 ?l5 ?c5 ?k5 ?a6 ?l6 ?c6 ?k6 ?a7 ?l7 ?c7 ?k7 ?a8 ?l8 ?c8 ?k8 ?a9 ?l9 ?c9 ?k9 ?a10 ?l10 ?c10 ?k10 ?a11 ?l11 ?c11 ?k11 ?a12 ?l12 ?c12 ?k12 ?a13 ?l13 ?c13 ?k13 ?a14 ?l14 ?c14 ?k14 ?a15 ?l15 ?c15 ?k15 ?a16 ?l16 ?c16 ?k16 ?a17 ?l17 ?c17 ?k17 ?a18 ?l18 ?c18 ?k18 ?a19 ?l19 ?c19 ?k19 ?a20 ?l20 ?c20 ?k20 ?a21 ?l21 ?c21 ?k21 ?a22 ?l22 ?c22 ?k22 ?a23 ?l23 ?c23 ?k23 ?a24 ?l24 ?c24 ?k24 ?a25 ?l25 ?c25 ?k25 ?a26 ?l26 ?c26 ?k26 ?a27 ?l27 ?c27 ?k27 ?a28 ?l28 ?c28 ?k28 ?a29 ?l29 ?c29 ?k29 ?a30 ?l30 ?c30 ?k30 ?a31 ?l31 ?c31 ?k31 ?a32 ?l32 ?c32 ?k32 ?a33 ?l33 ?c33 ?k33 ?a34 ?l34 ?c34 ?k34 ?a35 ?l35 ?c35 ?k35 ?aC ?a36 ?i36 ?l36 ?c36 ?k36 ?a37 ?i37 ?l37 ?c37 ?k37 ?a38 ?i38 ?l38 ?c38 ?k38 ?pg ?hd ?po ?sa ?mk ?kc ?n_p ?n_steps ?n_taken ?b_all ?b_bool ?b_enumerate ?b_int ?b_isinstance ?b_len ?b_list ?b_min ?b_range ?b_sorted ?b_tuple ?b_zip ?b_abs ?g_MOST_HOURS ?g_MOST_WIDE ?g_MOST_ROWS
    (case a0 => k_is)
    (case l0 => k_is)
    (case c0 => k_is)
    (case k0 => k_is)
    (case a1 => k_is)
    (case l1 => k_is)
    (case c1 => k_is)
    (case k1 => k_is)
    (case a2 => k_is)
    (case l2 => k_is)
    (case c2 => k_is)
    (case k2 => k_is)
    (case a3 => k_is)
    (case l3 => k_is)
    (case c3 => k_is)
    (case k3 => k_is)
    (case a4 => k_is)
    (case l4 => k_is)
    (case c4 => k_is)
    (case k4 => k_is)
    (case a5 => k_is)
    (case l5 => k_is)
    (case c5 => k_is)
    (case k5 => k_is)
    (case a6 => k_is)
    (case l6 => k_is)
    (case c6 => k_is)
    (case k6 => k_is)
    (case a7 => k_is)
    (case l7 => k_is)
    (case c7 => k_is)
    (case k7 => k_is)
    (case a8 => k_is)
    (case l8 => k_is)
    (case c8 => k_is)
    (case k8 => k_is)
    (case a9 => k_is)
    (case l9 => k_is)
    (case c9 => k_is)
    (case k9 => k_is)
    (case a10 => k_is)
    (case l10 => k_is)
    (case c10 => k_is)
    (case k10 => k_is)
    (case a11 => k_is)
    (case l11 => k_is)
    (case c11 => k_is)
    (case k11 => k_is)
    (case a12 => k_is)
    (case l12 => k_is)
    (case c12 => k_is)
    (case k12 => k_is)
    (case a13 => k_is)
    (case l13 => k_is)
    (case c13 => k_is)
    (case k13 => k_is)
    (case a14 => k_is)
    (case l14 => k_is)
    (case c14 => k_is)
    (case k14 => k_is)
    (case a15 => k_is)
    (case l15 => k_is)
    (case c15 => k_is)
    (case k15 => k_is)
    (case a16 => k_is)
    (case l16 => k_is)
    (case c16 => k_is)
    (case k16 => k_is)
    (case a17 => k_is)
    (case l17 => k_is)
    (case c17 => k_is)
    (case k17 => k_is)
    (case a18 => k_is)
    (case l18 => k_is)
    (case c18 => k_is)
    (case k18 => k_is)
    (case a19 => k_is)
    (case l19 => k_is)
    (case c19 => k_is)
    (case k19 => k_is)
    (case a20 => k_is)
    (case l20 => k_is)
    (case c20 => k_is)
    (case k20 => k_is)
    (case a21 => k_is)
    (case l21 => k_is)
    (case c21 => k_is)
    (case k21 => k_is)
    (case a22 => k_is)
    (case l22 => k_is)
    (case c22 => k_is)
    (case k22 => k_is)
    (case a23 => k_is)
    (case l23 => k_is)
    (case c23 => k_is)
    (case k23 => k_is)
    (case a24 => k_is)
    (case l24 => k_is)
    (case c24 => k_is)
    (case k24 => k_is)
    (case a25 => k_is)
    (case l25 => k_is)
    (case c25 => k_is)
    (case k25 => k_is)
    (case a26 => k_is)
    (case l26 => k_is)
    (case c26 => k_is)
    (case k26 => k_is)
    (case a27 => k_is)
    (case l27 => k_is)
    (case c27 => k_is)
    (case k27 => k_is)
    (case a28 => k_is)
    (case l28 => k_is)
    (case c28 => k_is)
    (case k28 => k_is)
    (case a29 => k_is)
    (case l29 => k_is)
    (case c29 => k_is)
    (case k29 => k_is)
    (case a30 => k_is)
    (case l30 => k_is)
    (case c30 => k_is)
    (case k30 => k_is)
    (case a31 => k_is)
    (case l31 => k_is)
    (case c31 => k_is)
    (case k31 => k_is)
    (case a32 => k_is)
    (case l32 => k_is)
    (case c32 => k_is)
    (case k32 => k_is)
    (case a33 => k_is)
    (case l33 => k_is)
    (case c33 => k_is)
    (case k33 => k_is)
    (case a34 => k_is)
    (case l34 => k_is)
    (case c34 => k_is)
    (case k34 => k_is)
    (case a35 => k_is)
    (case l35 => k_is)
    (case c35 => k_is)
    (case k35 => k_is)
    (case aC => k_is)
    (case a36 => k_is)
    (case i36 => k_is)
    (case l36 => k_is)
    (case c36 => k_is)
    (case k36 => k_is)
    (case a37 => k_is)
    (case i37 => k_is)
    (case l37 => k_is)
    (case c37 => k_is)
    (case k37 => k_is)
    (case a38 => k_is)
    (case i38 => k_is)
    (case l38 => k_is)
    (case c38 => k_is)
    (case k38 => k_is)
    (case pg => k_is)
    (case hd => k_is)
    (case po => k_is)
    (case sa => k_is)
    (case mk => k_is)
    (case kc => k_is)
    (case n_p => k_is)
    (case n_steps => k_is)
    (case n_taken => k_is)
    (case b_all => k_is)
    (case b_bool => k_is)
    (case b_enumerate => k_is)
    (case b_int => k_is)
    (case b_isinstance => k_is)
    (case b_len => k_is)
    (case b_list => k_is)
    (case b_min => k_is)
    (case b_range => k_is)
    (case b_sorted => k_is)
    (case b_tuple => k_is)
    (case b_zip => k_is)
    (case b_abs => k_is)
    (case g_MOST_HOURS => k_is)
    (case g_MOST_WIDE => k_is)
    (case g_MOST_ROWS => k_is)
