import PyProof.Rows.All
import Wide.All
import OpenK.AllK
import Wide.FinOn
import HandS.ForMost
import HandS.Codes
import HandS.IsInst
import HandS.Zip
import HandS.TupAny
import HandS.TupMul
import HandS.Style
import HandS.DictComp
import HandS.Conv
import HandS.Wide
import HandS.EndBits
import HandS.Walk
import HandS.Deep
import HandS.More
import KE.GoesMore
import KE.GoesEnum
import KE.SortData
import KE.DataEq
import KE.KTupSum
import KE.KDictPairs
import KE.DataFind
import KE.GoesZip
import PySem.Challenge.RW_tollhall_k02_whole_mixtures_partings_squ
set_option Elab.async false
set_option linter.all false
set_option maxRecDepth 100000
set_option maxHeartbeats 8000000
namespace TH
open PySem PySem.Spec PyProof.Rows L2
/-! ### tuple * int, any int -/
theorem tuple_mul1 (l : Addr) (items : Array Value) (n : Nat) (dd : Option Addr) (sl : Array (Option Value)) (x : Int) (u : Tok) (c0 : (decide (x < -(2 ^ 63)) || decide (x ≥ 2 ^ 63)) = false) (c1 : (items.isEmpty || x == 1) = true) :
    Meets (Builtin.«tuple.__mul__» ⟨[.ref l, .int x u], []⟩) (fun _ R s => s.heap.get? l = some { cls := .type "tuple", dict := dd, data := .seq items n, slots := sl } ∧
      R (.ok (.ret (Value.ref l))) s) :=
  .of_wp fun prog w A R s h => by
    obtain ⟨hp, g, d, tk, os⟩ := s
    obtain ⟨hl, h⟩ := h
    have f1 := AutoSeq1.idx_int
    wp_walk using PyProof.Rows.wpAny_loadPart' hl
    repeat (first
      | (refine wpAny_ite_false (decide_eq_false (by rw [c0]; exact Bool.false_ne_true)) ?_; wp_walk using PyProof.Rows.wpAny_loadPart' hl)
      | (refine wpAny_ite_true (decide_eq_true c1) ?_; wp_walk using PyProof.Rows.wpAny_loadPart' hl))
    exact ⟨_, rfl, h⟩
theorem tuple_mul0 (l : Addr) (items : Array Value) (n : Nat) (dd : Option Addr) (sl : Array (Option Value)) (x : Int) (u : Tok) (c0 : (decide (x < -(2 ^ 63)) || decide (x ≥ 2 ^ 63)) = false) (c1 : (items.isEmpty || x == 1) = false) (c2 : (decide (x ≤ 0) || items.isEmpty) = true) :
    Meets (Builtin.«tuple.__mul__» ⟨[.ref l, .int x u], []⟩) (fun _ R s => s.heap.get? l = some { cls := .type "tuple", dict := dd, data := .seq items n, slots := sl } ∧
      R (.ok (.ret (Value.ref s.heap.objs.size))) { s with heap := s.heap.push { cls := Value.type "tuple", data := Data.seq #[] }, toks := s.toks }) :=
  .of_wp fun prog w A R s h => by
    obtain ⟨hp, g, d, tk, os⟩ := s
    obtain ⟨hl, h⟩ := h
    have f1 := AutoSeq1.idx_int
    wp_walk using PyProof.Rows.wpAny_loadPart' hl
    repeat (first
      | (refine wpAny_ite_false (decide_eq_false (by rw [c0]; exact Bool.false_ne_true)) ?_; wp_walk using PyProof.Rows.wpAny_loadPart' hl)
      | (refine wpAny_ite_false (decide_eq_false (by rw [c1]; exact Bool.false_ne_true)) ?_; wp_walk using PyProof.Rows.wpAny_loadPart' hl)
      | (refine wpAny_ite_true (decide_eq_true c2) ?_; wp_walk using PyProof.Rows.wpAny_loadPart' hl))
    exact ⟨_, rfl, h⟩
def rRepA (K : PySem.W.Frag) : R2 := fun x y H Q => ∃ l k xs, x = .ref l ∧ y = .int k ∧ SqT K H l xs ∧ xs ≠ [] ∧ -1000 ≤ k ∧ k ≤ 1000 ∧ xs.length ≤ 1000 ∧
  (k = 1 → Q (.ref l) H) ∧ (k ≠ 1 → ∀ p, H p = none → Q (.ref p) (upd H p (.tup (List.replicate k.toNat xs).flatten)))
section
variable {X : Cx}
theorem op_repA : OpR X (binaryOp .Mult) (rRepA X.K) := by
  intro pins s σ H x y v u Q I rx ry h
  obtain ⟨l, k, xs, rfl, rfl, hT, hne, h0, h1, hz, q1, q2⟩ := h
  by_cases hk2 : 2 ≤ k
  · exact op_repT pins s σ H _ _ v u Q I rx ry ⟨l, k, xs, rfl, rfl, hT, hne, hk2, h1, hz, q2 (by omega)⟩
  cases rx
  obtain ⟨t, rfl⟩ := ry
  obtain ⟨its, r, ⟨⟨cls, dd, data, sl⟩, ho, hc, n, hd⟩, hs⟩ := I.tuple hT
  simp only at hc hd
  subst hc hd
  have hle : its.length = xs.length := r.length.symm
  have hn : its ≠ [] := fun e => hne (by
    rw [e] at hle
    exact List.eq_nil_of_length_eq_zero hle.symm)
  have hi : its.toArray.isEmpty = false := by
    cases its with
    | nil => exact absurd rfl hn
    | cons a b => rfl
  have c0 : (decide (k < -(2 ^ 63)) || decide (k ≥ 2 ^ 63)) = false := by
    rw [decide_eq_false (by omega), decide_eq_false (by omega)] <;> rfl
  by_cases hk1 : k = 1
  · subst hk1
    have c1 : (its.toArray.isEmpty || (1 : Int) == 1) = true := by simp
    refine wpAny_binaryOp_repeat_ref (T := "tuple") (U := "int") (by decide) ⟨_, ho, rfl⟩ (fun s' => typeIs_int s' 1 t) noFill_tuple_mul F.fills_int_mul F.slot_int_rmul repeat_tuple F.slot_int_index.lookup
      (call_meets F.slot_int_rmul (typeIs_int s 1 t) F.entry_int_rmul (F.args_int_rmul_2 _ _) (int_rmul_tuple 1 t l its.toArray n dd sl)
        ⟨ho, rfl, ⟨_, ho, rfl⟩, call_meets F.slot_tuple_mul ⟨_, ho, rfl⟩ F.entry_tuple_mul (F.args_tuple_mul_2 _ _) (tuple_mul1 l its.toArray n dd sl 1 t c0 c1) ⟨ho, ?_⟩⟩)
    exact ⟨.ref l, H, I, rfl, q1 rfl⟩
  · have c1 : (its.toArray.isEmpty || k == 1) = false := by
      rw [hi, Bool.false_or]
      exact beq_eq_false_iff_ne.mpr hk1
    have c2 : (decide (k ≤ 0) || its.toArray.isEmpty) = true := by
      rw [decide_eq_true (by omega)]
      rfl
    refine wpAny_binaryOp_repeat_ref (T := "tuple") (U := "int") (by decide) ⟨_, ho, rfl⟩ (fun s' => typeIs_int s' k t) noFill_tuple_mul F.fills_int_mul F.slot_int_rmul repeat_tuple F.slot_int_index.lookup
      (call_meets F.slot_int_rmul (typeIs_int s k t) F.entry_int_rmul (F.args_int_rmul_2 _ _) (int_rmul_tuple k t l its.toArray n dd sl)
        ⟨ho, rfl, ⟨_, ho, rfl⟩, call_meets F.slot_tuple_mul ⟨_, ho, rfl⟩ F.entry_tuple_mul (F.args_tuple_mul_2 _ _) (tuple_mul0 l its.toArray n dd sl k t c0 c1 c2) ⟨ho, ?_⟩⟩)
    have e0 : (List.replicate k.toNat xs).flatten = [] := by
      have : k.toNat = 0 := by omega
      rw [this]
      rfl
    have q3 := q2 hk1
    rw [e0] at q3
    exact ⟨.ref s.heap.objs.size, _, I.laid (t' := s.toks) (o := .tup []) (fun b ob q => Heap.get?_push_of_some _ q) (Nat.le_refl _) ⟨Nat.zero_le _, [], .nil, IsTup.new _ _⟩, rfl, q3 _ (I.hok.fresh (Nat.le_refl _))⟩
end

/-! ### enumerate(tuple) -/
theorem meets_enumerate_newT (l : Addr) (items : Array Value) (n : Nat) (dct : Option Addr) (sl : Array (Option Value)) :
    Meets (Builtin.«enumerate.__new__» ⟨[.type "enumerate", .ref l], []⟩) (fun _ R s => s.heap.get? l = some { cls := .type "tuple", dict := dct, data := .seq items n, slots := sl } ∧
      R (.ok (.ret (.ref (s.heap.push { cls := .type "tuple_iterator", data := .fields #[.ref l, .int 0 0] }).objs.size)))
        { s with heap := (s.heap.push { cls := .type "tuple_iterator", data := .fields #[.ref l, .int 0 0] }).push { cls := .type "enumerate", data := .fields #[.none, .bool false, .ref s.heap.objs.size, rawInt 0, .none, .none] } }) :=
  .of_wp fun prog w A R s h => by
    obtain ⟨hp, g, d, tk, os⟩ := s; obtain ⟨hl, h⟩ := h
    have hsub := sub_enumerate
    have hL : Heap.IsTuple (Shared.heap ⟨hp, g, d, tk, os⟩) l items := ⟨_, hl, rfl, n, rfl⟩
    wp_walk using PyProof.Rows.wpAny_loadPart' hl
    refine wpAny_stack_any fun st => wpAny_pure ?_
    split
    · rename_i c _ _ _ _ _
      cases (c == Value.type "enumerate")
      · wp_walk using PyProof.Rows.wpAny_loadPart' hl, wpAny_pyIter_tuple hL
        exact ⟨_, rfl, h⟩
      · wp_walk using PyProof.Rows.wpAny_loadPart' hl, wpAny_pyIter_tuple hL
        exact ⟨_, rfl, h⟩
    · wp_walk using PyProof.Rows.wpAny_loadPart' hl, wpAny_pyIter_tuple hL
      exact ⟨_, rfl, h⟩
theorem call_enumerate_tuple {prog : Program} {w : World} {A : Around} {E : Value → Shared → Prop} {s : Shared} {l : Addr} {items : Array Value} {Q : Value → Shared → Prop} (hL : s.heap.IsTuple l items)
    (h : ∀ h', IsEnum h' (s.heap.objs.size + 1) s.heap.objs.size 0 .none → h'.IsTupleIter s.heap.objs.size l 0 → h'.objs.size = s.heap.objs.size + 2 →
      (∀ b o, s.heap.get? b = some o → h'.get? b = some o) → Q (.ref (s.heap.objs.size + 1)) { s with heap := h' }) :
    wpAny (model prog w) A (call (.type "enumerate") [.ref l]) Q E s := by
  obtain ⟨⟨c, dct, dt, sl⟩, hl, hc, n, hd⟩ := hL
  replace hc : c = .type "tuple" := hc
  replace hd : dt = .seq items n := hd
  subst hc hd
  refine callType_new F.called_enumerate (by decide) (F.typeCall_enumerate_1 _) (F.newCall_enumerate_1 _) (fun obj => F.args_object_init_2 obj _) F.entry_enumerate_new
    (meets_enumerate_newT l items n dct sl) ⟨hl, ?_⟩
  have hz : (s.heap.push { cls := .type "tuple_iterator", data := .fields #[.ref l, .int 0 0] }).objs.size = s.heap.objs.size + 1 := Heap.size_push ..
  show _ ∧ _
  rw [hz]
  have he : IsEnum ((s.heap.push { cls := .type "tuple_iterator", data := .fields #[.ref l, .int 0 0] }).push
      { cls := .type "enumerate", data := .fields #[.none, .bool false, .ref s.heap.objs.size, rawInt 0, .none, .none] }) (s.heap.objs.size + 1) s.heap.objs.size 0 .none := by
    have := Heap.get?_push_size (s.heap.push { cls := .type "tuple_iterator", data := .fields #[.ref l, .int 0 0] })
      (o := { cls := .type "enumerate", data := .fields #[.none, .bool false, .ref s.heap.objs.size, rawInt 0, .none, .none] }) rfl
    rw [hz] at this; exact this
  refine ⟨⟨_, he, rfl⟩, h _ he ⟨_, Heap.get?_push_of_some _ (Heap.get?_push_size _ rfl), rfl, rfl⟩ (by rw [Heap.size_push, hz]) fun b o x => Heap.get?_push_of_some _ (Heap.get?_push_of_some _ x)⟩
/-- the tuple at a, each item in a new pair -/
def IteT (K : PySem.W.Frag) (a : Addr) : It :=
  ⟨fun i H => ∃ (xs : List V) (x : V), SqT K H a xs ∧ xs[i]? = some x, fun i H v H' => ∃ T x, v = .ref T ∧ H T = none ∧ H' = upd H T (.tup [.int (i : Nat), x]) ∧ ∀ xs, SqT K H a xs → xs[i]? = some x, fun i H => ∃ xs : List V, SqT K H a xs ∧ xs.length ≤ i⟩
theorem turn_enumT {P : Program} {w : World} {K : PySem.W.Frag} {elts : List Expr} {kk : Nat} {tpos : Pos} (a e it : Addr) :
    Turn P w K (.Tuple elts kk tpos) (IteT K a) [e, it] e (fun i h => (∃ old, IsEnum h e it ((i : Nat) : Int) old) ∧ h.IsTupleIter it a i ∧ e ≠ it ∧ a ≠ it ∧ a ≠ e) where
  mem := by simp
  obj := fun i h st b hb => by
    obtain ⟨⟨old, he⟩, ⟨o, ho, hc, hd⟩, _⟩ := st
    have e' : b = e ∨ b = it := by simpa using hb
    rcases e' with z | z
    · rw [z]; exact ⟨_, he, fun v q => nomatch q⟩
    · rw [z]; exact ⟨o, ho, fun v q => by rw [hd] at q; cases q⟩
  keep := fun i h h' st k => let ⟨⟨old, he⟩, hi, hne⟩ := st; ⟨⟨old, k e (by simp) _ he⟩, hi.at fun o q => k it (by simp) o q, hne⟩
  item := by
    intro X hP hw hK hc i pins s σ H E I hf st hg
    subst hP hw hK
    obtain ⟨⟨old, he⟩, hit, hne, hai, hae⟩ := st
    obtain ⟨xs, x, hq, hx⟩ := hg
    obtain ⟨its, rv, p, hz⟩ := I.tuple hq
    obtain ⟨u, hu, ru⟩ := rv.get hx
    have hel : e < s.heap.objs.size := Heap.lt_size he
    have hil : it < s.heap.objs.size := by obtain ⟨_, q, _⟩ := hit; exact Heap.lt_size q
    have hlt : i < its.toArray.size := by
      have := (List.getElem?_eq_some_iff.mp hu).1
      simpa using this
    refine wpAny_pyNext_enum_itemD (Draws.tuple (prog := X.prog) (w := X.w) (A := X.A.in1) (show X.A.in1.handled = none from I.ok.hd hc) it a hai its.toArray) he ⟨hit, p⟩ hlt hne (by simp; exact ⟨hne, hae.symm⟩) fun u' h' tk hu' ho hst' hT hsz hk => ?_
    have eu : u' = u := by
      have : its.toArray[i]? = some u := by simpa using hu
      rw [this] at hu'
      exact (Option.some.inj hu').symm
    subst eu
    refine ⟨_, rfl, wpAny_letOwnedTupleGo_enum (s := { s with heap := h', toks := tk + 1 }) ho fun h'' he' sb => ?_⟩
    have hT2 : h''.get? s.heap.objs.size = some { cls := .type "tuple", data := .seq #[.int i tk, u'] } := (sb.2 _ (Nat.ne_of_gt hel)).trans hT
    have new : ObjOk X.prog X.w (upd H s.heap.objs.size (.tup [.int (i : Nat), x])) h'' s.heap.objs.size (.tup [.int (i : Nat), x]) :=
      ⟨by show 2 ≤ sizeLine; decide, [.int i tk, u'], .cons ⟨_, rfl⟩ (.cons ru .nil), ⟨_, hT2, rfl, _, rfl⟩⟩
    have I1 : Inv X pins σ (upd H s.heap.objs.size (.tup [.int (i : Nat), x])) { s with heap := h'', toks := tk + 1 } :=
      I.turnedNew (ch := [e, it]) (fun b ob hb q => (sb.2 b (fun z => hb (by simp [z]))).trans (hk b ob (fun z => hb (by simp [z])) (fun z => hb (by simp [z])) q)) hf (Nat.le_refl _) new
    refine ⟨.ref s.heap.objs.size, _, I1, rfl, ⟨_, x, rfl, I.hok.fresh (Nat.le_refl _), rfl, fun ys hy => by rw [I.tuple_inj hy hq]; exact hx⟩, ⟨⟨u', ?_⟩, hst'.1.at fun o q => (sb.2 it (Ne.symm hne)).trans q, hne, hai, hae⟩, fun b hb => ?_⟩
    · have e1 : ((i + 1 : Nat) : Int) = (i : Int) + 1 := by omega
      rw [e1]; exact he'
    · have hb' : b < s.heap.objs.size := by
        have e' : b = e ∨ b = it := by simpa using hb
        rcases e' with z | z
        · rw [z]; exact hel
        · rw [z]; exact hil
      rw [upd_ne (Nat.ne_of_lt hb')]
      exact (hf b hb).1
  done := by
    intro X hP hw hK hc i pins s σ H E I hf st hg
    subst hP hw hK
    obtain ⟨⟨old, he⟩, hit, hne, hai, hae⟩ := st
    obtain ⟨xs, hq, hx⟩ := hg
    obtain ⟨its, rv, p, hz⟩ := I.tuple hq
    obtain ⟨f0, f1, f2, f3, f4, f5⟩ := hf it (by simp)
    have hl := rv.length
    have go : its.toArray[i]? = none := by
      simp
      omega
    have hT : s.TypeIs (.ref e) "enumerate" := ⟨_, he, rfl⟩
    unfold pyNext
    refine wpAny_bind (wpAny_attempt (wpAny_callSpecial?_slot (name := Str.ofString "__next__") hT F.slot_enumerate_next
      (wpAny_call_entry F.slot_enumerate_next hT F.entry_enumerate_next ?_ (F.args_enumerate_next_1 _))))
    show wpAny _ _ (field (.ref e) 2 >>= _) _ _ _
    refine wpAny_bind (wpAny_field he rfl (x := .ref it) rfl ?_)
    refine wpAny_bind (wpAny_nextOf_tuple_end (I.ok.hd hc) hit p go fun h' x he' hx' => ?_)
    obtain ⟨o, ho, hc'⟩ := hx'
    refine wpAny_bind (wpAny_isInstance (T := "StopIteration") (b := true) ⟨o, ho, hc'⟩ isSubtype_stop ?_)
    exact wpAny_pure ⟨rfl, I.turned (t' := s.toks) (fun b o hb q => he' b o hb q) f0 f1 f3 f4 f5⟩
  self := fun A i s Q E st h => let ⟨⟨_, he⟩, _⟩ := st; wpAny_pyIter_enum he h
/-- enumerate of a list or a tuple -/
def iEnumA (K : PySem.W.Frag) (ta : TA) : TI := fun σ H R => ta σ H fun vs H1 => ∃ a xs, vs = [.ref a] ∧ ((SqL K H1 a xs ∧ R (Ite K a) H1) ∨ (SqT K H1 a xs ∧ R (IteT K a) H1))
theorem pi_enumA {X : Cx} {e : Expr} {ta : TA} {p pos tpos : Pos} {elts : List Expr} {kk : Nat} (hg : Gl X "enumerate") (hm : X.mg "enumerate" = none) (ha : PA X [e] ta) (hs : starEach [e] X.env = [(false, eval e X.env)] := by rfl) :
    PI X (.Tuple elts kk tpos) (.Call (.Name "enumerate" p) [e] [] pos) (iEnumA X.K ta) := by
  refine ⟨fun pins s σ H R I h => ?_⟩
  refine Call_ (ld_blt I hg hm boot_enumerate (PyProof.Rows.callWith_type1 (thn (ha.run pos pins s σ H _ I h) fun us s1 ⟨vs, H1, I1, r1, q1⟩ => ?_) hs rfl))
  obtain ⟨a, xs, ex, q1⟩ := q1
  subst ex
  cases r1 with
  | cons r rr =>
    cases rr
    cases r
    have fr : ∀ b, b ∈ [s1.heap.objs.size + 1, s1.heap.objs.size] → FpOk X pins H1 b := fun b hb => by
      have e' : b = s1.heap.objs.size + 1 ∨ b = s1.heap.objs.size := by simpa using hb
      have hle : s1.heap.objs.size ≤ b := by
        rcases e' with z | z
        · rw [z]; exact Nat.le_add_right _ _
        · rw [z]; exact Nat.le_refl _
      exact I1.fpOk hle (I1.hok.fresh hle)
    rcases q1 with ⟨hq, q⟩ | ⟨hq, q⟩
    · obtain ⟨its, rv, p', hz⟩ := I1.list hq
      refine call_enumerate_list p'.isList fun h' he hit hsz hk => wpAny_pyIter_enum he ?_
      have I2 : Inv X pins σ H1 { s1 with heap := h' } := I1.kept (t' := s1.toks) hk
      exact ⟨s1.heap.objs.size + 1, [s1.heap.objs.size + 1, s1.heap.objs.size], _, _, H1, rfl, I2, turn_enum a (s1.heap.objs.size + 1) s1.heap.objs.size, ⟨⟨.none, he⟩, hit, Nat.succ_ne_self _⟩, fr, q⟩
    · obtain ⟨its, rv, p', hz⟩ := I1.tuple hq
      have hal : a < s1.heap.objs.size := p'.lt
      refine call_enumerate_tuple (show s1.heap.IsTuple a its.toArray from p') fun h' he hit hsz hk => wpAny_pyIter_enum he ?_
      have I2 : Inv X pins σ H1 { s1 with heap := h' } := I1.kept (t' := s1.toks) hk
      exact ⟨s1.heap.objs.size + 1, [s1.heap.objs.size + 1, s1.heap.objs.size], _, _, H1, rfl, I2, turn_enumT a (s1.heap.objs.size + 1) s1.heap.objs.size, ⟨⟨.none, he⟩, hit, Nat.succ_ne_self _, Nat.ne_of_lt hal, Nat.ne_of_lt (Nat.lt_succ_of_lt hal)⟩, fr, q⟩
theorem walk_enumT {K : PySem.W.Frag} {a : Addr} {xs : List V} : Walk (IteT K a) xs.length (fun H => SqT K H a xs) (YPair (fun i => some (.int (i : Nat))) (fun i => xs[i]?)) := by
  refine ⟨fun i _ hi q => ⟨xs, xs[i], q, by simp [hi]⟩, fun _ q => ⟨xs, q, Nat.le_refl _⟩, fun i H v H' _ q y => ?_⟩
  obtain ⟨T, x, h1, h2, h3, h4⟩ := y
  exact ⟨T, .int (i : Nat), x, h1, h2, h3, rfl, h4 xs q⟩
end TH

namespace TH
open PySem PySem.Spec PyProof.Rows L2
/-! ### the rules with the written part told (within comprehensions the context is bound) -/
section
variable {X : Cx} {K : PySem.W.Frag} {tg e o l a b : Expr} {es : List Expr} {te tl to ta tb : TE} {t : TA} {pos p cpos apos : Pos} {k : Nat}
theorem kpi_list (hl : PE X l tl) (hK : X.K = K := by rfl) : PI X tg l (iList K tl) := hK ▸ pi_list hl
theorem kpi_tup (hl : PE X l tl) (hK : X.K = K := by rfl) : PI X tg l (iTup K tl) := hK ▸ pi_tup hl
theorem kpi_enum {elts : List Expr} {tpos : Pos} (hg : Gl X "enumerate") (hm : X.mg "enumerate" = none) (ha : PA X [e] t) (hs : starEach [e] X.env = [(false, eval e X.env)] := by rfl) (hK : X.K = K := by rfl) :
    PI X (.Tuple elts k tpos) (.Call (.Name "enumerate" p) [e] [] pos) (iEnumA K t) := hK ▸ pi_enumA hg hm ha hs
theorem kpi_zip {e2 : Expr} {elts : List Expr} {tpos : Pos} (hg : Gl X "zip") (hm : X.mg "zip" = none) (ha : PA X [e, e2] t)
    (hs : starEach [e, e2] X.env = (false, eval e X.env) :: starEach [e2] X.env := by rfl) (hpl : (backTo pos (starEach [e2] X.env)).any (·.1) = false := by rfl) (hK : X.K = K := by rfl) :
    PI X (.Tuple elts k tpos) (.Call (.Name "zip" p) [e, e2] [] pos) (RZ.iZipA K t) := hK ▸ RZ.pi_zipA hg hm ha hs hpl
theorem kpg_tup {es : List Expr} {t : TGs} {n : Nat} (hc : X.calm = true) (h : PGs X es t)
    (hn : (assignEach es X.env).length = n := by rfl) (hst : (assignEach es X.env).findIdx? (·.1) = none := by rfl) (hK : X.K = K := by rfl) : PG X (.Tuple es k pos) (gTup K n t) := hK ▸ pg_tup hc h hn hst
theorem kix_list (hK : X.K = K := by rfl) : IxR X (rIxL K) := hK ▸ ix_list
theorem kix_tup (hK : X.K = K := by rfl) : IxR X (rIxT K) := hK ▸ ix_tup
theorem ksl_list (hK : X.K = K := by rfl) : SlR X (rSlL K) := hK ▸ sl_list
theorem ksl_tup (hK : X.K = K := by rfl) : SlR X (rSlA K) := hK ▸ sl_tupA
theorem kcall_len (hK : X.K = K := by rfl) : CallR X (.builtin "len") (fun xs H Q => ∃ p ys, xs = [.ref p] ∧ (SqL K H p ys ∨ SqT K H p ys) ∧ Q (.int ys.length) H) := hK ▸ call_len_seq
theorem kcall_list (hK : X.K = K := by rfl) : CallR X (.type "list") (fun xs H Q => ∃ p ys, xs = [.ref p] ∧ (SqL K H p ys ∨ SqT K H p ys) ∧ ∀ l, H l = none → Q (.ref l) (upd H l (.lst ys))) := hK ▸ call_list_of
theorem kcall_tuple (hK : X.K = K := by rfl) : CallR X (.type "tuple") (fun xs H Q => ∃ p ys, xs = [.ref p] ∧ ((SqL K H p ys ∧ ∀ l, H l = none → Q (.ref l) (upd H l (.tup ys))) ∨ (SqT K H p ys ∧ Q (.ref p) H))) := hK ▸ call_tuple_of
theorem kcr_all (hc : X.calm = true) (hK : X.K = K := by rfl) : CallR X (.builtin "all") (rAll K) := hK ▸ cr_all hc
theorem kcr_any (hc : X.calm = true) (hK : X.K = K := by rfl) : CallR X (.builtin "any") (rAny K) := hK ▸ cr_any hc
theorem kcr_sum (hc : X.calm = true) (hK : X.K = K := by rfl) : CallR X (.builtin "sum") (rSum K) := hK ▸ cr_sum hc
theorem kcall_isi (hK : X.K = K := by rfl) : CallR X (.builtin "isinstance") (rIsi K) := hK ▸ call_isi
theorem kcall_isiT (hK : X.K = K := by rfl) : CallR X (.builtin "isinstance") (rIsiT K) := hK ▸ call_isiT
theorem kop_catA (hK : X.K = K := by rfl) : OpR X (binaryOp .Add) (rCatA K) := hK ▸ op_catA
theorem kop_repA (hK : X.K = K := by rfl) : OpR X (binaryOp .Mult) (rRepA K) := hK ▸ op_repA
theorem kop_eqD (hu : X.A.units + 64 < cLine) (hK : X.K = K := by rfl) : OpR X (compareOp .Eq) (rEqD K) := hK ▸ op_eqD hu
theorem kop_neD (hu : X.A.units + 64 < cLine) (hK : X.K = K := by rfl) : OpR X (compareOp .NotEq) (rNeD K) := hK ▸ op_neD hu
theorem kop_in (hK : X.K = K := by rfl) : OpR X (compareOp .In) (rIn K false) := hK ▸ op_in_seq
theorem kop_notIn (hK : X.K = K := by rfl) : OpR X (compareOp .NotIn) (rIn K true) := hK ▸ op_notIn_seq
theorem kpe_fld {f : Str} (ha : PE X e ta) (hb : attributeBase e f X.env (eval e X.env) = eval e X.env) (hK : X.K = K := by rfl) : PE X (.Attribute e f pos) (tFld K ta f) := hK ▸ pe_fld ha hb
theorem kpe_bm0 {T id : String} {name : Str} {r : V → List V → Hp → VK → Prop} (pa : PlainAttrs T) (slot : Slot T name id) (hty : typeOf (.builtin id) = pure (.type "method_descriptor")) (hm : MtR X id r) (ho : PE X o to)
    (hbase : attributeBase o name X.env (eval o X.env) = eval o X.env := by rfl) (hline : (apos.endLine == cpos.line) = true := by rfl) (hK : X.K = K := by rfl) : PE X (.Call (.Attribute o name apos) [] [] cpos) (tBM0 K T r to) := hK ▸ pe_bm0 pa slot hty hm ho hbase hline
theorem kpe_bm {T id : String} {name : Str} {r : V → List V → Hp → VK → Prop} (pa : PlainAttrs T) (slot : Slot T name id) (hty : typeOf (.builtin id) = pure (.type "method_descriptor")) (hm : MtR X id r) (ho : PE X o to) (ha : PA X (e :: es) t)
    (hbase : attributeBase o name X.env (eval o X.env) = eval o X.env := by rfl)
    (hfew : ((backTo cpos (starEach (e :: es) X.env)).all (fun x => !x.1) && (backToKw cpos (keywordEach [] X.env)).all (fun x => x.1.isSome)
      && decide ((e :: es).length + ([] : List Keyword).length + (if ([] : List Keyword).isEmpty then 0 else 1) < 30)) = true := by rfl)
    (hline : (apos.endLine == cpos.line) = true := by rfl) (hs : starEach (e :: es) X.env = (false, eval e X.env) :: starEach es X.env := by rfl) (hplain : (backTo cpos (starEach es X.env)).any (·.1) = false := by rfl) (hK : X.K = K := by rfl) :
    PE X (.Call (.Attribute o name apos) (e :: es) [] cpos) (tBM K T r to t) := hK ▸ pe_bm pa slot hty hm ho ha hbase hfew hline hs hplain
theorem kpe_revL {k' : Nat} {p1 p2 p3 pos : Pos} (he : PE X e te) (hK : X.K = K := by rfl) : PE X (.Subscript e (.Slice none none (some (.UnaryOp .USub (.Constant (.int 1) k' p1) p2)) p3) pos) (tRevL K te) := hK ▸ pe_revL he
end
end TH

namespace TH
open PySem PySem.Spec PyProof.Rows L2
abbrev D := PyData
/-- all that was tracked stands -/
def Ex (H H' : Hp) : Prop := ∀ a o, H a = some o → H' a = some o
theorem Ex.refl (H : Hp) : Ex H H := fun _ _ h => h
theorem Ex.trans {H H1 H2 : Hp} (a : Ex H H1) (b : Ex H1 H2) : Ex H H2 := fun x o h => b x o (a x o h)
theorem Ex.new {H : Hp} {p : Addr} {o : HO} (h : H p = none) : Ex H (upd H p o) := fun a u e => by
  rw [upd_ne (ne_of_none e h)]
  exact e
/-- an object that H does not know may change -/
theorem Ex.mut {H H' : Hp} {p : Addr} {o : HO} (e : Ex H H') (h : H p = none) : Ex H (upd H' p o) := fun a u ha => by
  rw [upd_ne (ne_of_none ha h)]
  exact e a u ha
theorem Ex.rd {H H' : Hp} {a : Addr} {u : HO} (e : Ex H H') (h : Rd H a u) : Rd H' a u := by
  rcases h with h | ⟨o, h⟩
  · exact Or.inl (e a _ h)
  · exact Or.inr ⟨o, e a _ h⟩
theorem Ex.l {K : PySem.W.Frag} {H H' : Hp} {a : Addr} {xs : List V} (e : Ex H H') (h : SqL K H a xs) : SqL K H' a xs := by
  rcases h with h | h
  · exact Or.inl (e.rd h)
  · exact Or.inr h
theorem Ex.t {K : PySem.W.Frag} {H H' : Hp} {a : Addr} {xs : List V} (e : Ex H H') (h : SqT K H a xs) : SqT K H' a xs := by
  rcases h with h | h
  · exact Or.inl (e.rd h)
  · exact Or.inr h
theorem sqL {K : PySem.W.Frag} {H : Hp} {a : Addr} {xs : List V} (h : H a = some (.lst xs)) : SqL K H a xs := Or.inl (Or.inl h)
theorem sqT {K : PySem.W.Frag} {H : Hp} {a : Addr} {xs : List V} (h : H a = some (.tup xs)) : SqT K H a xs := Or.inl (Or.inl h)
theorem Ex.fresh {H H' : Hp} {p : Addr} (e : Ex H H') (h : H' p = none) : H p = none := by
  cases h1 : H p with
  | none => rfl
  | some o =>
    rw [e p o h1] at h
    cases h
/-- the tuples stand (lists and dicts may change) -/
def Tx (H H' : Hp) : Prop := ∀ a xs, (H a = some (.tup xs) → H' a = some (.tup xs)) ∧ (∀ o, H a = some (.frz o (.tup xs)) → H' a = some (.frz o (.tup xs)))
theorem Ex.tx {H H' : Hp} (e : Ex H H') : Tx H H' := fun a xs => ⟨fun h => e a _ h, fun o h => e a _ h⟩
theorem Tx.refl (H : Hp) : Tx H H := (Ex.refl H).tx
theorem Tx.trans {H H1 H2 : Hp} (a : Tx H H1) (b : Tx H1 H2) : Tx H H2 := fun x xs => ⟨fun h => (b x xs).1 ((a x xs).1 h), fun o h => (b x xs).2 o ((a x xs).2 o h)⟩
/-- an object that is no tuple is written -/
theorem Tx.wr {H : Hp} {p : Addr} {o u : HO} (h : H p = some u) (hu : ∀ xs, u ≠ .tup xs) (hf : ∀ ob xs, u ≠ .frz ob (.tup xs)) : Tx H (upd H p o) := fun a xs =>
  ⟨fun e => by rw [upd_ne (fun z => by rw [z, h] at e; exact hu xs (Option.some.inj e))]; exact e,
   fun ob e => by rw [upd_ne (fun z => by rw [z, h] at e; exact hf ob xs (Option.some.inj e))]; exact e⟩
theorem Tx.updL {H : Hp} {p : Addr} {o : HO} {xs : List V} (h : H p = some (.lst xs)) : Tx H (upd H p o) := Tx.wr h (fun _ z => by cases z) fun _ _ z => by cases z
theorem Tx.updK {H : Hp} {p : Addr} {o : HO} {xs : List (Key × V)} (h : H p = some (.dK xs)) : Tx H (upd H p o) := Tx.wr h (fun _ z => by cases z) fun _ _ z => by cases z
theorem Tx.updT {H : Hp} {p : Addr} {o : HO} {xs : List (List Key × V)} (h : H p = some (.dT xs)) : Tx H (upd H p o) := Tx.wr h (fun _ z => by cases z) fun _ _ z => by cases z
theorem Tx.new {H : Hp} {p : Addr} {o : HO} (h : H p = none) : Tx H (upd H p o) := (Ex.new h).tx
theorem Tx.t {K : PySem.W.Frag} {H H' : Hp} {a : Addr} {xs : List V} (e : Tx H H') (h : SqT K H a xs) : SqT K H' a xs := by
  rcases h with (h | ⟨o, h⟩) | h
  · exact Or.inl (Or.inl ((e a xs).1 h))
  · exact Or.inl (Or.inr ⟨o, (e a xs).2 o h⟩)
  · exact Or.inr h
section
variable {K : PySem.W.Frag} {H H' : Hp}
mutual
theorem dp_ex (e : Ex H H') : ∀ (d : D) (v : V), Dp K H v d → Dp K H' v d
  | .none, _, h => by cases h; exact .non
  | .bool b, _, h => by cases h; exact .bl b
  | .int i, _, h => by cases h; exact .int i
  | .str x, _, h => by cases h; exact .str x
  | .list ds, _, h => by
    cases h with
    | lst hs ha => exact .lst (e.l hs) (dpa_ex e ds _ ha)
  | .tuple ds, _, h => by
    cases h with
    | tup hs ha => exact .tup (e.t hs) (dpa_ex e ds _ ha)
  | .dict _, _, h => by cases h
theorem dpa_ex (e : Ex H H') : ∀ (ds : List D) (vs : List V), DpAll K H vs ds → DpAll K H' vs ds
  | [], _, h => by cases h; exact .nil
  | d :: ds, _, h => by
    cases h with
    | cons h1 h2 => exact .cons (dp_ex e d _ h1) (dpa_ex e ds _ h2)
end
theorem Ex.dp {d : D} {v : V} (e : Ex H H') (h : Dp K H v d) : Dp K H' v d := dp_ex e d v h
theorem Ex.dpa {ds : List D} {vs : List V} (e : Ex H H') (h : DpAll K H vs ds) : DpAll K H' vs ds := dpa_ex e ds vs h
/-! no list within -/
mutual
def imm : D → Bool
  | .list _ => false
  | .tuple ds => immAll ds
  | .dict _ => false
  | _ => true
def immAll : List D → Bool
  | [] => true
  | d :: ds => imm d && immAll ds
end
mutual
theorem dp_tx (e : Tx H H') : ∀ (d : D) (v : V), imm d = true → Dp K H v d → Dp K H' v d
  | .none, _, _, h => by cases h; exact .non
  | .bool b, _, _, h => by cases h; exact .bl b
  | .int i, _, _, h => by cases h; exact .int i
  | .str x, _, _, h => by cases h; exact .str x
  | .list ds, _, i, h => by simp [imm] at i
  | .tuple ds, _, i, h => by
    cases h with
    | tup hs ha => exact .tup (e.t hs) (dpa_tx e ds _ (by simpa [imm] using i) ha)
  | .dict _, _, _, h => by cases h
theorem dpa_tx (e : Tx H H') : ∀ (ds : List D) (vs : List V), immAll ds = true → DpAll K H vs ds → DpAll K H' vs ds
  | [], _, _, h => by cases h; exact .nil
  | d :: ds, _, i, h => by
    have i' : imm d = true ∧ immAll ds = true := by simpa [immAll] using i
    cases h with
    | cons h1 h2 => exact .cons (dp_tx e d _ i'.1 h1) (dpa_tx e ds _ i'.2 h2)
end
theorem Tx.dp {d : D} {v : V} (e : Tx H H') (i : imm d = true) (h : Dp K H v d) : Dp K H' v d := dp_tx e d v i h
theorem Tx.dpa {ds : List D} {vs : List V} (e : Tx H H') (i : immAll ds = true) (h : DpAll K H vs ds) : DpAll K H' vs ds := dpa_tx e ds vs i h
theorem immAll_iff : ∀ {ds : List D}, immAll ds = true ↔ ∀ d ∈ ds, imm d = true
  | [] => by simp [immAll]
  | d :: ds => by simp [immAll, immAll_iff]
theorem immAll_append {ds es : List D} : immAll (ds ++ es) = true ↔ immAll ds = true ∧ immAll es = true := by
  simp only [immAll_iff, List.mem_append]
  exact ⟨fun h => ⟨fun d hd => h d (.inl hd), fun d hd => h d (.inr hd)⟩, fun h d hd => hd.elim (h.1 d) (h.2 d)⟩
theorem dpa_len : ∀ {vs : List V} {ds : List D}, DpAll K H vs ds → vs.length = ds.length
  | _, _, .nil => rfl
  | _, _, .cons _ t => by simp [dpa_len t]
theorem dpa_get : ∀ {vs : List V} {ds : List D} {i : Nat} {v : V}, DpAll K H vs ds → vs[i]? = some v → ∃ d, ds[i]? = some d ∧ Dp K H v d
  | _, _, _, _, .nil, e => by simp at e
  | _, _, 0, v, .cons h _, e => by
    simp at e
    subst e
    exact ⟨_, rfl, h⟩
  | _, _, i + 1, v, .cons _ t, e => by
    simp at e
    obtain ⟨d, h1, h2⟩ := dpa_get (i := i) t e
    exact ⟨d, by simpa using h1, h2⟩
theorem dpa_getD : ∀ {vs : List V} {ds : List D} {i : Nat} {d : D}, DpAll K H vs ds → ds[i]? = some d → ∃ v, vs[i]? = some v ∧ Dp K H v d
  | _, _, _, _, .nil, e => by simp at e
  | _, _, 0, v, .cons h _, e => by
    simp at e
    subst e
    exact ⟨_, rfl, h⟩
  | _, _, i + 1, v, .cons _ t, e => by
    simp at e
    obtain ⟨d, h1, h2⟩ := dpa_getD (i := i) t e
    exact ⟨d, by simpa using h1, h2⟩
theorem dpa_append : ∀ {vs ws : List V} {ds es : List D}, DpAll K H vs ds → DpAll K H ws es → DpAll K H (vs ++ ws) (ds ++ es)
  | _, _, _, _, .nil, s => s
  | _, _, _, _, .cons h t, s => .cons h (dpa_append t s)
theorem dpa_one {v : V} {d : D} (h : Dp K H v d) : DpAll K H [v] [d] := .cons h .nil
theorem dpa_snoc {vs : List V} {ds : List D} {v : V} {d : D} (t : DpAll K H vs ds) (h : Dp K H v d) : DpAll K H (vs ++ [v]) (ds ++ [d]) := dpa_append t (dpa_one h)
theorem dpa_ints : ∀ ns : List Int, DpAll K H (ns.map V.int) (ns.map PyData.int)
  | [] => .nil
  | n :: ns => .cons (.int n) (dpa_ints ns)
theorem dpa_ints_inv : ∀ {ns : List Int} {vs : List V}, DpAll K H vs (ns.map PyData.int) → vs = ns.map V.int
  | [], _, .nil => rfl
  | n :: ns, _, .cons h t => by
    cases h
    rw [dpa_ints_inv t]
    rfl
theorem dpa_take : ∀ {vs : List V} {ds : List D} (n : Nat), DpAll K H vs ds → DpAll K H (vs.take n) (ds.take n)
  | _, _, 0, _ => .nil
  | _, _, _ + 1, .nil => .nil
  | _, _, n + 1, .cons h t => .cons h (dpa_take n t)
theorem dpa_drop : ∀ {vs : List V} {ds : List D} (n : Nat), DpAll K H vs ds → DpAll K H (vs.drop n) (ds.drop n)
  | _, _, 0, r => r
  | _, _, _ + 1, .nil => .nil
  | _, _, n + 1, .cons _ t => dpa_drop n t
theorem dpa_rev : ∀ {vs : List V} {ds : List D}, DpAll K H vs ds → DpAll K H vs.reverse ds.reverse
  | _, _, .nil => .nil
  | _, _, .cons h t => by
    rw [List.reverse_cons, List.reverse_cons]
    exact dpa_snoc (dpa_rev t) h
theorem dpa_set {v : V} {d : D} (h : Dp K H v d) : ∀ {vs : List V} {ds : List D} (i : Nat), DpAll K H vs ds → DpAll K H (vs.set i v) (ds.set i d)
  | _, _, _, .nil => .nil
  | _, _, 0, .cons _ t => .cons h t
  | _, _, i + 1, .cons q t => .cons q (dpa_set h i t)
theorem dpa_erase : ∀ {vs : List V} {ds : List D} (i : Nat), DpAll K H vs ds → DpAll K H (vs.eraseIdx i) (ds.eraseIdx i)
  | _, _, _, .nil => .nil
  | _, _, 0, .cons _ t => t
  | _, _, i + 1, .cons q t => .cons q (dpa_erase i t)
end
/-- a row of ints | rows -/
def row (ns : List Int) : D := .tuple (ns.map .int)
def rowsT (rs : List (List Int)) : D := .tuple (rs.map row)
def rowsL (rs : List (List Int)) : D := .list (rs.map row)
theorem imm_row (ns : List Int) : imm (row ns) = true := by
  unfold row imm
  rw [immAll_iff]
  intro d hd
  obtain ⟨n, _, rfl⟩ := List.mem_map.mp hd
  rfl
theorem imm_rows (rs : List (List Int)) : immAll (rs.map row) = true := by
  rw [immAll_iff]
  intro d hd
  obtain ⟨n, _, rfl⟩ := List.mem_map.mp hd
  exact imm_row n
section
variable {K : PySem.W.Frag} {H H' : Hp}
theorem dp_row {v : V} {ns : List Int} (h : Dp K H v (row ns)) : ∃ a, v = .ref a ∧ SqT K H a (ns.map V.int) := by
  unfold row at h
  cases h with
  | tup hs ha =>
    rw [dpa_ints_inv ha] at hs
    exact ⟨_, rfl, hs⟩
theorem dp_row_of {a : Addr} {ns : List Int} (h : SqT K H a (ns.map V.int)) : Dp K H (.ref a) (row ns) := .tup h (dpa_ints ns)
end
/-! ### sorted(xs), xs a list of data -/
open PySem.W in
def rSortedD (K : PySem.W.Frag) : List V → Hp → VK → Prop := fun xs H Q => ∃ (a : Addr) (vs : List V) (ds : List D), xs = [.ref a] ∧ SqL K H a vs ∧ DpAll K H vs ds ∧ AllAlike ds ∧ Sortable ds ∧ (∀ d ∈ ds, d.depth ≤ 50) ∧
  ∀ (ws : List V) (p : Addr), H p = none → DpAll K H ws (ds.mergeSort (dataLe false id)) → Q (.ref p) (upd H p (.lst ws))
section
open PySem.W
variable {X : Cx} {K : PySem.W.Frag}
theorem each_of {H : Hp} {R : V → Value → Prop} : ∀ {vs : List V} {us : List Value} {ds : List D}, Paired R vs us → DpAll K H vs ds → EachIs (fun (u : Value) (b : V × D) => R b.1 u ∧ Dp K H b.1 b.2) us (vs.zip ds)
  | _, _, _, .nil, .nil => .nil
  | _, _, _, .cons r t, .cons h q => .cons ⟨r, h⟩ (each_of t q)
theorem each_back {H : Hp} : ∀ {us : List Value} {bs : List (V × D)}, EachIs (fun (u : Value) (b : V × D) => RelV b.1 u ∧ Dp K H b.1 b.2) us bs → Vals (bs.map (·.1)) us ∧ DpAll K H (bs.map (·.1)) (bs.map (·.2))
  | _, _, .nil => ⟨.nil, .nil⟩
  | _, _, .cons h t => ⟨.cons h.1 (each_back t).1, .cons h.2 (each_back t).2⟩
theorem dataLe_map {β : Type} (f : β → D) (a b : β) : dataLe false f a b = dataLe false id (f a) (f b) := rfl
theorem call_sortedD (hu : X.A.units + 64 < cLine) (hK : X.K = K := by rfl) : CallR X (.builtin "sorted") (rSortedD K) := by
  subst hK
  intro pins s σ H xs us Q I r h
  obtain ⟨a, vs, ds, rfl, hs, hd, al, so, dep, q⟩ := h
  obtain ⟨its, rv, hl, hz⟩ := I.list hs
  rw [Vals.ref1 r]
  have e := each_of rv hd
  have hle : vs.length = ds.length := dpa_len hd
  have em : (vs.zip ds).map (·.2) = ds := by
    rw [List.map_snd_zip]
    omega
  have er : EachIs (fun (u : Value) (b : V × D) => ∃ as, Reads s.heap u b.2 as) its (vs.zip ds) := e.mono fun u b hb => Dp.reads I b.2 b.1 u hb.2 hb.1
  have hzl : (vs.zip ds).length = its.length := e.length.symm
  refine sorted_data (enc := fun b : V × D => b.2) hl.isList e er (by rw [em]; exact al) (by rw [em]; exact so) (by rw [hzl, ← rv.length]; exact hz) (fun b hb => ?_) fun out hol heo => ?_
  · have : b.2 ∈ ds := by
      rw [← em]
      exact List.mem_map.mpr ⟨b, hb, rfl⟩
    have := dep b.2 this
    show X.A.units + 2 + b.2.depth < cLine
    omega
  · obtain ⟨ep, he'⟩ := PyProof.Rows.sortedAll_at s.heap its out.toArray
    obtain ⟨hv, hda⟩ := each_back heo
    have e2 : ((vs.zip ds).mergeSort (dataLe false fun b : V × D => b.2)).map (·.2) = ds.mergeSort (dataLe false id) := by
      rw [sort_maps (s := dataLe false id) (fun b : V × D => b.2) (fun a _ b _ => dataLe_map _ a b), em]
    rw [e2] at hda
    refine ⟨.ref _, upd H (s.heap.objs.size + 1) (.lst _), I.laid (t' := s.toks) (fun _ _ => PyProof.Rows.sortedAll_old) (Nat.le_succ _) ⟨?_, out, ep, hv, he'⟩, rfl, q _ _ (I.hok.fresh (Nat.le_succ _)) hda⟩
    rw [hv.length, hol, hzl, ← rv.length]
    exact hz
end
end TH

namespace TH
open PySem PySem.Spec PyProof.Rows L2
/-! ### the readings, one step each -/
section
variable {K : PySem.W.Frag} {σ σ' : L2.St} {H : Hp} {Q : VK} {QB : Bool → Hp → Prop} {QA : List V → Hp → Prop} {D : Ends} {ta tb tc te : TE} {t u : TT} {s1 s2 : TS} {r r' : R2} {v w : V} {i : Nat} {tr : TA} {g : TG}
theorem w_start {s : TS} (h : σ = σ') (k : s D σ' H) : s D σ H := h ▸ k
theorem w_var (h : σ[i]? = some (some v)) (k : Q v H) : tVar i σ H Q := ⟨v, h, k⟩
theorem w_c (k : Q v H) : tC v σ H Q := k
theorem w_op (k : ta σ H fun x H1 => tb σ H1 fun y H2 => r x y H2 Q) : tOp r ta tb σ H Q := k
theorem w_un {r : V → Hp → VK → Prop} (k : ta σ H fun x H1 => r x H1 Q) : tUn r ta σ H Q := k
theorem w_chain (k : ta σ H fun x H1 => tb σ H1 fun y H2 => r x y H2 fun z H3 => ∃ k, z = .bl k ∧ (if k = true then tc σ H3 fun w' H4 => r' y w' H4 Q else Q (.bl false) H3)) : tChain r r' ta tb tc σ H Q := k
theorem w_I0 {f : Int → Int → V} {a b : Int} (k : Q (f a b) H) : rI0 f (.int a) (.int b) H Q := ⟨a, b, rfl, rfl, k⟩
theorem w_I {C : Int → Int → Prop} {f : Int → Int → V} {a b : Int} (hc : C a b) (k : Q (f a b) H) : rI C f (.int a) (.int b) H Q := ⟨a, b, rfl, rfl, hc, k⟩
theorem w_U {f : Int → V} {a : Int} (k : Q (f a) H) : rU f (.int a) H Q := ⟨a, rfl, k⟩
theorem w_eq (h : scal v w = true) (k : Q (.bl (decide (v = w))) H) : rEq v w H Q := ⟨h, k⟩
theorem w_eqI {a b : Int} (k : Q (.bl (decide (a = b))) H) : rEq (.int a) (.int b) H Q := ⟨rfl, by
  have e : decide (V.int a = V.int b) = decide (a = b) := by
    by_cases h : a = b
    · subst h; simp
    · rw [decide_eq_false h, decide_eq_false (fun z => h (V.int.inj z))]
  rw [e]; exact k⟩
theorem w_neI {a b : Int} (k : Q (.bl (!decide (a = b))) H) : rNe (.int a) (.int b) H Q := ⟨rfl, by
  have e : decide (V.int a = V.int b) = decide (a = b) := by
    by_cases h : a = b
    · subst h; simp
    · rw [decide_eq_false h, decide_eq_false (fun z => h (V.int.inj z))]
  rw [e]; exact k⟩
theorem w_eqB {a b : Bool} (k : Q (.bl (decide (a = b))) H) : rEq (.bl a) (.bl b) H Q := ⟨rfl, by
  have e : decide (V.bl a = V.bl b) = decide (a = b) := by cases a <;> cases b <;> rfl
  rw [e]; exact k⟩
theorem w_ne (h : scal v w = true) (k : Q (.bl (!decide (v = w))) H) : rNe v w H Q := ⟨h, k⟩
theorem w_isN {R : Prop} (k : R) : V.non = V.non ∧ R := ⟨rfl, k⟩
theorem w_tup (h : ∀ xs, QA xs H → True) (k : tr σ H fun xs H1 => xs.length ≤ sizeLine ∧ ∀ p, H1 p = none → Q (.ref p) (upd H1 p (.tup xs))) : tTup tr σ H Q := k
theorem w_nil (k : QA [] H) : tNil σ H QA := k
theorem w_cons (k : ta σ H fun x H1 => tr σ H1 fun xs H2 => QA (x :: xs) H2) : tCons ta tr σ H QA := k
theorem w_test (k : te σ H fun x H' => ∃ k, x = .bl k ∧ QB k H') : tTest te σ H QB := k
theorem w_B (k : te σ H fun x H' => ∃ k, x = .bl k ∧ QB k H') : tB te σ H QB := k
theorem w_bl {b : Bool} {R : Bool → Prop} (k : R b) : ∃ k, V.bl b = .bl k ∧ R k := ⟨b, rfl, k⟩
theorem w_and (k : t σ H fun c H1 => if c = true then u σ H1 QB else QB false H1) : tAnd t u σ H QB := k
theorem w_or (k : t σ H fun c H1 => if c = true then QB true H1 else u σ H1 QB) : tOr t u σ H QB := k
theorem w_not (k : t σ H fun c H1 => QB (!c) H1) : tNot t σ H QB := k
theorem w_andV (k : ta σ H fun x H1 => ∃ c, x = .bl c ∧ if c = true then tb σ H1 Q else Q (.bl false) H1) : tAndV ta tb σ H Q := k
theorem w_orV (k : ta σ H fun x H1 => ∃ c, x = .bl c ∧ if c = true then Q (.bl true) H1 else tb σ H1 Q) : tOrV ta tb σ H Q := k
theorem w_notV (k : ta σ H fun x H1 => ∃ c, x = .bl c ∧ Q (.bl (!c)) H1) : tNotV ta σ H Q := k
theorem w_if (k : t σ H fun c H1 => if c = true then ta σ H1 Q else tb σ H1 Q) : tIf t ta tb σ H Q := k
theorem w_seq (k : s1 { D with nx := s2 D } σ H) : tSeq s1 s2 D σ H := k
theorem w_asg (k : te σ H fun x H1 => g x σ H1 D.nx) : tAsg te g D σ H := k
theorem w_gname {QS : L2.St → Hp → Prop} (h : σ.set i (some v) = σ') (k : QS σ' H) : gName i v σ H QS := by
  show QS (σ.set i (some v)) H
  rw [h]
  exact k
theorem w_par {v w : V} {R : V → V → Prop} (k : R v w) : ∃ v' w', [v, w] = [v', w'] ∧ R v' w' := ⟨v, w, rfl, k⟩
theorem w_nx {QS : L2.St → Hp → Prop} (h : σ = σ') (k : QS σ' H) : QS σ H := h ▸ k
theorem w_parT {i j : Nat} (k : tr σ H fun vs H1 => ∃ v w, vs = [v, w] ∧ D.nx ((σ.set i (some v)).set j (some w)) H1) : tPar i j tr D σ H := k
theorem w_ret (k : te σ H D.rt) : tRet te D σ H := k
theorem w_drop (k : te σ H fun _ H1 => D.nx σ H1) : tDrop te D σ H := k
theorem w_ifS (k : t σ H fun b H1 => if b = true then s1 D σ H1 else s2 D σ H1) : tIfS t s1 s2 D σ H := k
theorem w_next (k : D.nx σ H) : tNext D σ H := k
theorem w_cb {r : List V → Hp → VK → Prop} (k : tr σ H fun vs H1 => r vs H1 Q) : tCB r tr σ H Q := k
theorem w_call {sp : Sp} {dvs : List V} {E : XK} (k : tr σ H fun vs H1 => sp (vs ++ dvs) H1 Q E) : tCall sp dvs E tr σ H Q := k
theorem w_aug {ti : TIp} (h : σ[i]? = some (some v)) (k : te σ H fun y H1 => ti v y H1 fun z H2 => D.nx (σ.set i (some z)) H2) : tAug i te ti D σ H := ⟨v, h, k⟩
theorem w_ip {f : Int → Int → Int} {a b : Int} (k : Q (.int (f a b)) H) : ipI f (.int a) (.int b) H Q := ⟨a, b, rfl, rfl, k⟩
theorem w_bm {T : String} {rm : V → List V → Hp → VK → Prop} (k : ta σ H fun x H1 => tyV K T x H1 ∧ tr σ H1 fun xs H2 => rm x xs H2 Q) : tBM K T rm ta tr σ H Q := k
theorem w_sl {rs : V → Option Int → Option Int → Hp → VK → Prop} {tl th : TO} (k : te σ H fun x H1 => tl σ H1 fun l H2 => th σ H2 fun u H3 => rs x l u H3 Q) : tSl rs te tl th σ H Q := k
theorem w_np {QO : Option Int → Hp → Prop} (k : QO none H) : tNoPart σ H QO := k
theorem w_pt {QO : Option Int → Hp → Prop} (k : te σ H fun x H1 => ∃ i, x = .int i ∧ QO (some i) H1) : tPart te σ H QO := k
theorem w_pti {R : Int → Prop} {a : Int} (k : R a) : ∃ i, V.int a = .int i ∧ R i := ⟨a, rfl, k⟩
theorem w_gsub {to ti : TE} {ts : TSet} {QS : L2.St → Hp → Prop} (k : to σ H fun o H1 => ti σ H1 fun i H2 => ts o i v H2 fun H3 => QS σ H3) : gSub to ti ts v σ H QS := k
theorem w_ixL {p : Addr} {xs : List V} {j : Int} (hs : SqL K H p xs) (ha : atI xs j = some v) (k : Q v H) : rIxL K (.ref p) (.int j) H Q := ⟨p, xs, j, v, rfl, rfl, hs, ha, k⟩
theorem w_ixT {p : Addr} {xs : List V} {j : Int} (hs : SqT K H p xs) (ha : atI xs j = some v) (k : Q v H) : rIxT K (.ref p) (.int j) H Q := ⟨p, xs, j, v, rfl, rfl, hs, ha, k⟩
theorem w_int {a : Int} {R : Int → Prop} {S : Bool → Prop} (k : R a) : (∃ i, [V.int a] = [V.int i] ∧ R i) ∨ ∃ k : Bool, [V.int a] = [V.bl k] ∧ S k := .inl ⟨a, rfl, k⟩
theorem w_dec {p : Prop} [Decidable p] {A B : Prop} (h1 : p → A) (h2 : ¬ p → B) : if decide p = true then A else B := by
  by_cases h : p
  · rw [decide_eq_true h, if_pos rfl]; exact h1 h
  · rw [decide_eq_false h, if_neg Bool.false_ne_true]; exact h2 h
theorem w_decN {p : Prop} [Decidable p] {A B : Prop} (h1 : ¬ p → A) (h2 : p → B) : if (!decide p) = true then A else B := by
  by_cases h : p
  · rw [decide_eq_true h]; simp; exact h2 h
  · rw [decide_eq_false h]; simp; exact h1 h
theorem w_bool {b : Bool} {A B : Prop} (h1 : b = true → A) (h2 : b = false → B) : if b = true then A else B := by
  cases b with
  | true => rw [if_pos rfl]; exact h1 rfl
  | false => rw [if_neg Bool.false_ne_true]; exact h2 rfl
theorem w_T {A B : Prop} (h : A) : if true = true then A else B := by rw [if_pos rfl]; exact h
theorem w_F {A B : Prop} (h : B) : if false = true then A else B := by rw [if_neg Bool.false_ne_true]; exact h
end
section
variable {K : PySem.W.Frag} {H : Hp} {Q : VK} {v : V} {d : D}
/-- the type's name of data -/
def tyName : D → String
  | .none => "NoneType"
  | .bool _ => "bool"
  | .int _ => "int"
  | .str _ => "str"
  | .list _ => "list"
  | .tuple _ => "tuple"
  | .dict _ => "dict"
theorem dp_ty (h : Dp K H v d) : TyX K H v (.type (tyName d)) := by
  cases h with
  | non => exact .base .non
  | bl b => exact .base (.bl b)
  | int i => exact .base (.int i)
  | str x => exact .base (.str x)
  | lst hs _ =>
    rcases hs with (hs | ⟨o, hs⟩) | ⟨o, its, n, hk, hc, _⟩
    · exact .base (.lst hs)
    · exact .base (.frz hs)
    · exact .kList hk hc
  | tup hs _ =>
    rcases hs with (hs | ⟨o, hs⟩) | ⟨o, its, n, hk, hc, _⟩
    · exact .base (.tup hs)
    · exact .fTuple hs
    · exact .kTuple hk hc
def isInt : D → Bool
  | .int _ => true
  | _ => false
def isBool : D → Bool
  | .bool _ => true
  | _ => false
def isTup : D → Bool
  | .tuple _ => true
  | _ => false
def isLst : D → Bool
  | .list _ => true
  | _ => false
theorem w_isInt (h : Dp K H v d) (k : Q (.bl (isInt d || isBool d)) H) : rIsi K [v, .ty "int"] H Q := by
  refine ⟨v, .ty "int", .type (tyName d), .type "int", isInt d || isBool d, rfl, .ty "int", dp_ty h, ?_, k⟩
  refine kit_ty ?_
  cases h <;> simp only [tyName, isInt, isBool, isTup, isLst, Bool.or_self, Bool.or_false, Bool.false_or, Bool.or_true, Bool.true_or] <;> decide +kernel
theorem w_isBool (h : Dp K H v d) (k : Q (.bl (isBool d)) H) : rIsi K [v, .ty "bool"] H Q := by
  refine ⟨v, .ty "bool", .type (tyName d), .type "bool", isBool d, rfl, .ty "bool", dp_ty h, ?_, k⟩
  refine kit_ty ?_
  cases h <;> simp only [tyName, isInt, isBool, isTup, isLst, Bool.or_self, Bool.or_false, Bool.false_or, Bool.or_true, Bool.true_or] <;> decide +kernel
theorem w_isTup (h : Dp K H v d) (k : Q (.bl (isTup d)) H) : rIsi K [v, .ty "tuple"] H Q := by
  refine ⟨v, .ty "tuple", .type (tyName d), .type "tuple", isTup d, rfl, .ty "tuple", dp_ty h, ?_, k⟩
  refine kit_ty ?_
  cases h <;> simp only [tyName, isInt, isBool, isTup, isLst, Bool.or_self, Bool.or_false, Bool.false_or, Bool.or_true, Bool.true_or] <;> decide +kernel
theorem kit2 {t a b : String} {x y : Bool} (h1 : kitB t a = some x) (h2 : kitB t b = some y) : PySem.W.kitAny K (.type t) [.type a, .type b] = some (x || y) := by
  refine kitAny_cons (kit_ty h1) (fun e => ?_) (fun e => by rw [e]; rfl)
  rw [e, Bool.false_or]
  exact kitAny_cons (kit_ty h2) (fun e2 => by rw [e2]; rfl) (fun e2 => e2)
theorem w_isTL (h : Dp K H v d) {p : Addr} (hp : H p = some (.tup [.ty "tuple", .ty "list"])) (k : Q (.bl (isTup d || isLst d)) H) : rIsiT K [v, .ref p] H Q := by
  refine ⟨v, p, _, .type (tyName d), [.type "tuple", .type "list"], isTup d || isLst d, rfl, hp, .cons (.ty _) (.cons (.ty _) .nil), dp_ty h, ?_, k⟩
  refine kit2 ?_ ?_ <;> cases h <;> simp only [tyName, isInt, isBool, isTup, isLst, Bool.or_self, Bool.or_false, Bool.false_or, Bool.or_true, Bool.true_or] <;> decide +kernel
theorem w_isLT (h : Dp K H v d) {p : Addr} (hp : H p = some (.tup [.ty "list", .ty "tuple"])) (k : Q (.bl (isLst d || isTup d)) H) : rIsiT K [v, .ref p] H Q := by
  refine ⟨v, p, _, .type (tyName d), [.type "list", .type "tuple"], isLst d || isTup d, rfl, hp, .cons (.ty _) (.cons (.ty _) .nil), dp_ty h, ?_, k⟩
  refine kit2 ?_ ?_ <;> cases h <;> simp only [tyName, isInt, isBool, isTup, isLst, Bool.or_self, Bool.or_false, Bool.false_or, Bool.or_true, Bool.true_or] <;> decide +kernel
end
theorem bo_f (b : Bool) : (false || b) = b := rfl
theorem bo_t (b : Bool) : (true || b) = true := rfl
theorem ba_f (b : Bool) : (false && b) = false := rfl
theorem ba_t (b : Bool) : (true && b) = b := rfl
theorem bn_t : (!true) = false := rfl
theorem bn_f : (!false) = true := rfl
theorem small2 {n : Nat} (h : n ≤ 1000000 := by decide) : n ≤ sizeLine := Nat.le_trans h (by rw [sizeLine_eq]; decide)
section
variable {K : PySem.W.Frag} {σ : L2.St} {H : Hp} {Q : VK} {tr : TA}
/-- a tuple, a list displayed -/
theorem w_disp {vs : List V} {H1 : Hp} {o : List V → HO} (hl : vs.length ≤ 1000000) (k : ∀ p, H1 p = none → Q (.ref p) (upd H1 p (o vs))) : vs.length ≤ sizeLine ∧ ∀ p, H1 p = none → Q (.ref p) (upd H1 p (o vs)) := ⟨small2 hl, k⟩
theorem w_dispT {vs : List V} {H1 : Hp} {R : Addr → Prop} (hl : vs.length ≤ 1000000) (k : ∀ p, H1 p = none → R p) : vs.length ≤ sizeLine ∧ ∀ p, H1 p = none → R p := ⟨small2 hl, k⟩
theorem w_tupT (k : tr σ H fun xs H1 => xs.length ≤ sizeLine ∧ ∀ p, H1 p = none → Q (.ref p) (upd H1 p (.tup xs))) : tTup tr σ H Q := k
theorem w_lstT (k : tr σ H fun xs H1 => xs.length ≤ sizeLine ∧ ∀ p, H1 p = none → Q (.ref p) (upd H1 p (.lst xs))) : tLst tr σ H Q := k
end
end TH

namespace TH
open PySem PySem.Spec PyProof.Rows L2
section
variable {K : PySem.W.Frag} {a b : Addr} {xs ys : List V}
theorem walk_zipT {n : Nat} (hn : n = min xs.length ys.length) : Walk (RZ.ItzT K a b) n (fun H => SqT K H a xs ∧ SqT K H b ys) (YPair (fun i => xs[i]?) (fun i => ys[i]?)) := by
  subst hn
  refine ⟨fun i _ hi q => ?_, fun _ q => ⟨xs, ys, q.1, q.2, by omega⟩, fun i H v H' _ q y => ?_⟩
  · have h1 : i < xs.length := by omega
    have h2 : i < ys.length := by omega
    exact ⟨xs, ys, xs[i], ys[i], q.1, q.2, by simp [h1], by simp [h2]⟩
  · obtain ⟨T, x, z, h1, h2, h3, h4, h5⟩ := y
    exact ⟨T, x, z, h1, h2, h3, h4 xs q.1, h5 ys q.2⟩
end
section
variable {J : It} {n : Nat} {G : Hp → Prop} {Y : Nat → Hp → V → Hp → Prop} {K : PySem.W.Frag} {g : TG} {tt : TT} {te : TE} {vs : List Nat} {σ : L2.St} {H H1 : Hp} {Dl : Addr} {Q : VK} {wi : TI}
theorem w_lc (k : wi σ H fun J H1 => ∀ D, H1 D = none → ∃ W : Nat → Nat → Hp → Prop, (∃ m, W 0 m (upd H1 D (.lst []))) ∧ ∀ i m H, W i m H →
      (J.stop i H ∧ Q (.ref D) H) ∨ (J.go i H ∧ ∃ Nx : Hp → Prop, (∀ H', Nx H' → ∃ m', m' < m ∧ W (i + 1) m' H') ∧ ∀ x H', J.yld i H x H' → g x (wipe σ vs) H' fun σ2 H2 => wipe σ2 vs = wipe σ vs ∧ tt σ2 H2 fun b H3 =>
        if b = true then te σ2 H3 fun y H4 => ∃ acc, H4 D = some (.lst acc) ∧ acc.length < sizeLine ∧ Nx (upd H4 D (.lst (acc ++ [y]))) else Nx H3)) : tLc wi g tt te vs σ H Q := k
/-- the data of the turns that are kept -/
def made (n : Nat) (keep : Nat → Bool) (gd : Nat → D) : List D := ((List.range n).filter keep).map gd
theorem made_yes {n : Nat} {f : Nat → Bool} {v : Nat → D} (h : f n = true) : made (n + 1) f v = made n f v ++ [v n] := by
  unfold made
  rw [List.range_succ, List.filter_append, List.map_append, List.filter_cons, if_pos h] <;> rfl
theorem made_no {n : Nat} {f : Nat → Bool} {v : Nat → D} (h : f n = false) : made (n + 1) f v = made n f v := by
  unfold made
  rw [List.range_succ, List.filter_append, List.map_append, List.filter_cons, if_neg (by rw [h]; decide)]
  show _ ++ [] = _
  rw [List.append_nil]
theorem made_len (n : Nat) (f : Nat → Bool) (v : Nat → D) : (made n f v).length ≤ n := by
  unfold made
  rw [List.length_map]
  have h := List.length_filter_le f (List.range n)
  rw [List.length_range] at h
  exact h
theorem made_all (n : Nat) (v : Nat → D) : made n (fun _ => true) v = (List.range n).map v := by
  unfold made
  rw [List.filter_eq_self.mpr (fun _ _ => rfl)]
theorem made_imm {n : Nat} {f : Nat → Bool} {v : Nat → D} (h : ∀ i, imm (v i) = true) : immAll (made n f v) = true := by
  rw [immAll_iff]
  intro d hd
  obtain ⟨i, _, rfl⟩ := List.mem_map.mp hd
  exact h i
theorem lc_it' {σ0 : L2.St} {C : L2.St → Prop} {Qd : Hp → Prop} (w : Walk J n G Y) (Pv : Nat → Hp → Prop) (h0 : Pv 0 (upd H1 Dl (.lst []))) (hG : ∀ i H, i ≤ n → Pv i H → G H)
    (hs : ∀ i x H H', i < n → Pv i H → Y i H x H' → g x σ0 H' fun σ2 H2 => C σ2 ∧ tt σ2 H2 fun b H3 =>
      if b = true then te σ2 H3 fun y H4 => ∃ acc, H4 Dl = some (.lst acc) ∧ acc.length < sizeLine ∧ Pv (i + 1) (upd H4 Dl (.lst (acc ++ [y]))) else Pv (i + 1) H3) (hd : ∀ H, Pv n H → Qd H) :
    ∃ W : Nat → Nat → Hp → Prop, (∃ m, W 0 m (upd H1 Dl (.lst []))) ∧ ∀ i m H, W i m H →
      (J.stop i H ∧ Qd H) ∨ (J.go i H ∧ ∃ Nx : Hp → Prop, (∀ H', Nx H' → ∃ m', m' < m ∧ W (i + 1) m' H') ∧ ∀ x H', J.yld i H x H' → g x σ0 H' fun σ2 H2 => C σ2 ∧ tt σ2 H2 fun b H3 =>
        if b = true then te σ2 H3 fun y H4 => ∃ acc, H4 Dl = some (.lst acc) ∧ acc.length < sizeLine ∧ Nx (upd H4 Dl (.lst (acc ++ [y]))) else Nx H3) := by
  refine ⟨fun i m H => m = n - i ∧ i ≤ n ∧ Pv i H, ⟨n, by simp, Nat.zero_le _, h0⟩, ?_⟩
  rintro i m H ⟨rfl, hi, p⟩
  have q := hG i H hi p
  by_cases hlt : i < n
  · refine .inr ⟨w.goes i H hlt q, Pv (i + 1), fun H' p' => ⟨n - (i + 1), by omega, rfl, hlt, p'⟩, fun x H' y => hs i x H H' hlt p (w.yields i H x H' hlt q y)⟩
  · have e : i = n := by omega
    subst e
    exact .inl ⟨w.stops H q, hd H p⟩
/-- what a comprehension makes, whose turns keep all that was tracked -/
theorem lc_data {σ0 : L2.St} {C : L2.St → Prop} {Qd : Hp → Prop} (w : Walk J n G Y) (keep : Nat → Bool) (gd : Nat → D) (himm : ∀ i, imm (gd i) = true) (hG : ∀ H', Ex H1 H' → G H') (hD : H1 Dl = none) (hn : n ≤ 1000000)
    (hs : ∀ i x H' H'', i < n → Ex H1 H' → Y i H' x H'' → ∀ (R : VK) (R0 : Hp → Prop), (keep i = true → ∀ v H3, Ex H' H3 → Dp K H3 v (gd i) → R v H3) → (keep i = false → ∀ H3, Ex H' H3 → R0 H3) →
      g x σ0 H'' fun σ2 H2 => C σ2 ∧ tt σ2 H2 fun b H3 => if b = true then te σ2 H3 R else R0 H3)
    (k : ∀ H' ws, Ex H1 H' → H' Dl = some (.lst ws) → DpAll K H' ws (made n keep gd) → Qd H') :
    ∃ W : Nat → Nat → Hp → Prop, (∃ m, W 0 m (upd H1 Dl (.lst []))) ∧ ∀ i m H, W i m H →
      (J.stop i H ∧ Qd H) ∨ (J.go i H ∧ ∃ Nx : Hp → Prop, (∀ H', Nx H' → ∃ m', m' < m ∧ W (i + 1) m' H') ∧ ∀ x H', J.yld i H x H' → g x σ0 H' fun σ2 H2 => C σ2 ∧ tt σ2 H2 fun b H3 =>
        if b = true then te σ2 H3 fun y H4 => ∃ acc, H4 Dl = some (.lst acc) ∧ acc.length < sizeLine ∧ Nx (upd H4 Dl (.lst (acc ++ [y]))) else Nx H3) := by
  refine lc_it' w (fun i H' => Ex H1 H' ∧ ∃ ws, H' Dl = some (.lst ws) ∧ DpAll K H' ws (made i keep gd)) ⟨Ex.new hD, [], upd_same, .nil⟩ (fun i H' _ p => hG H' p.1) (fun i x H' H'' hi p y => ?_) (fun H' p => ?_)
  · obtain ⟨p1, ws, p2, p3⟩ := p
    refine hs i x H' H'' hi p1 y _ _ (fun hk v H3 e3 hv => ?_) (fun hk H3 e3 => ?_)
    · have q2 : H3 Dl = some (.lst ws) := e3 _ _ p2
      refine ⟨ws, q2, Nat.lt_of_le_of_lt (by rw [dpa_len p3]; exact made_len i keep gd) (Nat.lt_of_lt_of_le hi (small2 hn)), (p1.trans e3).mut hD, ws ++ [v], upd_same, ?_⟩
      rw [made_yes hk]
      exact dpa_snoc ((Tx.updL q2).dpa (made_imm himm) (e3.dpa p3)) ((Tx.updL q2).dp (himm i) hv)
    · refine ⟨p1.trans e3, ws, e3 _ _ p2, ?_⟩
      rw [made_no hk]
      exact e3.dpa p3
  · obtain ⟨p1, ws, p2, p3⟩ := p
    exact k H' ws p1 p2 p3
theorem for_go {nxD : L2.St → Hp → Prop} {rtD : VK} {tb : TS} (w : Walk J n G Y) (Pv : Nat → L2.St → Hp → Prop) (h0 : Pv 0 σ H) (hG : ∀ i σ H, i ≤ n → Pv i σ H → G H)
    (hs : ∀ i x σ H H', i < n → Pv i σ H → Y i H x H' → g x σ H' fun σ2 H2 => tb { nx := Pv (i + 1), rt := rtD, bk := nxD, ct := Pv (i + 1) } σ2 H2) (hd : ∀ σ H, Pv n σ H → nxD σ H) :
    ∃ W : Nat → Nat → L2.St → Hp → Prop, (∃ m, W 0 m σ H) ∧ ∀ i m σ H, W i m σ H →
      (J.stop i H ∧ nxD σ H) ∨ (J.go i H ∧ ∃ N : L2.St → Hp → Prop, (∀ σ' H', N σ' H' → ∃ m', m' < m ∧ W (i + 1) m' σ' H') ∧ ∀ x H', J.yld i H x H' → g x σ H' fun σ2 H2 => tb { nx := N, rt := rtD, bk := nxD, ct := N } σ2 H2) :=
  for_it (D := { nx := nxD, rt := rtD }) w Pv h0 hG hs hd
theorem w_gtup {a : Addr} {xs : List V} {m : Nat} {t : TGs} {QS : L2.St → Hp → Prop} (h : SqT K H a xs) (hl : xs.length = m) (k : t xs σ H QS) : gTup K m t (.ref a) σ H QS := ⟨a, xs, rfl, h, hl, k⟩
theorem w_gtup1 {a : Addr} {x : V} {t : TGs} {QS : L2.St → Hp → Prop} (h : H a = some (.tup [x])) (k : t [x] σ H QS) : gTup K 1 t (.ref a) σ H QS := ⟨a, _, rfl, sqT h, rfl, k⟩
theorem w_gtup2 {a : Addr} {x y : V} {t : TGs} {QS : L2.St → Hp → Prop} (h : H a = some (.tup [x, y])) (k : t [x, y] σ H QS) : gTup K 2 t (.ref a) σ H QS := ⟨a, _, rfl, sqT h, rfl, k⟩
theorem w_gtup3 {a : Addr} {x y z : V} {t : TGs} {QS : L2.St → Hp → Prop} (h : H a = some (.tup [x, y, z])) (k : t [x, y, z] σ H QS) : gTup K 3 t (.ref a) σ H QS := ⟨a, _, rfl, sqT h, rfl, k⟩
theorem w_gcons {v : V} {r : List V} {t : TG} {u : TGs} {QS : L2.St → Hp → Prop} (k : t v σ H fun σ' H' => u r σ' H' QS) : gCons t u (v :: r) σ H QS := ⟨v, r, rfl, k⟩
theorem w_gnil {QS : L2.St → Hp → Prop} (k : QS σ H) : gNil [] σ H QS := ⟨rfl, k⟩
theorem w_yes {QB : Bool → Hp → Prop} (k : QB true H) : tYes σ H QB := k
theorem ix5 {n : Nat} (a b c d e : V) : ixN [a, b, c, d, e].length (n : Int) = if n < 5 then some n else none := by
  unfold ixN
  rw [if_pos (by omega)]
  show (if (n : Int) < ((5 : Nat) : Int) then some n else none) = _
  by_cases h : n < 5
  · rw [if_pos h, if_pos (by omega)]
  · rw [if_neg h, if_neg (by omega)]
theorem w_set1 {p : Addr} {a b c d e v : V} {QH : Hp → Prop} (h : H p = some (.lst [a, b, c, d, e])) (k : QH (upd H p (.lst [a, v, c, d, e]))) : rSetL (.ref p) (.int 1) v H QH := ⟨p, _, 1, 1, rfl, rfl, h, ix5 (n := 1) a b c d e, k⟩
theorem w_set2 {p : Addr} {a b c d e v : V} {QH : Hp → Prop} (h : H p = some (.lst [a, b, c, d, e])) (k : QH (upd H p (.lst [a, b, v, d, e]))) : rSetL (.ref p) (.int 2) v H QH := ⟨p, _, 2, 2, rfl, rfl, h, ix5 (n := 2) a b c d e, k⟩
theorem w_set3 {p : Addr} {a b c d e v : V} {QH : Hp → Prop} (h : H p = some (.lst [a, b, c, d, e])) (k : QH (upd H p (.lst [a, b, c, v, e]))) : rSetL (.ref p) (.int 3) v H QH := ⟨p, _, 3, 3, rfl, rfl, h, ix5 (n := 3) a b c d e, k⟩
theorem w_set4 {p : Addr} {a b c d e v : V} {QH : Hp → Prop} (h : H p = some (.lst [a, b, c, d, e])) (k : QH (upd H p (.lst [a, b, c, d, v]))) : rSetL (.ref p) (.int 4) v H QH := ⟨p, _, 4, 4, rfl, rfl, h, ix5 (n := 4) a b c d e, k⟩
/-- tuple(a list) -/
theorem w_tupleL {p : Addr} {ys : List V} (h : SqL K H p ys) (k : ∀ l, H l = none → Q (.ref l) (upd H l (.tup ys))) :
    (fun xs H Q => ∃ p ys, xs = [V.ref p] ∧ ((SqL K H p ys ∧ ∀ l, H l = none → Q (.ref l) (upd H l (.tup ys))) ∨ (SqT K H p ys ∧ Q (.ref p) H))) [V.ref p] H Q := ⟨p, ys, rfl, .inl ⟨h, k⟩⟩
end
section
variable {K : PySem.W.Frag} {σ : L2.St} {H : Hp} {tl : TE} {ta : TA} {R : It → Hp → Prop}
theorem w_itup (k : tl σ H fun x H1 => ∃ a, x = .ref a ∧ (∃ xs, SqT K H1 a xs) ∧ R (Itt K a) H1) : iTup K tl σ H R := k
theorem w_ilist (k : tl σ H fun x H1 => ∃ a, x = .ref a ∧ (∃ xs, SqL K H1 a xs) ∧ R (Itl K a) H1) : iList K tl σ H R := k
theorem w_ienum (k : ta σ H fun vs H1 => ∃ a xs, vs = [.ref a] ∧ ((SqL K H1 a xs ∧ R (Ite K a) H1) ∨ (SqT K H1 a xs ∧ R (IteT K a) H1))) : iEnumA K ta σ H R := k
theorem w_izip (k : ta σ H fun vs H1 => ∃ a b xs ys, vs = [.ref a, .ref b] ∧ ((SqL K H1 a xs ∧ SqL K H1 b ys ∧ R (Itz K a b) H1) ∨ (SqT K H1 a xs ∧ SqT K H1 b ys ∧ R (RZ.ItzT K a b) H1))) : RZ.iZipA K ta σ H R := k
theorem w_irng1 (k : ta σ H fun vs H1 => ∃ j : Int, vs = [.int j] ∧ -(2 ^ 62) ≤ j ∧ j < 2 ^ 62 ∧ R (Itr 0 j.toNat) H1) : iRng1 ta σ H R := k
theorem w_irng2 (k : ta σ H fun vs H1 => ∃ i j : Int, vs = [.int i, .int j] ∧ (-(2 ^ 62) ≤ i ∧ i < 2 ^ 62 ∧ -(2 ^ 62) ≤ j ∧ j < 2 ^ 62) ∧ R (Itr i (j - i).toNat) H1) : iRng2 ta σ H R := k
theorem w_for {g : TG} {tb : TS} {wi : TI} {D : Ends} (k : wi σ H fun J H1 => ∃ W : Nat → Nat → L2.St → Hp → Prop, (∃ m, W 0 m σ H1) ∧ ∀ i m σ H, W i m σ H →
      (J.stop i H ∧ D.nx σ H) ∨ (J.go i H ∧ ∃ N : L2.St → Hp → Prop, (∀ σ' H', N σ' H' → ∃ m', m' < m ∧ W (i + 1) m' σ' H') ∧ ∀ x H', J.yld i H x H' → g x σ H' fun σ2 H2 => tb { D with nx := N, ct := N, bk := D.nx } σ2 H2)) : tFor wi g tb D σ H := k
end
/-- items at places -/
theorem atI_at {xs : List V} {j : Nat} {v : V} (h : xs[j]? = some v) : atI xs (j : Int) = some v := by
  have hj : j < xs.length := (List.getElem?_eq_some_iff.mp h).1
  unfold atI ixN
  rw [if_pos (by omega), if_pos (by omega)]
  simpa using h
theorem atI_int {ns : List Int} {j : Nat} {x : Int} (h : ns[j]? = some x) : atI (ns.map V.int) (j : Int) = some (.int x) := atI_at (by rw [List.getElem?_map, h]; rfl)
theorem ints_at {ns : List Int} {i : Nat} {v : V} (h : (ns.map V.int)[i]? = some v) : ∃ x, ns[i]? = some x ∧ v = .int x := by
  rw [List.getElem?_map] at h
  cases e : ns[i]? with
  | none => rw [e] at h; cases h
  | some x => rw [e] at h; exact ⟨x, rfl, (Option.some.inj h).symm⟩
theorem CDiv.mk {i j : Int} (h1 : 0 < j) (h2 : j < 1073741824) : CDiv i j := ⟨h1, h2⟩
theorem CPow.mk {i j : Int} (h1 : 0 ≤ j) (h2 : j ≤ 1000000) (h3 : i.natAbs < 2 ^ 64) : CPow i j := ⟨h1, h2, h3⟩
theorem CMul.l {a b : Int} (h1 : -18446744073709551616 < a) (h2 : a < 18446744073709551616) : CMul a b := .inl ⟨h1, h2⟩
theorem CMul.r {a b : Int} (h1 : -18446744073709551616 < b) (h2 : b < 18446744073709551616) : CMul a b := .inr ⟨h1, h2⟩
section
variable {K : PySem.W.Frag} {H : Hp}
theorem dpa_bools_inv : ∀ {bs : List Bool} {vs : List V}, DpAll K H vs (bs.map PyData.bool) → vs = bs.map V.bl
  | [], _, .nil => rfl
  | n :: ns, _, .cons h t => by
    cases h
    rw [dpa_bools_inv t]
    rfl
theorem dp_rowT {a : Addr} {ns : List Int} (h : Dp K H (.ref a) (row ns)) : SqT K H a (ns.map V.int) := by
  obtain ⟨b, e, h2⟩ := dp_row h
  cases e
  exact h2
theorem dp_tup {v : V} {ds : List D} (h : Dp K H v (.tuple ds)) : ∃ a vs, v = .ref a ∧ SqT K H a vs ∧ DpAll K H vs ds := by
  cases h with
  | tup hs ha => exact ⟨_, _, rfl, hs, ha⟩
theorem dp_lst {v : V} {ds : List D} (h : Dp K H v (.list ds)) : ∃ a vs, v = .ref a ∧ SqL K H a vs ∧ DpAll K H vs ds := by
  cases h with
  | lst hs ha => exact ⟨_, _, rfl, hs, ha⟩
theorem dp_int {v : V} {i : Int} (h : Dp K H v (.int i)) : v = .int i := by cases h; rfl
end
theorem range_map {α β : Type} (d : α) (f : α → β) : ∀ xs : List α, (List.range xs.length).map (fun i => f (xs.getD i d)) = xs.map f := fun xs => by
  apply List.ext_getElem
  · simp
  · intro i h1 h2
    have hi : i < xs.length := by simpa using h1
    simp [List.getD_eq_getElem?_getD, hi]
theorem range_zip {α β γ : Type} (d : α) (e : β) (f : α → β → γ) (xs : List α) (ys : List β) : (List.range (min xs.length ys.length)).map (fun i => f (xs.getD i d) (ys.getD i e)) = List.zipWith f xs ys := by
  apply List.ext_getElem
  · simp
  · intro i h1 h2
    have hi : i < xs.length ∧ i < ys.length := by
      have h1' : i < min xs.length ys.length := by simpa using h1
      omega
    simp [List.getD_eq_getElem?_getD, hi.1, hi.2]
theorem getD_of {α : Type} {xs : List α} {i : Nat} {x d : α} (h : xs[i]? = some x) : xs.getD i d = x := by rw [List.getD_eq_getElem?_getD, h]; rfl
end TH

namespace TH
open PySem PySem.Spec PyProof.Rows L2
/-! ### a list whose items are told by a word alone -/
def LstP (h : Addr) (ψ : List V → Prop) : HO := .ext fun hp => ∃ xs : List V, ψ xs ∧ xs.length ≤ sizeLine ∧ ∃ (its : List Value) (n : Nat), Vals xs its ∧ hp.get? h = some { cls := .type "list", data := .seq its.toArray n }
section
variable {P : Program} {w : World} {H H' : Hp} {hp hp' : Heap} {h : Addr} {ψ : List V → Prop} {xs : List V} {fs ex : List Addr}
theorem lstP_ok (q : ψ xs) (o : ObjOk P w H hp h (.lst xs)) : ObjOk P w H' hp h (LstP h ψ) := by
  obtain ⟨z, its, n, r, e⟩ := o
  exact ⟨⟨xs, q, z, its, n, r, e⟩, ⟨_, e⟩, fun h1 h2 ⟨ys, q1, z1, its1, n1, r1, e1⟩ k => ⟨ys, q1, z1, its1, n1, r1, k _ e1⟩⟩
theorem lstP_of (o : ObjOk P w H hp h (LstP h ψ)) : ∃ xs, ψ xs ∧ ∀ H', ObjOk P w H' hp h (.lst xs) := by
  obtain ⟨⟨xs, q, z, its, n, r, e⟩, _⟩ := o
  exact ⟨xs, q, fun _ => ⟨z, its, n, r, e⟩⟩
/-- the heap told otherwise at h -/
theorem hok_re {o u : HO} (x : HOk P w H hp) (e : H h = some o) (ho : ∀ y, o ≠ .own y) (ht : ∀ ys, o ≠ .tup ys) (new : ObjOk P w (upd H h u) hp h u) : HOk P w (upd H h u) hp := fun b v q => by
  by_cases hb : b = h
  · subst hb
    rw [upd_same] at q
    cases q
    exact new
  · rw [upd_ne hb] at q
    refine (x b v q).stay (fun _ _ _ r => r) (fun c r => ?_) (fun c ys r => ?_)
    · rw [upd_ne (fun z => by rw [z, e] at r; exact ho _ (Option.some.inj r))]
      exact r
    · rw [upd_ne (fun z => by rw [z, e] at r; exact ht _ (Option.some.inj r))]
      exact r
theorem un_in {xs : List V} {u : HO} (e : H h = some (LstP h ψ)) (x : Un fs ex (upd H h (.lst xs)) H' hp hp') : Un fs ex H (upd H' h u) hp hp' where
  keep := fun b o q n hb hx => x.keep b o q (by rw [upd_ne (fun z => by rw [z, e] at n; cases n)]; exact n) hb hx
  slot := fun b o q n hb hx => x.slot b o q (by rw [upd_ne (fun z => by rw [z, e] at n; cases n)]; exact n) hb hx
  free := fun b o q n hx => by
    have hb : b ≠ h := fun z => by rw [z, e] at n; cases n
    rw [upd_ne hb]
    exact x.free b o q (by rw [upd_ne hb]; exact n) hx
  there := x.there
  tups := fun b ys q => by
    have hb : b ≠ h := fun z => by rw [z, e] at q; cases q
    rw [upd_ne hb]
    exact x.tups b ys (by rw [upd_ne hb]; exact q)
  frzs := fun b o v q => by
    have hb : b ≠ h := fun z => by rw [z, e] at q; cases q
    rw [upd_ne hb]
    exact x.frzs b o v (by rw [upd_ne hb]; exact q)
  tbls := fun b ps q => by
    have hb : b ≠ h := fun z => by rw [z, e] at q; cases q
    rw [upd_ne hb]
    exact x.tbls b ps (by rw [upd_ne hb]; exact q)
theorem un_out {xs : List V} {u : HO} (e : H' h = some (.lst xs)) (hn : H h = none) (x : Un fs [] H H' hp hp') : Un fs [] H (upd H' h u) hp hp' where
  keep := x.keep
  slot := x.slot
  free := fun b o q n hx => by
    have z := x.free b o q n hx
    rw [upd_ne (fun y => by rw [y, e] at z; cases z)]
    exact z
  there := x.there
  tups := fun b ys q => by
    rw [upd_ne (fun z => by rw [z, hn] at q; cases q)]
    exact x.tups b ys q
  frzs := fun b o v q => by
    rw [upd_ne (fun z => by rw [z, hn] at q; cases q)]
    exact x.frzs b o v q
  tbls := fun b ps q => by
    rw [upd_ne (fun z => by rw [z, hn] at q; cases q)]
    exact x.tbls b ps q
end
section
variable {P : Program} {w : World} {K : PySem.W.Frag} {mg : Str → Option Value} {base : Heap} {k : Nat} {f : Addr} {fd : FuncData} {ps : List Str} {sp sp' : Sp}
/-- a def that changes such a list, told from within -/
theorem fn_hide (F : FnOk P w K mg base C8.CX0 k f fd ps sp)
    (hs : ∀ vs H Q E, sp' vs H Q E → ∃ (h : Addr) (ψ : List V → Prop), H h = some (LstP h ψ) ∧ (∃ xs, ψ xs) ∧ ∀ xs, ψ xs → sp vs (upd H h (.lst xs)) (fun v H' => ∃ xs', ψ xs' ∧ H' h = some (.lst xs') ∧ Q v (upd H' h (LstP h ψ))) E) :
    FnOk P w K mg base C8.CX0 k f fd ps sp' := by
  refine ⟨fun vs H Q E q => ?_, fun A outer s H args us vs Q E hr e0 hb hv q => ?_⟩
  · obtain ⟨h, ψ, _, ⟨xs, hx⟩, g⟩ := hs vs H Q E q
    exact F.len _ _ _ _ (g xs hx)
  · obtain ⟨h, ψ, e, _, g⟩ := hs vs H Q E q
    obtain ⟨xs, hx, ob⟩ := lstP_of (e0.hok h _ e)
    have nh : ∀ b, H b = none → b ≠ h := fun b n z => by rw [z, e] at n; cases n
    have e1 : Env0 P w K mg base A outer s (upd H h (.lst xs)) := ⟨e0.frames, e0.mod, fun b o q => ⟨(e0.bs b o q).1, by rw [upd_ne (nh b (e0.bs b o q).2)]; exact (e0.bs b o q).2⟩, e0.bsz, e0.funs, fun b hb => by rw [upd_ne (nh b (e0.frf b hb))]; exact e0.frf b hb,
      hok_re e0.hok e (fun _ z => by cases z) (fun _ z => by cases z) (ob _), e0.bare⟩
    refine codeAny_mono (F.run A outer s _ args us vs _ E hr e1 hb hv (g xs hx)) fun r s' c => ?_
    cases r with
    | error e => exact c
    | ok fl =>
      cases fl with
      | next => exact c
      | brk => exact c
      | cont => exact c
      | ret u =>
        obtain ⟨v, H', os, bare, un, hok, rv, xs', hx', eh, qq⟩ := c
        exact ⟨v, _, os, bare, un_in e un, hok_re hok eh (fun _ z => by cases z) (fun _ z => by cases z) (lstP_ok hx' (hok h _ eh)), rv, qq⟩
/-- a def that hands back such a list -/
theorem fn_seal (F : FnOk P w K mg base C8.CX0 k f fd ps sp)
    (hs : ∀ vs H Q E, sp' vs H Q E → sp vs H (fun v H' => ∃ (h : Addr) (ψ : List V → Prop) (xs : List V), H h = none ∧ ψ xs ∧ H' h = some (.lst xs) ∧ Q v (upd H' h (LstP h ψ))) E) :
    FnOk P w K mg base C8.CX0 k f fd ps sp' := by
  refine ⟨fun vs H Q E q => F.len _ _ _ _ (hs vs H Q E q), fun A outer s H args us vs Q E hr e0 hb hv q => ?_⟩
  refine codeAny_mono (F.run A outer s _ args us vs _ E hr e0 hb hv (hs vs H Q E q)) fun r s' c => ?_
  cases r with
  | error e => exact c
  | ok fl =>
    cases fl with
    | next => exact c
    | brk => exact c
    | cont => exact c
    | ret u =>
      obtain ⟨v, H', os, bare, un, hok, rv, h, ψ, xs, hn, hx, eh, qq⟩ := c
      exact ⟨v, _, os, bare, un_out eh hn un, hok_re hok eh (fun _ z => by cases z) (fun _ z => by cases z) (lstP_ok hx (hok h _ eh)), rv, qq⟩
theorem cal_hide {x : Str} (F : C8.Cal P w K mg base k x sp [])
    (hs : ∀ vs H Q E, sp' vs H Q E → ∃ (h : Addr) (ψ : List V → Prop), H h = some (LstP h ψ) ∧ (∃ xs, ψ xs) ∧ ∀ xs, ψ xs → sp vs (upd H h (.lst xs)) (fun v H' => ∃ xs', ψ xs' ∧ H' h = some (.lst xs') ∧ Q v (upd H' h (LstP h ψ))) E) :
    C8.Cal P w K mg base k x sp' [] := by
  obtain ⟨f, fd, ps, ds, G, a, b, c, d⟩ := F.ex
  exact ⟨f, fd, ps, ds, fn_hide G hs, a, b, c, d⟩
theorem cal_seal {x : Str} (F : C8.Cal P w K mg base k x sp [])
    (hs : ∀ vs H Q E, sp' vs H Q E → sp vs H (fun v H' => ∃ (h : Addr) (ψ : List V → Prop) (xs : List V), H h = none ∧ ψ xs ∧ H' h = some (.lst xs) ∧ Q v (upd H' h (LstP h ψ))) E) :
    C8.Cal P w K mg base k x sp' [] := by
  obtain ⟨f, fd, ps, ds, G, a, b, c, d⟩ := F.ex
  exact ⟨f, fd, ps, ds, fn_seal G hs, a, b, c, d⟩
end
end TH

namespace TH
open PySem PySem.Spec PyProof.Rows L2
section
variable {K : PySem.W.Frag} {σ : L2.St} {H : Hp} {Q : VK} {l : Addr} {xs : List V} {tr : TA}
theorem tyL (h : H l = some (.lst xs)) : tyV K "list" (.ref l) H := .inl ⟨rfl, _, sqL h⟩
theorem w_app {y : V} (h : H l = some (.lst xs)) (hz : xs.length < 1000000) (k : Q .non (upd H l (.lst (xs ++ [y])))) : rAppend (.ref l) [y] H Q := ⟨l, xs, y, rfl, rfl, h, Nat.lt_of_lt_of_le hz (small2 (Nat.le_refl _)), k⟩
theorem w_popAt {j : Nat} {y : V} (h : H l = some (.lst xs)) (hy : xs[j]? = some y) (hz : xs.length ≤ 1000000) (k : Q y (upd H l (.lst (xs.eraseIdx j)))) : rPopAt (.ref l) [.int (j : Nat)] H Q := by
  have hj : j < xs.length := (List.getElem?_eq_some_iff.mp hy).1
  refine ⟨l, xs, j, j, y, rfl, rfl, h, by omega, by omega, ?_, hy, k⟩
  unfold seqIndex?
  have h1 : ¬ ((j : Int) < 0) := by omega
  have h2 : ((0 : Int) ≤ (j : Int) && decide ((j : Int) < (xs.length : Int))) = true := by simp; omega
  simp only [if_neg h1]
  rw [if_pos h2]
  rfl
theorem w_isrng {j : Int} {R : Int → Prop} (h0 : -1000000000 ≤ j) (h1 : j ≤ 1000000000) (k : R j) : ∃ j' : Int, [V.int j] = [.int j'] ∧ -(2 ^ 62) ≤ j' ∧ j' < 2 ^ 62 ∧ R j' := ⟨j, rfl, by omega, by omega, k⟩
theorem w_parT3 {i j m : Nat} {D : Ends} (k : tr σ H fun vs H1 => ∃ u v w, vs = [u, v, w] ∧ D.nx (((σ.set i (some u)).set j (some v)).set m (some w)) H1) : tPar3 i j m tr D σ H := k
theorem w_par3 {u v w : V} {R : V → V → V → Prop} (k : R u v w) : ∃ u' v' w', [u, v, w] = [u', v', w'] ∧ R u' v' w' := ⟨u, v, w, rfl, k⟩
/-- items in another order -/
theorem dpa_perm {xs ys : List V} (p : ys.Perm xs) : ∀ {ds : List D}, DpAll K H xs ds → ∃ es, es.Perm ds ∧ DpAll K H ys es := by
  induction p with
  | nil => intro ds h; cases h; exact ⟨[], .nil, .nil⟩
  | cons x _ ih =>
    intro ds h
    cases h with
    | cons h1 h2 =>
      obtain ⟨es, p1, p2⟩ := ih h2
      exact ⟨_ :: es, .cons _ p1, .cons h1 p2⟩
  | swap x y _ =>
    intro ds h
    cases h with
    | cons h1 h2 => cases h2 with
      | cons h3 h4 => exact ⟨_, .swap _ _ _, .cons h3 (.cons h1 h4)⟩
  | trans _ _ ih1 ih2 =>
    intro ds h
    obtain ⟨es, p1, p2⟩ := ih2 h
    obtain ⟨fs, p3, p4⟩ := ih1 p2
    exact ⟨fs, p3.trans p1, p4⟩
theorem erase_perm {α : Type} : ∀ {xs : List α} {j : Nat} {y : α}, xs[j]? = some y → (y :: xs.eraseIdx j).Perm xs
  | [], _, _, h => by simp at h
  | x :: xs, 0, y, h => by cases h; exact .refl _
  | x :: xs, j + 1, y, h => .trans (.swap _ _ _) (.cons x (erase_perm (xs := xs) (j := j) (y := y) (by simpa using h)))
/-- what is left and what was taken, after one more -/
theorem perm_take {α : Type} {xs fd lf : List α} {j : Nat} {y : α} (p : (fd ++ lf).Perm xs) (h : lf[j]? = some y) : ((fd ++ [y]) ++ lf.eraseIdx j).Perm xs := by
  refine .trans ?_ p
  rw [List.append_assoc]
  refine List.Perm.append_left fd ?_
  exact erase_perm h
end
section
variable {J : It} {n : Nat} {G : Hp → Prop} {Y : Nat → Hp → V → Hp → Prop} {K : PySem.W.Frag} {g : TG} {te : TE} {H1 : Hp} {Dl : Addr}
/-- what a comprehension without if makes, whose items are told by a word alone -/
theorem lc_some {σ0 : L2.St} {C : L2.St → Prop} {Qd : Hp → Prop} (w : Walk J n G Y) (φ : Nat → D → Prop) (himm : ∀ i d, φ i d → imm d = true) (hG : ∀ H', Ex H1 H' → G H') (hD : H1 Dl = none) (hn : n ≤ 1000000)
    (hs : ∀ i x H' H'', i < n → Ex H1 H' → Y i H' x H'' → ∀ (R : VK), (∀ v d H3, Ex H' H3 → φ i d → Dp K H3 v d → R v H3) → g x σ0 H'' fun σ2 H2 => C σ2 ∧ te σ2 H2 R)
    (k : ∀ H' ws ds, Ex H1 H' → H' Dl = some (.lst ws) → ds.length = n → (∀ i d, ds[i]? = some d → φ i d) → DpAll K H' ws ds → Qd H') :
    ∃ W : Nat → Nat → Hp → Prop, (∃ m, W 0 m (upd H1 Dl (.lst []))) ∧ ∀ i m H, W i m H →
      (J.stop i H ∧ Qd H) ∨ (J.go i H ∧ ∃ Nx : Hp → Prop, (∀ H', Nx H' → ∃ m', m' < m ∧ W (i + 1) m' H') ∧ ∀ x H', J.yld i H x H' → g x σ0 H' fun σ2 H2 => C σ2 ∧ tYes σ2 H2 fun b H3 =>
        if b = true then te σ2 H3 fun y H4 => ∃ acc, H4 Dl = some (.lst acc) ∧ acc.length < sizeLine ∧ Nx (upd H4 Dl (.lst (acc ++ [y]))) else Nx H3) := by
  refine lc_it' w (fun i H' => Ex H1 H' ∧ ∃ ws ds, H' Dl = some (.lst ws) ∧ ds.length = i ∧ (∀ j d, ds[j]? = some d → φ j d) ∧ DpAll K H' ws ds) ⟨Ex.new hD, [], [], upd_same, rfl, fun j d h => by simp at h, .nil⟩ (fun i H' _ p => hG H' p.1) (fun i x H' H'' hi p y => ?_) (fun H' p => ?_)
  · obtain ⟨p1, ws, ds, p2, p3, p4, p5⟩ := p
    have := hs i x H' H'' hi p1 y (fun y H4 => ∃ acc, H4 Dl = some (.lst acc) ∧ acc.length < sizeLine ∧ (fun i H' => Ex H1 H' ∧ ∃ ws ds, H' Dl = some (.lst ws) ∧ ds.length = i ∧ (∀ j d, ds[j]? = some d → φ j d) ∧ DpAll K H' ws ds) (i + 1) (upd H4 Dl (.lst (acc ++ [y])))) (fun v d H3 e3 hφ hv => ?_)
    · exact this
    · have q2 : H3 Dl = some (.lst ws) := e3 _ _ p2
      have him : immAll ds = true := immAll_iff.mpr fun d hd => by
        obtain ⟨j, hj⟩ := List.mem_iff_getElem?.mp hd
        exact himm _ _ (p4 j d hj)
      refine ⟨ws, q2, Nat.lt_of_le_of_lt (by rw [dpa_len p5, p3]; exact Nat.le_refl _) (Nat.lt_of_lt_of_le hi (small2 hn)), (p1.trans e3).mut hD, ws ++ [v], ds ++ [d], upd_same, by rw [List.length_append, p3]; rfl, fun j d' hj => ?_, dpa_snoc ((Tx.updL q2).dpa him (e3.dpa p5)) ((Tx.updL q2).dp (himm _ _ hφ) hv)⟩
      rcases Nat.lt_or_ge j ds.length with z | z
      · rw [List.getElem?_append_left z] at hj
        exact p4 j d' hj
      · rw [List.getElem?_append_right z] at hj
        have z2 : j - ds.length = 0 := by
          refine Decidable.byContradiction fun z3 => ?_
          rw [List.getElem?_eq_none (by simp; omega)] at hj
          cases hj
        have z3 : j = i := by omega
        rw [z2] at hj
        subst z3
        cases hj
        exact hφ
  · obtain ⟨p1, ws, ds, p2, p3, p4, p5⟩ := p
    exact k H' ws ds p1 p2 p3 p4 p5
end
theorem walk_rng {n : Nat} : Walk (Itr 0 n) n (fun _ => True) (YFn fun i => .int (i : Nat)) := (walk_range (lo := 0) (n := n)).mono (fun _ h => h) fun i H x H' _ _ y => ⟨y.1, by
  have e := y.2
  simp only [Int.zero_add] at e
  exact e⟩
theorem getD_at {α : Type} {r : List α} {i : Nat} {d : α} (h : i < r.length) : r[i]? = some (r.getD i d) := by rw [List.getD_eq_getElem?_getD, List.getElem?_eq_getElem h]; rfl
theorem atI_zero {x : V} {xs : List V} : atI (x :: xs) 0 = some x := atI_at (xs := x :: xs) (j := 0) rfl
theorem erase_map {α β : Type} (f : α → β) : ∀ (xs : List α) (i : Nat), (xs.eraseIdx i).map f = (xs.map f).eraseIdx i
  | [], _ => rfl
  | _ :: _, 0 => rfl
  | x :: xs, i + 1 => by
    show f x :: (xs.eraseIdx i).map f = f x :: (xs.map f).eraseIdx i
    rw [erase_map f xs i]
theorem w_setN {H : Hp} {p : Addr} {j : Nat} {xs : List V} {v : V} {QH : Hp → Prop} (h : H p = some (.lst xs)) (hj : j < xs.length) (k : QH (upd H p (.lst (xs.set j v)))) : rSetL (.ref p) (.int (j : Nat)) v H QH := ⟨p, xs, j, j, rfl, rfl, h, by
  unfold ixN
  rw [if_pos (by omega), if_pos (by omega)]
  simp, k⟩
theorem rep_one {α : Type} (x : α) : ∀ k : Nat, (List.replicate k [x]).flatten = List.replicate k x
  | 0 => rfl
  | k + 1 => by rw [List.replicate_succ, List.flatten_cons, rep_one x k]; rfl
theorem dpa_rep {K : PySem.W.Frag} {H : Hp} {v : V} {d : D} (h : Dp K H v d) : ∀ k : Nat, DpAll K H (List.replicate k v) (List.replicate k d)
  | 0 => .nil
  | k + 1 => .cons h (dpa_rep h k)
/-- numbers told one by one -/
theorem ints_of {P : Nat → Int → Prop} : ∀ (ds : List D), (∀ i d, ds[i]? = some d → ∃ x, d = .int x ∧ P i x) → ∃ ns : List Int, ds = ns.map PyData.int ∧ ∀ i x, ns[i]? = some x → P i x
  | [], _ => ⟨[], rfl, fun i x h => by simp at h⟩
  | d :: ds, h => by
    obtain ⟨x, rfl, hx⟩ := h 0 d rfl
    obtain ⟨ns, rfl, hns⟩ := ints_of (P := fun i => P (i + 1)) ds fun i d hd => h (i + 1) d hd
    refine ⟨x :: ns, rfl, fun i y hy => ?_⟩
    cases i with
    | zero => cases hy; exact hx
    | succ i => exact hns i y hy
end TH

namespace TH
open PySem PySem.Spec PyProof.Rows L2
section
open PySem.W
variable {prog : Program} {w : World} {A : Around} {s : Shared}
/-- rows of one width can be sorted (the empty row, where it stands alone) -/
theorem sorts_rows {vs : List Value} {rs : List (List Int)} {wd : Nat} (e : EachIs (fun v d => ∃ as, Reads s.heap v d as) vs (rs.map row)) (hl : ∀ r ∈ rs, r.length = wd) (h1 : wd = 0 → rs.length ≤ 1) (hu : A.units + 3 < cLine) :
    SortsAt prog w A s (dataKind s.heap (rs.map row)) vs := by
  have hal : AllAlike (rs.map row) := AllAlike.of fun a b => by
    show alike (.tuple (a.map .int)) (.tuple (b.map .int)) = true
    simpa [alike] using alike_ints a b
  have hdep : ∀ d, d ∈ rs.map row → A.units + d.depth < cLine := fun d hd => by
    obtain ⟨r, _, rfl⟩ := List.mem_map.mp hd
    show A.units + (PyData.depthAll (r.map .int) + 1) < cLine
    rw [depth_ints]
    omega
  by_cases h0 : wd = 0
  · have hlen := h1 h0
    refine ⟨fun v hv => ?_, tuples' true, ?_, fun h2 => ?_⟩
    · obtain ⟨d, hd, as, r⟩ := e.left v hv
      exact ⟨_, dataKind_some hal hd r⟩
    · intro E x y a b Q ha hb hq
      obtain ⟨d, as, hd, ra, rfl⟩ := dataKind_inv ha
      obtain ⟨d', as', hd', rb, rfl⟩ := dataKind_inv hb
      obtain ⟨r1, m1, rfl⟩ := List.mem_map.mp hd
      obtain ⟨r2, m2, rfl⟩ := List.mem_map.mp hd'
      have z1 : r1 = [] := List.length_eq_zero_iff.mp (by rw [hl r1 m1, h0])
      have z2 : r2 = [] := List.length_eq_zero_iff.mp (by rw [hl r2 m2, h0])
      subst z1 z2
      have hq' : Q (dataLt (.tuple []) (.tuple [])) s := hq
      rw [dataLt_tuple] at hq'
      cases ra with
      | @tuple l o xs n _ _ g1 g2 g3 g4 =>
        cases rb with
        | @tuple l' o' xs' n' _ _ k1 k2 k3 k4 =>
          have n1 : xs.size = 0 := by simpa using SeqAt.ReadsAll.length _ _ _ g4
          have n2 : xs'.size = 0 := by simpa using SeqAt.ReadsAll.length _ _ _ k4
          refine kat_lt g1 g3 k1 k3 ?_
          refine katLex_alike [] [] 0 _ _ _ _ g4 k4 (by simp [alikeAll]) ?_ (fun _ _ x r t ex => nomatch ex) (by rw [n1, n2]; rfl) hq'
          show A.units + min (PyData.depthAll []) (PyData.depthAll []) < cLine
          simp [PyData.depthAll]
          omega
    · have := e.length
      rw [List.length_map] at this
      omega
  · refine SortsAt.data e hal (.inl fun d hd => ?_) hdep
    obtain ⟨r, m, rfl⟩ := List.mem_map.mp hd
    cases r with
    | nil => exact absurd (hl [] m).symm h0
    | cons x r => exact ⟨_, _, rfl⟩
end
/-! ### sorted(a dict whose keys are rows) -/
open PySem.W in
theorem sort_rows {prog : Program} {w : World} {A : Around} {E : Value → Shared → Prop} {s : Shared} {h0 : Heap} {a : Addr} {vs : List Value} {bs : List (V × D)} {R : Value → V × D → Prop} {rs : List (List Int)} {wd n : Nat} {Q : Value → Shared → Prop}
    (ho : s.heap.get? a = some (seqObj "list" vs.toArray n)) (old : ∀ b o, h0.get? b = some o → b ≠ a ∧ s.heap.get? b = some o) (hbs : bs.map (·.2) = rs.map row) (e : EachIs R vs bs) (er : EachIs (fun v b => ∃ as, Reads h0 v b.2 as) vs bs)
    (hl : ∀ r ∈ rs, r.length = wd) (h1 : wd = 0 → rs.length ≤ 1) (hL : bs.length ≤ sizeLine) (hu : A.units + 4 < cLine)
    (h : ∀ out, out.length = bs.length → EachIs R out (bs.mergeSort (dataLe false fun b => b.2)) → Q .none { s with heap := PyProof.Rows.sortedHeap s.heap a vs (List.toArray out) }) :
    wpAny (model prog w) A (call (.builtin "list.sort") [.ref a]) Q E s := by
  have er' : EachIs (fun v b => ∃ as, Reads (sortingHeap s.heap a vs) v b.2 as) vs bs := er.mono fun _ _ ⟨as, r⟩ => ⟨as, PyProof.Rows.Reads.keeps (fun b o q => sortingHeap_old (old b o q).1 (old b o q).2) r⟩
  have hal : AllAlike (bs.map fun b => b.2) := by
    rw [hbs]
    exact AllAlike.of fun a b => by
      show alike (.tuple (a.map .int)) (.tuple (b.map .int)) = true
      simpa [alike] using alike_ints a b
  have S : SortsAt prog w A.in1 { s with heap := sortingHeap s.heap a vs } (dataKind (sortingHeap s.heap a vs) (bs.map fun b => b.2)) vs := by
    have em := each_map (R := fun v d => ∃ as, Reads (sortingHeap s.heap a vs) v d as) (fun b : V × D => b.2) er'
    rw [hbs] at em ⊢
    exact sorts_rows (s := { s with heap := sortingHeap s.heap a vs }) em hl h1 (by show A.units + 1 + 3 < cLine; omega)
  refine wpAny_call_entry PyProof.Rows.slot_list_sort ⟨_, ho, rfl⟩ PyProof.Rows.entry_list_sort (list_sort_vals ho S (by rw [e.length]; exact hL) ⟨.none, rfl, ?_⟩) (PyProof.Rows.args_list_sort _)
  refine h _ ?_ (sortVals_data false e er' hal)
  rw [sortVals_length false rfl]
  exact e.length
/-- the dict's keys, told as rows -/
def KeyRows (kvs : List (List Key × V)) (rs : List (List Int)) : Prop := kvs.map (·.1) = rs.map fun r => r.map Sum.inl
theorem kv_row (r : List Int) : (r.map (Sum.inl : Int → Key)).map kV = r.map V.int := by
  rw [List.map_map]
  rfl
theorem keys_dpa {K : PySem.W.Frag} {H : Hp} : ∀ {kvs : List (List Key × V)} {bs : List Addr} {rs : List (List Int)}, IsKeys H kvs bs → KeyRows kvs rs → DpAll K H (bs.map V.ref) (rs.map row)
  | [], _, rs, .nil, e => by
    cases rs with
    | nil => exact .nil
    | cons r rs => cases e
  | p :: kvs, b :: bs, rs, .cons h t, e => by
    cases rs with
    | nil => cases e
    | cons r rs =>
      have e' : p.1 :: kvs.map (·.1) = (r.map Sum.inl) :: rs.map fun r => r.map Sum.inl := e
      injection e' with e1 e2
      rw [e1, kv_row] at h
      exact .cons (dp_row_of (sqT h)) (keys_dpa t e2)
def rSortedDT (K : PySem.W.Frag) : List V → Hp → VK → Prop := fun xs H Q => ∃ (d : Addr) (kvs : List (List Key × V)) (rs : List (List Int)) (wd : Nat), xs = [.ref d] ∧ Rd H d (.dT kvs) ∧ KeyRows kvs rs ∧ (∀ r ∈ rs, r.length = wd) ∧ (wd = 0 → rs.length ≤ 1) ∧
  ∀ (ws : List V) (p : Addr), H p = none → DpAll K H ws ((rs.map row).mergeSort (PySem.W.dataLe false id)) → Q (.ref p) (upd H p (.lst ws))
section
variable {X : Cx} {K : PySem.W.Frag}
theorem call_sortedDT (hc : X.calm = true) (hu : X.A.units + 64 < cLine) (hK : X.K = K := by rfl) : CallR X (.builtin "sorted") (rSortedDT K) := by
  subst hK
  intro pins s σ H xs us Q I r h
  obtain ⟨d, kvs, rs, wd, rfl, hd, hkr, hl, h1, q⟩ := h
  obtain ⟨u, rfl, rx⟩ := r.one
  obtain rfl : u = Value.ref d := rx
  obtain ⟨z, lo, ks, pr, o, es, ep, ho, hx, hdt, he, hn⟩ := (show ObjOk X.prog X.w H s.heap d (.dT kvs) from hd.ok I.hok)
  have l1 : es.size = ks.length := size_of_entries he
  have l2 : kvs.length = ks.length := Paired.length pr
  have l3 : kvs.length = rs.length := by
    have := congrArg List.length hkr
    simpa using this
  refine Calls.call_function_entry PyProof.Rows.kind_sorted PyProof.Rows.plain_sorted PyProof.Rows.entry_sorted (PyProof.Rows.args_sorted1 _) ?_
  unfold Builtin.«sorted»
  refine wpAny_bind (m := checkCount "sorted" 1 1 _) (wpAny_pure ?_)
  refine wpAny_bind (PySem.W.kdu_collect (A := X.A.in1) (kdl_raw lo hx hdt) (I.ok.hd hc) ho (by omega) fun h' tk acc kp it => ?_)
  have hal : acc.toList.length = ks.length := by
    rw [Array.length_toList, it.1]
    exact l1
  have ea : acc.toList = (ks.map fun x => x.2.1).map Value.ref := by
    refine List.ext_getElem (by rw [hal]; simp) fun j j1 j2 => ?_
    have hj : acc[j]? = some (acc.toList[j]) := by
      rw [← Array.getElem?_toList]
      exact List.getElem?_eq_getElem j1
    obtain ⟨en, g1, g2⟩ := it.2 j _ hj
    have qe := entry_at he j
    have jk : j < ks.length := by omega
    rw [g1, List.getElem?_eq_getElem jk] at qe
    have e2 : en = entryOfKey (tupleKind (mixKind X.prog X.w)) ks[j] := Option.some.inj qe
    rw [g2, e2, List.getElem_map, List.getElem_map]
    rfl
  have I1 : Inv X pins σ H { s with heap := h', toks := tk } := I.kept kp
  have rv : Vals ((ks.map fun x => x.2.1).map V.ref) acc.toList := by
    rw [ea]
    exact vals_refs _
  have hda : DpAll X.K H ((ks.map fun x => x.2.1).map V.ref) (rs.map row) := keys_dpa (isKeys_of pr) hkr
  have hL : acc.toList.length ≤ sizeLine := by omega
  refine wpAny_bind (wpAny_newList ?_ hL)
  have hoL : (h'.push (seqObj "list" acc.toList.toArray 0)).get? h'.objs.size = some (seqObj "list" acc.toList.toArray 0) := Heap.get?_push_size _ rfl
  show wpAny _ _ _ _ _ { s with heap := h'.push (seqObj "list" acc.toList.toArray 0), toks := tk }
  have em : (((ks.map fun x => x.2.1).map V.ref).zip (rs.map row)).map (·.2) = rs.map row := by
    rw [List.map_snd_zip]
    simp
    omega
  have e0 := each_of rv hda
  have er0 : PySem.W.EachIs (fun u (b : V × D) => ∃ as, Reads h' u b.2 as) acc.toList (((ks.map fun x => x.2.1).map V.ref).zip (rs.map row)) := e0.mono fun u b hb => Dp.reads I1 b.2 b.1 u hb.2 hb.1
  have hzl : (((ks.map fun x => x.2.1).map V.ref).zip (rs.map row)).length = acc.toList.length := e0.length.symm
  refine wpAny_bind (wpAny_holding (sort_rows (s := { s with heap := h'.push (seqObj "list" acc.toList.toArray 0), toks := tk }) (h0 := h') hoL (fun b ob e => ⟨Nat.ne_of_lt (Heap.lt_size e), Heap.get?_push_of_some _ e⟩) em e0 er0 hl h1 (by omega) (by
    show X.A.units + 1 + 4 < cLine
    omega) fun out hol heo => ?_))
  obtain ⟨e', he'⟩ := PyProof.Rows.sortedHeap_at (vs := acc.toList) (out := List.toArray out) hoL
  obtain ⟨hv, hdo⟩ := each_back heo
  have e2 : ((((ks.map fun x => x.2.1).map V.ref).zip (rs.map row)).mergeSort (PySem.W.dataLe false fun b => b.2)).map (·.2) = (rs.map row).mergeSort (PySem.W.dataLe false id) := by
    rw [PySem.W.sort_maps (s := PySem.W.dataLe false id) (fun b : V × D => b.2) (fun a _ b _ => dataLe_map _ a b), em]
  rw [e2] at hdo
  refine wpAny_pure ⟨_, rfl, .ref h'.objs.size, upd H h'.objs.size (.lst _), I1.laid (t' := tk) (fun b ob e => ?_) (Nat.le_refl _) ⟨?_, out, e', hv, he'⟩, rfl, q _ _ (I1.hok.fresh (Nat.le_refl _)) hdo⟩
  · have hb : b < h'.objs.size := Heap.lt_size e
    rw [PyProof.Rows.sortedHeap_old (Nat.ne_of_lt hb) (by rw [Heap.size_push]; exact Nat.lt_succ_of_lt hb)]
    exact Heap.get?_push_of_some _ e
  · rw [hv.length, hol, hzl]
    exact hL
end
end TH

namespace TH
open PySem PySem.Spec PyProof.Rows L2
/-! ### {k: v}, k a tuple -/
/-- the new dict stands empty while the pair is made -/
def tDispT1 (tk tv : TE) : TE := fun σ H Q => ∀ p, H p = none → tk σ (upd H p (.dT [])) fun x H1 => tv σ H1 fun y H2 => ∃ (b : Addr) (k : List Key), x = .ref b ∧ H2 p = some (.dT []) ∧ H2 b = some (.tup (k.map kV)) ∧ Q (.ref p) (upd H2 p (.dT [(k, y)]))
section
variable {X : Cx} {pos : Pos} {ke ve : Expr} {tk tv : TE}
theorem pe_dispT1 (hu : X.A.units + 1 < cLine) (hk : PE X ke tk) (hv : PE X ve tv) : PE X (.Dict [some ke] [ve] pos) (tDispT1 tk tv) := by
  refine ⟨fun pins s σ H Q I q => ?_⟩
  have hn := I.hok.fresh (Nat.le_refl s.heap.objs.size)
  have I1 : Inv X pins σ (upd H s.heap.objs.size (.dT [])) { s with heap := s.heap.push { cls := .type "dict", data := .dict #[] }, toks := s.toks } :=
    I.laid (fun b ob e => Heap.get?_push_of_some _ e) (Nat.le_refl _) (dt_empty s.heap I.big)
  refine wpAny_Dict_any rfl rfl (by simp) (by simp) ?_
  refine pairTrees_cons_walk (thn (hk.run pins _ σ _ _ I1 (q _ hn)) fun u s1 ⟨x, H1, I2, rx, q1⟩ => thn (hv.run pins s1 σ H1 _ I2 q1) fun y s2 ⟨yv, H2, I3, ry, b, k, ex, ed, eb, q2⟩ => pairTrees_nil_walk ?_)
  subst ex
  obtain rfl : u = Value.ref b := rx
  show wpAny _ _ (forIn _ _ _) _ _ _
  rw [List.forIn_cons]
  obtain ⟨z, lo, xs, rel, dd⟩ := dt_of I3.hok ed
  cases rel
  refine wpAny_bind (wpAny_bind (wpAny_dictSet_heap (hsz := Nat.zero_le _) (show X.A.units < cLine by omega) (key_of I3.hok eb) dd fun h' dd' same => wpAny_pure ?_))
  dsimp only
  rw [List.forIn_nil]
  refine wpAny_pure ?_
  obtain ⟨ob, es, ep, g1, g2, g3, g4, _, g5⟩ := dd'
  refine ⟨.ref s.heap.objs.size, _, d_write I3 (by rw [ed]; exact True.intro) same ⟨ob, g1⟩ (ob := .dT [(k, yv)]) ⟨by rw [sizeLine_eq]; simp, lo, storedH [] k b y, KT.keeps (KT.put (kvs := []) .nil k eb ry) fun c ys ec => ?_, ob, es, ep, g1, g2, g3, g4, g5⟩, rfl, q2⟩
  rw [upd_ne fun z => by rw [z, ed] at ec; cases ec]
  exact ec
end
/-! ### a promise told otherwise -/
section
variable {P : Program} {w : World} {K : PySem.W.Frag} {mg : Str → Option Value} {base : Heap} {k : Nat} {sp sp' : Sp} {x : Str} {C : Addr} {m : Str}
theorem fn_mono {f : Addr} {fd : FuncData} {ps : List Str} (F : FnOk P w K mg base C8.CX0 k f fd ps sp) (hs : ∀ vs H Q E, sp' vs H Q E → sp vs H Q E) : FnOk P w K mg base C8.CX0 k f fd ps sp' :=
  ⟨fun vs H Q E q => F.len _ _ _ _ (hs vs H Q E q), fun A outer s H args us vs Q E hr e0 hb hv q => F.run A outer s _ args us vs _ E hr e0 hb hv (hs vs H Q E q)⟩
theorem cal_mono {dvs : List V} (F : C8.Cal P w K mg base k x sp dvs) (hs : ∀ vs H Q E, sp' vs H Q E → sp vs H Q E) : C8.Cal P w K mg base k x sp' dvs := by
  obtain ⟨f, fd, ps, ds, G, a, b, c, d⟩ := F.ex
  exact ⟨f, fd, ps, ds, fn_mono G hs, a, b, c, d⟩
theorem met_mono {dvs : List V} (F : C8.Met P w K mg base k C m sp dvs) (hs : ∀ vs H Q E, sp' vs H Q E → sp vs H Q E) : C8.Met P w K mg base k C m sp' dvs := by
  obtain ⟨f, fd, ps, ds, c, me, G, b, d⟩ := F.ex
  exact ⟨f, fd, ps, ds, c, me, fn_mono G hs, b, d⟩
end
/-! ### name = {k: v for ..} on one line, the name a local -/
section
variable {X : Cx}
theorem ps_setDc {i : Nat} {y : Str} {py : Pos} {kx vx tg iter : Expr} {ifs : List Expr} {scope : Scope} {own : List (Str × Nat)} {pos spos : Pos} {wi : TI} {g : TG} {tt : TT} {tk tv : TE} (hc : X.calm = true) (hN : X.N.Nodup) (hy : X.N[i]? = some y) (hyl : X.env.scope.names.lookup y = some .local)
    (hsw : swapsWith (.DictComp kx vx [⟨tg, iter, ifs, 0⟩] scope pos) (some (.Name y py)) spos.line X.env = pure true) (hi : PI X tg iter wi) (ok : BlkOk X.N X.env.scope scope own)
    (hg : ∀ (s : Shared) (H : Hp) (C : Addr) (cl : List (Str × Addr)) (fp : List Addr), PG (X.blk s H scope (compEnvC scope cl C X.env) fp) tg g) (ht : ∀ (s : Shared) (H : Hp) (C : Addr) (cl : List (Str × Addr)) (fp : List Addr), PTs (X.blk s H scope (compEnvC scope cl C X.env) fp) ifs tt)
    (hk : ∀ (s : Shared) (H : Hp) (C : Addr) (cl : List (Str × Addr)) (fp : List Addr), PE (X.blk s H scope (compEnvC scope cl C X.env) fp) kx tk)
    (he : ∀ (s : Shared) (H : Hp) (C : Addr) (cl : List (Str × Addr)) (fp : List Addr), PE (X.blk s H scope (compEnvC scope cl C X.env) fp) vx tv) (hs : ∀ x, foldedSetIterable iter X.env x = pure x := by intro _; rfl) :
    PS X (.Assign [.Name y py] (.DictComp kx vx [⟨tg, iter, ifs, 0⟩] scope pos) spos) (tAsg (tDc wi g tt tk tv (own.map (·.2))) (gName i)) := by
  refine ⟨fun pins s σ H D I h => ?_⟩
  rw [exec_Assign_Name_used _ _ _ _ hsw]
  refine wpAny_bind (wpAny_standAt (wpAny_bind ?_))
  show wpAny _ X.A (do let _ ← comprehension (.DictComp kx vx [⟨tg, iter, ifs, 0⟩] scope pos) scope X.env (firstIterPos [⟨tg, iter, ifs, 0⟩] pos) newDict false (eval iter X.env) (some (assign (.Name y py) X.env))) _ _ s
  have h' : tDc wi g tt tk tv (own.map (·.2)) σ H (fun x H1 => gName i x σ H1 D.nx) := h
  refine wpAny_bind (thn (dc_core (Qf := fun _ s' => SP X pins D .next s') hc hN I hi ok hg ht hk he hs h' fun L C s' m H' I' q hn f => ?_) fun _ s' hq => wpAny_pure (wpAny_pure hq))
  show wpAny _ _ (assign (.Name y py) X.env (.ref L)) _ _ _
  refine wpAny_assign_Name (store_ok2 (v := V.ref L) I' hN hy (.inl hyl) rfl (fun s2 I2 ⟨a, sb, ha⟩ => ?_) (.inr hyl))
  obtain ⟨f0, f1, f2, f3, f4, f5⟩ := f
  have haC : C ≠ a := by
    intro e
    rcases ha with z | z
    · exact f1 (e.trans z)
    · exact f4 y a z e.symm
  refine ⟨m, hn.sameBut sb haC, fun h3 sb3 => ⟨_, H', I2.turned (t' := s2.toks) (fun b o hb e => (sb3.2 b hb).trans e) f0 f1 f3 f4 f5, q⟩⟩
theorem sw_trueD {kx vx : Expr} {gs : List Comprehension} {scope : Scope} {pos py : Pos} {y : Str} {l : Nat} {env : Env} (hk : env.scope.kind = .function) (hy : env.scope.names.lookup y = some .local) (hl : (py.line == pos.line) = true)
    (ha : (scope.names.any fun (n, k) => n == y && (k == .local || k == .cell)) = false) : swapsWith (.DictComp kx vx gs scope pos) (some (.Name y py)) l env = pure true := by
  have ky : env.kindOf y = some .local := hy
  have hb : env.blockKind = .function := by
    unfold Env.blockKind
    rw [hk]
    rfl
  unfold swapsWith
  simp only [hb, ky, ha, Expr.pos, hl]
  rfl
end
end TH

namespace TH
open PySem PySem.Spec PyProof.Rows L2
section
variable {K : PySem.W.Frag} {σ : L2.St} {H : Hp} {Q : VK} {D : Ends} {ta tb td ty tv tx tk te : TE} {tr : TA} {t : TS} {R : It → Hp → Prop}
theorem w_dput (k : tv σ H fun v H1 => td σ H1 fun x H2 => ty σ H2 fun y H3 => ∃ a H4, x = .ref a ∧ DPut H3 a y v H4 ∧ D.nx σ H4) : sDPut td ty tv D σ H := k
theorem w_lock (k : ∃ d u, H d = some u ∧ Mut (some u) ∧ ∀ od, t ⟨fun σ' H' => H' d = some (.frz od u) ∧ D.nx σ' (upd H' d u), fun v H' => H' d = some (.frz od u) ∧ D.rt v (upd H' d u), fun σ' H' => H' d = some (.frz od u) ∧ D.bk σ' (upd H' d u), fun σ' H' => H' d = some (.frz od u) ∧ D.ct σ' (upd H' d u)⟩ σ (upd H d (.frz od u))) : tLock t D σ H := k
theorem w_ikeys (k : td σ H fun x H1 => ∃ d o, x = .ref d ∧ ((∃ kvs, H1 d = some (.frz o (.dK kvs)) ∧ R (Itk d o kvs) H1) ∨ ∃ kvs, H1 d = some (.frz o (.dT kvs)) ∧ R (Itkt d o kvs) H1)) : iKeys td σ H R := k
theorem w_iitems (k : td σ H fun x H1 => ∃ d o kvs, x = .ref d ∧ H1 d = some (.frz o (.dK kvs)) ∧ R (Iti d o kvs) H1) : iItems td σ H R := k
theorem w_dispT1 (k : ∀ p, H p = none → tk σ (upd H p (.dT [])) fun x H1 => tv σ H1 fun y H2 => ∃ (b : Addr) (k : List Key), x = .ref b ∧ H2 p = some (.dT []) ∧ H2 b = some (.tup (k.map kV)) ∧ Q (.ref p) (upd H2 p (.dT [(k, y)]))) : tDispT1 tk tv σ H Q := k
theorem w_dnewT (k : ∀ p, H p = none → Q (.ref p) (upd H p (.dT []))) : tDNewT σ H Q := k
theorem w_dnewK (k : ∀ p, H p = none → Q (.ref p) (upd H p (.dK []))) : tDNewK σ H Q := k
theorem w_fld {f : Str} (k : ta σ H fun x H1 => ∃ a C dx fs v, x = .ref a ∧ H1 a = some (.ins C dx fs) ∧ Cls K C ∧ NoAttr K C f ∧ fs.lookup f = some v ∧ Q v H1) : tFld K ta f σ H Q := k
theorem w_sfld {f : Str} (k : tv σ H fun y H1 => ta σ H1 fun x H2 => ∃ a C dx fs, x = .ref a ∧ H2 a = some (.ins C dx fs) ∧ Cls K C ∧ NoAttr K C f ∧ fs.length < 1000 ∧ D.nx σ (upd H2 a (.ins C dx (putF f y fs)))) : sFld K ta tv f D σ H := k
theorem w_meth {C : Addr} {m : Str} {sp : Sp} {dvs : List V} {E : XK} (k : ta σ H fun x H1 => ∃ a dx fs, x = .ref a ∧ H1 a = some (.ins C dx fs) ∧ fs.lookup m = none ∧ tr σ H1 fun vs H2 => sp (x :: (vs ++ dvs)) H2 Q E) : tMeth C m sp dvs E ta tr σ H Q := k
theorem w_make {C : Addr} {sp : Sp} {dvs : List V} {E : XK} (k : tr σ H fun vs H1 => ∀ x dx, H1 x = none → H1 dx = none → dx ≠ x → sp (.ref x :: (vs ++ dvs)) (upd (upd H1 dx (.own x)) x (.ins C dx [])) (fun v H2 => v = .non ∧ Q (.ref x) H2) E) : tMake C sp dvs E tr σ H Q := k
theorem w_dget2 (k : td σ H fun x H1 => ∃ a, x = .ref a ∧ IsD H1 a ∧ ty σ H1 fun y H2 => tx σ H2 fun z H3 => ∃ o, DGet H3 a y o ∧ Q (o.getD z) H3) : tDGet2 td ty tx σ H Q := k
theorem w_revL (k : te σ H fun x H1 => ∃ a xs, x = .ref a ∧ SqL K H1 a xs ∧ ∀ p, H1 p = none → Q (.ref p) (upd H1 p (.lst xs.reverse))) : tRevL K te σ H Q := k
end
theorem hu64_of {A : Around} {k : Nat} (hr : Room k A) : A.units + 64 < cLine := hr.units
theorem Ex.both {H H' : Hp} {d : Addr} {u : HO} (e : Ex H H') : Ex (upd H d u) (upd H' d u) := fun a o h => by
  by_cases ha : a = d
  · subst ha
    rw [upd_same] at h ⊢
    exact h
  · rw [upd_ne ha] at h ⊢
    exact e a o h
theorem upd_comm' {H : Hp} {a b : Addr} {u v : HO} (h : b ≠ a) : upd (upd H a u) b v = upd (upd H b v) a u := by
  funext c
  by_cases h1 : c = a
  · subst h1
    rw [upd_ne (Ne.symm h), upd_same, upd_same]
  · by_cases h2 : c = b
    · subst h2
      rw [upd_same, upd_ne h1, upd_same]
    · rw [upd_ne h2, upd_ne h1, upd_ne h1, upd_ne h2]
/-! rows as keys -/
def insR (ks : List (List Int)) (r : List Int) : List (List Int) := if r ∈ ks then ks else ks ++ [r]
theorem mem_insR {ks : List (List Int)} {r x : List Int} : x ∈ insR ks r ↔ x ∈ ks ∨ x = r := by
  unfold insR
  split
  · next h => exact ⟨.inl, fun z => z.elim id fun e => e ▸ h⟩
  · rw [List.mem_append, List.mem_singleton]
theorem nodup_insR {ks : List (List Int)} {r : List Int} (h : ks.Nodup) : (insR ks r).Nodup := by
  unfold insR
  split
  · exact h
  · next hn => exact List.nodup_append.mpr ⟨h, by simp, fun a ha b hb e => hn (by rw [List.mem_singleton] at hb; rw [← hb, ← e]; exact ha)⟩
theorem inl_inj : ∀ {a b : List Int}, a.map (Sum.inl : Int → Key) = b.map Sum.inl → a = b
  | [], [], _ => rfl
  | [], _ :: _, h => by cases h
  | _ :: _, [], h => by cases h
  | x :: a, y :: b, h => by
    rw [List.map_cons, List.map_cons] at h
    injection h with h1 h2
    rw [Sum.inl.inj h1, inl_inj h2]
theorem keyRows_put {kvs : List (List Key × V)} {ks : List (List Int)} {r : List Int} {v : V} (h : KeyRows kvs ks) : KeyRows (putK kvs (r.map Sum.inl) v) (insR ks r) := by
  have hany : (kvs.any fun kv => decide (kv.1 = r.map Sum.inl)) = true ↔ r ∈ ks := by
    rw [List.any_eq_true]
    constructor
    · intro ⟨p, hp, e⟩
      have e1 := of_decide_eq_true e
      have hm : p.1 ∈ kvs.map (·.1) := List.mem_map.mpr ⟨p, hp, rfl⟩
      rw [h] at hm
      obtain ⟨r', hr', e2⟩ := List.mem_map.mp hm
      rw [e1] at e2
      rw [← inl_inj e2]
      exact hr'
    · intro hr
      have hm : r.map Sum.inl ∈ kvs.map (·.1) := by
        rw [h]
        exact List.mem_map.mpr ⟨r, hr, rfl⟩
      obtain ⟨p, hp, e⟩ := List.mem_map.mp hm
      exact ⟨p, hp, decide_eq_true e⟩
  unfold putK insR KeyRows
  by_cases hr : r ∈ ks
  · rw [if_pos (hany.mpr hr), if_pos hr, List.map_map, ← h]
    refine List.map_congr_left fun p _ => ?_
    show (if p.1 = r.map Sum.inl then (p.1, v) else p).1 = p.1
    split <;> rfl
  · rw [if_neg (fun z => hr (hany.mp z)), if_neg hr, List.map_append, List.map_append, h]
    rfl
theorem keyRows_len {kvs : List (List Key × V)} {ks : List (List Int)} (h : KeyRows kvs ks) : kvs.length = ks.length := by
  have := congrArg List.length h
  simpa using this
theorem keyRows_at {kvs : List (List Key × V)} {ks : List (List Int)} {i : Nat} {k : List Key} {v : V} (h : KeyRows kvs ks) (e : kvs[i]? = some (k, v)) : ∃ r, ks[i]? = some r ∧ k = r.map Sum.inl := by
  have h1 : (kvs.map (·.1))[i]? = some k := by rw [List.getElem?_map, e]; rfl
  rw [h, List.getElem?_map] at h1
  cases g : ks[i]? with
  | none => rw [g] at h1; cases h1
  | some r => rw [g] at h1; exact ⟨r, rfl, (Option.some.inj h1).symm⟩
end TH

namespace TH
open PySem PySem.Spec PyProof.Rows L2
section
variable {J : It} {n : Nat} {G : Hp → Prop} {Y : Nat → Hp → V → Hp → Prop} {g : TG} {tt : TT} {tk tv : TE} {vs : List Nat} {σ : L2.St} {H H1 : Hp} {Dl : Addr} {Q : VK} {wi : TI}
theorem w_dc (k : wi σ H fun J H1 => ∀ D, H1 D = none → ∃ W : Nat → Nat → Hp → Prop, (∃ m, W 0 m (upd H1 D (.dK []))) ∧ ∀ i m H, W i m H →
      (J.stop i H ∧ Q (.ref D) H) ∨ (J.go i H ∧ ∃ Nx : Hp → Prop, (∀ H', Nx H' → ∃ m', m' < m ∧ W (i + 1) m' H') ∧ ∀ x H', J.yld i H x H' → g x (wipe σ vs) H' fun σ2 H2 => wipe σ2 vs = wipe σ vs ∧ tt σ2 H2 fun b H3 =>
        if b = true then tk σ2 H3 fun y H4 => tv σ2 H4 fun z H5 => ∃ kvs k, y = kV k ∧ H5 D = some (.dK kvs) ∧ kvs.length < sizeLine ∧ Nx (upd H5 D (.dK (putK kvs k z))) else Nx H3)) : tDc wi g tt tk tv vs σ H Q := k
theorem dc_go {σ0 : L2.St} {C : L2.St → Prop} {Qd : Hp → Prop} (w : Walk J n G Y) (Pv : Nat → Hp → Prop) (h0 : Pv 0 (upd H1 Dl (.dK []))) (hG : ∀ i H, i ≤ n → Pv i H → G H)
    (hs : ∀ i x H H', i < n → Pv i H → Y i H x H' → g x σ0 H' fun σ2 H2 => C σ2 ∧ tt σ2 H2 fun b H3 =>
      if b = true then tk σ2 H3 fun y H4 => tv σ2 H4 fun z H5 => ∃ kvs k, y = kV k ∧ H5 Dl = some (.dK kvs) ∧ kvs.length < sizeLine ∧ Pv (i + 1) (upd H5 Dl (.dK (putK kvs k z))) else Pv (i + 1) H3) (hd : ∀ H, Pv n H → Qd H) :
    ∃ W : Nat → Nat → Hp → Prop, (∃ m, W 0 m (upd H1 Dl (.dK []))) ∧ ∀ i m H, W i m H →
      (J.stop i H ∧ Qd H) ∨ (J.go i H ∧ ∃ Nx : Hp → Prop, (∀ H', Nx H' → ∃ m', m' < m ∧ W (i + 1) m' H') ∧ ∀ x H', J.yld i H x H' → g x σ0 H' fun σ2 H2 => C σ2 ∧ tt σ2 H2 fun b H3 =>
        if b = true then tk σ2 H3 fun y H4 => tv σ2 H4 fun z H5 => ∃ kvs k, y = kV k ∧ H5 Dl = some (.dK kvs) ∧ kvs.length < sizeLine ∧ Nx (upd H5 Dl (.dK (putK kvs k z))) else Nx H3) := by
  refine ⟨fun i m H => m = n - i ∧ i ≤ n ∧ Pv i H, ⟨n, by simp, Nat.zero_le _, h0⟩, ?_⟩
  rintro i m H ⟨rfl, hi, p⟩
  have hg := hG i H hi p
  by_cases lt : i < n
  · exact .inr ⟨w.goes i H lt hg, Pv (i + 1), fun H' p' => ⟨n - (i + 1), by omega, rfl, lt, p'⟩, fun x H' y => hs i x H H' lt p (w.yields i H x H' lt hg y)⟩
  · obtain rfl : i = n := by omega
    exact .inl ⟨w.stops H hg, hd H p⟩
end
/-- what stood beside a locked object -/
theorem lock_back {H H' : Hp} {d a : Addr} {u o : HO} (g : Ex H (upd H' d u)) (ha : a ≠ d) (h : H a = some o) : H' a = some o := by
  have := g a o h
  rw [upd_ne ha] at this
  exact this
theorem lock_start {H : Hp} {d : Addr} {u o : HO} (h : H d = some u) : Ex H (upd (upd H d o) d u) := fun a x hx => by
  rw [upd_upd]
  by_cases e : a = d
  · rw [e] at hx ⊢
    rw [upd_same, ← h, hx]
  · rw [upd_ne e]
    exact hx
end TH

namespace TH
open PySem PySem.Spec PyProof.Rows L2
section
variable {K : PySem.W.Frag} {σ : L2.St} {H : Hp} {Q : VK} {td ty to : TE} {trs : List (TE × TE)} {rm : V → List V → Hp → VK → Prop} {T : String}
theorem w_din (k : ty σ H fun y H1 => td σ H1 fun x H2 => ∃ a o, x = .ref a ∧ DGet H2 a y o ∧ Q (.bl o.isSome) H2) : tDIn ty td σ H Q := k
theorem w_dnotin (k : ty σ H fun y H1 => td σ H1 fun x H2 => ∃ a o, x = .ref a ∧ DGet H2 a y o ∧ Q (.bl (!o.isSome)) H2) : tDNotIn ty td σ H Q := k
theorem w_dispK (k : ∀ p, H p = none → tPairs trs σ (upd H p (.dK [])) fun ps H2 => H2 p = some (.dK []) ∧ ∃ kvs : List (Key × V), ps = kvs.map (fun kv => (kV kv.1, kv.2)) ∧ kvs.length ≤ 15 ∧ Q (.ref p) (upd H2 p (.dK (mergeK [] kvs)))) : tDisp trs σ H Q := k
end
section
variable {K : PySem.W.Frag} {σ : L2.St} {H : Hp} {Q : VK} {to : TE} {rm : V → List V → Hp → VK → Prop} {T : String}
theorem w_bm0 (k : to σ H fun x H1 => tyV K T x H1 ∧ rm x [] H1 Q) : tBM0 K T rm to σ H Q := k
theorem w_pop {l : Addr} {xs : List V} {y : V} (h : H l = some (.lst (xs ++ [y]))) (k : Q y (upd H l (.lst xs))) : rPop (.ref l) [] H Q := ⟨l, xs ++ [y], y, rfl, rfl, h, by simp, by rw [List.dropLast_concat]; exact k⟩
end
theorem kop_ltT {X : Cx} {K : PySem.W.Frag} (hu : X.A.units + 64 < cLine) (hK : X.K = K := by rfl) : OpR X (compareOp .Lt) (rLtT K) := hK ▸ op_ltT (by omega)
/-! numbers as keys -/
def KeyI (kvs : List (Key × V)) (ks : List Int) : Prop := kvs.map (·.1) = ks.map Sum.inl
theorem keyI_any {kvs : List (Key × V)} {ks : List Int} {k : Int} (h : KeyI kvs ks) : (kvs.any fun kv => decide (kv.1 = Sum.inl k)) = true ↔ k ∈ ks := by
  rw [List.any_eq_true]
  constructor
  · intro ⟨p, hp, e⟩
    have hm : p.1 ∈ kvs.map (·.1) := List.mem_map.mpr ⟨p, hp, rfl⟩
    rw [h, of_decide_eq_true e] at hm
    obtain ⟨k', hk', e2⟩ := List.mem_map.mp hm
    rw [← Sum.inl.inj e2]
    exact hk'
  · intro hk
    have hm : Sum.inl k ∈ kvs.map (·.1) := by
      rw [h]
      exact List.mem_map.mpr ⟨k, hk, rfl⟩
    obtain ⟨p, hp, e1⟩ := List.mem_map.mp hm
    exact ⟨p, hp, decide_eq_true e1⟩
theorem keyI_has {kvs : List (Key × V)} {ks : List Int} {k : Int} (h : KeyI kvs ks) : (valV kvs (Sum.inl k)).isSome = decide (k ∈ ks) := by
  rw [← valV_any]
  by_cases hk : k ∈ ks
  · rw [decide_eq_true hk, (keyI_any h).mpr hk]
  · rw [decide_eq_false hk]
    exact Bool.eq_false_iff.mpr fun z => hk ((keyI_any h).mp z)
theorem keyI_new {kvs : List (Key × V)} {ks : List Int} {k : Int} {v : V} (h : KeyI kvs ks) (hk : k ∉ ks) : KeyI (putK kvs (Sum.inl k) v) (ks ++ [k]) := by
  unfold putK
  rw [if_neg fun z => hk ((keyI_any h).mp z)]
  unfold KeyI
  rw [List.map_append, List.map_append, h]
  rfl
theorem keyI_len {kvs : List (Key × V)} {ks : List Int} (h : KeyI kvs ks) : kvs.length = ks.length := by
  simpa using congrArg List.length h
end TH

namespace TH
open PySem PySem.Spec PyProof.Rows L2
/-! ### sorted(a tuple of data) -/
open PySem.W in
theorem sort_anew {prog : Program} {w : World} {A : Around} {E : Value → Shared → Prop} {s : Shared} {h0 : Heap} {a : Addr} {vs : List Value} {bs : List (V × D)} {R : Value → V × D → Prop} {n : Nat} {Q : Value → Shared → Prop}
    (ho : s.heap.get? a = some (seqObj "list" vs.toArray n)) (old : ∀ b o, h0.get? b = some o → b ≠ a ∧ s.heap.get? b = some o) (e : EachIs R vs bs) (er : EachIs (fun v b => ∃ as, Reads h0 v b.2 as) vs bs)
    (hal : AllAlike (bs.map fun b => b.2)) (so : Sortable (bs.map fun b => b.2)) (hL : bs.length ≤ sizeLine) (hu : ∀ b ∈ bs, A.units + 1 + b.2.depth < cLine)
    (h : ∀ out, out.length = bs.length → EachIs R out (bs.mergeSort (dataLe false fun b => b.2)) → Q .none { s with heap := PyProof.Rows.sortedHeap s.heap a vs (List.toArray out) }) :
    wpAny (model prog w) A (call (.builtin "list.sort") [.ref a]) Q E s := by
  have er' : EachIs (fun v b => ∃ as, Reads (sortingHeap s.heap a vs) v b.2 as) vs bs := er.mono fun _ _ ⟨as, r⟩ => ⟨as, PyProof.Rows.Reads.keeps (fun b o q => sortingHeap_old (old b o q).1 (old b o q).2) r⟩
  have S : SortsAt prog w A.in1 { s with heap := sortingHeap s.heap a vs } (dataKind (sortingHeap s.heap a vs) (bs.map fun b => b.2)) vs :=
    SortsAt.data (s := { s with heap := sortingHeap s.heap a vs }) (each_map (R := fun v d => ∃ as, Reads (sortingHeap s.heap a vs) v d as) (fun b : V × D => b.2) er') hal so (bound_map (A := A.in1) (by show ∀ b, b ∈ bs → A.units + 1 + b.2.depth < cLine; exact hu))
  refine wpAny_call_entry PyProof.Rows.slot_list_sort ⟨_, ho, rfl⟩ PyProof.Rows.entry_list_sort (list_sort_vals ho S (by rw [e.length]; exact hL) ⟨.none, rfl, ?_⟩) (PyProof.Rows.args_list_sort _)
  refine h _ ?_ (sortVals_data false e er' hal)
  rw [sortVals_length false rfl]
  exact e.length
open PySem.W in
def rSortedTD (K : PySem.W.Frag) : List V → Hp → VK → Prop := fun xs H Q => ∃ (a : Addr) (vs : List V) (ds : List D), xs = [.ref a] ∧ SqT K H a vs ∧ DpAll K H vs ds ∧ AllAlike ds ∧ Sortable ds ∧ (∀ d ∈ ds, d.depth ≤ 50) ∧
  ∀ (ws : List V) (p : Addr), H p = none → DpAll K H ws (ds.mergeSort (dataLe false id)) → Q (.ref p) (upd H p (.lst ws))
section
open PySem.W
variable {X : Cx} {K : PySem.W.Frag}
theorem call_sortedTD (hu : X.A.units + 64 < cLine) (hK : X.K = K := by rfl) : CallR X (.builtin "sorted") (rSortedTD K) := by
  subst hK
  intro pins s σ H xs us Q I r h
  obtain ⟨a, vs, ds, rfl, hs, hd, al, so, dep, q⟩ := h
  obtain ⟨its, rv, hl, hz⟩ := I.tuple hs
  rw [Vals.ref1 r]
  have e := each_of rv hd
  have hle : vs.length = ds.length := dpa_len hd
  have em : (vs.zip ds).map (·.2) = ds := by
    rw [List.map_snd_zip]
    omega
  have hzl : (vs.zip ds).length = its.length := e.length.symm
  have hil : its.length ≤ sizeLine := by
    rw [← rv.length]
    exact hz
  refine Calls.call_function_entry PyProof.Rows.kind_sorted PyProof.Rows.plain_sorted PyProof.Rows.entry_sorted (PyProof.Rows.args_sorted1 _) ?_
  unfold Builtin.«sorted»
  refine wpAny_bind (m := checkCount "sorted" 1 1 _) (wpAny_pure ?_)
  obtain ⟨o, g1, g2, n, g3⟩ := hl
  refine wpAny_bind (wpAny_collect_seq a (.inr rfl) g1 g2 g3 (fun h' kp => ?_) (by simpa using hil))
  have I1 : Inv X pins σ H { s with heap := h' } := I.kept (t' := s.toks) kp
  rw [List.toList_toArray]
  refine wpAny_bind (wpAny_newList ?_ hil)
  have hoL : (h'.push (seqObj "list" its.toArray 0)).get? h'.objs.size = some (seqObj "list" its.toArray 0) := Heap.get?_push_size _ rfl
  show wpAny _ _ _ _ _ { s with heap := h'.push (seqObj "list" its.toArray 0) }
  have er0 : EachIs (fun u (b : V × D) => ∃ as, Reads h' u b.2 as) its (vs.zip ds) := e.mono fun u b hb => Dp.reads I1 b.2 b.1 u hb.2 hb.1
  refine wpAny_bind (wpAny_holding (sort_anew (s := { s with heap := h'.push (seqObj "list" its.toArray 0) }) (h0 := h') hoL (fun b ob e => ⟨Nat.ne_of_lt (Heap.lt_size e), Heap.get?_push_of_some _ e⟩) e er0 (by rw [em]; exact al) (by rw [em]; exact so) (by rw [hzl]; exact hil) (fun b hb => by
    have : b.2 ∈ ds := by
      rw [← em]
      exact List.mem_map.mpr ⟨b, hb, rfl⟩
    have := dep b.2 this
    show X.A.units + 1 + 1 + b.2.depth < cLine
    omega) fun out hol heo => ?_))
  obtain ⟨e', he'⟩ := PyProof.Rows.sortedHeap_at (vs := its) (out := List.toArray out) hoL
  obtain ⟨hv, hdo⟩ := each_back heo
  have e2 : ((vs.zip ds).mergeSort (dataLe false fun b => b.2)).map (·.2) = ds.mergeSort (dataLe false id) := by
    rw [sort_maps (s := dataLe false id) (fun b : V × D => b.2) (fun a _ b _ => dataLe_map _ a b), em]
  rw [e2] at hdo
  refine wpAny_pure ⟨_, rfl, .ref h'.objs.size, upd H h'.objs.size (.lst _), I1.laid (t' := s.toks) (fun b ob e => ?_) (Nat.le_refl _) ⟨?_, out, e', hv, he'⟩, rfl, q _ _ (I1.hok.fresh (Nat.le_refl _)) hdo⟩
  · have hb : b < h'.objs.size := Heap.lt_size e
    rw [PyProof.Rows.sortedHeap_old (Nat.ne_of_lt hb) (by rw [Heap.size_push]; exact Nat.lt_succ_of_lt hb)]
    exact Heap.get?_push_of_some _ e
  · rw [hv.length, hol, hzl]
    exact hil
end
/-! ### x in a list or a tuple of data -/
def rInD (K : PySem.W.Frag) (neg : Bool) : R2 := fun x y H Q => ∃ (d : D) (xs : List D), Dp K H x d ∧ (Dp K H y (.list xs) ∨ Dp K H y (.tuple xs)) ∧ PyData.plainAll xs = true ∧ d.plain = true ∧ d.depth ≤ 50 ∧
  Q (.bl (if neg then !(xs.any fun y => PyData.eqv y d) else xs.any fun y => PyData.eqv y d)) H
section
variable {X : Cx} {K : PySem.W.Frag}
theorem kop_inD (hu : X.A.units + 64 < cLine) (hK : X.K = K := by rfl) : OpR X (compareOp .In) (rInD K false) := by
  subst hK
  intro pins s σ H x y v u Q I rx ry h
  obtain ⟨d, xs, hd, hy, hp, hq, hle, q⟩ := h
  obtain ⟨as, r1⟩ := Dp.reads I d x v hd rx
  rcases hy with hy | hy
  · obtain ⟨bs, r2⟩ := Dp.reads I _ y u hy ry
    exact SeqAt.in_list_data r2 r1 hp hq (by omega) ⟨.bl _, H, I, rfl, q⟩
  · obtain ⟨bs, r2⟩ := Dp.reads I _ y u hy ry
    exact SeqAt.in_tuple_data r2 r1 hp hq (by omega) ⟨.bl _, H, I, rfl, q⟩
theorem kop_notInD (hu : X.A.units + 64 < cLine) (hK : X.K = K := by rfl) : OpR X (compareOp .NotIn) (rInD K true) := by
  subst hK
  intro pins s σ H x y v u Q I rx ry h
  obtain ⟨d, xs, hd, hy, hp, hq, hle, q⟩ := h
  obtain ⟨as, r1⟩ := Dp.reads I d x v hd rx
  rcases hy with hy | hy
  · obtain ⟨bs, r2⟩ := Dp.reads I _ y u hy ry
    exact SeqAt.notIn_list_data r2 r1 hp hq (by omega) ⟨.bl _, H, I, rfl, q⟩
  · obtain ⟨bs, r2⟩ := Dp.reads I _ y u hy ry
    exact SeqAt.notIn_tuple_data r2 r1 hp hq (by omega) ⟨.bl _, H, I, rfl, q⟩
end
/-! ### a tuple turned about -/
section
variable {prog : Program} {w : World} {A : Around} {E : Value → Shared → Prop} {s : Shared}
theorem range_items {α : Type} : ∀ xs : List α, (List.range xs.length).filterMap (fun k => xs[k]?) = xs
  | [] => rfl
  | x :: xs => by
    rw [List.length_cons, List.range_succ_eq_map, List.filterMap_cons]
    show x :: (List.map Nat.succ (List.range xs.length)).filterMap _ = _
    rw [List.filterMap_map]
    exact congrArg (x :: ·) (range_items xs)
theorem fm_congr {α β : Type} {f g : α → Option β} : ∀ {xs : List α}, (∀ x ∈ xs, f x = g x) → xs.filterMap f = xs.filterMap g
  | [], _ => rfl
  | x :: xs, h => by
    rw [List.filterMap_cons, List.filterMap_cons, h x List.mem_cons_self, fm_congr fun y hy => h y (List.mem_cons_of_mem _ hy)]
theorem turned_pick (xs : Array Value) : ((List.range xs.size).filterMap fun (k : Nat) => xs[(((xs.size : Nat) : Int) - 1 + (k : Int) * (-1)).toNat]?).toArray = xs.toList.reverse.toArray := by
  have e : (List.range xs.size).filterMap (fun (k : Nat) => xs[(((xs.size : Nat) : Int) - 1 + (k : Int) * (-1)).toNat]?) = (List.range xs.size).filterMap fun k => xs.toList.reverse[k]? := by
    refine fm_congr fun k hk => ?_
    have hk' := List.mem_range.mp hk
    have e1 : (((xs.size : Nat) : Int) - 1 + (k : Int) * (-1)).toNat = xs.size - 1 - k := by omega
    rw [e1, List.getElem?_reverse (by simpa using hk')]
    simp
  rw [e]
  have := range_items xs.toList.reverse
  rw [List.length_reverse, Array.length_toList] at this
  rw [this]
theorem turned_bounds (n : Nat) : Builtin.Slice.sliceAdjust none none (-1) (n : Int) = ((n : Int) - 1, -1) ∧ Builtin.Slice.slicePlaces ((n : Int) - 1) (-1) (-1) = n := by
  constructor
  · unfold Builtin.Slice.sliceAdjust
    simp
  · unfold Builtin.Slice.slicePlaces
    have h1 : ¬ ((-1 : Int) > 0) := by omega
    rw [if_neg h1]
    split
    · have e : ((n : Int) - 1 - -1 - 1) / (- -1) = (n : Int) - 1 := by
        have : (- -1 : Int) = 1 := rfl
        rw [this, Int.ediv_one]
        omega
      rw [e]
      omega
    · omega
theorem sliceApplied_turned {sl : Addr} {vl vu vs : Value} {n : Nat} {Q : Int × Int × Nat → Shared → Prop} (hs : s.heap.IsSliceOf sl vl vu vs) (pl : IsPart vl none) (pu : IsPart vu none) (ps : IsPart vs (some (-1)))
    (h : Q ((n : Int) - 1, -1, n) s) : wpAny (model prog w) A (Builtin.Slice.sliceApplied (.ref sl) (pure (n : Int))) Q E s := by
  obtain ⟨os, hos, hcs, hds⟩ := id hs
  unfold Builtin.Slice.sliceApplied Builtin.Slice.sliceFields
  refine wpAny_bind (wpAny_bind (wpAny_field hos hds (x := vl) rfl (wpAny_bind (wpAny_field hos hds (x := vu) rfl (wpAny_bind (wpAny_field hos hds (x := vs) rfl (wpAny_pure ?_)))))))
  refine wpAny_bind (HT.slicePart_ ps ?_)
  show wpAny _ _ (if ((-1 : Int) == 0) = true then _ else _) _ _ s
  rw [if_neg (by decide)]
  refine wpAny_bind (HT.slicePart_ pl (wpAny_bind (HT.slicePart_ pu (wpAny_bind (wpAny_pure ?_)))))
  show wpAny _ _ (match Builtin.Slice.sliceAdjust none none (-1) (n : Int) with | (lo, hi) => pure (lo, (-1 : Int), Builtin.Slice.slicePlaces lo hi (-1))) _ _ s
  rw [(turned_bounds n).1]
  show wpAny _ _ (pure ((n : Int) - 1, (-1 : Int), Builtin.Slice.slicePlaces ((n : Int) - 1) (-1) (-1))) _ _ s
  rw [(turned_bounds n).2]
  exact wpAny_pure h
theorem getItem_turned {t sl : Addr} {items : Array Value} {vl vu vs : Value} {Q : Value → Shared → Prop} (ht : IsTup s.heap t items) (hs : s.heap.IsSliceOf sl vl vu vs) (pl : IsPart vl none) (pu : IsPart vu none) (ps : IsPart vs (some (-1)))
    (h : Q (.ref s.heap.objs.size) { s with heap := s.heap.push { cls := .type "tuple", data := .seq items.toList.reverse.toArray } }) (hsz : items.size ≤ sizeLine) : wpAny (model prog w) A (getItem (.ref t) (.ref sl)) Q E s := by
  obtain ⟨os, hos, hcs, hds⟩ := id hs
  have hTs : s.TypeIs (.ref sl) "slice" := ⟨os, hos, hcs⟩
  unfold getItem
  try with_reducible refine wpAny_holding ?_
  first | refine wpAny_bind (wpAny_pure ?_) | skip
  refine wpAny_bind (wpAny_sequenceKey ht.typeIs (by decide) ?_)
  refine wpAny_bind (wpAny_callSpecial?_slot (name := Str.ofString "__getitem__") ht.typeIs PyProof.Rows.slot_tuple_getitem
    (wpAny_call_entry PyProof.Rows.slot_tuple_getitem ht.typeIs entry_tuple_getitem ?_ (args_tuple_getitem _ _)))
  show wpAny _ _ (Builtin.Tuple.tupleItemsOf (.ref t) >>= _) _ _ s
  refine wpAny_bind (PyProof.Rows.tupleItemsOf_ ht ?_)
  refine wpAny_bind (wpAny_typeOf hTs ?_)
  rw [if_pos (by decide)]
  refine wpAny_bind (sliceApplied_turned hs pl pu ps ?_)
  have hno : ¬ ((((items.size : Int) - 1) == 0 && (-1 : Int) == 1 && items.size == items.size) = true) := by
    rw [Bool.and_eq_true, Bool.and_eq_true]
    exact fun z => absurd z.1.2 (by decide)
  show wpAny _ _ (if (((items.size : Int) - 1) == 0 && (-1 : Int) == 1 && items.size == items.size) = true then _ else _) _ _ s
  rw [if_neg hno, turned_pick]
  have hsz2 : sizeOk (.seq items.toList.reverse.toArray) := by
    show items.toList.reverse.toArray.size ≤ sizeLine
    simpa using hsz
  first
    | exact wpAny_bind (m := Builtin.Tuple.tupleExact _) (wpAny_newObj_type (wpAny_pure ⟨_, rfl, wpAny_pure h⟩) hsz2)
    | exact wpAny_bind (m := Builtin.Tuple.tupleExact _) (wpAny_newObj_type (wpAny_bind (wpAny_pure (wpAny_pure ⟨_, rfl, wpAny_pure h⟩))) hsz2)
    | exact wpAny_bind (wpAny_bind (m := Builtin.Tuple.tupleExact _) (wpAny_newObj_type (wpAny_pure (wpAny_pure ⟨_, rfl, wpAny_pure h⟩)) hsz2))
    | exact wpAny_bind (wpAny_bind (m := Builtin.Tuple.tupleExact _) (wpAny_newObj_type (wpAny_pure ⟨_, rfl, wpAny_pure h⟩) hsz2))
end
def tRevT (K : PySem.W.Frag) (te : TE) : TE := fun σ H Q => te σ H fun x H1 => ∃ a xs, x = .ref a ∧ SqT K H1 a xs ∧ ∀ p, H1 p = none → Q (.ref p) (upd H1 p (.tup xs.reverse))
theorem w_revT {K : PySem.W.Frag} {σ : L2.St} {H : Hp} {Q : VK} {te : TE} (k : te σ H fun x H1 => ∃ a xs, x = .ref a ∧ SqT K H1 a xs ∧ ∀ p, H1 p = none → Q (.ref p) (upd H1 p (.tup xs.reverse))) : tRevT K te σ H Q := k
theorem kpe_revT {X : Cx} {K : PySem.W.Frag} {e : Expr} {te : TE} {k : Nat} {p1 p2 p3 pos : Pos} (he : PE X e te) (hK : X.K = K := by rfl) : PE X (.Subscript e (.Slice none none (some (.UnaryOp .USub (.Constant (.int 1) k p1) p2)) p3) pos) (tRevT K te) := by
  subst hK
  refine ⟨fun pins s σ H Q I h => ?_⟩
  refine Subscript_ (thn (he.run pins s σ H _ I h) fun v s1 ⟨x, H1, I1, r1, q1⟩ => ?_)
  obtain ⟨a, xs, ex, hx, q⟩ := q1
  subst ex
  cases r1
  have minus : PO X (some (.UnaryOp .USub (.Constant (.int 1) k p1) p2)) (tPart (tUn (rU fun i => .int (-i)) (tC (.int 1)))) := po_some (pe_un un_neg pe_int)
  refine wpAny_Slice (thn (po_none.run pins s1 σ H1 (fun o H2 => H2 = H1 ∧ o = none) I1 ⟨rfl, rfl⟩) fun vl s2 ⟨l, H2, I2, pl, e2, el⟩ => ?_)
  subst e2 el
  refine thn (po_none.run pins s2 σ H2 (fun o H3 => H3 = H2 ∧ o = none) I2 ⟨rfl, rfl⟩) fun vu s3 ⟨u, H3, I3, pu, e3, eu⟩ => ?_
  subst e3 eu
  refine thn (minus.run pins s3 σ H3 (fun o H4 => H4 = H3 ∧ o = some (-1)) I3 ⟨1, rfl, -1, rfl, rfl, rfl⟩) fun vs s4 ⟨o, H4, I4, ps, e4, eo⟩ => ?_
  subst e4 eo
  have I5 : Inv X pins σ H4 { s4 with heap := s4.heap.push { cls := .type "slice", data := .fields #[vl, vu, vs] } } := I4.kept (t' := s4.toks) fun b ob q => Heap.get?_push_of_some _ q
  obtain ⟨its, r, ht, hz⟩ := I5.tuple hx
  show wpAny (model X.prog X.w) X.A (subscriptTail e (.Slice none none (some (.UnaryOp .USub (.Constant (.int 1) k p1) p2)) p3) (.ref a) (.ref s4.heap.objs.size)) (EP X pins σ Q) X.xe { s4 with heap := s4.heap.push { cls := .type "slice", data := .fields #[vl, vu, vs] } }
  refine tail_any (ops := [.ref a, .ref s4.heap.objs.size]) ht.typeIs (PyProof.Rows.slot_tuple_getitem.lookup) ?_ (by with_unfolding_all rfl)
  refine getItem_turned ht (Heap.IsSliceOf.new _ vl vu vs) pl pu ps ?_ (by rw [List.size_toArray, ← r.length]; exact hz)
  rw [List.toList_toArray]
  refine ⟨.ref _, _, I5.laid (t' := s4.toks) (o := .tup xs.reverse) (fun b ob q => Heap.get?_push_of_some _ q) (Nat.le_refl _) ?_, rfl, q _ (I5.hok.fresh (Nat.le_refl _))⟩
  exact ⟨by rw [List.length_reverse]; exact hz, _, r.reverse, IsTup.new _ _⟩
/-! tuple(range(..)), list(range(..)) -/
section
variable {σ : L2.St} {H : Hp} {Q : VK} {ta tb : TE} {te : L2.St → Hp → (Int → Int → Hp → Prop) → Prop} {QR : Int → Int → Hp → Prop}
theorem w_lstRg (k : te σ H fun a b H1 => RgOk a b ∧ ∀ q, H1 q = none → Q (.ref q) (upd H1 q (.lst (rgV a b)))) : tLstRg te σ H Q := k
theorem w_tupRg (k : te σ H fun a b H1 => RgOk a b ∧ ∀ q, H1 q = none → Q (.ref q) (upd H1 q (.tup (rgV a b)))) : tTupRg te σ H Q := k
theorem w_rg1 (k : ta σ H fun x H1 => ∃ n, x = .int n ∧ QR 0 n H1) : tRg1 ta σ H QR := k
theorem w_rg2 (k : ta σ H fun x H1 => tb σ H1 fun y H2 => ∃ i j, x = .int i ∧ y = .int j ∧ QR i j H2) : tRg2 ta tb σ H QR := k
end
def rgZ (a b : Int) : List Int := (List.range (b - a).toNat).map fun i => a + (i : Nat)
theorem rgV_eq (a b : Int) : rgV a b = (rgZ a b).map V.int := by
  unfold rgV rgZ
  rw [List.map_map]
  rfl
theorem mem_rgZ {a b x : Int} : x ∈ rgZ a b ↔ a ≤ x ∧ x < b := by
  unfold rgZ
  rw [List.mem_map]
  constructor
  · rintro ⟨i, hi, rfl⟩
    have := List.mem_range.mp hi
    omega
  · intro h
    exact ⟨(x - a).toNat, List.mem_range.mpr (by omega), by omega⟩
theorem rgZ_pw (a b : Int) : (rgZ a b).Pairwise (· < ·) := by
  unfold rgZ
  refine List.pairwise_map.mpr (List.pairwise_lt_range.imp fun h => ?_)
  omega
theorem rgZ_len (a b : Int) : (rgZ a b).length = (b - a).toNat := by simp [rgZ]
/-! sum(a tuple of numbers) -/
def rSumT (K : PySem.W.Frag) : List V → Hp → VK → Prop := fun vs H Q => ∃ (a : Addr) (ns : List Int), vs = [V.ref a] ∧ SqT K H a (ns.map V.int) ∧ Q (.int ns.sum) H
theorem kcr_sumT {X : Cx} {K : PySem.W.Frag} (hc : X.calm = true) (hK : X.K = K := by rfl) : CallR X (.builtin "sum") (rSumT K) := by
  subst hK
  intro pins s σ H vs us Q I r h
  obtain ⟨a, ns, rfl, hs, q⟩ := h
  obtain ⟨its, rv, hl, _⟩ := I.tuple hs
  rw [Vals.ref1 r]
  obtain ⟨xs, e⟩ := rv.ints.allInts.items
  have hn : numsOf (intItems xs).toList = ns := by rw [← e]; exact rv.ints.numsOf
  rw [nums_intItems] at hn
  have hl' : s.heap.IsTuple a its.toArray := hl
  rw [e] at hl'
  refine PySem.W.ktm_sumG (I.ok.hd hc) hl' fun h' tk t' hk => ?_
  rw [preSum_eq, List.take_of_length_le (by simp), hn]
  exact ⟨.int _, H, I.kept hk, ⟨_, rfl⟩, q⟩
theorem w_sumT {K : PySem.W.Frag} {H : Hp} {Q : VK} {a : Addr} {ns : List Int} (h : SqT K H a (ns.map V.int)) (q : Q (.int ns.sum) H) : rSumT K [.ref a] H Q := ⟨a, ns, rfl, h, q⟩
end TH

namespace TH
open PySem PySem.Spec PyProof.Rows L2
theorem relabel_held {env : Env} : ∀ {names : List (Str × NameKind)} {x : Str}, (names.lookup x = some .cell ∨ names.lookup x = some .free) →
    let ns := names.map fun (n, k) => if (k == NameKind.free && env.scope.kind == .function && env.kindOf n == some .cell) then (n, NameKind.cell) else (n, k)
    ns.lookup x = some .cell ∨ ns.lookup x = some .free
  | [], _, h => by simp at h
  | (n, k) :: r, x, h => by
    have ih := @relabel_held env r x
    show List.lookup x ((if (k == NameKind.free && env.scope.kind == .function && env.kindOf n == some .cell) = true then (n, NameKind.cell) else (n, k)) :: _) = _ ∨ List.lookup x ((if (k == NameKind.free && env.scope.kind == .function && env.kindOf n == some .cell) = true then (n, NameKind.cell) else (n, k)) :: _) = _
    by_cases hc : (k == NameKind.free && env.scope.kind == .function && env.kindOf n == some .cell) = true
    · rw [if_pos hc]
      cases hx : x == n with
      | true => exact .inl (by simp only [List.lookup_cons, hx])
      | false =>
        simp only [List.lookup_cons, hx] at h ⊢
        exact ih h
    · rw [if_neg hc]
      cases hx : x == n with
      | true =>
        simp only [List.lookup_cons, hx] at h ⊢
        exact h
      | false =>
        simp only [List.lookup_cons, hx] at h ⊢
        exact ih h
/-- a comprehension within a comprehension -/
theorem blkOk_blk {X : Cx} {s : Shared} {H : Hp} {sc scope : Scope} {cl : List (Str × Addr)} {C : Addr} {fp : List Addr} {N : List Str} {own : List (Str × Nat)} (hN : X.N = N) (h : blkC N sc scope own = true) :
    BlkOk (X.blk s H sc (compEnvC sc cl C X.env) fp).N (X.blk s H sc (compEnvC sc cl C X.env) fp).env.scope scope own := by
  subst hN
  refine blkOk_by (N := X.N) (sc := relabel sc X.env) ?_
  unfold blkC at h ⊢
  rw [Bool.and_eq_true] at h ⊢
  refine ⟨h.1, ?_⟩
  have h4 := h.2
  rw [List.all_eq_true] at h4 ⊢
  intro y hy
  have q := h4 y hy
  obtain ⟨n, k⟩ := y
  cases k with
  | free =>
    have e : sc.names.lookup n = some .cell ∨ sc.names.lookup n = some .free := by
      revert q
      show (match sc.names.lookup n with | some .cell => true | some .free => true | _ => false) = true → _
      cases g : sc.names.lookup n with
      | none => intro z; cases z
      | some k => cases k <;> intro z <;> first | exact .inl rfl | exact .inr rfl | cases z
    have e2 := relabel_held (env := X.env) e
    show (match (relabel sc X.env).names.lookup n with | some .cell => true | some .free => true | _ => false) = true
    rcases e2 with e2 | e2
    · have e3 : (relabel sc X.env).names.lookup n = some .cell := e2
      rw [e3]
    · have e3 : (relabel sc X.env).names.lookup n = some .free := e2
      rw [e3]
  | _ => exact q
end TH

namespace TH
open PySem PySem.Spec PyProof.Rows L2
/-! great numbers -/
theorem iop_mulW {X : Cx} : OpR X (inplaceOp .Mult) (rI CMulW fun i j => .int (i * j)) := opI fun _ _ _ _ _ _ _ hc q => imul_int q hc.ok
/-- at most so many bits -/
def Bits (x : Int) (k : Nat) : Prop := x.natAbs ≤ 2 ^ k
theorem Bits.log {x : Int} {k : Nat} (h : Bits x k) : x.natAbs.log2 ≤ k := by
  by_cases h0 : x.natAbs = 0
  · rw [h0]
    simp
  · have : x.natAbs.log2 < k + 1 := (Nat.log2_lt h0).mpr (Nat.lt_of_le_of_lt h (Nat.pow_lt_pow_right (by decide) (Nat.lt_succ_self k)))
    omega
theorem Bits.mul {x y : Int} {a b : Nat} (h : Bits x a) (g : Bits y b) : Bits (x * y) (a + b) := by
  unfold Bits at *
  rw [Int.natAbs_mul, Nat.pow_add]
  exact Nat.mul_le_mul h g
theorem Bits.sub {x y : Int} {a : Nat} (h : Bits x a) (g : Bits y a) : Bits (x - y) (a + 1) := by
  unfold Bits at *
  have e : 2 ^ (a + 1) = 2 ^ a + 2 ^ a := by rw [Nat.pow_succ]; omega
  omega
theorem Bits.add {x y : Int} {a : Nat} (h : Bits x a) (g : Bits y a) : Bits (x + y) (a + 1) := by
  unfold Bits at *
  have e : 2 ^ (a + 1) = 2 ^ a + 2 ^ a := by rw [Nat.pow_succ]; omega
  omega
theorem Bits.mono {x : Int} {a b : Nat} (h : Bits x a) (hab : a ≤ b) : Bits x b := Nat.le_trans h (Nat.pow_le_pow_right (by decide) hab)
theorem Bits.pow {p : Nat} (hp : p ≤ 1000000) (n : Nat) : Bits ((p : Int) ^ n) (20 * n) := by
  unfold Bits
  rw [Int.natAbs_pow, Int.natAbs_natCast, Nat.pow_mul]
  exact Nat.pow_le_pow_left (by omega) n
theorem Bits.mulW {x y : Int} {a b : Nat} (h : Bits x a) (g : Bits y b) (hab : a + b < 1000000) : CMulW x y := by
  have h1 := h.log
  have h2 := g.log
  show x.natAbs.log2 + y.natAbs.log2 < 1000000
  omega
theorem Bits.divW {x y : Int} {b : Nat} (g : Bits y b) (hb : b < 9000) (h0 : 0 < y) : CDivW x y := ⟨h0, by have := g.log; omega⟩
end TH

namespace TH
open PySem PySem.Spec PyProof.Rows L2
/-! ### xs.remove(x), x data that stands there -/
def rRemoveD (K : PySem.W.Frag) : V → List V → Hp → VK → Prop := fun x vs H Q => ∃ (l : Addr) (xs : List V) (y : V) (ds : List D) (d : D) (j : Nat), x = .ref l ∧ vs = [y] ∧ H l = some (.lst xs) ∧ DpAll K H xs ds ∧ Dp K H y d ∧ PyData.plainAll ds = true ∧ d.plain = true ∧ d.depth ≤ 50 ∧
  (ds.findIdx? fun z => PyData.eqv z d) = some j ∧ Q .non (upd H l (.lst (xs.eraseIdx j)))
section
variable {X : Cx} {K : PySem.W.Frag}
theorem mt_removeD (hu : X.A.units + 64 < cLine) (hK : X.K = K := by rfl) : MtM X "list.remove" (rRemoveD K) := by
  subst hK
  intro pins s σ H x vs v us Q I rx rv h
  obtain ⟨l, xs, y, ds, d, j, rfl, rfl, hH, hda, hy, p1, p2, hdep, hj, q⟩ := h
  cases rx
  obtain ⟨u, rfl, ru⟩ := rv.one
  obtain ⟨z, its, n, r, hl, e⟩ := I.lstM hH
  obtain ⟨as, h4⟩ := Dp.readsAll I ds _ its hda r
  obtain ⟨bs, r1⟩ := Dp.reads I d y u hy ru
  have hzl : its.toArray.size ≤ sizeLine := by rw [List.size_toArray, ← r.length]; exact z
  refine SeqAt.remove_list_data (vs := its.toArray) ⟨_, e, rfl, n, rfl⟩ (by simpa using h4) r1 p1 p2 (by omega) hj hzl ?_
  refine ⟨.non, _, I.lset (its' := its.eraseIdx j) hH e (by rw [List.eraseIdxIfInBounds_toArray]) (r.eraseIdx j) ?_, rfl, q⟩
  have := List.length_eraseIdx_le xs j
  omega
/-! ### dict(a list of pairs whose keys are tuples) -/
def mergeT (acc : List (List Key × V)) (kvs : List (List Key × V)) : List (List Key × V) := kvs.foldl (fun acc kv => putK acc kv.1 kv.2) acc
def PairT (K : PySem.W.Frag) (H : Hp) (p : Addr) (kv : List Key × V) : Prop := ∃ b, SqT K H p [.ref b, kv.2] ∧ H b = some (.tup (kv.1.map kV))
def rDictPT (K : PySem.W.Frag) : List V → Hp → VK → Prop := fun xs H Q => ∃ (a : Addr) (ps : List Addr) (kvs : List (List Key × V)), xs = [.ref a] ∧ SqL K H a (ps.map V.ref) ∧ Paired (PairT K H) ps kvs ∧ ∀ p, H p = none → Q (.ref p) (upd H p (.dT (mergeT [] kvs)))
theorem pairsT_of {pins : List (Addr × Obj)} {σ : L2.St} {H : Hp} {s : Shared} (I : Inv X pins σ H s) : ∀ {ps : List Addr} {kvs : List (List Key × V)}, Paired (PairT X.K H) ps kvs →
    ∃ xs : List (List Key × Addr × Value), KT H kvs xs ∧ xs.length = ps.length ∧ ∀ (j : Nat) (q : List Key × Addr × Value), xs[j]? = some q → ∃ p, ps[j]? = some p ∧ IsTup s.heap p #[.ref q.2.1, q.2.2]
  | _, _, .nil => ⟨[], .nil, rfl, fun j q e => by simp at e⟩
  | _, _, .cons (a := p) (b := kv) h t => by
    obtain ⟨xs, r, hl, hp⟩ := pairsT_of I t
    obtain ⟨b, h1, h2⟩ := h
    obtain ⟨its, rv, ht, _⟩ := I.tuple h1
    obtain ⟨u, y, ei, ru, ry⟩ := vals2 rv
    subst ei
    cases ru
    refine ⟨(kv.1, b, y) :: xs, .cons ⟨rfl, h2, ry⟩ r, by rw [List.length_cons, List.length_cons, hl], fun j q e => ?_⟩
    cases j with
    | zero =>
      have e' : (kv.1, b, y) = q := Option.some.inj e
      subst e'
      exact ⟨p, rfl, ht⟩
    | succ j =>
      obtain ⟨p', e1, e2⟩ := hp j q (by simpa using e)
      exact ⟨p', by simpa using e1, e2⟩
theorem kt_merge {H : Hp} {kvs : List (List Key × V)} {xs : List (List Key × Addr × Value)} (r : KT H kvs xs) : ∀ {acc : List (List Key × V)} {accx : List (List Key × Addr × Value)}, KT H acc accx → KT H (mergeT acc kvs) (storedAllH accx xs) := by
  induction r with
  | nil => exact fun a => a
  | @cons kv q ks ys h t ih =>
    intro acc accx a
    obtain ⟨h1, h2, h3⟩ := h
    have g := a.put kv.1 h2 h3
    have e : storedAllH accx (q :: ys) = storedAllH (storedH accx kv.1 q.2.1 q.2.2) ys := by
      rw [h1]
      rfl
    rw [e]
    exact ih g
theorem call_dictPT (hc : X.calm = true) (hu : X.A.units + 64 < cLine) (hK : X.K = K := by rfl) : CallR X (.type "dict") (rDictPT K) := by
  subst hK
  intro pins s σ H xs us Q I r q
  obtain ⟨a, ps, kvs, ex, hq, hp, q⟩ := q
  subst ex
  obtain ⟨u, eu, rx⟩ := vals1 r
  subst eu
  cases rx
  obtain ⟨its, rv, pl, hz⟩ := I.list hq
  have ei := refs_at rv
  subst ei
  rw [List.length_map] at hz
  obtain ⟨qs, rel, hl, hqs⟩ := pairsT_of I hp
  obtain ⟨o, n, ho, hcl, hd, hdat⟩ := pl
  have keys : ∀ x ∈ qs, (tupleKind (mixKind X.prog X.w)).is s.heap x.1 x.2.1 := by
    intro x hx
    obtain ⟨j, hj⟩ := List.mem_iff_getElem?.mp hx
    have : ∃ kv, kvs[j]? = some kv ∧ kv.1 = x.1 ∧ H x.2.1 = some (.tup (kv.1.map kV)) ∧ RelV kv.2 x.2.2 := by
      have lk : kvs.length = qs.length := Paired.length rel
      have hjl := (List.getElem?_eq_some_iff.mp hj).1
      have gen : ∀ {ks : List (List Key × V)} {ys : List (List Key × Addr × Value)} (i : Nat) (y : List Key × Addr × Value), KT H ks ys → ys[i]? = some y → ∃ kv, ks[i]? = some kv ∧ kv.1 = y.1 ∧ H y.2.1 = some (.tup (kv.1.map kV)) ∧ RelV kv.2 y.2.2 := by
        intro ks ys i y rr
        induction rr generalizing i with
        | nil => intro e; simp at e
        | cons h t ih =>
          intro e
          cases i with
          | zero =>
            cases e
            exact ⟨_, rfl, h⟩
          | succ i => exact ih i (by simpa using e)
      exact gen j x rel hj
    obtain ⟨kv, _, e1, e2, _⟩ := this
    rw [← e1]
    exact key_of I.hok e2
  refine call_dict_pairsH (knd := tupleKind (mixKind X.prog X.w)) (ps := qs) (PairArg.list a (ps.map Value.ref).toArray (fun j => ps.getD j 0) (qs.map fun x => (Value.ref x.2.1, x.2.2))) (I.ok.hd hc) (show X.A.units + 1 + 1 < cLine by omega)
    ⟨⟨o, n, ho, hcl, hd, hdat⟩, by simp [hl], fun j k v e => ?_⟩ ⟨by simp, fun i key v e => ?_⟩ (fun h' hk x hx => ?_) (by rw [List.length_map, hl]; exact hz) fun h' tk hd' k => ?_
  · rw [List.getElem?_map] at e
    cases g : qs[j]? with
    | none => rw [g] at e; cases e
    | some x =>
      rw [g] at e
      cases e
      obtain ⟨p, e1, e2⟩ := hqs j x g
      refine ⟨by simp [e1], .inl ?_⟩
      show s.heap.IsTuple (ps.getD j 0) _
      rw [getD_of e1]
      exact e2
  · rw [show (PairRel (qs.map fun x => (Value.ref x.2.1, x.2.2)) i key v) = ((qs.map fun x => (Value.ref x.2.1, x.2.2))[i]? = some (key, v)) from rfl, List.getElem?_map] at e
    cases g : qs[i]? with
    | none => rw [g] at e; cases e
    | some x =>
      rw [g] at e
      cases e
      exact ⟨x.1, x.2.1, rfl, rfl⟩
  · obtain ⟨o', its', n', h1, h2, h3, h4⟩ := keys x hx
    exact ⟨o', its', n', hk _ _ (Nat.ne_of_lt (Heap.lt_size h1)) (by simp) h1, h2, h3, h4⟩
  · have hm : (s.heap.objs.size == sysModules) = false := beq_eq_false_iff_ne.mpr (Nat.ne_of_gt I.big)
    have km := kt_merge rel (acc := []) (accx := []) .nil
    have hlen : (mergeT [] kvs).length ≤ sizeLine := by
      have l1 : (mergeT [] kvs).length = (storedAllH [] qs).length := Paired.length km
      have l2 := storedAllH_length qs ([] : List (List Key × Addr × Value))
      rw [List.length_nil, Nat.zero_add] at l2
      omega
    obtain ⟨ob, es, ep, g1, g2, g3, g4, _, g5⟩ := hd'
    have hf := I.hok.fresh (Nat.le_refl s.heap.objs.size)
    refine ⟨.ref s.heap.objs.size, upd H s.heap.objs.size (.dT (mergeT [] kvs)), I.laid (t' := tk) (fun b o e => k b o (by simp) e) (Nat.le_refl _) ⟨hlen, hm, storedAllH [] qs, KT.keeps km fun c ys ec => ?_, ob, es, ep, g1, g2, g3, g4, g5⟩, rfl, q _ hf⟩
    rw [upd_ne fun z => by rw [z, hf] at ec; cases ec]
    exact ec
end
end TH

namespace TH
open PySem PySem.Spec PyProof.Rows L2
/-! ### a comprehension whose items are told by what the tuples say -/
section
variable {J : It} {n : Nat} {G : Hp → Prop} {Y : Nat → Hp → V → Hp → Prop} {K : PySem.W.Frag} {g : TG} {te : TE} {H1 : Hp} {Dl : Addr}
theorem lc_rel {σ0 : L2.St} {C : L2.St → Prop} {Qd : Hp → Prop} (w : Walk J n G Y) (φ : Nat → Hp → V → Prop) (hφ : ∀ i H H' v, Tx H H' → φ i H v → φ i H' v) (hG : ∀ H', Ex H1 H' → G H') (hD : H1 Dl = none) (hn : n ≤ 1000000)
    (hs : ∀ i x H' H'', i < n → Ex H1 H' → Y i H' x H'' → ∀ (R : VK), (∀ v H3, Ex H' H3 → φ i H3 v → R v H3) → g x σ0 H'' fun σ2 H2 => C σ2 ∧ te σ2 H2 R)
    (k : ∀ H' ws, Ex H1 H' → H' Dl = some (.lst ws) → ws.length = n → (∀ i v, ws[i]? = some v → φ i H' v) → Qd H') :
    ∃ W : Nat → Nat → Hp → Prop, (∃ m, W 0 m (upd H1 Dl (.lst []))) ∧ ∀ i m H, W i m H →
      (J.stop i H ∧ Qd H) ∨ (J.go i H ∧ ∃ Nx : Hp → Prop, (∀ H', Nx H' → ∃ m', m' < m ∧ W (i + 1) m' H') ∧ ∀ x H', J.yld i H x H' → g x σ0 H' fun σ2 H2 => C σ2 ∧ tYes σ2 H2 fun b H3 =>
        if b = true then te σ2 H3 fun y H4 => ∃ acc, H4 Dl = some (.lst acc) ∧ acc.length < sizeLine ∧ Nx (upd H4 Dl (.lst (acc ++ [y]))) else Nx H3) := by
  refine lc_it' w (fun i H' => Ex H1 H' ∧ ∃ ws, H' Dl = some (.lst ws) ∧ ws.length = i ∧ ∀ j v, ws[j]? = some v → φ j H' v) ⟨Ex.new hD, [], upd_same, rfl, fun j v h => by simp at h⟩ (fun i H' _ p => hG H' p.1) (fun i x H' H'' hi p y => ?_) (fun H' p => ?_)
  · obtain ⟨p1, ws, p2, p3, p4⟩ := p
    have := hs i x H' H'' hi p1 y (fun y H4 => ∃ acc, H4 Dl = some (.lst acc) ∧ acc.length < sizeLine ∧ (fun i H' => Ex H1 H' ∧ ∃ ws, H' Dl = some (.lst ws) ∧ ws.length = i ∧ ∀ j v, ws[j]? = some v → φ j H' v) (i + 1) (upd H4 Dl (.lst (acc ++ [y])))) (fun v H3 e3 hv => ?_)
    · exact this
    · have q2 : H3 Dl = some (.lst ws) := e3 _ _ p2
      refine ⟨ws, q2, Nat.lt_of_le_of_lt (by rw [p3]; exact Nat.le_refl _) (Nat.lt_of_lt_of_le hi (small2 hn)), (p1.trans e3).mut hD, ws ++ [v], upd_same, by rw [List.length_append, p3]; rfl, fun j u hj => ?_⟩
      rcases Nat.lt_or_ge j ws.length with z | z
      · rw [List.getElem?_append_left z] at hj
        exact hφ _ _ _ _ (e3.tx.trans (Tx.updL q2)) (p4 j u hj)
      · rw [List.getElem?_append_right z] at hj
        have z2 : j - ws.length = 0 := by
          refine Decidable.byContradiction fun z3 => ?_
          rw [List.getElem?_eq_none (by simp; omega)] at hj
          cases hj
        have z3 : j = i := by omega
        rw [z2] at hj
        subst z3
        cases hj
        exact hφ _ _ _ _ (Tx.updL q2) hv
  · obtain ⟨p1, ws, p2, p3, p4⟩ := p
    exact k H' ws p1 p2 p3 p4
end
/-! ### sorted(xs), xs a list of data: which item went where -/
open PySem.W in
def rSortedM (K : PySem.W.Frag) : List V → Hp → VK → Prop := fun xs H Q => ∃ (a : Addr) (vs : List V) (ds : List D), xs = [.ref a] ∧ SqL K H a vs ∧ DpAll K H vs ds ∧ AllAlike ds ∧ Sortable ds ∧ (∀ d ∈ ds, d.depth ≤ 50) ∧
  ∀ (bs : List (V × D)) (p : Addr), H p = none → bs.Perm (vs.zip ds) → bs.map (·.2) = ds.mergeSort (dataLe false id) → Q (.ref p) (upd H p (.lst (bs.map (·.1))))
section
open PySem.W
variable {X : Cx} {K : PySem.W.Frag}
theorem call_sortedM (hu : X.A.units + 64 < cLine) (hK : X.K = K := by rfl) : CallR X (.builtin "sorted") (rSortedM K) := by
  subst hK
  intro pins s σ H xs us Q I r h
  obtain ⟨a, vs, ds, rfl, hs, hd, al, so, dep, q⟩ := h
  obtain ⟨its, rv, hl, hz⟩ := I.list hs
  rw [Vals.ref1 r]
  have e := each_of rv hd
  have hle : vs.length = ds.length := dpa_len hd
  have em : (vs.zip ds).map (·.2) = ds := by
    rw [List.map_snd_zip]
    omega
  have er : EachIs (fun (u : Value) (b : V × D) => ∃ as, Reads s.heap u b.2 as) its (vs.zip ds) := e.mono fun u b hb => Dp.reads I b.2 b.1 u hb.2 hb.1
  have hzl : (vs.zip ds).length = its.length := e.length.symm
  refine sorted_data (enc := fun b : V × D => b.2) hl.isList e er (by rw [em]; exact al) (by rw [em]; exact so) (by rw [hzl, ← rv.length]; exact hz) (fun b hb => ?_) fun out hol heo => ?_
  · have : b.2 ∈ ds := by
      rw [← em]
      exact List.mem_map.mpr ⟨b, hb, rfl⟩
    have := dep b.2 this
    show X.A.units + 2 + b.2.depth < cLine
    omega
  · obtain ⟨ep, he'⟩ := PyProof.Rows.sortedAll_at s.heap its out.toArray
    obtain ⟨hv, hda⟩ := each_back heo
    have e2 : ((vs.zip ds).mergeSort (dataLe false fun b : V × D => b.2)).map (·.2) = ds.mergeSort (dataLe false id) := by
      rw [sort_maps (s := dataLe false id) (fun b : V × D => b.2) (fun a _ b _ => dataLe_map _ a b), em]
    refine ⟨.ref _, upd H (s.heap.objs.size + 1) (.lst _), I.laid (t' := s.toks) (fun _ _ => PyProof.Rows.sortedAll_old) (Nat.le_succ _) ⟨?_, out, ep, hv, he'⟩, rfl, q _ _ (I.hok.fresh (Nat.le_succ _)) (List.mergeSort_perm _ _) e2⟩
    rw [hv.length, hol, hzl, ← rv.length]
    exact hz
end
end TH

namespace TH
open PySem PySem.Spec PyProof.Rows L2
/-! ### walking a list or a tuple -/
def SeqIt (K : PySem.W.Frag) (H : Hp) (a : Addr) (J : It) : Prop := ((∃ xs, SqL K H a xs) ∧ J = Itl K a) ∨ ((∃ xs, SqT K H a xs) ∧ J = Itt K a)
def iSeq (K : PySem.W.Frag) (tl : TE) : TI := fun σ H R => tl σ H fun x H1 => ∃ a J, x = .ref a ∧ SeqIt K H1 a J ∧ R J H1
theorem seq_it {K : PySem.W.Frag} {H : Hp} {a : Addr} {xs : List V} (h : SqL K H a xs ∨ SqT K H a xs) : ∃ J G, SeqIt K H a J ∧ Walk J xs.length G (YAt xs) ∧ ∀ H', Ex H H' → G H' := by
  rcases h with h | h
  · exact ⟨_, _, .inl ⟨⟨_, h⟩, rfl⟩, walk_list, fun H' e => e.l h⟩
  · exact ⟨_, _, .inr ⟨⟨_, h⟩, rfl⟩, walk_tup, fun H' e => e.t h⟩
section
variable {X : Cx} {K : PySem.W.Frag} {tg l : Expr} {tl : TE} {σ : L2.St} {H : Hp} {R : It → Hp → Prop}
theorem w_iseq (k : tl σ H fun x H1 => ∃ a J, x = .ref a ∧ SeqIt K H1 a J ∧ R J H1) : iSeq K tl σ H R := k
theorem kpi_seq (hl : PE X l tl) (hK : X.K = K := by rfl) : PI X tg l (iSeq K tl) := by
  subst hK
  refine ⟨fun pins s σ H R I h => ?_⟩
  refine thn (hl.run pins s σ H _ I h) fun v s1 ⟨x, H1, I1, r1, q1⟩ => ?_
  obtain ⟨a, J, e, q1, q⟩ := q1
  subst e
  cases r1
  have fresh : ∀ b, b ∈ [s1.heap.objs.size] → b = s1.heap.objs.size := fun b hb => by simpa using hb
  rcases q1 with ⟨⟨xs, hq⟩, rfl⟩ | ⟨⟨xs, hq⟩, rfl⟩
  · obtain ⟨its, rv, p, hz⟩ := I1.list hq
    refine wpAny_pyIter_list p.isList ⟨s1.heap.objs.size, [s1.heap.objs.size], _, _, H1, rfl, I1.kept (t' := s1.toks) fun b o e => Heap.get?_push_of_some _ e, turn_list a _, ⟨_, Heap.get?_push_size _ rfl, rfl, rfl⟩, fun b hb => ?_, q⟩
    rw [fresh b hb]
    exact I1.fpOk (Nat.le_refl _) (I1.hok.fresh (Nat.le_refl _))
  · obtain ⟨its, rv, p, hz⟩ := I1.tuple hq
    refine wpAny_pyIter_tuple (show s1.heap.IsTuple a its.toArray from p) ⟨s1.heap.objs.size, [s1.heap.objs.size], _, _, H1, rfl, I1.kept (t' := s1.toks) fun b o e => Heap.get?_push_of_some _ e, turn_tuple a _, ⟨_, Heap.get?_push_size _ rfl, rfl, rfl⟩, fun b hb => ?_, q⟩
    rw [fresh b hb]
    exact I1.fpOk (Nat.le_refl _) (I1.hok.fresh (Nat.le_refl _))
end
end TH

namespace TH
open PySem PySem.Spec PyProof.Rows L2
/-! ### zip(a list, a tuple) -/
def ItzM (K : PySem.W.Frag) (a b : Addr) : It :=
  ⟨fun i H => ∃ (xs ys : List V) (x y : V), SqL K H a xs ∧ SqT K H b ys ∧ xs[i]? = some x ∧ ys[i]? = some y,
    fun i H v H' => ∃ T x y, v = .ref T ∧ H T = none ∧ H' = upd H T (.tup [x, y]) ∧ (∀ xs, SqL K H a xs → xs[i]? = some x) ∧ ∀ ys, SqT K H b ys → ys[i]? = some y,
    fun i H => ∃ xs ys : List V, SqL K H a xs ∧ SqT K H b ys ∧ i ≤ xs.length ∧ i ≤ ys.length ∧ (i = xs.length ∨ i = ys.length)⟩
theorem five {P : Addr → Prop} {z TI TO i1 i2 : Addr} (h0 : P z) (h1 : P TI) (h2 : P TO) (h3 : P i1) (h4 : P i2) : ∀ c ∈ [z, TI, TO, i1, i2], P c := fun c hc => by
  have e' : c = z ∨ c = TI ∨ c = TO ∨ c = i1 ∨ c = i2 := by simpa using hc
  rcases e' with q | q | q | q | q <;> (rw [q]; assumption)
theorem turn_zipM {P : Program} {w : World} {K : PySem.W.Frag} {elts : List Expr} {kk : Nat} {tpos : Pos} {a b z TI TO i1 i2 : Addr} (D : ZipSep2 z TI TO i1 i2 [i1, a] [i2, b]) (hai : a ≠ i1) (hbi : b ≠ i2) :
    Turn P w K (.Tuple elts kk tpos) (ItzM K a b) [z, TI, TO, i1, i2] z (fun i h => IsZip h z TI TO .none ∧ IsTupOf2 h TI (.ref i1) (.ref i2) ∧ (∃ x y, IsTupOf2 h TO x y) ∧ h.IsListIter i1 a i ∧ h.IsTupleIter i2 b i) where
  mem := by simp
  obj := fun i h st => by
    obtain ⟨hz, hTI, ⟨x, y, hTO⟩, ⟨o1, e1, _, d1⟩, ⟨o2, e2, _, d2⟩⟩ := st
    exact five ⟨_, hz, fun v q => nomatch q⟩ ⟨_, hTI, fun v q => nomatch q⟩ ⟨_, hTO, fun v q => nomatch q⟩ ⟨o1, e1, fun v q => by rw [d1] at q; cases q⟩ ⟨o2, e2, fun v q => by rw [d2] at q; cases q⟩
  keep := fun i h h' st k => by
    obtain ⟨hz, hTI, ⟨x, y, hTO⟩, h1, h2⟩ := st
    exact ⟨k z (by simp) _ hz, k TI (by simp) _ hTI, ⟨x, y, k TO (by simp) _ hTO⟩, h1.at fun o q => k i1 (by simp) o q, h2.at fun o q => k i2 (by simp) o q⟩
  item := by
    intro X hP hw hK hc i pins s σ H E I hf st hg
    subst hP hw hK
    obtain ⟨hz, hTI, ⟨x0, y0, hTO⟩, h1, h2⟩ := st
    obtain ⟨xs, ys, x, y, hqx, hqy, hx, hy⟩ := hg
    obtain ⟨its, rv, p, _⟩ := I.list hqx
    obtain ⟨its2, rv2, p2, _⟩ := I.tuple hqy
    obtain ⟨u, hu, ru⟩ := rv.get hx
    obtain ⟨u2, hu2, ru2⟩ := rv2.get hy
    have hA : X.A.in1.handled = none := I.ok.hd hc
    have hzl : z < s.heap.objs.size := Heap.lt_size hz
    have l1 : i < its.toArray.size := by simpa using (List.getElem?_eq_some_iff.mp hu).1
    have l2 : i < its2.toArray.size := by simpa using (List.getElem?_eq_some_iff.mp hu2).1
    refine wpAny_pyNext_zipD2_item D (Draws.list (prog := X.prog) (w := X.w) hA i1 a hai its.toArray) (Draws.tuple (prog := X.prog) (w := X.w) hA i2 b hbi its2.toArray) hz hTI hTO ⟨h1, p.isList⟩ ⟨h2, p2⟩ l1 l2 fun v1 v2 h' tk q1 q2 z' TO' st1 st2 hT hsz hk => ?_
    have ev1 : v1 = u := by
      have : its.toArray[i]? = some u := by simpa using hu
      rw [this] at q1
      exact (Option.some.inj q1).symm
    have ev2 : v2 = u2 := by
      have : its2.toArray[i]? = some u2 := by simpa using hu2
      rw [this] at q2
      exact (Option.some.inj q2).symm
    subst ev1 ev2
    refine ⟨_, rfl, wpAny_letOwnedTupleGo_zip (s := { s with heap := h', toks := tk }) z' fun h'' z'' sb => ?_⟩
    have hT2 : h''.get? s.heap.objs.size = some { cls := .type "tuple", data := .seq #[v1, v2] } := (sb.2 _ (Nat.ne_of_gt hzl)).trans hT
    have new : ObjOk X.prog X.w (upd H s.heap.objs.size (.tup [x, y])) h'' s.heap.objs.size (.tup [x, y]) :=
      ⟨by show 2 ≤ sizeLine; decide, [v1, v2], .cons ru (.cons ru2 .nil), ⟨_, hT2, rfl, _, rfl⟩⟩
    have I1 : Inv X pins σ (upd H s.heap.objs.size (.tup [x, y])) { s with heap := h'', toks := tk } :=
      I.turnedNew (ch := [z, TI, TO, i1, i2]) (fun c o hb q => (sb.2 c (fun q' => hb (by simp [q']))).trans (hk c o (fun q' => hb (by simp [q'])) (fun q' => hb (by simp [q'])) (fun q' => hb (by simp [q'])) (fun q' => hb (by simp [q'])) q)) hf (Nat.le_refl _) new
    refine ⟨.ref s.heap.objs.size, _, I1, rfl, ⟨_, x, y, rfl, I.hok.fresh (Nat.le_refl _), rfl, fun l hl => by rw [I.list_inj hl hqx]; exact hx, fun l hl => by rw [I.tuple_inj hl hqy]; exact hy⟩, ⟨z'', ?_, ⟨v1, v2, ?_⟩, ?_, ?_⟩, fun c hcm => ?_⟩
    · exact (sb.2 _ D.TIz).trans (hk _ _ D.TIz D.TITO D.TIi1 D.TIi2 hTI)
    · exact (sb.2 _ D.TOz).trans TO'
    · exact st1.1.at fun o q => (sb.2 _ (Ne.symm D.zi1)).trans q
    · exact st2.1.at fun o q => (sb.2 _ (Ne.symm D.zi2)).trans q
    · have hlt : c < s.heap.objs.size := by
        obtain ⟨_, e1, _⟩ := h1
        obtain ⟨_, e2, _⟩ := h2
        exact five (P := fun c => c < s.heap.objs.size) hzl (Heap.lt_size hTI) (Heap.lt_size hTO) (Heap.lt_size e1) (Heap.lt_size e2) c hcm
      rw [upd_ne (Nat.ne_of_lt hlt)]
      exact (hf c hcm).1
  done := by
    intro X hP hw hK hc i pins s σ H E I hf st hg
    subst hP hw hK
    obtain ⟨hz, hTI, ⟨x0, y0, hTO⟩, h1, h2⟩ := st
    obtain ⟨xs, ys, hqx, hqy, n1, n2, hend⟩ := hg
    obtain ⟨its, rv, p, _⟩ := I.list hqx
    obtain ⟨its2, rv2, p2, _⟩ := I.tuple hqy
    have l1 := rv.length
    have l2 := rv2.length
    have hA : X.A.in1.handled = none := I.ok.hd hc
    exact wpAny_pyNext_zipD2_end D (Draws.list (prog := X.prog) (w := X.w) hA i1 a hai its.toArray) (Draws.tuple (prog := X.prog) (w := X.w) hA i2 b hbi its2.toArray) hz hTI hTO ⟨h1, p.isList⟩ ⟨h2, p2⟩ (by simp; omega) (by simp; omega) (by simp; omega) fun h' tk hk => ⟨rfl, I.turnedL (t' := tk) (ch := [z, TI, TO, i1, i2]) (fun c o hb q =>
      hk c o (fun q' => hb (by simp [q'])) (fun q' => hb (by simp [q'])) (fun q' => hb (by simp [q'])) (fun q' => hb (by simp [q'])) q) hf⟩
  self := fun A i s Q E st h => wpAny_pyIter_zip st.1 h
def iZipM (K : PySem.W.Frag) (ta : TA) : TI := fun σ H R => ta σ H fun vs H1 => ∃ a b xs ys, vs = [.ref a, .ref b] ∧ SqL K H1 a xs ∧ ((SqL K H1 b ys ∧ R (Itz K a b) H1) ∨ (SqT K H1 b ys ∧ R (ItzM K a b) H1))
section
variable {K : PySem.W.Frag} {ta : TA} {σ : L2.St} {H : Hp} {R : It → Hp → Prop}
theorem w_izipM (k : ta σ H fun vs H1 => ∃ a b xs ys, vs = [.ref a, .ref b] ∧ SqL K H1 a xs ∧ ((SqL K H1 b ys ∧ R (Itz K a b) H1) ∨ (SqT K H1 b ys ∧ R (ItzM K a b) H1))) : iZipM K ta σ H R := k
end
theorem kpi_zipM {X : Cx} {K : PySem.W.Frag} {e e2 : Expr} {ta : TA} {p pos tpos : Pos} {elts : List Expr} {kk : Nat} (hg : Gl X "zip") (hm : X.mg "zip" = none) (ha : PA X [e, e2] ta)
    (hs : starEach [e, e2] X.env = (false, eval e X.env) :: starEach [e2] X.env := by rfl) (hpl : (backTo pos (starEach [e2] X.env)).any (·.1) = false := by rfl) (hK : X.K = K := by rfl) :
    PI X (.Tuple elts kk tpos) (.Call (.Name "zip" p) [e, e2] [] pos) (iZipM K ta) := by
  subst hK
  refine ⟨fun pins s σ H R I h => ?_⟩
  refine Call_ (ld_blt I hg hm PyProof.Rows.boot_zip (PyProof.Rows.callWith_type1 (thn (ha.run pos pins s σ H _ I h) fun us s1 ⟨vs, H1, I1, r1, q1⟩ => ?_) hs hpl))
  obtain ⟨a, b, xs, ys, ex, hqx, q1⟩ := q1
  subst ex
  obtain ⟨u1, u2, eu, ra, rb⟩ := vals2 r1
  subst eu
  cases ra
  cases rb
  have fresh5 : ∀ c ∈ [s1.heap.objs.size + 4, s1.heap.objs.size + 2, s1.heap.objs.size + 3, s1.heap.objs.size, s1.heap.objs.size + 1], FpOk X pins H1 c := by
    have at' : ∀ c, s1.heap.objs.size ≤ c → FpOk X pins H1 c := fun c hle => I1.fpOk hle (I1.hok.fresh hle)
    exact five (at' _ (Nat.le_add_right _ _)) (at' _ (Nat.le_add_right _ _)) (at' _ (Nat.le_add_right _ _)) (at' _ (Nat.le_refl _)) (at' _ (Nat.le_add_right _ _))
  obtain ⟨its, rv, p1, _⟩ := I1.list hqx
  rcases q1 with ⟨hqy, q⟩ | ⟨hqy, q⟩
  · obtain ⟨its2, rv2, p2, _⟩ := I1.list hqy
    refine call_zip_2 p1.isList p2.isList fun h' hz hTI hTO h1 h2 hsz hk => wpAny_pyIter_zip hz ?_
    have I2 : Inv X pins σ H1 { s1 with heap := h' } := I1.kept (t' := s1.toks) hk
    exact ⟨s1.heap.objs.size + 4, [s1.heap.objs.size + 4, s1.heap.objs.size + 2, s1.heap.objs.size + 3, s1.heap.objs.size, s1.heap.objs.size + 1], _, _, H1, rfl, I2, turn_zip (PySem.W.ktu_apart s1.heap.objs.size a b p1.lt p2.lt), ⟨hz, hTI, ⟨_, _, hTO⟩, h1, h2⟩, fresh5, q⟩
  · obtain ⟨its2, rv2, p2, _⟩ := I1.tuple hqy
    obtain ⟨o2, ho2, _⟩ := id p2
    have la : a < s1.heap.objs.size := p1.lt
    have lb : b < s1.heap.objs.size := Heap.lt_size ho2
    refine zip_begins2 (begins_list a its.toArray) (begins_tuple b its2.toArray) p1.isList (show s1.heap.IsTuple b its2.toArray from p2) fun h' hz hTI hTO g1 g2 hsz hk => wpAny_pyIter_zip hz ?_
    have I2 : Inv X pins σ H1 { s1 with heap := h' } := I1.kept (t' := s1.toks) hk
    refine ⟨s1.heap.objs.size + 4, [s1.heap.objs.size + 4, s1.heap.objs.size + 2, s1.heap.objs.size + 3, s1.heap.objs.size, s1.heap.objs.size + 1], _, _, H1, rfl, I2, turn_zipM (zip_sep2 (N := s1.heap.objs.size) (fp1 := [a]) (fp2 := [b]) (fun c hc => by rw [List.mem_singleton.mp hc]; exact la) (fun c hc => by rw [List.mem_singleton.mp hc]; exact lb)) (Nat.ne_of_lt la) (Nat.ne_of_lt (Nat.lt_succ_of_lt lb)), ⟨hz, hTI, ⟨_, _, hTO⟩, ⟨_, g1, rfl, rfl⟩, ⟨_, g2, rfl, rfl⟩⟩, fresh5, q⟩
section
variable {K : PySem.W.Frag} {a b : Addr} {xs ys : List V}
theorem walk_zipM {n : Nat} (hn : n = min xs.length ys.length) : Walk (ItzM K a b) n (fun H => SqL K H a xs ∧ SqT K H b ys) (YPair (fun i => xs[i]?) (fun i => ys[i]?)) := by
  subst hn
  refine ⟨fun i _ hi q => ?_, fun _ q => ⟨xs, ys, q.1, q.2, by omega, by omega, by omega⟩, fun i H v H' _ q y => ?_⟩
  · have h1 : i < xs.length := by omega
    have h2 : i < ys.length := by omega
    exact ⟨xs, ys, xs[i], ys[i], q.1, q.2, by simp [h1], by simp [h2]⟩
  · obtain ⟨T, x, z, h1, h2, h3, h4, h5⟩ := y
    exact ⟨T, x, z, h1, h2, h3, h4 xs q.1, h5 ys q.2⟩
end
end TH

namespace TH
open PySem PySem.Spec PyProof.Rows L2
/-! ### lists of lists of numbers -/
variable {K : PySem.W.Frag}
def rowL (r : List Int) : D := .list (r.map .int)
theorem dp_rowL {H : Hp} {v : V} {r : List Int} (h : Dp K H v (rowL r)) : ∃ a, v = .ref a ∧ SqL K H a (r.map V.int) := by
  obtain ⟨a, xs, rfl, h1, h2⟩ := dp_lst h
  rw [dpa_ints_inv h2] at h1
  exact ⟨a, rfl, h1⟩
theorem dp_rowL_of {H : Hp} {a : Addr} {r : List Int} (h : SqL K H a (r.map V.int)) : Dp K H (.ref a) (rowL r) := .lst h (dpa_ints r)
def AllRef (ws : List V) : Prop := ∀ x ∈ ws, ∃ a : Addr, x = .ref a
theorem upd_self {H : Hp} {a : Addr} {o : HO} (h : H a = some o) : upd H a o = H := by
  funext c
  by_cases e : c = a
  · rw [e, upd_same, h]
  · rw [upd_ne e]
theorem rowL_away {H : Hp} {Dl : Addr} {ws : List V} {v : V} {r : List Int} (h : Dp K H v (rowL r)) (hr : r ≠ []) (hD : H Dl = some (.lst ws)) (hw : AllRef ws) (o : HO) : Dp K (upd H Dl o) v (rowL r) := by
  obtain ⟨a, rfl, ha⟩ := dp_rowL h
  refine dp_rowL_of ?_
  rcases ha with (ha | ⟨ob, ha⟩) | ha
  · refine sqL ?_
    rw [upd_ne fun e => ?_]
    · exact ha
    · rw [e, hD] at ha
      injection ha with ha
      injection ha with ha
      cases r with
      | nil => exact hr rfl
      | cons x r =>
        rw [ha, List.map_cons] at hw
        obtain ⟨a', e'⟩ := hw _ List.mem_cons_self
        cases e'
  · refine .inl (.inr ⟨ob, ?_⟩)
    rw [upd_ne fun e => by rw [e, hD] at ha; cases ha]
    exact ha
  · exact .inr ha
theorem dpa_away {H : Hp} {Dl : Addr} {ws : List V} (hD : H Dl = some (.lst ws)) (hw : AllRef ws) (o : HO) : ∀ {rs : List (List Int)} {vs : List V}, (∀ r ∈ rs, r ≠ []) → DpAll K H vs (rs.map rowL) → DpAll K (upd H Dl o) vs (rs.map rowL)
  | [], _, _, h => by cases h; exact .nil
  | r :: rs, _, hr, h => by
    cases h with
    | cons h1 h2 => exact .cons (rowL_away h1 (hr r List.mem_cons_self) hD hw o) (dpa_away hD hw o (fun x hx => hr x (List.mem_cons_of_mem _ hx)) h2)
theorem dpa_refs {H : Hp} : ∀ {rs : List (List Int)} {vs : List V}, DpAll K H vs (rs.map rowL) → AllRef vs
  | [], _, h => by cases h; exact fun x hx => nomatch hx
  | r :: rs, _, h => by
    cases h with
    | cons h1 h2 =>
      intro x hx
      rcases List.mem_cons.mp hx with e | e
      · obtain ⟨a, e2, _⟩ := dp_rowL h1
        exact ⟨a, by rw [e, e2]⟩
      · exact dpa_refs h2 x e
theorem rowsL_at {H : Hp} {vs : List V} {rs : List (List Int)} {i : Nat} {v : V} (h : DpAll K H vs (rs.map rowL)) (hv : vs[i]? = some v) : ∃ r, rs[i]? = some r ∧ Dp K H v (rowL r) := by
  obtain ⟨d, h1, h2⟩ := dpa_get h hv
  rw [List.getElem?_map] at h1
  cases e : rs[i]? with
  | none => rw [e] at h1; cases h1
  | some r => rw [e] at h1; cases h1; exact ⟨r, rfl, h2⟩
def madeR (n : Nat) (keep : Nat → Bool) (g : Nat → List Int) : List (List Int) := ((List.range n).filter keep).map g
theorem madeR_yes {n : Nat} {f : Nat → Bool} {v : Nat → List Int} (h : f n = true) : madeR (n + 1) f v = madeR n f v ++ [v n] := by
  unfold madeR
  rw [List.range_succ, List.filter_append, List.map_append, List.filter_cons, if_pos h] <;> rfl
theorem madeR_no {n : Nat} {f : Nat → Bool} {v : Nat → List Int} (h : f n = false) : madeR (n + 1) f v = madeR n f v := by
  unfold madeR
  rw [List.range_succ, List.filter_append, List.map_append, List.filter_cons, if_neg (by rw [h]; decide)]
  show _ ++ [] = _
  rw [List.append_nil]
theorem madeR_len (n : Nat) (f : Nat → Bool) (v : Nat → List Int) : (madeR n f v).length ≤ n := by
  unfold madeR
  rw [List.length_map]
  have h := List.length_filter_le f (List.range n)
  rw [List.length_range] at h
  exact h
section
variable {J : It} {n : Nat} {G : Hp → Prop} {Y : Nat → Hp → V → Hp → Prop} {g : TG} {tt : TT} {te : TE} {H1 : Hp} {Dl : Addr}
/-- a comprehension that makes a list of lists of numbers -/
theorem lc_rowX {σ0 : L2.St} {C : L2.St → Prop} {Qd : Hp → Prop} (w : Walk J n G Y) (keep : Nat → Bool) (gd : Nat → List Int) (hG : ∀ H', Ex H1 H' → G H') (hD : H1 Dl = none) (hn : n ≤ 1000000)
    (hs : ∀ i x H' H'' ws, i < n → Ex H1 H' → H' Dl = some (.lst ws) → AllRef ws → Y i H' x H'' → ∀ (R : VK) (R0 : Hp → Prop), (keep i = true → ∀ v H3, Ex H' H3 → (∀ o, Dp K (upd H3 Dl o) v (rowL (gd i))) → R v H3) → (keep i = false → ∀ H3, Ex H' H3 → R0 H3) →
      g x σ0 H'' fun σ2 H2 => C σ2 ∧ tt σ2 H2 fun b H3 => if b = true then te σ2 H3 R else R0 H3)
    (k : ∀ H' ws, Ex H1 H' → H' Dl = some (.lst ws) → AllRef ws → DpAll K H' ws ((madeR n keep gd).map rowL) → Qd H') :
    ∃ W : Nat → Nat → Hp → Prop, (∃ m, W 0 m (upd H1 Dl (.lst []))) ∧ ∀ i m H, W i m H →
      (J.stop i H ∧ Qd H) ∨ (J.go i H ∧ ∃ Nx : Hp → Prop, (∀ H', Nx H' → ∃ m', m' < m ∧ W (i + 1) m' H') ∧ ∀ x H', J.yld i H x H' → g x σ0 H' fun σ2 H2 => C σ2 ∧ tt σ2 H2 fun b H3 =>
        if b = true then te σ2 H3 fun y H4 => ∃ acc, H4 Dl = some (.lst acc) ∧ acc.length < sizeLine ∧ Nx (upd H4 Dl (.lst (acc ++ [y]))) else Nx H3) := by
  refine lc_it' w (fun i H' => Ex H1 H' ∧ ∃ ws, H' Dl = some (.lst ws) ∧ AllRef ws ∧ ∀ o, DpAll K (upd H' Dl o) ws ((madeR i keep gd).map rowL)) ⟨Ex.new hD, [], upd_same, (fun x hx => nomatch hx), fun _ => .nil⟩ (fun i H' _ p => hG H' p.1) (fun i x H' H'' hi p y => ?_) (fun H' p => ?_)
  · obtain ⟨p1, ws, p2, p3, p4⟩ := p
    refine hs i x H' H'' ws hi p1 p2 p3 y _ _ (fun hk v H3 e3 hv => ?_) (fun hk H3 e3 => ?_)
    · have q2 : H3 Dl = some (.lst ws) := e3 _ _ p2
      have hl : ws.length = (madeR i keep gd).length := by rw [dpa_len (p4 (.lst [])), List.length_map]
      refine ⟨ws, q2, Nat.lt_of_le_of_lt (by rw [hl]; exact madeR_len i keep gd) (Nat.lt_of_lt_of_le hi (small2 hn)), (p1.trans e3).mut hD, ws ++ [v], upd_same, fun z hz => ?_, fun o => ?_⟩
      · rcases List.mem_append.mp hz with m | m
        · exact p3 z m
        · obtain ⟨a, e, _⟩ := dp_rowL (hv (.lst []))
          rw [List.mem_singleton.mp m]
          exact ⟨a, e⟩
      · rw [upd_upd, madeR_yes hk, List.map_append]
        exact dpa_snoc ((Ex.both e3).dpa (p4 o)) (hv o)
    · refine ⟨p1.trans e3, ws, e3 _ _ p2, p3, fun o => ?_⟩
      rw [madeR_no hk]
      exact (Ex.both e3).dpa (p4 o)
  · obtain ⟨p1, ws, p2, p3, p4⟩ := p
    have := p4 (.lst ws)
    rw [upd_self p2] at this
    exact k H' ws p1 p2 p3 this
end
theorem madeR_filter (p : List Int → Bool) (f : List Int → List Int) : ∀ xs : List (List Int), madeR xs.length (fun i => p (xs.getD i [])) (fun i => f (xs.getD i [])) = (xs.filter p).map f := fun xs => by
  unfold madeR
  have h1 : ((List.range xs.length).map fun i => xs.getD i []) = xs := by
    have := range_map [] (fun x : List Int => x) xs
    rwa [List.map_id'] at this
  have h2 : xs.filter p = (((List.range xs.length).filter fun i => p (xs.getD i [])).map fun i => xs.getD i []) := by
    conv => lhs; rw [← h1]
    rw [List.filter_map]
    rfl
  rw [h2, List.map_map]
  rfl
theorem madeR_all (n : Nat) (v : Nat → List Int) : madeR n (fun _ => true) v = (List.range n).map v := by
  unfold madeR
  rw [List.filter_eq_self.mpr (fun _ _ => rfl)]
end TH

namespace LA
open Lean.Grind
variable {F : Type} [CommRing F]

/-- the j-th value of a row, 0 beyond -/
abbrev at' (r : List F) (j : Nat) : F := r.getD j 0
def sub (r o : List F) (c : F) : List F := List.zipWith (fun a b => a - c * b) r o
def smul (c : F) (r : List F) : List F := r.map (fun a => c * a)
def zero (w : Nat) : List F := List.replicate w 0

theorem sub_len {r o : List F} {c : F} {w : Nat} (h1 : r.length = w) (h2 : o.length = w) : (sub r o c).length = w := by
  simp [sub, h1, h2]
theorem smul_len {r : List F} {c : F} {w : Nat} (h1 : r.length = w) : (smul c r).length = w := by
  simp [smul, h1]
theorem zero_len {w : Nat} : (zero w : List F).length = w := by simp [zero]
theorem sub_at {r o : List F} {c : F} (h : r.length = o.length) (j : Nat) : at' (sub r o c) j = at' r j - c * at' o j := by
  unfold at' sub
  by_cases hj : j < r.length
  · have hj2 : j < o.length := by omega
    simp [List.getD_eq_getElem?_getD, List.getElem?_zipWith, List.getElem?_eq_getElem hj, List.getElem?_eq_getElem hj2]
  · have a1 : r[j]? = none := List.getElem?_eq_none (by omega)
    have a2 : o[j]? = none := List.getElem?_eq_none (by omega)
    simp [List.getD_eq_getElem?_getD, List.getElem?_zipWith, a1, a2]
    grind
theorem smul_at {r : List F} {c : F} (j : Nat) : at' (smul c r) j = c * at' r j := by
  unfold at' smul
  simp only [List.getD_eq_getElem?_getD, List.getElem?_map]
  cases r[j]? with
  | none => simp; grind
  | some v => simp
theorem zero_at {w : Nat} (j : Nat) : at' (zero w : List F) j = 0 := by
  unfold at' zero
  simp only [List.getD_eq_getElem?_getD, List.getElem?_replicate]
  split <;> simp
theorem ext' {r o : List F} (h : r.length = o.length) (e : ∀ j, at' r j = at' o j) : r = o := by
  apply List.ext_getElem h
  intro j h1 h2
  have := e j
  simpa [at', List.getD_eq_getElem?_getD, List.getElem?_eq_getElem h1, List.getElem?_eq_getElem h2] using this

/-- rows whose mixtures are spanned -/
def InS (w : Nat) : List (List F) → List F → Prop
  | [], v => v = zero w
  | r :: rs, v => ∃ c, InS w rs (sub v r c)

def Wd (w : Nat) (S : List (List F)) : Prop := ∀ r ∈ S, r.length = w
variable {w : Nat}
theorem Wd.tail {r : List F} {S : List (List F)} (h : Wd w (r :: S)) : Wd w S := fun x hx => h x (List.mem_cons_of_mem _ hx)
theorem Wd.head {r : List F} {S : List (List F)} (h : Wd w (r :: S)) : r.length = w := h r List.mem_cons_self

theorem inS_zero : ∀ {S : List (List F)}, Wd w S → InS w S (zero w)
  | [], _ => rfl
  | r :: S, h => ⟨0, by
      have e : sub (zero w) r 0 = zero w := by
        apply ext'
        · rw [sub_len zero_len h.head, zero_len]
        · intro j
          rw [sub_at (by rw [zero_len, h.head]), zero_at]
          grind
      rw [e]
      exact inS_zero h.tail⟩
theorem inS_sub : ∀ {S : List (List F)} {u v : List F} {c : F}, Wd w S → u.length = w → v.length = w → InS w S u → InS w S v → InS w S (sub u v c)
  | [], u, v, c, _, hu, hv, a, b => by
    have a' : u = zero w := a
    have b' : v = zero w := b
    show sub u v c = zero w
    rw [a', b']
    apply ext'
    · rw [sub_len zero_len zero_len, zero_len]
    · intro j
      rw [sub_at rfl, zero_at]
      grind
  | r :: S, u, v, c, h, hu, hv, ⟨cu, a⟩, ⟨cv, b⟩ => by
    refine ⟨cu - c * cv, ?_⟩
    have l1 := h.head
    have e : sub (sub u v c) r (cu - c * cv) = sub (sub u r cu) (sub v r cv) c := by
      apply ext'
      · rw [sub_len (sub_len hu hv) l1, sub_len (sub_len hu l1) (sub_len hv l1)]
      · intro j
        rw [sub_at (by rw [sub_len hu hv, l1]), sub_at (by rw [hu, hv]), sub_at (by rw [sub_len hu l1, sub_len hv l1]), sub_at (by rw [hu, l1]), sub_at (by rw [hv, l1])]
        grind
    rw [e]
    exact inS_sub h.tail (sub_len hu l1) (sub_len hv l1) a b
theorem inS_len : ∀ {S : List (List F)} {v : List F}, Wd w S → v.length = w → True := fun _ _ => trivial
theorem sub_zero' {v o : List F} (h : v.length = w) (ho : o.length = w) : sub v o 0 = v := by
  apply ext'
  · rw [sub_len h ho, h]
  · intro j
    rw [sub_at (by rw [h, ho])]
    grind
theorem sub_self' {v : List F} (h : v.length = w) : sub v v 1 = zero w := by
  apply ext'
  · rw [sub_len h h, zero_len]
  · intro j
    rw [sub_at rfl, zero_at]
    grind
theorem inS_cons {S : List (List F)} {r v : List F} (h : Wd w (r :: S)) (hv : v.length = w) (a : InS w S v) : InS w (r :: S) v := ⟨0, by rw [sub_zero' hv h.head]; exact a⟩
theorem inS_mem : ∀ {S : List (List F)} {r : List F}, Wd w S → r ∈ S → InS w S r
  | s :: S, r, h, m => by
    rcases List.mem_cons.mp m with e | m
    · subst e
      exact ⟨1, by rw [sub_self' h.head]; exact inS_zero h.tail⟩
    · exact inS_cons h (h r (List.mem_cons_of_mem _ m)) (inS_mem h.tail m)
/-- back: from v - c r and r -/
theorem inS_back {S : List (List F)} {v r : List F} {c : F} (h : Wd w S) (hv : v.length = w) (hr : r.length = w) (a : InS w S (sub v r c)) (b : InS w S r) : InS w S v := by
  have e : sub (sub v r c) r (-c) = v := by
    apply ext'
    · rw [sub_len (sub_len hv hr) hr, hv]
    · intro j
      rw [sub_at (by rw [sub_len hv hr, hr]), sub_at (by rw [hv, hr])]
      grind
  rw [← e]
  exact inS_sub h (sub_len hv hr) hr a b
theorem span_le : ∀ {S T : List (List F)} {v : List F}, Wd w S → Wd w T → v.length = w → (∀ r ∈ S, InS w T r) → InS w S v → InS w T v
  | [], T, v, _, hT, hv, _, a => by
    have a' : v = zero w := a
    rw [a']
    exact inS_zero hT
  | s :: S, T, v, h, hT, hv, m, ⟨c, a⟩ =>
    inS_back hT hv h.head (span_le h.tail hT (sub_len hv h.head) (fun r hr => m r (List.mem_cons_of_mem _ hr)) a) (m s List.mem_cons_self)
theorem inS_smul {S : List (List F)} {v : List F} {c : F} (h : Wd w S) (hv : v.length = w) (a : InS w S v) : InS w S (smul c v) := by
  have e : smul c v = sub (zero w) v (-c) := by
    apply ext'
    · rw [smul_len hv, sub_len zero_len hv]
    · intro j
      rw [smul_at, sub_at (by rw [zero_len, hv]), zero_at]
      grind
  rw [e]
  exact inS_sub h zero_len hv (inS_zero h) a
/-- the same room -/
def Eqv (w : Nat) (S T : List (List F)) : Prop := ∀ v : List F, v.length = w → (InS w S v ↔ InS w T v)
theorem Eqv.refl (S : List (List F)) : Eqv w S S := fun _ _ => Iff.rfl
theorem Eqv.symm {S T : List (List F)} (h : Eqv w S T) : Eqv w T S := fun v l => (h v l).symm
theorem Eqv.trans {S T U : List (List F)} (h : Eqv w S T) (k : Eqv w T U) : Eqv w S U := fun v l => (h v l).trans (k v l)
theorem Eqv.of {S T : List (List F)} (hS : Wd w S) (hT : Wd w T) (a : ∀ r ∈ S, InS w T r) (b : ∀ r ∈ T, InS w S r) : Eqv w S T :=
  fun v l => ⟨span_le hS hT l a, span_le hT hS l b⟩

/-- a row with its first place -/
structure Good (w : Nat) (a : Nat × List F) : Prop where
  len : a.2.length = w
  lt : a.1 < w
  one : at' a.2 a.1 = 1
  nil : ∀ j, j < a.1 → at' a.2 j = 0
structure Lad (w : Nat) (L : List (Nat × List F)) : Prop where
  good : ∀ a ∈ L, Good w a
  pw : L.Pairwise fun a b => a.1 < b.1 ∧ at' a.2 b.1 = 0
abbrev rowsOf (L : List (Nat × List F)) : List (List F) := L.map (·.2)
theorem Lad.wd {L : List (Nat × List F)} (h : Lad w L) : Wd w (rowsOf L) := fun r hr => by
  obtain ⟨a, ha, rfl⟩ := List.mem_map.mp hr
  exact (h.good a ha).len
theorem Lad.tail {a : Nat × List F} {L : List (Nat × List F)} (h : Lad w (a :: L)) : Lad w L :=
  ⟨fun b hb => h.good b (List.mem_cons_of_mem _ hb), (List.pairwise_cons.mp h.pw).2⟩
theorem Lad.later {a : Nat × List F} {L : List (Nat × List F)} (h : Lad w (a :: L)) : ∀ b ∈ L, a.1 < b.1 ∧ at' a.2 b.1 = 0 := (List.pairwise_cons.mp h.pw).1
/-- all rows of a room of rows with noughts at j have a nought at j -/
theorem inS_nil : ∀ {S : List (List F)} {v : List F} {j : Nat}, Wd w S → v.length = w → (∀ r ∈ S, at' r j = 0) → InS w S v → at' v j = 0
  | [], v, j, _, _, _, a => by
    have a' : v = zero w := a
    rw [a', zero_at]
  | r :: S, v, j, h, hv, m, ⟨c, a⟩ => by
    have q := inS_nil h.tail (sub_len hv h.head) (fun x hx => m x (List.mem_cons_of_mem _ hx)) a
    rw [sub_at (by rw [hv, h.head]), m r List.mem_cons_self] at q
    grind
theorem lad_zero : ∀ {L : List (Nat × List F)} {v : List F}, Lad w L → v.length = w → InS w (rowsOf L) v → (∀ a ∈ L, at' v a.1 = 0) → v = zero w
  | [], v, _, _, a, _ => a
  | a :: L, v, h, hv, ⟨c, s⟩, m => by
    have la := (h.good a List.mem_cons_self).len
    have q0 : at' (sub v a.2 c) a.1 = 0 := inS_nil h.tail.wd (sub_len hv la) (fun r hr => by
      obtain ⟨b, hb, rfl⟩ := List.mem_map.mp hr
      exact (h.good b (List.mem_cons_of_mem _ hb)).nil _ (h.later b hb).1) s
    have c0 : c = 0 := by
      rw [sub_at (by rw [hv, la]), m a List.mem_cons_self, (h.good a List.mem_cons_self).one] at q0
      grind
    rw [c0, sub_zero' hv la] at s
    exact lad_zero h.tail hv s fun b hb => m b (List.mem_cons_of_mem _ hb)
/-- the first place of a row of the room is one of the ladder's -/
theorem lad_lead : ∀ {L : List (Nat × List F)} {v : List F} {q : Nat}, Lad w L → v.length = w → InS w (rowsOf L) v → at' v q ≠ 0 → (∀ j, j < q → at' v j = 0) → ∃ a ∈ L, a.1 = q
  | [], v, q, _, _, a, hq, _ => by
    have a' : v = zero w := a
    rw [a', zero_at] at hq
    exact absurd rfl hq
  | a :: L, v, q, h, hv, ⟨c, s⟩, hq, m => by
    have ga := h.good a List.mem_cons_self
    have la := ga.len
    have nz : ∀ j, j ≤ a.1 → at' (sub v a.2 c) j = 0 := fun j hj => inS_nil h.tail.wd (sub_len hv la) (fun r hr => by
      obtain ⟨b, hb, rfl⟩ := List.mem_map.mp hr
      exact (h.good b (List.mem_cons_of_mem _ hb)).nil _ (Nat.lt_of_le_of_lt hj (h.later b hb).1)) s
    have c1 : at' v a.1 = c := by
      have := nz a.1 (Nat.le_refl _)
      rw [sub_at (by rw [hv, la]), ga.one] at this
      grind
    by_cases hc : c = 0
    · rw [hc, sub_zero' hv la] at s
      obtain ⟨b, hb, e⟩ := lad_lead h.tail hv s hq m
      exact ⟨b, List.mem_cons_of_mem _ hb, e⟩
    · refine ⟨a, List.mem_cons_self, ?_⟩
      have h1 : ¬ a.1 < q := fun z => hc (by rw [← c1]; exact m _ z)
      have h2 : ¬ q < a.1 := fun z => hq (by
        have := nz q (Nat.le_of_lt z)
        rw [sub_at (by rw [hv, la]), ga.nil q z] at this
        grind)
      omega
theorem Lad.zeroAt {L : List (Nat × List F)} (h : Lad w L) : ∀ a ∈ L, ∀ b ∈ L, a.1 ≠ b.1 → at' a.2 b.1 = 0 := by
  intro a ha b hb ne
  rcases Nat.lt_or_gt_of_ne ne with l | l
  · -- a is ahead of b
    have key : ∀ (M : List (Nat × List F)), M.Pairwise (fun a b => a.1 < b.1 ∧ at' a.2 b.1 = 0) → a ∈ M → b ∈ M → at' a.2 b.1 = 0 := by
      intro M
      induction M with
      | nil => intro _ m _; cases m
      | cons x M ih =>
        intro pw ma mb
        obtain ⟨p1, p2⟩ := List.pairwise_cons.mp pw
        rcases List.mem_cons.mp ma with e1 | ma'
        · rcases List.mem_cons.mp mb with e2 | mb'
          · rw [e1, e2] at l; omega
          · rw [e1]; exact (p1 b mb').2
        · rcases List.mem_cons.mp mb with e2 | mb'
          · have := (p1 a ma').1; rw [e2] at l; omega
          · exact ih p2 ma' mb'
    exact key L h.pw ha hb
  · exact (h.good a ha).nil _ l
theorem lad_sub {L M : List (Nat × List F)} (ne : (1 : F) ≠ 0) (hL : Lad w L) (hM : Lad w M) (e : Eqv w (rowsOf L) (rowsOf M)) : ∀ a ∈ L, a ∈ M := by
  intro a ha
  have places : ∀ {A B : List (Nat × List F)}, Lad w A → Lad w B → Eqv w (rowsOf A) (rowsOf B) → ∀ x ∈ A, ∃ y ∈ B, y.1 = x.1 := by
    intro A B hA hB e x hx
    have gx := hA.good x hx
    exact lad_lead hB gx.len ((e _ gx.len).mp (inS_mem hA.wd (List.mem_map.mpr ⟨x, hx, rfl⟩))) (by rw [gx.one]; exact ne) gx.nil
  obtain ⟨b, hb, eb⟩ := places hL hM e a ha
  have ga := hL.good a ha
  have gb := hM.good b hb
  have d0 : sub a.2 b.2 1 = zero w := lad_zero hM (sub_len ga.len gb.len)
    (inS_sub hM.wd ga.len gb.len ((e _ ga.len).mp (inS_mem hL.wd (List.mem_map.mpr ⟨a, ha, rfl⟩))) (inS_mem hM.wd (List.mem_map.mpr ⟨b, hb, rfl⟩))) (fun x hx => by
      rw [sub_at (by rw [ga.len, gb.len])]
      by_cases hq : x.1 = a.1
      · rw [hq, ga.one, ← eb, gb.one]
        grind
      · obtain ⟨y, hy, ey⟩ := places hM hL e.symm x hx
        have z1 : at' a.2 x.1 = 0 := by
          rw [← ey]
          exact hL.zeroAt a ha y hy (by rw [ey]; exact fun z => hq z.symm)
        have z2 : at' b.2 x.1 = 0 := hM.zeroAt b hb x hx (by rw [eb]; exact fun z => hq z.symm)
        rw [z1, z2]
        grind)
  have er : a.2 = b.2 := by
    apply ext'
    · rw [ga.len, gb.len]
    · intro j
      have := congrArg (fun r => at' r j) d0
      simp only [sub_at (show a.2.length = b.2.length by rw [ga.len, gb.len]), zero_at] at this
      grind
  have : a = b := Prod.ext eb.symm er
  rw [this]
  exact hb
/-- two lists in strict order with the same members are one -/
theorem sorted_one {α : Type} (k : α → Nat) : ∀ {L M : List α}, L.Pairwise (fun a b => k a < k b) → M.Pairwise (fun a b => k a < k b) → (∀ a ∈ L, a ∈ M) → (∀ a ∈ M, a ∈ L) → L = M
  | [], [], _, _, _, _ => rfl
  | [], b :: M, _, _, _, h => by have := h b List.mem_cons_self; cases this
  | a :: L, [], _, _, h, _ => by have := h a List.mem_cons_self; cases this
  | a :: L, b :: M, pL, pM, h1, h2 => by
    obtain ⟨a1, a2⟩ := List.pairwise_cons.mp pL
    obtain ⟨b1, b2⟩ := List.pairwise_cons.mp pM
    have e : a = b := by
      rcases List.mem_cons.mp (h1 a List.mem_cons_self) with e | m
      · exact e
      · rcases List.mem_cons.mp (h2 b List.mem_cons_self) with e | m'
        · exact e.symm
        · have x1 := b1 a m
          have x2 := a1 b m'
          omega
    subst e
    congr 1
    refine sorted_one k a2 b2 (fun x hx => ?_) (fun x hx => ?_)
    · rcases List.mem_cons.mp (h1 x (List.mem_cons_of_mem _ hx)) with e | m
      · subst e
        have := a1 x hx
        omega
      · exact m
    · rcases List.mem_cons.mp (h2 x (List.mem_cons_of_mem _ hx)) with e | m
      · subst e
        have := b1 x hx
        omega
      · exact m
/-- each room has just one ladder -/
theorem lad_one {L M : List (Nat × List F)} (ne : (1 : F) ≠ 0) (hL : Lad w L) (hM : Lad w M) (e : Eqv w (rowsOf L) (rowsOf M)) : L = M :=
  sorted_one (·.1) (hL.pw.imp fun h => h.1) (hM.pw.imp fun h => h.1) (lad_sub ne hL hM e) (lad_sub ne hM hL e.symm)
end LA

namespace LA
open Lean.Grind
variable {F : Type} [CommRing F] {w : Nat}
theorem inS_mono {S T : List (List F)} {v : List F} (hS : Wd w S) (hT : Wd w T) (hv : v.length = w) (m : ∀ r ∈ S, r ∈ T) (a : InS w S v) : InS w T v := span_le hS hT hv (fun r hr => inS_mem hT (m r hr)) a
theorem Eqv.mem {S T : List (List F)} (hS : Wd w S) (hT : Wd w T) (h : ∀ r, r ∈ S ↔ r ∈ T) : Eqv w S T := fun v hv => ⟨inS_mono hS hT hv fun r hr => (h r).mp hr, inS_mono hT hS hv fun r hr => (h r).mpr hr⟩
/-- all steps taken off, one by one -/
def lessF (S : List (Nat × List F)) (l : List F) : List F := S.foldl (fun l a => sub l a.2 (at' l a.1)) l
structure Sta (w : Nat) (S : List (Nat × List F)) : Prop where
  good : ∀ a ∈ S, Good w a
  pw : S.Pairwise fun a b => a.1 ≠ b.1 ∧ at' b.2 a.1 = 0
abbrev Wds (w : Nat) (S : List (Nat × List F)) : Prop := ∀ a ∈ S, a.2.length = w
theorem Sta.wds {S : List (Nat × List F)} (h : Sta w S) : Wds w S := fun a ha => (h.good a ha).len
theorem Wds.wd {S : List (Nat × List F)} (h : Wds w S) : Wd w (rowsOf S) := fun r hr => by
  obtain ⟨a, ha, rfl⟩ := List.mem_map.mp hr
  exact h a ha
theorem lessF_len : ∀ {S : List (Nat × List F)} {l : List F}, Wds w S → l.length = w → (lessF S l).length = w
  | [], _, _, h => h
  | a :: S, l, hS, h => lessF_len (S := S) (fun b hb => hS b (List.mem_cons_of_mem _ hb)) (sub_len h (hS a List.mem_cons_self))
theorem lessF_keep : ∀ {S : List (Nat × List F)} {l : List F} {q : Nat}, Wds w S → l.length = w → (∀ b ∈ S, at' b.2 q = 0) → at' (lessF S l) q = at' l q
  | [], _, _, _, _, _ => rfl
  | a :: S, l, q, hS, h, hq => by
    have la := hS a List.mem_cons_self
    have := lessF_keep (S := S) (l := sub l a.2 (at' l a.1)) (q := q) (fun b hb => hS b (List.mem_cons_of_mem _ hb)) (sub_len h la) fun b hb => hq b (List.mem_cons_of_mem _ hb)
    show at' (lessF S (sub l a.2 (at' l a.1))) q = _
    rw [this, sub_at (by rw [h, la]), hq a List.mem_cons_self]
    grind
theorem lessF_zero : ∀ {S : List (Nat × List F)} {l : List F}, Sta w S → l.length = w → ∀ a ∈ S, at' (lessF S l) a.1 = 0
  | [], _, _, _, a, ha => nomatch ha
  | x :: S, l, hS, h, a, ha => by
    have gx := hS.good x List.mem_cons_self
    obtain ⟨p1, p2⟩ := List.pairwise_cons.mp hS.pw
    have hT : Sta w S := ⟨fun b hb => hS.good b (List.mem_cons_of_mem _ hb), p2⟩
    have l2 := sub_len (c := at' l x.1) h gx.len
    rcases List.mem_cons.mp ha with e | m
    · subst e
      have := lessF_keep (S := S) (l := sub l a.2 (at' l a.1)) (q := a.1) hT.wds l2 fun b hb => (p1 b hb).2
      show at' (lessF S (sub l a.2 (at' l a.1))) a.1 = _
      rw [this, sub_at (by rw [h, gx.len]), gx.one]
      grind
    · exact lessF_zero hT l2 a m
theorem lessF_span : ∀ {S : List (Nat × List F)} {l : List F} {T : List (List F)}, Wds w S → Wd w T → l.length = w → (∀ a ∈ S, InS w T a.2) → (InS w T (lessF S l) ↔ InS w T l)
  | [], _, _, _, _, _, _ => Iff.rfl
  | a :: S, l, T, hS, hT, h, m => by
    have la := hS a List.mem_cons_self
    have ia := m a List.mem_cons_self
    refine (lessF_span (S := S) (fun b hb => hS b (List.mem_cons_of_mem _ hb)) hT (sub_len h la) fun b hb => m b (List.mem_cons_of_mem _ hb)).trans ⟨fun z => inS_back hT h la z ia, fun z => inS_sub hT h la z ia⟩
theorem smul_one' {l : List F} {t v : F} (hl : l.length = w) (e : t * v = 1) : smul v (smul t l) = l := by
  apply ext'
  · rw [smul_len (smul_len hl), hl]
  · intro j
    rw [smul_at, smul_at]
    grind
theorem wd_snoc {R : List (List F)} {l : List F} (hR : Wd w R) (hl : l.length = w) : Wd w (R ++ [l]) := fun r hr => by
  rcases List.mem_append.mp hr with m | m
  · exact hR r m
  · rw [List.mem_singleton.mp m]; exact hl
/-- a row that leaves nothing -/
theorem sta_none {S : List (Nat × List F)} {R : List (List F)} {l : List F} (hS : Sta w S) (hR : Wd w R) (hl : l.length = w) (e : Eqv w (rowsOf S) R) (hz : lessF S l = zero w) : Eqv w (rowsOf S) (R ++ [l]) := by
  have hT := hS.wds.wd
  refine Eqv.of hT (wd_snoc hR hl) (fun r hr => ?_) (fun r hr => ?_)
  · exact inS_mono hR (wd_snoc hR hl) (hT r hr) (fun x hx => List.mem_append_left _ hx) ((e r (hT r hr)).mp (inS_mem hT hr))
  · rcases List.mem_append.mp hr with m | m
    · exact (e r (hR r m)).mpr (inS_mem hR m)
    · rw [List.mem_singleton.mp m]
      refine (lessF_span hS.wds hT hl fun a ha => inS_mem hT (List.mem_map.mpr ⟨a, ha, rfl⟩)).mp ?_
      rw [hz]
      exact inS_zero hT
/-- a row that leaves a step -/
theorem sta_some {S : List (Nat × List F)} {R : List (List F)} {l : List F} {q : Nat} {t : F} (ne : (1 : F) ≠ 0) (hS : Sta w S) (hR : Wd w R) (hl : l.length = w) (e : Eqv w (rowsOf S) R) (hq : q < w)
    (hn : ∀ j, j < q → at' (lessF S l) j = 0) (ht : t * at' (lessF S l) q = 1) : Sta w (S ++ [(q, smul t (lessF S l))]) ∧ Eqv w (rowsOf (S ++ [(q, smul t (lessF S l))])) (R ++ [l]) := by
  have hw := hS.wds
  have hT := hw.wd
  have ll := lessF_len hw hl
  have g : Good w (q, smul t (lessF S l)) := ⟨smul_len ll, hq, by show at' (smul t (lessF S l)) q = 1; rw [smul_at]; exact ht, fun j hj => by show at' (smul t (lessF S l)) j = 0; rw [smul_at, hn j hj]; grind⟩
  have hnew : Wd w (rowsOf (S ++ [(q, smul t (lessF S l))])) := by
    rw [rowsOf, List.map_append]
    exact wd_snoc hT g.len
  refine ⟨⟨fun a ha => ?_, List.pairwise_append.mpr ⟨hS.pw, List.pairwise_singleton .., fun a ha b hb => ?_⟩⟩, Eqv.of hnew (wd_snoc hR hl) (fun r hr => ?_) (fun r hr => ?_)⟩
  · rcases List.mem_append.mp ha with m | m
    · exact hS.good a m
    · rw [List.mem_singleton.mp m]; exact g
  · rw [List.mem_singleton.mp hb]
    have z := lessF_zero hS hl a ha
    refine ⟨fun ea => ?_, ?_⟩
    · have ea' : a.1 = q := ea
      rw [ea'] at z
      rw [z] at ht
      exact ne (by rw [← ht]; grind)
    · show at' (smul t (lessF S l)) a.1 = 0
      rw [smul_at, z]; grind
  · have hU := wd_snoc hR hl
    rw [rowsOf, List.map_append] at hr
    have inU : ∀ a ∈ S, InS w (R ++ [l]) a.2 := fun a ha => inS_mono hR hU (hw a ha) (fun x hx => List.mem_append_left _ hx) ((e a.2 (hw a ha)).mp (inS_mem hT (List.mem_map.mpr ⟨a, ha, rfl⟩)))
    rcases List.mem_append.mp hr with m | m
    · obtain ⟨a, ha, rfl⟩ := List.mem_map.mp m
      exact inU a ha
    · rw [List.mem_singleton.mp m]
      refine inS_smul hU ll ?_
      exact (lessF_span hw hU hl inU).mpr (inS_mem hU (List.mem_append_right _ (List.mem_singleton.mpr rfl)))
  · have sub' : ∀ x ∈ rowsOf S, x ∈ rowsOf (S ++ [(q, smul t (lessF S l))]) := fun x hx => by
      rw [rowsOf, List.map_append]
      exact List.mem_append_left _ hx
    rcases List.mem_append.mp hr with m | m
    · exact inS_mono hT hnew (hR r m) sub' ((e r (hR r m)).mpr (inS_mem hR m))
    · rw [List.mem_singleton.mp m]
      refine (lessF_span hw hnew hl fun a ha => inS_mem hnew (sub' _ (List.mem_map.mpr ⟨a, ha, rfl⟩))).mp ?_
      have ht' : t * at' (lessF S l) q = 1 := ht
      have e1 := smul_one' (w := w) (l := lessF S l) (t := t) (v := at' (lessF S l) q) ll ht'
      have inn : InS w (rowsOf (S ++ [(q, smul t (lessF S l))])) (smul t (lessF S l)) := inS_mem hnew (by
        rw [rowsOf, List.map_append]
        exact List.mem_append_right _ (List.mem_singleton.mpr rfl))
      have := inS_smul (c := at' (lessF S l) q) hnew (smul_len ll) inn
      rw [e1] at this
      exact this
/-! the steps in order, taken off from behind -/
structure Desc (w : Nat) (D : List (Nat × List F)) : Prop where
  good : ∀ a ∈ D, Good w a
  pw : D.Pairwise fun a b => b.1 < a.1 ∧ at' b.2 a.1 = 0
theorem Desc.sta {D : List (Nat × List F)} (h : Desc w D) : Sta w D := ⟨h.good, h.pw.imp fun ⟨a, b⟩ => ⟨by omega, b⟩⟩
theorem Desc.lad {D : List (Nat × List F)} (h : Desc w D) : Lad w D.reverse := ⟨fun a ha => h.good a (List.mem_reverse.mp ha), List.pairwise_reverse.mpr h.pw⟩
theorem desc_step {D : List (Nat × List F)} {R : List (List F)} {s : List F} {q : Nat} (h : Desc w D) (g : Good w (q, s)) (hd : ∀ a ∈ D, q < a.1) (hR : Wd w R) (e : Eqv w (rowsOf D) R) :
    Desc w (D ++ [(q, lessF D s)]) ∧ Eqv w (rowsOf (D ++ [(q, lessF D s)])) (R ++ [s]) := by
  have hw := h.sta.wds
  have hT := hw.wd
  have ls : s.length = w := g.len
  have ll := lessF_len hw ls
  have keep : ∀ j, j ≤ q → at' (lessF D s) j = at' s j := fun j hj => lessF_keep hw ls fun b hb => (h.good b hb).nil j (Nat.lt_of_le_of_lt hj (hd b hb))
  have g' : Good w (q, lessF D s) := ⟨ll, g.lt, by show at' (lessF D s) q = 1; rw [keep q (Nat.le_refl _)]; exact g.one, fun j hj => by show at' (lessF D s) j = 0; rw [keep j (Nat.le_of_lt hj)]; exact g.nil j hj⟩
  have hnew : Wd w (rowsOf (D ++ [(q, lessF D s)])) := by
    rw [rowsOf, List.map_append]
    exact wd_snoc hT ll
  have hU := wd_snoc hR ls
  refine ⟨⟨fun a ha => ?_, List.pairwise_append.mpr ⟨h.pw, List.pairwise_singleton .., fun a ha b hb => ?_⟩⟩, Eqv.of hnew hU (fun r hr => ?_) (fun r hr => ?_)⟩
  · rcases List.mem_append.mp ha with m | m
    · exact h.good a m
    · rw [List.mem_singleton.mp m]; exact g'
  · rw [List.mem_singleton.mp hb]
    exact ⟨hd a ha, lessF_zero h.sta ls a ha⟩
  · rw [rowsOf, List.map_append] at hr
    have inU : ∀ a ∈ D, InS w (R ++ [s]) a.2 := fun a ha => inS_mono hR hU (hw a ha) (fun x hx => List.mem_append_left _ hx) ((e a.2 (hw a ha)).mp (inS_mem hT (List.mem_map.mpr ⟨a, ha, rfl⟩)))
    rcases List.mem_append.mp hr with m | m
    · obtain ⟨a, ha, rfl⟩ := List.mem_map.mp m
      exact inU a ha
    · rw [List.mem_singleton.mp m]
      exact (lessF_span hw hU ls inU).mpr (inS_mem hU (List.mem_append_right _ (List.mem_singleton.mpr rfl)))
  · have sub' : ∀ x ∈ rowsOf D, x ∈ rowsOf (D ++ [(q, lessF D s)]) := fun x hx => by
      rw [rowsOf, List.map_append]
      exact List.mem_append_left _ hx
    rcases List.mem_append.mp hr with m | m
    · exact inS_mono hT hnew (hR r m) sub' ((e r (hR r m)).mpr (inS_mem hR m))
    · rw [List.mem_singleton.mp m]
      refine (lessF_span hw hnew ls fun a ha => inS_mem hnew (sub' _ (List.mem_map.mpr ⟨a, ha, rfl⟩))).mp (inS_mem hnew ?_)
      rw [rowsOf, List.map_append]
      exact List.mem_append_right _ (List.mem_singleton.mpr rfl)
/-! column by column -/
structure Col (w : Nat) (R : List (List F)) (q : Nat) (left : List (List F)) (L : List (Nat × List F)) : Prop where
  lad : Lad w L
  bef : ∀ a ∈ L, a.1 < q
  len : Wd w left
  nil : ∀ r ∈ left, ∀ j, j < q → at' r j = 0
  eqv : Eqv w (left ++ rowsOf L) R
theorem wd_app {A B : List (List F)} (a : Wd w A) (b : Wd w B) : Wd w (A ++ B) := fun r hr => (List.mem_append.mp hr).elim (a r) (b r)
theorem col_none {R left : List (List F)} {q : Nat} {L : List (Nat × List F)} (h : Col w R q left L) (hz : ∀ r ∈ left, at' r q = 0) : Col w R (q + 1) left L :=
  ⟨h.lad, fun a ha => Nat.lt_succ_of_lt (h.bef a ha), h.len, fun r hr j hj => by
    rcases Nat.lt_or_ge j q with z | z
    · exact h.nil r hr j z
    · have : j = q := by omega
      subst this
      exact hz r hr, h.eqv⟩
theorem col_some {R left rest : List (List F)} {q : Nat} {L : List (Nat × List F)} {head : List F} {t : F} (h : Col w R q left L) (hq : q < w) (hm : ∀ r, r ∈ left ↔ r = head ∨ r ∈ rest) (ht : t * at' head q = 1) :
    Col w R (q + 1) (rest.map fun r => sub r (smul t head) (at' r q)) (L.map (fun a => (a.1, sub a.2 (smul t head) (at' a.2 q))) ++ [(q, smul t head)]) := by
  have hh : head ∈ left := (hm head).mpr (.inl rfl)
  have lh := h.len head hh
  have l1 : (smul t head).length = w := smul_len lh
  have one : at' (smul t head) q = 1 := by rw [smul_at]; exact ht
  have nil : ∀ j, j < q → at' (smul t head) j = 0 := fun j hj => by rw [smul_at, h.nil head hh j hj]; grind
  have g : Good w (q, smul t head) := ⟨l1, hq, one, nil⟩
  have sa : ∀ {r : List F} {c : F}, r.length = w → ∀ j, at' (sub r (smul t head) c) j = at' r j - c * at' (smul t head) j := fun hr j => sub_at (by rw [hr, l1]) j
  have lr : ∀ r ∈ rest, r.length = w := fun r hr => h.len r ((hm r).mpr (.inr hr))
  have wl : Wd w (rest.map fun r => sub r (smul t head) (at' r q)) := fun r hr => by
    obtain ⟨r0, h0, rfl⟩ := List.mem_map.mp hr
    exact sub_len (lr r0 h0) l1
  have good1 : ∀ a ∈ L, Good w (a.1, sub a.2 (smul t head) (at' a.2 q)) := fun a ha => by
    have ga := h.lad.good a ha
    refine ⟨sub_len ga.len l1, ga.lt, ?_, fun j hj => ?_⟩
    · show at' (sub a.2 (smul t head) (at' a.2 q)) a.1 = 1
      rw [sa ga.len, ga.one, nil _ (h.bef a ha)]
      grind
    · show at' (sub a.2 (smul t head) (at' a.2 q)) j = 0
      rw [sa ga.len, ga.nil j hj, nil _ (Nat.lt_trans hj (h.bef a ha))]
      grind
  have lad' : Lad w (L.map (fun a => (a.1, sub a.2 (smul t head) (at' a.2 q))) ++ [(q, smul t head)]) := by
    refine ⟨fun a ha => ?_, List.pairwise_append.mpr ⟨?_, List.pairwise_singleton .., fun a ha b hb => ?_⟩⟩
    · rcases List.mem_append.mp ha with m | m
      · obtain ⟨a0, h0, rfl⟩ := List.mem_map.mp m
        exact good1 a0 h0
      · rw [List.mem_singleton.mp m]; exact g
    · rw [List.pairwise_map]
      refine h.lad.pw.imp_of_mem fun {a b} ha hb z => ⟨z.1, ?_⟩
      show at' (sub a.2 (smul t head) (at' a.2 q)) b.1 = 0
      rw [sa (h.lad.good a ha).len, z.2, nil _ (h.bef b hb)]
      grind
    · obtain ⟨a0, h0, rfl⟩ := List.mem_map.mp ha
      rw [List.mem_singleton.mp hb]
      refine ⟨h.bef a0 h0, ?_⟩
      show at' (sub a0.2 (smul t head) (at' a0.2 q)) q = 0
      rw [sa (h.lad.good a0 h0).len, one]
      grind
  refine ⟨lad', fun a ha => ?_, wl, fun r hr j hj => ?_, ?_⟩
  · rcases List.mem_append.mp ha with m | m
    · obtain ⟨a0, h0, rfl⟩ := List.mem_map.mp m
      exact Nat.lt_succ_of_lt (h.bef a0 h0)
    · rw [List.mem_singleton.mp m]; exact Nat.lt_succ_self q
  · obtain ⟨r0, h0, rfl⟩ := List.mem_map.mp hr
    rw [sa (lr r0 h0)]
    rcases Nat.lt_or_ge j q with z | z
    · rw [h.nil r0 ((hm r0).mpr (.inr h0)) j z, nil j z]
      grind
    · have : j = q := by omega
      subst this
      rw [one]
      grind
  · refine Eqv.trans ?_ h.eqv
    have hA := wd_app wl lad'.wd
    have hB := wd_app h.len h.lad.wd
    have inB : ∀ r, r ∈ left ∨ r ∈ rowsOf L → InS w (left ++ rowsOf L) r := fun r hr => inS_mem hB (List.mem_append.mpr hr)
    have hB1 : InS w (left ++ rowsOf L) (smul t head) := inS_smul hB lh (inB head (.inl hh))
    have hrow : rowsOf (L.map (fun a => (a.1, sub a.2 (smul t head) (at' a.2 q))) ++ [(q, smul t head)]) = (L.map fun a => sub a.2 (smul t head) (at' a.2 q)) ++ [smul t head] := by
      rw [rowsOf, List.map_append, List.map_map]; rfl
    rw [hrow] at hA ⊢
    have hA1 : InS w ((rest.map fun r => sub r (smul t head) (at' r q)) ++ ((L.map fun a => sub a.2 (smul t head) (at' a.2 q)) ++ [smul t head])) (smul t head) := inS_mem hA (List.mem_append_right _ (List.mem_append_right _ (List.mem_singleton.mpr rfl)))
    refine Eqv.of hA hB (fun r hr => ?_) (fun r hr => ?_)
    · rcases List.mem_append.mp hr with m | m
      · obtain ⟨r0, h0, rfl⟩ := List.mem_map.mp m
        exact inS_sub hB (lr r0 h0) l1 (inB r0 (.inl ((hm r0).mpr (.inr h0)))) hB1
      · rcases List.mem_append.mp m with m | m
        · obtain ⟨a0, h0, rfl⟩ := List.mem_map.mp m
          exact inS_sub hB (h.lad.good a0 h0).len l1 (inB _ (.inr (List.mem_map.mpr ⟨a0, h0, rfl⟩))) hB1
        · rw [List.mem_singleton.mp m]; exact hB1
    · rcases List.mem_append.mp hr with m | m
      · rcases (hm r).mp m with rfl | m
        · have e1 := smul_one' (w := w) (l := r) (t := t) (v := at' r q) lh ht
          have := inS_smul (c := at' r q) hA l1 hA1
          rw [e1] at this
          exact this
        · exact inS_back hA (lr r m) l1 (inS_mem hA (List.mem_append_left _ (List.mem_map.mpr ⟨r, m, rfl⟩))) hA1
      · obtain ⟨a0, h0, rfl⟩ := List.mem_map.mp m
        exact inS_back hA (h.lad.good a0 h0).len l1 (inS_mem hA (List.mem_append_right _ (List.mem_append_left _ (List.mem_map.mpr ⟨a0, h0, rfl⟩)))) hA1
theorem col_start {R : List (List F)} (hR : Wd w R) : Col w R 0 R [] := ⟨⟨fun a ha => (nomatch ha), .nil⟩, fun a ha => (nomatch ha), hR, fun r hr j hj => absurd hj (Nat.not_lt_zero j), by rw [show rowsOf ([] : List (Nat × List F)) = [] from rfl, List.append_nil]; exact .refl _⟩
theorem row_zero {r : List F} (hl : r.length = w) (hz : ∀ j, j < w → at' r j = 0) : r = zero w := by
  apply ext'
  · rw [hl, zero_len]
  · intro j
    rw [zero_at]
    rcases Nat.lt_or_ge j w with z | z
    · exact hz j z
    · unfold at'
      rw [List.getD_eq_getElem?_getD, List.getElem?_eq_none (by omega)]
      rfl
theorem col_end {R left : List (List F)} {L : List (Nat × List F)} (h : Col w R w left L) : Eqv w (rowsOf L) R := by
  refine Eqv.trans ?_ h.eqv
  have hB := wd_app h.len h.lad.wd
  refine Eqv.of h.lad.wd hB (fun r hr => inS_mem hB (List.mem_append_right _ hr)) (fun r hr => ?_)
  rcases List.mem_append.mp hr with m | m
  · rw [row_zero (h.len r m) (h.nil r m)]
    exact inS_zero h.lad.wd
  · exact inS_mem h.lad.wd m
/-! rows written otherwise -/
theorem eqv_set {R : List (List F)} {i : Nat} {r s : List F} (hR : Wd w R) (hi : R[i]? = some r) (hs : s.length = w) (a : InS w R s) (b : InS w (R.set i s) r) : Eqv w (R.set i s) R := by
  have hS : Wd w (R.set i s) := fun x hx => by
    rcases List.mem_or_eq_of_mem_set hx with m | m
    · exact hR x m
    · rw [m]; exact hs
  refine Eqv.of hS hR (fun x hx => ?_) (fun x hx => ?_)
  · rcases List.mem_or_eq_of_mem_set hx with m | m
    · exact inS_mem hR m
    · rw [m]; exact a
  · obtain ⟨j, hj⟩ := List.mem_iff_getElem?.mp hx
    by_cases e : j = i
    · subst e
      rw [hi] at hj
      cases hj
      exact b
    · refine inS_mem hS (List.mem_iff_getElem?.mpr ⟨j, ?_⟩)
      rw [List.getElem?_set_ne (fun z => e z.symm)]
      exact hj
theorem mem_set_self {α : Type} {R : List α} {i : Nat} {r s : α} (hi : R[i]? = some r) : s ∈ R.set i s := List.mem_set (List.getElem?_eq_some_iff.mp hi).1 s
theorem wd_set {R : List (List F)} {i : Nat} {s : List F} (hR : Wd w R) (hs : s.length = w) : Wd w (R.set i s) := fun x hx => by
  rcases List.mem_or_eq_of_mem_set hx with m | m
  · exact hR x m
  · rw [m]; exact hs
theorem eqv_scale {R : List (List F)} {i : Nat} {r : List F} {c t : F} (hR : Wd w R) (hi : R[i]? = some r) (hc : c * t = 1) : Eqv w (R.set i (smul c r)) R := by
  have hr := hR r (List.mem_of_getElem? hi)
  have hS := wd_set (i := i) hR (smul_len (c := c) hr)
  refine eqv_set hR hi (smul_len hr) (inS_smul hR hr (inS_mem hR (List.mem_of_getElem? hi))) ?_
  have := inS_smul (c := t) hS (smul_len hr) (inS_mem hS (mem_set_self hi))
  rw [smul_one' hr hc] at this
  exact this
theorem eqv_less {R : List (List F)} {i k : Nat} {r o : List F} {c : F} (hR : Wd w R) (hi : R[i]? = some r) (hk : R[k]? = some o) (ne : i ≠ k) : Eqv w (R.set i (sub r o c)) R := by
  have hr := hR r (List.mem_of_getElem? hi)
  have ho := hR o (List.mem_of_getElem? hk)
  have hS := wd_set (i := i) hR (sub_len (c := c) hr ho)
  refine eqv_set hR hi (sub_len hr ho) (inS_sub hR hr ho (inS_mem hR (List.mem_of_getElem? hi)) (inS_mem hR (List.mem_of_getElem? hk))) ?_
  refine inS_back (c := c) hS hr ho (inS_mem hS (mem_set_self hi)) (inS_mem hS (List.mem_iff_getElem?.mpr ⟨k, ?_⟩))
  rw [List.getElem?_set_ne ne]
  exact hk
theorem eqv_more {R E : List (List F)} (hR : Wd w R) (hE : Wd w E) (h : ∀ e ∈ E, InS w R e) : Eqv w (R ++ E) R := by
  have hA := wd_app hR hE
  refine Eqv.of hA hR (fun x hx => ?_) (fun x hx => inS_mem hA (List.mem_append_left _ hx))
  rcases List.mem_append.mp hx with m | m
  · exact inS_mem hR m
  · exact h x m
end LA

namespace LA
open Lean.Grind
structure Clk (n : Nat) : Prop where
  two : 2 ≤ n
  le : n ≤ 1000000
  pr : ∀ k : Nat, k < 1001 → 2 ≤ k → (k : Int) * k ≤ (n : Int) → (n : Int) % k ≠ 0
theorem Clk.cop {n : Nat} (h : Clk n) {v : Nat} (v0 : 0 < v) (vn : v < n) : Nat.gcd n v = 1 := by
  have hp := h.pr
  have d1 := Nat.gcd_dvd_left n v
  have d2 := Nat.gcd_dvd_right n v
  have g0 : 0 < Nat.gcd n v := Nat.gcd_pos_of_pos_right n v0
  have gle : Nat.gcd n v ≤ v := Nat.le_of_dvd v0 d2
  generalize Nat.gcd n v = g at d1 d2 g0 gle
  refine Decidable.byContradiction fun hg => ?_
  obtain ⟨m, hm⟩ := d1
  have m2 : 2 ≤ m := by
    rcases m with _ | _ | m
    · simp at hm; omega
    · simp at hm; omega
    · omega
  have key : ∀ k l : Nat, n = k * l → 2 ≤ k → k ≤ l → False := by
    intro k l e k2 kl
    have sq : k * k ≤ n := by rw [e]; exact Nat.mul_le_mul_left k kl
    have k1 : k < 1001 := by
      refine Decidable.byContradiction fun z => ?_
      have : 1001 * 1001 ≤ k * k := Nat.mul_le_mul (by omega) (by omega)
      have := h.le
      omega
    refine hp k k1 k2 (by exact_mod_cast sq) ?_
    have : n % k = 0 := by rw [e]; exact Nat.mul_mod_right k l
    exact_mod_cast this
  rcases Nat.le_total g m with z | z
  · exact key g m hm (by omega) z
  · exact key m g (by rw [hm, Nat.mul_comm]) m2 z
/-- the value that gives 1 with another, mod n -/
theorem inv_ex : ∀ (fuel : Nat) (p v one other first second : Int), (first * v - one) % p = 0 → (second * v - other) % p = 0 → Int.gcd one other = 1 → 0 ≤ other → 0 < one → other.toNat < fuel → ∃ r : Int, (r * v - 1) % p = 0
  | 0, _, _, _, _, _, _, _, _, _, _, _, h => by omega
  | fuel + 1, p, v, one, other, first, second, a, b, g, o, n, h => by
    by_cases h0 : other = 0
    · subst h0
      have e1 : one = 1 := by
        rw [Int.gcd_zero_right] at g
        omega
      exact ⟨first, by rw [← e1]; exact a⟩
    · have ho : 0 < other := by omega
      have e : one - one / other * other = one % other := by
        have := Int.emod_def one other
        rw [this, Int.mul_comm]
      have l := Int.emod_lt_of_pos one ho
      have nn := Int.emod_nonneg one (show other ≠ 0 by omega)
      refine inv_ex fuel p v other (one - one / other * other) second (first - one / other * second) b ?_ ?_ (by omega) ho (by omega)
      · have e2 : (first - one / other * second) * v - (one - one / other * other) = (first * v - one) - one / other * (second * v - other) := by grind
        rw [e2]
        obtain ⟨x, hx⟩ := Int.dvd_of_emod_eq_zero a
        obtain ⟨y, hy⟩ := Int.dvd_of_emod_eq_zero b
        rw [hx, hy]
        have e3 : p * x - one / other * (p * y) = p * (x - one / other * y) := by grind
        rw [e3, Int.mul_emod_right]
      · rw [Int.gcd_sub_mul_right_right, Int.gcd_comm]
        exact g
theorem Clk.ne {n : Nat} (h : Clk n) : NeZero n := ⟨by have := h.two; omega⟩
/-! ints and Fin n -/
section
variable {n : Nat} [NeZero n]
def cF (n : Nat) [NeZero n] (x : Int) : Fin n := Fin.ofNat n (x % n).toNat
theorem n_pos : (0 : Int) < n := by have := Nat.pos_of_neZero n; omega
theorem cF_val (x : Int) : ((cF n x).val : Int) = x % n := by
  have h0 := Int.emod_nonneg x (show (n : Int) ≠ 0 by have := n_pos (n := n); omega)
  have h1 := Int.emod_lt_of_pos x (n_pos (n := n))
  show (((x % n).toNat % n : Nat) : Int) = _
  rw [Nat.mod_eq_of_lt (by omega)]
  omega
theorem cF_of {a : Fin n} {x : Int} (h : (a.val : Int) = x % n) : a = cF n x := by
  apply Fin.ext
  have := cF_val (n := n) x
  omega
theorem cF_iff {x y : Int} : cF n x = cF n y ↔ x % n = y % n := by
  constructor
  · intro h
    rw [← cF_val (n := n) x, ← cF_val (n := n) y, h]
  · intro h
    apply cF_of
    rw [cF_val, h]
theorem cF_mod (x : Int) : cF n (x % n) = cF n x := cF_iff.mpr (Int.emod_emod_of_dvd _ (Int.dvd_refl _))
theorem cF_mul (x y : Int) : cF n (x * y) = cF n x * cF n y := by
  refine (cF_of ?_).symm
  rw [Fin.val_mul]
  push_cast
  rw [cF_val, cF_val, ← Int.mul_emod]
theorem cF_add (x y : Int) : cF n (x + y) = cF n x + cF n y := by
  refine (cF_of ?_).symm
  rw [Fin.val_add]
  push_cast
  rw [cF_val, cF_val, ← Int.add_emod]
theorem cF_zero : cF n 0 = 0 := by
  refine (cF_of ?_).symm
  simp
theorem cF_one : cF n 1 = 1 := by
  refine (cF_of ?_).symm
  show (((1 % n : Nat)) : Int) = 1 % n
  push_cast
  rfl
theorem cF_sub (x y : Int) : cF n (x - y) = cF n x - cF n y := by
  have e : cF n (x - y) + cF n y = cF n x := by rw [← cF_add]; congr 1; omega
  rw [← e]
  grind
theorem cF_neg (x : Int) : cF n (-x) = - cF n x := by
  have := cF_sub (n := n) 0 x
  rw [cF_zero] at this
  rw [show -x = 0 - x by omega, this]
  grind
theorem cF_inj {x y : Int} (hx : 0 ≤ x ∧ x < n) (hy : 0 ≤ y ∧ y < n) (h : cF n x = cF n y) : x = y := by
  have := cF_iff.mp h
  rw [Int.emod_eq_of_lt hx.1 hx.2, Int.emod_eq_of_lt hy.1 hy.2] at this
  exact this
theorem cF_nz {x : Int} (hx : 0 < x ∧ x < n) : cF n x ≠ 0 := fun h => by
  rw [← cF_zero] at h
  have := cF_inj (n := n) (by omega) ⟨by omega, n_pos⟩ h
  omega
theorem cF_all (a : Fin n) : ∃ x : Int, 0 ≤ x ∧ x < n ∧ cF n x = a := ⟨a.val, by omega, by have := a.isLt; omega, (cF_of (by rw [Int.emod_eq_of_lt (by omega) (by have := a.isLt; omega)])).symm⟩
theorem fin_ne (h : Clk n) : (1 : Fin n) ≠ 0 := by
  rw [← cF_one]
  have := h.two
  exact cF_nz (by omega)
theorem fin_inv (h : Clk n) (a : Fin n) (ha : a ≠ 0) : ∃ b : Fin n, b * a = 1 := by
  have v0 : 0 < a.val := by
    refine Nat.pos_of_ne_zero fun z => ha ?_
    apply Fin.ext
    simpa using z
  have hg := h.cop v0 a.isLt
  have n2 := h.two
  obtain ⟨r, hr⟩ := inv_ex (a.val + 1) n a.val n a.val 0 1 (by simp) (by simp) (by
    show Int.gcd ((n : Nat) : Int) ((a.val : Nat) : Int) = 1
    exact hg) (by omega) (by omega) (by omega)
  refine ⟨cF n r, ?_⟩
  have ea : a = cF n a.val := cF_of (by rw [Int.emod_eq_of_lt (by omega) (by have := a.isLt; omega)])
  rw [ea, ← cF_mul, ← cF_one, cF_iff]
  have e2 : r * (a.val : Int) = (r * a.val - 1) + 1 := by omega
  rw [e2, Int.add_emod, hr, Int.zero_add, Int.emod_emod_of_dvd _ (Int.dvd_refl _)]
theorem fin_cancel (h : Clk n) {a b c : Fin n} (ha : a ≠ 0) (e : a * b = a * c) : b = c := by
  obtain ⟨i, hi⟩ := fin_inv h a ha
  have : i * (a * b) = i * (a * c) := by rw [e]
  grind
end
/-! a ^ (n - 1) = 1 -/
theorem nodup_perm {α : Type} [BEq α] [LawfulBEq α] : ∀ {M L : List α}, M.Nodup → (∀ x ∈ M, x ∈ L) → L.length ≤ M.length → M.Perm L
  | [], L, _, _, h => by
    have : L = [] := List.length_eq_zero_iff.mp (by simpa using h)
    rw [this]
  | x :: M, L, hn, hm, h => by
    obtain ⟨h1, h2⟩ := List.nodup_cons.mp hn
    have hx := hm x List.mem_cons_self
    have p := List.perm_cons_erase hx
    refine List.Perm.trans (List.Perm.cons x (nodup_perm h2 (fun y hy => ?_) ?_)) p.symm
    · refine (List.mem_erase_of_ne fun z => ?_).mpr (hm y (List.mem_cons_of_mem _ hy))
      rw [z] at hy
      exact h1 hy
    · have := p.length_eq
      simp at this h
      omega
theorem nodup_le {α : Type} [BEq α] [LawfulBEq α] : ∀ {M L : List α}, M.Nodup → (∀ x ∈ M, x ∈ L) → M.length ≤ L.length
  | [], L, _, _ => by simp
  | x :: M, L, hn, hm => by
    obtain ⟨h1, h2⟩ := List.nodup_cons.mp hn
    have hx := hm x List.mem_cons_self
    have p := List.perm_cons_erase hx
    have := nodup_le (L := L.erase x) h2 fun y hy => by
      refine (List.mem_erase_of_ne fun z => ?_).mpr (hm y (List.mem_cons_of_mem _ hy))
      rw [z] at hy
      exact h1 hy
    have := p.length_eq
    simp at this ⊢
    omega
def prodL {F : Type} [CommRing F] : List F → F
  | [] => 1
  | x :: xs => x * prodL xs
theorem prodL_perm {F : Type} [CommRing F] {A B : List F} (p : A.Perm B) : prodL A = prodL B := by
  induction p with
  | nil => rfl
  | cons x _ ih => show x * _ = x * _; rw [ih]
  | swap x y l => show y * (x * _) = x * (y * _); grind
  | trans _ _ a b => exact a.trans b
theorem prodL_map {F : Type} [CommRing F] (a : F) : ∀ A : List F, prodL (A.map fun x => a * x) = a ^ A.length * prodL A
  | [] => by show (1 : F) = a ^ 0 * 1; grind
  | x :: A => by
    show a * x * prodL (A.map fun x => a * x) = a ^ (A.length + 1) * (x * prodL A)
    rw [prodL_map a A, Semiring.pow_succ]
    grind
theorem prodL_ne {n : Nat} [NeZero n] (h : Clk n) : ∀ A : List (Fin n), (∀ x ∈ A, x ≠ 0) → prodL A ≠ 0
  | [], _ => fin_ne h
  | x :: A, hA => fun z => by
    have hx := hA x List.mem_cons_self
    have : x * prodL A = x * 0 := by
      have z' : x * prodL A = 0 := z
      rw [z']
      grind
    exact prodL_ne h A (fun y hy => hA y (List.mem_cons_of_mem _ hy)) (fin_cancel h hx this)
theorem fermat {m : Nat} (h : Clk (m + 1)) (a : Fin (m + 1)) (ha : a ≠ 0) : a ^ m = 1 := by
  have hU : ∀ x : Fin (m + 1), x ∈ (List.finRange m).map Fin.succ ↔ x ≠ 0 := fun x => by
    constructor
    · intro hx
      obtain ⟨y, _, rfl⟩ := List.mem_map.mp hx
      exact Fin.succ_ne_zero y
    · intro hx
      exact List.mem_map.mpr ⟨x.pred hx, List.mem_finRange _, Fin.succ_pred x hx⟩
  have hN : ((List.finRange m).map Fin.succ).Nodup := (List.nodup_finRange m).map Fin.succ (fun x y hxy z => hxy (Fin.succ_inj.mp z))
  have hM : (((List.finRange m).map Fin.succ).map fun x => a * x).Nodup := hN.map (fun x => a * x) fun x y hxy z => hxy (fin_cancel h ha z)
  have p := nodup_perm hM (L := (List.finRange m).map Fin.succ) (fun y hy => by
    obtain ⟨x, hx, rfl⟩ := List.mem_map.mp hy
    refine (hU _).mpr fun z => ?_
    have hx0 := (hU x).mp hx
    exact hx0 (fin_cancel h ha (z.trans (by grind)))) (by simp)
  have e := prodL_perm p
  rw [prodL_map, List.length_map, List.length_finRange] at e
  have hne := prodL_ne h _ fun x hx => (hU x).mp hx
  refine fin_cancel h hne ?_
  grind
end LA

/-! ### trees told by ties: sides, and a search that finds nothing twice (plain) -/
namespace LT
def Adj (ts : List (Nat × Nat)) (x y : Int) : Prop := ∃ a ∈ ts, (x = a.1 ∧ y = a.2) ∨ (x = a.2 ∧ y = a.1)
theorem Adj.symm {ts : List (Nat × Nat)} {x y : Int} (h : Adj ts x y) : Adj ts y x := by
  obtain ⟨a, h1, h2⟩ := h
  exact ⟨a, h1, h2.elim (fun z => .inr ⟨z.2, z.1⟩) fun z => .inl ⟨z.2, z.1⟩⟩
inductive Rc (ts : List (Nat × Nat)) (bar : Option Int) (s : Int) : Int → Prop where
  | base : Rc ts bar s s
  | step {x y : Int} : Rc ts bar s x → Adj ts x y → bar ≠ some y → Rc ts bar s y
structure Rooted (n : Nat) (ts : List (Nat × Nat)) (pa : Int → Int) (rk : Int → Nat) (r : Int) : Prop where
  edge : ∀ x y, Adj ts x y → (pa x = y ∧ rk y < rk x) ∨ (pa y = x ∧ rk x < rk y)
  up : ∀ v : Int, 0 ≤ v → v < n → v ≠ r → Adj ts v (pa v) ∧ rk (pa v) < rk v
  rng : ∀ x y, Adj ts x y → 0 ≤ x ∧ x < n
  root : 0 ≤ r ∧ r < n
  rk0 : rk r = 0
section
variable {n : Nat} {ts : List (Nat × Nat)} {pa : Int → Int} {rk : Int → Nat} {r : Int}
theorem Rc.trans {bar : Option Int} {s x y : Int} (h : Rc ts bar s x) (g : Rc ts bar x y) : Rc ts bar s y := by
  induction g with
  | base => exact h
  | step _ h2 h3 ih => exact ih.step h2 h3
theorem Rooted.up_rng (R : Rooted n ts pa rk r) {v : Int} (h0 : 0 ≤ v) (h1 : v < n) (hr : v ≠ r) : 0 ≤ pa v ∧ pa v < n := R.rng _ _ (R.up v h0 h1 hr).1.symm
/-- from any post to the root -/
theorem Rooted.to_root (R : Rooted n ts pa rk r) : ∀ (k : Nat) (v : Int), rk v ≤ k → 0 ≤ v → v < n → Rc ts none v r
  | 0, v, hk, h0, h1 => by
    by_cases hr : v = r
    · rw [hr]; exact .base
    · have := (R.up v h0 h1 hr).2
      omega
  | k + 1, v, hk, h0, h1 => by
    by_cases hr : v = r
    · rw [hr]; exact .base
    · obtain ⟨u1, u2⟩ := R.up v h0 h1 hr
      obtain ⟨w1, w2⟩ := R.up_rng h0 h1 hr
      exact ((Rc.base (bar := none)).step u1 (by simp)).trans (R.to_root k (pa v) (by omega) w1 w2)
theorem Rooted.from_root (R : Rooted n ts pa rk r) : ∀ (k : Nat) (v : Int), rk v ≤ k → 0 ≤ v → v < n → Rc ts none r v
  | 0, v, hk, h0, h1 => by
    by_cases hr : v = r
    · rw [hr]; exact .base
    · have := (R.up v h0 h1 hr).2
      omega
  | k + 1, v, hk, h0, h1 => by
    by_cases hr : v = r
    · rw [hr]; exact .base
    · obtain ⟨u1, u2⟩ := R.up v h0 h1 hr
      obtain ⟨w1, w2⟩ := R.up_rng h0 h1 hr
      exact (R.from_root k (pa v) (by omega) w1 w2).step u1.symm (by simp)
theorem Rooted.all (R : Rooted n ts pa rk r) {u v : Int} (h0 : 0 ≤ u) (h1 : u < n) (h2 : 0 ≤ v) (h3 : v < n) : Rc ts none u v :=
  (R.to_root _ u (Nat.le_refl _) h0 h1).trans (R.from_root _ v (Nat.le_refl _) h2 h3)
theorem Rooted.rc_rng (R : Rooted n ts pa rk r) {bar : Option Int} {s v : Int} (h : Rc ts bar s v) (h0 : 0 ≤ s) (h1 : s < n) : 0 ≤ v ∧ v < n := by
  induction h with
  | base => exact ⟨h0, h1⟩
  | step _ h2 _ _ => exact R.rng _ _ h2.symm
/-- the posts below b -/
inductive Sub (pa : Int → Int) (r b : Int) : Int → Prop where
  | here : Sub pa r b b
  | up {v : Int} : v ≠ r → Sub pa r b (pa v) → Sub pa r b v
theorem Sub.inv {b v : Int} (h : Sub pa r b v) : v = b ∨ (v ≠ r ∧ Sub pa r b (pa v)) := by
  cases h with
  | here => exact .inl rfl
  | up h1 h2 => exact .inr ⟨h1, h2⟩
theorem Rooted.sub_rk (R : Rooted n ts pa rk r) {b v : Int} (h : Sub pa r b v) : 0 ≤ v → v < n → rk b ≤ rk v := by
  induction h with
  | here => exact fun _ _ => Nat.le_refl _
  | up h1 _ ih =>
    intro h0 hn
    obtain ⟨w1, w2⟩ := R.up_rng h0 hn h1
    have := ih w1 w2
    have := (R.up _ h0 hn h1).2
    omega
section
variable {a b : Int}
theorem Rooted.below (R : Rooted n ts pa rk r) (hab : Adj ts a b) (hp : pa b = a) (hk : rk a < rk b) {v : Int} : Rc ts (some a) b v ↔ (0 ≤ v ∧ v < n) ∧ Sub pa r b v := by
  have hb := R.rng _ _ hab.symm
  have hbr : b ≠ r := fun e => by rw [e, R.rk0] at hk; omega
  constructor
  · intro h
    refine ⟨R.rc_rng h hb.1 hb.2, ?_⟩
    induction h with
    | base => exact .here
    | @step x y h1 h2 h3 ih =>
      rcases R.edge _ _ h2 with ⟨e, k⟩ | ⟨e, k⟩
      · rcases ih.inv with z | ⟨_, z⟩
        · subst z
          rw [hp] at e
          exact absurd (by rw [e]) h3
        · rw [← e]
          exact z
      · have hyr : y ≠ r := fun z => by rw [z, R.rk0] at k; omega
        exact .up hyr (by rw [e]; exact ih)
  · rintro ⟨⟨h0, h1⟩, h⟩
    induction h with
    | here => exact .base
    | up g1 g2 ih =>
      obtain ⟨w1, w2⟩ := R.up_rng h0 h1 g1
      obtain ⟨u1, u2⟩ := R.up _ h0 h1 g1
      refine (ih w1 w2).step u1.symm fun e => ?_
      have := R.sub_rk g2 w1 w2
      rw [Option.some.inj e] at hk
      omega
theorem Rooted.above (R : Rooted n ts pa rk r) (hab : Adj ts a b) (hp : pa b = a) (hk : rk a < rk b) {v : Int} : Rc ts (some b) a v ↔ (0 ≤ v ∧ v < n) ∧ ¬ Sub pa r b v := by
  have ha := R.rng _ _ hab
  have hbr : b ≠ r := fun e => by rw [e, R.rk0] at hk; omega
  have hna : ¬ Sub pa r b a := fun h => by
    have := R.sub_rk h ha.1 ha.2
    omega
  constructor
  · intro h
    refine ⟨R.rc_rng h ha.1 ha.2, ?_⟩
    induction h with
    | base => exact hna
    | @step x y h1 h2 h3 ih =>
      intro hy
      rcases R.edge _ _ h2 with ⟨e, k⟩ | ⟨e, k⟩
      · have hxr : x ≠ r := fun z => by rw [z, R.rk0] at k; omega
        exact ih (.up hxr (by rw [e]; exact hy))
      · rcases hy.inv with z | ⟨_, z⟩
        · exact h3 (by rw [z])
        · rw [e] at z
          exact ih z
  · rintro ⟨⟨h0, h1⟩, h⟩
    have toR : ∀ (k : Nat) (u : Int), rk u ≤ k → 0 ≤ u → u < n → ¬ Sub pa r b u → Rc ts (some b) u r := by
      intro k
      induction k with
      | zero =>
        intro u hu h0 h1 _
        by_cases hr : u = r
        · rw [hr]; exact .base
        · have := (R.up u h0 h1 hr).2
          omega
      | succ k ih =>
        intro u hu h0 h1 hn
        by_cases hr : u = r
        · rw [hr]; exact .base
        · obtain ⟨u1, u2⟩ := R.up u h0 h1 hr
          obtain ⟨w1, w2⟩ := R.up_rng h0 h1 hr
          have hn' : ¬ Sub pa r b (pa u) := fun z => hn (.up hr z)
          exact (Rc.base.step u1 fun e => hn' (by rw [← Option.some.inj e]; exact .here)).trans (ih (pa u) (by omega) w1 w2 hn')
    have frR : ∀ (k : Nat) (u : Int), rk u ≤ k → 0 ≤ u → u < n → ¬ Sub pa r b u → Rc ts (some b) r u := by
      intro k
      induction k with
      | zero =>
        intro u hu h0 h1 _
        by_cases hr : u = r
        · rw [hr]; exact .base
        · have := (R.up u h0 h1 hr).2
          omega
      | succ k ih =>
        intro u hu h0 h1 hn
        by_cases hr : u = r
        · rw [hr]; exact .base
        · obtain ⟨u1, u2⟩ := R.up u h0 h1 hr
          obtain ⟨w1, w2⟩ := R.up_rng h0 h1 hr
          exact (ih (pa u) (by omega) w1 w2 fun z => hn (.up hr z)).step u1.symm fun e => hn (by rw [← Option.some.inj e]; exact .here)
    exact (toR _ a (Nat.le_refl _) ha.1 ha.2 hna).trans (frR _ v (Nat.le_refl _) h0 h1 h)
end
/-- a tie parts the posts in two -/
theorem Rooted.parts (R : Rooted n ts pa rk r) {a b v : Int} (hab : Adj ts a b) (h0 : 0 ≤ v) (h1 : v < n) : (Rc ts (some b) a v ∧ ¬ Rc ts (some a) b v) ∨ (¬ Rc ts (some b) a v ∧ Rc ts (some a) b v) := by
  rcases R.edge _ _ hab with ⟨e, k⟩ | ⟨e, k⟩
  · rw [R.below hab.symm e k, R.above hab.symm e k]
    by_cases h : Sub pa r a v
    · exact .inl ⟨⟨⟨h0, h1⟩, h⟩, fun z => z.2 h⟩
    · exact .inr ⟨fun z => h z.2, ⟨⟨h0, h1⟩, h⟩⟩
  · rw [R.below hab e k, R.above hab e k]
    by_cases h : Sub pa r b v
    · exact .inr ⟨fun z => z.2 h, ⟨⟨h0, h1⟩, h⟩⟩
    · exact .inl ⟨⟨⟨h0, h1⟩, h⟩, fun z => h z.2⟩
/-! a part of the tree with a top -/
structure RS (pa : Int → Int) (r : Int) (n : Nat) (S : List Int) (t : Int) : Prop where
  top : t ∈ S
  pr : ∀ s ∈ S, s ≠ t → s ≠ r ∧ pa s ∈ S
  rng : ∀ s ∈ S, 0 ≤ s ∧ s < n
variable {S : List Int} {t : Int}
theorem RS.min (R : Rooted n ts pa rk r) (h : RS pa r n S t) : ∀ (k : Nat) (s : Int), rk s ≤ k → s ∈ S → rk t ≤ rk s
  | 0, s, hk, hs => by
    by_cases e : s = t
    · rw [e]; exact Nat.le_refl _
    · obtain ⟨h1, h2⟩ := h.pr s hs e
      have := (R.up s (h.rng s hs).1 (h.rng s hs).2 h1).2
      omega
  | k + 1, s, hk, hs => by
    by_cases e : s = t
    · rw [e]; exact Nat.le_refl _
    · obtain ⟨h1, h2⟩ := h.pr s hs e
      have := (R.up s (h.rng s hs).1 (h.rng s hs).2 h1).2
      have := RS.min R h k (pa s) (by omega) h2
      omega
theorem RS.one (R : Rooted n ts pa rk r) (h : RS pa r n S t) {v x y : Int} (hv : v ∉ S) (hx : x ∈ S) (hy : y ∈ S) (ax : Adj ts v x) (ay : Adj ts v y) : x = y := by
  have key : ∀ z, z ∈ S → Adj ts v z → (pa v = z ∧ rk z < rk v) ∨ (z = t ∧ rk v < rk t) := fun z hz az => by
    rcases R.edge _ _ az with e | ⟨e, k⟩
    · exact .inl e
    · by_cases g : z = t
      · exact .inr ⟨g, by rw [← g]; exact k⟩
      · have := (h.pr z hz g).2
        rw [e] at this
        exact absurd this hv
  rcases key x hx ax with ⟨e1, k1⟩ | ⟨e1, k1⟩ <;> rcases key y hy ay with ⟨e2, k2⟩ | ⟨e2, k2⟩
  · rw [← e1, ← e2]
  · have := RS.min R h _ x (Nat.le_refl _) hx
    omega
  · have := RS.min R h _ y (Nat.le_refl _) hy
    omega
  · rw [e1, e2]
theorem RS.add (R : Rooted n ts pa rk r) (h : RS pa r n S t) {u v : Int} (hv : v ∉ S) (hu : u ∈ S) (a : Adj ts u v) {S' : List Int} (hS : ∀ x, x ∈ S' ↔ x ∈ S ∨ x = v) : ∃ t', RS pa r n S' t' := by
  have hr := R.rng _ _ a.symm
  rcases R.edge _ _ a with ⟨e, k⟩ | ⟨e, k⟩
  · refine ⟨v, (hS v).mpr (.inr rfl), fun s hs hne => ?_, fun s hs => ?_⟩
    · have hs' := ((hS s).mp hs).resolve_right hne
      by_cases g : s = t
      · by_cases g2 : u = t
        · rw [g, ← g2]
          exact ⟨fun z => by rw [z, R.rk0] at k; omega, by rw [e]; exact (hS v).mpr (.inr rfl)⟩
        · exact absurd (e ▸ (h.pr u hu g2).2) hv
      · obtain ⟨h1, h2⟩ := h.pr s hs' g
        exact ⟨h1, (hS _).mpr (.inl h2)⟩
    · rcases (hS s).mp hs with z | z
      · exact h.rng s z
      · rw [z]; exact hr
  · refine ⟨t, (hS t).mpr (.inl h.top), fun s hs hne => ?_, fun s hs => ?_⟩
    · rcases (hS s).mp hs with z | z
      · obtain ⟨h1, h2⟩ := h.pr s z hne
        exact ⟨h1, (hS _).mpr (.inl h2)⟩
      · rw [z]
        exact ⟨fun g => by rw [g, R.rk0] at k; omega, by rw [e]; exact (hS _).mpr (.inl hu)⟩
    · rcases (hS s).mp hs with z | z
      · exact h.rng s z
      · rw [z]; exact hr
/-! the search -/
structure Dfs (n : Nat) (ts : List (Nat × Nat)) (pa : Int → Int) (r : Int) (bar : Option Int) (s : Int) (fd wt : List Int) : Prop where
  nd : (fd ++ wt).Nodup
  rs : ∃ t, RS pa r n (fd ++ wt) t
  rch : ∀ x ∈ fd ++ wt, Rc ts bar s x
  src : s ∈ fd ++ wt
  ind : ∀ x ∈ wt, ∀ y ∈ wt, ¬ Adj ts x y
  cls : ∀ x ∈ fd, ∀ y, Adj ts x y → bar ≠ some y → y ∈ fd ++ wt
theorem Rooted.irr (R : Rooted n ts pa rk r) {x : Int} (h : Adj ts x x) : False := by
  rcases R.edge _ _ h with ⟨_, k⟩ | ⟨_, k⟩ <;> omega
theorem Dfs.start (R : Rooted n ts pa rk r) {bar : Option Int} {s : Int} (h0 : 0 ≤ s) (h1 : s < n) : Dfs n ts pa r bar s [] [s] where
  nd := by simp
  rs := ⟨s, by simp, fun x hx hne => absurd (List.mem_singleton.mp (by simpa using hx)) hne, fun x hx => by
    have := List.mem_singleton.mp (show x ∈ [s] by simpa using hx)
    rw [this]; exact ⟨h0, h1⟩⟩
  rch := fun x hx => by
    rw [List.mem_singleton.mp (show x ∈ [s] by simpa using hx)]
    exact .base
  src := by simp
  ind := fun x hx y hy a => by
    rw [List.mem_singleton.mp hx, List.mem_singleton.mp hy] at a
    exact R.irr a
  cls := fun x hx => by simp at hx
theorem Dfs.step (R : Rooted n ts pa rk r) {bar : Option Int} {s : Int} {fd wr near : List Int} {x : Int} (h : Dfs n ts pa r bar s fd (wr ++ [x])) (hn : near.Nodup) (hm : ∀ y, y ∈ near ↔ Adj ts x y) (p : Int → Bool) (hp : ∀ y, p y = true ↔ y ∉ fd ++ [x] ∧ bar ≠ some y) :
    Dfs n ts pa r bar s (fd ++ [x]) (wr ++ near.filter p) := by
  have hS : ∀ y, y ∈ (fd ++ [x]) ++ wr ↔ y ∈ fd ++ (wr ++ [x]) := fun y => by
    simp only [List.mem_append, List.mem_singleton]
    constructor
    · rintro ((a | a) | a)
      · exact .inl a
      · exact .inr (.inr a)
      · exact .inr (.inl a)
    · rintro (a | a | a)
      · exact .inl (.inl a)
      · exact .inr a
      · exact .inl (.inr a)
  have hxw : x ∈ wr ++ [x] := List.mem_append_right _ (List.mem_singleton.mpr rfl)
  have key : ∀ ad : List Int, ad.Nodup → (∀ y ∈ ad, Adj ts x y ∧ y ∉ fd ++ [x]) → ((fd ++ [x]) ++ (wr ++ ad)).Nodup ∧ (∃ t, RS pa r n ((fd ++ [x]) ++ (wr ++ ad)) t) ∧ ∀ y ∈ wr ++ ad, ∀ z ∈ wr ++ ad, ¬ Adj ts y z := by
    intro ad
    induction ad with
    | nil =>
      intro _ _
      rw [List.append_nil]
      refine ⟨?_, ?_, fun y hy z hz => h.ind y (List.mem_append_left _ hy) z (List.mem_append_left _ hz)⟩
      · have hpm : ((fd ++ [x]) ++ wr).Perm (fd ++ (wr ++ [x])) := by
          rw [List.append_assoc]
          exact List.Perm.append_left fd List.perm_append_comm
        exact hpm.nodup_iff.mpr h.nd
      · obtain ⟨t, ht⟩ := h.rs
        exact ⟨t, (hS t).mpr ht.top, fun z hz hne => ⟨(ht.pr z ((hS z).mp hz) hne).1, (hS _).mpr (ht.pr z ((hS z).mp hz) hne).2⟩, fun z hz => ht.rng z ((hS z).mp hz)⟩
    | cons o ad ih =>
      intro nd hh
      obtain ⟨n1, n2⟩ := List.nodup_cons.mp nd
      obtain ⟨k1, ⟨t, k2⟩, k3⟩ := ih n2 fun y hy => hh y (List.mem_cons_of_mem _ hy)
      obtain ⟨a1, a2⟩ := hh o (List.mem_cons_self ..)
      have ho : o ∉ (fd ++ [x]) ++ (wr ++ ad) := fun hm => by
        rcases List.mem_append.mp hm with z | z
        · exact a2 z
        · rcases List.mem_append.mp z with z | z
          · exact h.ind x hxw o (List.mem_append_left _ z) a1
          · exact n1 z
      have hx : x ∈ (fd ++ [x]) ++ (wr ++ ad) := List.mem_append_left _ (List.mem_append_right _ (List.mem_singleton.mpr rfl))
      have pm : ((fd ++ [x]) ++ (wr ++ o :: ad)).Perm (o :: ((fd ++ [x]) ++ (wr ++ ad))) := by
        refine (List.Perm.append_left _ List.perm_middle).trans ?_
        exact List.perm_middle
      refine ⟨pm.nodup_iff.mpr (List.nodup_cons.mpr ⟨ho, k1⟩), RS.add R k2 ho hx a1 fun y => ?_, ?_⟩
      · rw [pm.mem_iff, List.mem_cons]
        exact ⟨fun z => z.symm, fun z => z.symm⟩
      · have no : ∀ y ∈ wr ++ ad, ¬ Adj ts o y := fun y hy a => by
          have e := RS.one R k2 ho hx (List.mem_append_right _ hy) a1.symm a
          rw [List.nodup_append] at k1
          exact k1.2.2 x (List.mem_append_right _ (List.mem_singleton.mpr rfl)) y hy e
        have mem : ∀ y, y ∈ wr ++ o :: ad → y = o ∨ y ∈ wr ++ ad := fun y hy => by
          simp only [List.mem_append, List.mem_cons] at hy ⊢
          rcases hy with z | z | z
          · exact .inr (.inl z)
          · exact .inl z
          · exact .inr (.inr z)
        intro y hy z hz a
        rcases mem y hy with e1 | e1 <;> rcases mem z hz with e2 | e2
        · rw [e1, e2] at a; exact R.irr a
        · rw [e1] at a; exact no z e2 a
        · rw [e2] at a; exact no y e1 a.symm
        · exact k3 y e1 z e2 a
  obtain ⟨k1, k2, k3⟩ := key (near.filter p) (hn.filter _) fun y hy => by
    obtain ⟨m1, m2⟩ := List.mem_filter.mp hy
    exact ⟨(hm y).mp m1, ((hp y).mp m2).1⟩
  have hin : ∀ y, y ∈ fd ++ (wr ++ [x]) → y ∈ (fd ++ [x]) ++ (wr ++ near.filter p) := fun y hy => by
    have := (hS y).mpr hy
    rw [← List.append_assoc]
    exact List.mem_append_left _ this
  refine ⟨k1, k2, fun y hy => ?_, hin _ h.src, k3, fun y hy z a hb => ?_⟩
  · rw [← List.append_assoc] at hy
    rcases List.mem_append.mp hy with m | m
    · exact h.rch y ((hS y).mp m)
    · obtain ⟨m1, m2⟩ := List.mem_filter.mp m
      exact (h.rch x (List.mem_append_right _ hxw)).step ((hm y).mp m1) ((hp y).mp m2).2
  · rcases List.mem_append.mp hy with m | m
    · exact hin _ (h.cls y m z a hb)
    · rw [List.mem_singleton.mp m] at a
      by_cases g : z ∈ fd ++ [x]
      · exact List.mem_append_left _ g
      · exact List.mem_append_right _ (List.mem_append_right _ (List.mem_filter.mpr ⟨(hm z).mpr a, (hp z).mpr ⟨g, hb⟩⟩))
theorem Dfs.fin {bar : Option Int} {s : Int} {fd : List Int} (h : Dfs n ts pa r bar s fd []) : fd.Nodup ∧ ∀ y, y ∈ fd ↔ Rc ts bar s y := by
  have e : fd ++ [] = fd := List.append_nil _
  refine ⟨e ▸ h.nd, fun y => ⟨fun hy => h.rch y (e.symm ▸ hy), fun g => ?_⟩⟩
  induction g with
  | base => exact e ▸ h.src
  | step _ h2 h3 ih => exact e ▸ h.cls _ ih _ h2 h3
end
end LT

/-! ### ties made of names in a drawn order, each tied to one ahead of it -/
namespace LT
def srt (u w : Nat) : Nat × Nat := if u ≤ w then (u, w) else (w, u)
theorem srt_cases (u w : Nat) : srt u w = (u, w) ∨ srt u w = (w, u) := by
  unfold srt
  split
  · exact .inl rfl
  · exact .inr rfl
theorem srt_lt {u w : Nat} (h : u ≠ w) : (srt u w).1 < (srt u w).2 := by
  unfold srt
  split
  · show u < w; omega
  · show w < u; omega
theorem Rooted.perm {n : Nat} {ts us : List (Nat × Nat)} {pa : Int → Int} {rk : Int → Nat} {r : Int} (R : Rooted n ts pa rk r) (p : us.Perm ts) : Rooted n us pa rk r := by
  have e : ∀ x y, Adj us x y ↔ Adj ts x y := fun x y => ⟨fun ⟨a, h1, h2⟩ => ⟨a, p.mem_iff.mp h1, h2⟩, fun ⟨a, h1, h2⟩ => ⟨a, p.mem_iff.mpr h1, h2⟩⟩
  exact ⟨fun x y h => R.edge x y ((e x y).mp h), fun v h0 h1 hr => ⟨(e _ _).mpr (R.up v h0 h1 hr).1, (R.up v h0 h1 hr).2⟩, fun x y h => R.rng x y ((e x y).mp h), R.root, R.rk0⟩
theorem nd_at {α : Type} {xs : List α} {i j : Nat} {x : α} (h : xs.Nodup) (hi : xs[i]? = some x) (hj : xs[j]? = some x) : i = j := by
  obtain ⟨i1, i2⟩ := List.getElem?_eq_some_iff.mp hi
  obtain ⟨j1, j2⟩ := List.getElem?_eq_some_iff.mp hj
  rcases Nat.lt_trichotomy i j with z | z | z
  · exact absurd (i2.trans j2.symm) (List.pairwise_iff_getElem.mp h i j i1 j1 z)
  · exact z
  · exact absurd (j2.trans i2.symm) (List.pairwise_iff_getElem.mp h j i j1 i1 z)
theorem ties_made {n : Nat} {nm : List Nat} (hp : nm.Perm (List.range n)) {ps : List (Nat × Nat)} (hl : ps.length + 1 = n) (h : ∀ j a, ps[j]? = some a → ∃ o, o ≤ j ∧ a = srt (nm.getD (j + 1) 0) (nm.getD o 0)) :
    (∀ a ∈ ps, a.1 < a.2 ∧ a.2 < n) ∧ ps.Nodup ∧ ∃ pa rk r, Rooted n ps pa rk r := by
  have nd : nm.Nodup := hp.nodup_iff.mpr List.nodup_range
  have len : nm.length = n := by rw [hp.length_eq, List.length_range]
  have at' : ∀ i, i < n → nm[i]? = some (nm.getD i 0) := fun i hi => by
    rw [List.getD_eq_getElem?_getD, List.getElem?_eq_getElem (by omega)]
    rfl
  have inj : ∀ i j, i < n → j < n → nm.getD i 0 = nm.getD j 0 → i = j := fun i j hi hj e => nd_at nd (at' i hi) (by rw [e]; exact at' j hj)
  have lt : ∀ i, i < n → nm.getD i 0 < n := fun i hi => List.mem_range.mp (hp.mem_iff.mp (List.mem_of_getElem? (at' i hi)))
  have idx : ∀ i, i < n → nm.idxOf (nm.getD i 0) = i := fun i hi => by
    have hm : nm.getD i 0 ∈ nm := List.mem_of_getElem? (at' i hi)
    have h1 : nm.idxOf (nm.getD i 0) < nm.length := List.idxOf_lt_length_iff.mpr hm
    have h2 : nm[nm.idxOf (nm.getD i 0)] = nm.getD i 0 := List.getElem_idxOf h1
    exact nd_at nd (by rw [List.getElem?_eq_getElem h1, h2]) (at' i hi)
  have bk : ∀ v, v < n → ∃ i, i < n ∧ nm.getD i 0 = v := fun v hv => by
    obtain ⟨i, hi⟩ := List.mem_iff_getElem?.mp (hp.mem_iff.mpr (List.mem_range.mpr hv))
    have := (List.getElem?_eq_some_iff.mp hi).1
    exact ⟨i, by omega, by rw [List.getD_eq_getElem?_getD, hi]; rfl⟩
  obtain ⟨pr, hpr⟩ : ∃ pr : Nat → Nat, ∀ j, j < ps.length → pr j ≤ j ∧ ps[j]? = some (srt (nm.getD (j + 1) 0) (nm.getD (pr j) 0)) := by
    have : ∀ j, ∃ o, j < ps.length → o ≤ j ∧ ps[j]? = some (srt (nm.getD (j + 1) 0) (nm.getD o 0)) := fun j => by
      by_cases hj : j < ps.length
      · obtain ⟨o, h1, h2⟩ := h j _ (List.getElem?_eq_getElem hj)
        exact ⟨o, fun _ => ⟨h1, by rw [List.getElem?_eq_getElem hj, h2]⟩⟩
      · exact ⟨0, fun z => absurd z hj⟩
    exact ⟨fun j => Classical.choose (this j), fun j hj => Classical.choose_spec (this j) hj⟩
  have mem : ∀ a ∈ ps, ∃ j, j < ps.length ∧ ps[j]? = some a ∧ a = srt (nm.getD (j + 1) 0) (nm.getD (pr j) 0) := fun a ha => by
    obtain ⟨j, hj⟩ := List.mem_iff_getElem?.mp ha
    have hjl := (List.getElem?_eq_some_iff.mp hj).1
    have := (hpr j hjl).2
    rw [hj] at this
    exact ⟨j, hjl, hj, Option.some.inj this⟩
  refine ⟨fun a ha => ?_, ?_, ?_⟩
  · obtain ⟨j, hjl, _, rfl⟩ := mem a ha
    have hle := (hpr j hjl).1
    have hne : nm.getD (j + 1) 0 ≠ nm.getD (pr j) 0 := fun e => by
      have := inj _ _ (by omega) (by omega) e
      omega
    refine ⟨srt_lt hne, ?_⟩
    have l1 := lt (j + 1) (by omega)
    have l2 := lt (pr j) (by omega)
    rcases srt_cases (nm.getD (j + 1) 0) (nm.getD (pr j) 0) with e | e <;> rw [e]
    · exact l2
    · exact l1
  · refine List.pairwise_iff_getElem.mpr fun i j hi hj hij e => ?_
    have h1 := (hpr i hi).2
    have h2 := (hpr j hj).2
    have l1 := (hpr i hi).1
    have l2 := (hpr j hj).1
    rw [List.getElem?_eq_getElem hi] at h1
    rw [List.getElem?_eq_getElem hj] at h2
    have e2 := (Option.some.inj h1).symm.trans (e.trans (Option.some.inj h2))
    have k : (nm.getD (i + 1) 0 = nm.getD (j + 1) 0) ∨ (nm.getD (i + 1) 0 = nm.getD (pr j) 0 ∧ nm.getD (pr i) 0 = nm.getD (j + 1) 0) := by
      rcases srt_cases (nm.getD (i + 1) 0) (nm.getD (pr i) 0) with a | a <;> rcases srt_cases (nm.getD (j + 1) 0) (nm.getD (pr j) 0) with b | b <;> rw [a, b] at e2 <;> injection e2 with x1 x2
      · exact .inl x1
      · exact .inr ⟨x1, x2⟩
      · exact .inr ⟨x2, x1⟩
      · exact .inl x2
    rcases k with k | ⟨k1, k2⟩
    · have := inj _ _ (by omega) (by omega) k
      omega
    · have := inj _ _ (by omega) (by omega) k2
      omega
  · have hadj : ∀ j, j < ps.length → Adj ps (nm.getD (j + 1) 0 : Nat) (nm.getD (pr j) 0 : Nat) := fun j hj => by
      refine ⟨_, List.mem_of_getElem? (hpr j hj).2, ?_⟩
      rcases srt_cases (nm.getD (j + 1) 0) (nm.getD (pr j) 0) with e | e <;> rw [e]
      · exact .inl ⟨rfl, rfl⟩
      · exact .inr ⟨rfl, rfl⟩
    have inv : ∀ x y, Adj ps x y → ∃ j, j < ps.length ∧ ((x = (nm.getD (j + 1) 0 : Nat) ∧ y = (nm.getD (pr j) 0 : Nat)) ∨ (y = (nm.getD (j + 1) 0 : Nat) ∧ x = (nm.getD (pr j) 0 : Nat))) := fun x y ⟨a, ha, hxy⟩ => by
      obtain ⟨j, hjl, _, e⟩ := mem a ha
      refine ⟨j, hjl, ?_⟩
      rcases srt_cases (nm.getD (j + 1) 0) (nm.getD (pr j) 0) with b | b <;> rw [b] at e <;> subst e
      · exact hxy.imp id fun z => ⟨z.2, z.1⟩
      · exact hxy.elim (fun z => .inr ⟨z.2, z.1⟩) fun z => .inl z
    refine ⟨fun v => (nm.getD (pr (nm.idxOf v.toNat - 1)) 0 : Nat), fun v => nm.idxOf v.toNat, (nm.getD 0 0 : Nat), fun x y hxy => ?_, fun v h0 h1 hr => ?_, fun x y hxy => ?_, ?_, ?_⟩
    · obtain ⟨j, hj, ⟨rfl, rfl⟩ | ⟨rfl, rfl⟩⟩ := inv x y hxy
      · refine .inl ?_
        have := (hpr j hj).1
        rw [Int.toNat_natCast, Int.toNat_natCast, idx _ (by omega), idx _ (by omega)]
        exact ⟨rfl, by omega⟩
      · refine .inr ?_
        have := (hpr j hj).1
        rw [Int.toNat_natCast, Int.toNat_natCast, idx _ (by omega), idx _ (by omega)]
        exact ⟨rfl, by omega⟩
    · obtain ⟨i, hi, e⟩ := bk v.toNat (by omega)
      have ev : v = (nm.getD i 0 : Nat) := by omega
      have hi0 : i ≠ 0 := fun z => hr (by rw [ev, z])
      subst ev
      have := (hpr (i - 1) (by omega)).1
      simp only [Int.toNat_natCast]
      rw [idx i hi, idx _ (by omega)]
      have q := hadj (i - 1) (by omega)
      have e1 : i - 1 + 1 = i := by omega
      rw [e1] at q
      exact ⟨q, by omega⟩
    · obtain ⟨j, hj, ⟨rfl, rfl⟩ | ⟨rfl, rfl⟩⟩ := inv x y hxy
      · have := lt (j + 1) (by omega)
        omega
      · have := (hpr j hj).1
        have := lt (pr j) (by omega)
        omega
    · have := lt 0 (by omega)
      omega
    · show nm.idxOf (Int.toNat _) = 0
      rw [Int.toNat_natCast, idx 0 (by omega)]
end LT

namespace DT
/-! determinants over whole numbers: rows as functions of columns, columns as a list -/
abbrev Vec := Nat → Int
def S (r : Vec) (F : List Nat → Int) : List Nat → Int
  | [] => 0
  | c :: cs => r c * F cs - S r (fun x => F (c :: x)) cs
def det : List Vec → List Nat → Int
  | [], [] => 1
  | [], _ :: _ => 0
  | r :: rs, cs => S r (det rs) cs
theorem S_lin {r s t : Vec} {a b : Int} (h : ∀ j, t j = a * r j + b * s j) : ∀ (cs : List Nat) (F : List Nat → Int), S t F cs = a * S r F cs + b * S s F cs
  | [], _ => by simp [S]
  | c :: cs, F => by
    show t c * F cs - S t _ cs = a * (r c * F cs - S r _ cs) + b * (s c * F cs - S s _ cs)
    rw [S_lin h cs, h c, Int.add_mul, Int.mul_sub, Int.mul_sub, Int.mul_assoc, Int.mul_assoc]
    omega
theorem S_linF {r : Vec} {a b : Int} : ∀ (cs : List Nat) (F G E : List Nat → Int), (∀ x, E x = a * F x + b * G x) → S r E cs = a * S r F cs + b * S r G cs
  | [], _, _, _, _ => by simp [S]
  | c :: cs, F, G, E, h => by
    show r c * E cs - S r _ cs = a * (r c * F cs - S r _ cs) + b * (r c * G cs - S r _ cs)
    rw [S_linF cs (fun x => F (c :: x)) (fun x => G (c :: x)) _ (fun x => h (c :: x)), h cs, Int.mul_add, Int.mul_sub, Int.mul_sub, Int.mul_left_comm (r c) a, Int.mul_left_comm (r c) b]
    omega
theorem S_zero {r : Vec} : ∀ (cs : List Nat) (F : List Nat → Int), (∀ x, F x = 0) → S r F cs = 0
  | [], _, _ => rfl
  | c :: cs, F, h => by
    show r c * F cs - S r _ cs = 0
    rw [h cs, S_zero cs _ fun x => h (c :: x)]
    simp
theorem S_anti {r s : Vec} : ∀ (cs : List Nat) (F : List Nat → Int), S r (S s F) cs = - S s (S r F) cs
  | [], _ => rfl
  | c :: cs, F => by
    show r c * S s F cs - S r (fun x => s c * F x - S s (fun y => F (c :: y)) x) cs = -(s c * S r F cs - S s (fun x => r c * F x - S r (fun y => F (c :: y)) x) cs)
    have h1 := S_linF (r := r) (a := s c) (b := -1) cs F (S s fun y => F (c :: y)) (fun x => s c * F x - S s (fun y => F (c :: y)) x) fun x => by
      show s c * F x - S s (fun y => F (c :: y)) x = s c * F x + -1 * S s (fun y => F (c :: y)) x
      omega
    have h2 := S_linF (r := s) (a := r c) (b := -1) cs F (S r fun y => F (c :: y)) (fun x => r c * F x - S r (fun y => F (c :: y)) x) fun x => by
      show r c * F x - S r (fun y => F (c :: y)) x = r c * F x + -1 * S r (fun y => F (c :: y)) x
      omega
    have h3 := S_anti (r := r) (s := s) cs fun y => F (c :: y)
    rw [h1, h2, h3]
    omega
theorem det_lin {r s t : Vec} {a b : Int} (h : ∀ j, t j = a * r j + b * s j) : ∀ (pre post : List Vec) (cs : List Nat), det (pre ++ t :: post) cs = a * det (pre ++ r :: post) cs + b * det (pre ++ s :: post) cs
  | [], post, cs => S_lin h cs _
  | x :: pre, post, cs => S_linF cs _ _ _ fun y => det_lin h pre post y
theorem det_swap {r s : Vec} : ∀ (pre post : List Vec) (cs : List Nat), det (pre ++ r :: s :: post) cs = - det (pre ++ s :: r :: post) cs
  | [], post, cs => S_anti cs _
  | x :: pre, post, cs => by
    have := S_linF (r := x) (a := -1) (b := 0) cs (det (pre ++ s :: r :: post)) (fun _ => 0) (det (pre ++ r :: s :: post)) fun y => by
      rw [det_swap pre post y]
      omega
    have this : S x (det (pre ++ r :: s :: post)) cs = -1 * S x (det (pre ++ s :: r :: post)) cs + 0 * S x (fun _ => 0) cs := this
    show S x (det (pre ++ r :: s :: post)) cs = - S x (det (pre ++ s :: r :: post)) cs
    omega
theorem det_move {x : Vec} : ∀ (ds pre post : List Vec) (cs : List Nat), det (pre ++ x :: (ds ++ post)) cs = (-1) ^ ds.length * det (pre ++ (ds ++ x :: post)) cs
  | [], pre, post, cs => by simp
  | d :: ds, pre, post, cs => by
    show det (pre ++ x :: d :: (ds ++ post)) cs = (-1) ^ (ds.length + 1) * det (pre ++ d :: (ds ++ x :: post)) cs
    have h := det_move (x := x) ds (pre ++ [d]) post cs
    rw [List.append_assoc, List.append_assoc] at h
    have h : det (pre ++ d :: x :: (ds ++ post)) cs = (-1) ^ ds.length * det (pre ++ d :: (ds ++ x :: post)) cs := h
    rw [det_swap, h, Int.pow_succ]
    simp only [Int.mul_neg, Int.neg_mul, Int.mul_one]
theorem det_far {x y : Vec} (pre mid post : List Vec) (cs : List Nat) : det (pre ++ x :: (mid ++ y :: post)) cs = - det (pre ++ y :: (mid ++ x :: post)) cs := by
  have h1 := det_move (x := x) mid pre (y :: post) cs
  have h2 := det_move (x := y) mid pre (x :: post) cs
  have h3 := det_swap (r := x) (s := y) (pre ++ mid) post cs
  rw [List.append_assoc, List.append_assoc] at h3
  rw [h1, h2, h3]
  exact Int.mul_neg _ _
theorem det_same {x : Vec} (pre mid post : List Vec) (cs : List Nat) : det (pre ++ x :: (mid ++ x :: post)) cs = 0 := by
  have := det_far (x := x) (y := x) pre mid post cs
  omega
/-- a multiple of a row added to a later one -/
theorem det_add {x y z : Vec} {c : Int} (h : ∀ j, z j = y j + c * x j) (pre mid post : List Vec) (cs : List Nat) : det (pre ++ x :: (mid ++ z :: post)) cs = det (pre ++ x :: (mid ++ y :: post)) cs := by
  have h1 := det_lin (r := y) (s := x) (t := z) (a := 1) (b := c) (fun j => by rw [h j]; omega) (pre ++ x :: mid) post cs
  rw [List.append_assoc, List.append_assoc, List.append_assoc] at h1
  have h1 : det (pre ++ x :: (mid ++ z :: post)) cs = 1 * det (pre ++ x :: (mid ++ y :: post)) cs + c * det (pre ++ x :: (mid ++ x :: post)) cs := h1
  rw [h1, det_same]
  simp
theorem det_adds {x : Vec} {α : Type} {f g : α → Vec} {k : α → Int} (h : ∀ a j, g a j = f a j + k a * x j) : ∀ (as : List α) (pre mid : List Vec) (cs : List Nat), det (pre ++ x :: (mid ++ as.map g)) cs = det (pre ++ x :: (mid ++ as.map f)) cs
  | [], _, _, _ => rfl
  | a :: as, pre, mid, cs => by
    rw [List.map_cons, List.map_cons, det_add (h a)]
    have := det_adds h as pre (mid ++ [f a]) cs
    rw [List.append_assoc, List.append_assoc] at this
    exact this
/-! a column of noughts -/
theorem S_zc {r : Vec} {c : Nat} (h0 : r c = 0) : ∀ (cs : List Nat) (F : List Nat → Int), (∀ x, c ∈ x → F x = 0) → c ∈ cs → S r F cs = 0
  | [], _, _, h => nomatch h
  | d :: cs, F, hF, h => by
    show r d * F cs - S r _ cs = 0
    by_cases e : c = d
    · subst e
      rw [h0, S_zero cs _ fun x => hF (c :: x) List.mem_cons_self]
      simp
    · have hc : c ∈ cs := (List.mem_cons.mp h).resolve_left e
      rw [hF cs hc, S_zc h0 cs _ (fun x hx => hF (d :: x) (List.mem_cons_of_mem _ hx)) hc]
      simp
theorem det_zc {c : Nat} : ∀ (rs : List Vec) (cs : List Nat), c ∈ cs → (∀ r ∈ rs, r c = 0) → det rs cs = 0
  | [], [], h, _ => nomatch h
  | [], _ :: _, _, _ => rfl
  | r :: rs, cs, h, hr => S_zc (hr r List.mem_cons_self) cs _ (fun x hx => det_zc rs x hx fun s hs => hr s (List.mem_cons_of_mem _ hs)) h
theorem det_tri {r : Vec} {rs : List Vec} {c : Nat} {cs : List Nat} (h : ∀ s ∈ rs, s c = 0) : det (r :: rs) (c :: cs) = r c * det rs cs := by
  show r c * det rs cs - S r _ cs = _
  rw [S_zero cs _ fun x => det_zc rs (c :: x) List.mem_cons_self h]
  simp
theorem S_low {r : Vec} : ∀ (cs : List Nat) (F : List Nat → Int), (∀ c ∈ cs, r c = 0) → S r F cs = 0
  | [], _, _ => rfl
  | c :: cs, F, h => by
    show r c * F cs - S r _ cs = 0
    rw [h c List.mem_cons_self, S_low cs _ fun x hx => h x (List.mem_cons_of_mem _ hx)]
    simp
theorem det_low {r : Vec} {rs : List Vec} {c : Nat} {cs : List Nat} (h : ∀ x ∈ cs, r x = 0) : det (r :: rs) (c :: cs) = r c * det rs cs := by
  show r c * det rs cs - S r _ cs = _
  rw [S_low cs _ h]
  simp
/-! mixtures: the rows of a product -/
def lin (B : Nat → Vec) (a : Vec) : List Nat → Vec
  | [] => fun _ => 0
  | c :: cs => fun k => a c * B c k + lin B a cs k
theorem lin_app {B : Nat → Vec} {a : Vec} {k : Nat} : ∀ (d t : List Nat), lin B a (d ++ t) k = lin B a d k + lin B a t k
  | [], t => by
    show lin B a t k = 0 + lin B a t k
    omega
  | c :: d, t => by
    show a c * B c k + lin B a (d ++ t) k = (a c * B c k + lin B a d k) + lin B a t k
    rw [lin_app d t]
    omega
def sumG (a : Vec) (G : Nat → Int) : List Nat → Int
  | [] => 0
  | c :: cs => a c * G c + sumG a G cs
theorem det_lins {B : Nat → Vec} {a : Vec} (pre post : List Vec) (cols : List Nat) : ∀ cs : List Nat, det (pre ++ lin B a cs :: post) cols = sumG a (fun c => det (pre ++ B c :: post) cols) cs
  | [] => by
    have := det_lin (r := fun _ => 0) (s := fun _ => 0) (t := fun _ => 0) (a := 0) (b := 0) (fun j => rfl) pre post cols
    show det (pre ++ (fun _ => 0) :: post) cols = 0
    omega
  | c :: cs => by
    have := det_lin (r := B c) (s := lin B a cs) (t := lin B a (c :: cs)) (a := a c) (b := 1) (fun j => by
      show a c * B c j + lin B a cs j = _
      omega) pre post cols
    rw [this, det_lins pre post cols cs]
    show _ = a c * det (pre ++ B c :: post) cols + sumG a _ cs
    omega
theorem sum_S {a : Vec} {G : Nat → Int} {E : List Nat → Int} {D : Int} : ∀ (t d : List Nat), (∀ d' c t', d ++ t = d' ++ c :: t' → G c = (-1) ^ d'.length * E (d' ++ t') * D) → sumG a G t = (-1) ^ d.length * S a (fun x => E (d ++ x)) t * D
  | [], d, _ => by
    show (0 : Int) = _ * 0 * D
    simp
  | c :: t, d, h => by
    have ih := sum_S (a := a) (G := G) (E := E) (D := D) t (d ++ [c]) fun d' c' t' e => h d' c' t' (by rw [← e, List.append_assoc]; rfl)
    have e1 : (fun x => E (d ++ [c] ++ x)) = fun x => E (d ++ c :: x) := funext fun x => by rw [List.append_assoc]; rfl
    rw [e1, List.length_append, List.length_singleton, Int.pow_succ] at ih
    show a c * G c + sumG a G t = (-1) ^ d.length * (a c * E (d ++ t) - S a (fun x => E (d ++ c :: x)) t) * D
    rw [ih, h d c t rfl, Int.mul_sub, Int.sub_mul]
    have q1 : a c * ((-1) ^ d.length * E (d ++ t) * D) = (-1) ^ d.length * (a c * E (d ++ t)) * D := by
      rw [Int.mul_assoc, Int.mul_left_comm, Int.mul_assoc, Int.mul_assoc]
    rw [q1]
    simp only [Int.mul_neg, Int.neg_mul, Int.mul_one]
    omega
theorem det_mix {B : Nat → Vec} (cols : List Nat) : ∀ (as : List Vec) (cs : List Nat) (pre : List Vec), as.length = cs.length → det (pre ++ as.map fun a => lin B a cs) cols = det as cs * det (pre ++ cs.map B) cols
  | [], [], pre, _ => by
    show det (pre ++ []) cols = 1 * det (pre ++ []) cols
    omega
  | [], _ :: _, _, h => by simp at h
  | a :: as, cs, pre, h => by
    rw [List.map_cons, det_lins]
    have := sum_S (a := a) (G := fun c => det (pre ++ B c :: as.map fun a => lin B a cs) cols) (E := det as) (D := det (pre ++ cs.map B) cols) cs [] fun d c t e => by
      have e : cs = d ++ c :: t := e
      subst e
      have h1 := det_adds (x := B c) (f := fun a => lin B a (d ++ t)) (g := fun a => lin B a (d ++ c :: t)) (k := fun a => a c) (fun a j => by
        rw [lin_app, lin_app]
        show _ + (a c * B c j + lin B a t j) = _
        omega) as pre [] cols
      have h1 : det (pre ++ B c :: as.map fun a => lin B a (d ++ c :: t)) cols = det (pre ++ B c :: as.map fun a => lin B a (d ++ t)) cols := h1
      have h2 := det_mix (B := B) cols as (d ++ t) (pre ++ [B c]) (by
        simp only [List.length_cons, List.length_append] at h ⊢
        omega)
      rw [List.append_assoc, List.append_assoc] at h2
      have h2 : det (pre ++ B c :: as.map fun a => lin B a (d ++ t)) cols = det as (d ++ t) * det (pre ++ B c :: (d ++ t).map B) cols := h2
      have h3 := det_move (x := B c) (d.map B) pre (t.map B) cols
      rw [List.length_map] at h3
      show det (pre ++ B c :: as.map fun a => lin B a (d ++ c :: t)) cols = _
      rw [h1, h2, List.map_append, h3, List.map_append, List.map_cons]
      simp only [Int.mul_assoc, Int.mul_comm, Int.mul_left_comm]
    rw [this]
    show (-1) ^ 0 * S a (det as) cs * _ = _
    simp
    rfl
/-- the determinant of a product -/
theorem det_prod {B : Nat → Vec} {as : List Vec} {cs cols : List Nat} (h : as.length = cs.length) : det (as.map fun a => lin B a cs) cols = det as cs * det (cs.map B) cols := det_mix cols as cs [] h
/-! modulo p -/
theorem S_mod {p : Int} {r s : Vec} : ∀ (cs : List Nat) (F G : List Nat → Int), (∀ c ∈ cs, r c % p = s c % p) → (∀ x, (∀ c ∈ x, c ∈ cs) → F x % p = G x % p) → S r F cs % p = S s G cs % p
  | [], _, _, _, _ => rfl
  | c :: cs, F, G, h, hF => by
    show (r c * F cs - S r _ cs) % p = (s c * G cs - S s _ cs) % p
    rw [Int.sub_emod, Int.mul_emod, h c List.mem_cons_self, hF cs fun x hx => List.mem_cons_of_mem _ hx, S_mod cs _ _ (fun x hx => h x (List.mem_cons_of_mem _ hx)) fun x hx => hF (c :: x) fun y hy => ?_, ← Int.mul_emod, ← Int.sub_emod]
    rcases List.mem_cons.mp hy with e | e
    · rw [e]
      exact List.mem_cons_self
    · exact List.mem_cons_of_mem _ (hx y e)
inductive Cong (p : Int) (cs : List Nat) : List Vec → List Vec → Prop where
  | nil : Cong p cs [] []
  | cons {r s : Vec} {rs ss : List Vec} (h : ∀ c ∈ cs, r c % p = s c % p) (t : Cong p cs rs ss) : Cong p cs (r :: rs) (s :: ss)
theorem Cong.mono {p : Int} {cs ds : List Nat} {rs ss : List Vec} (h : Cong p cs rs ss) (m : ∀ c ∈ ds, c ∈ cs) : Cong p ds rs ss := by
  induction h with
  | nil => exact .nil
  | cons h _ ih => exact .cons (fun c hc => h c (m c hc)) ih
theorem det_mod {p : Int} {cs : List Nat} {rs ss : List Vec} (h : Cong p cs rs ss) : ∀ ds : List Nat, (∀ c ∈ ds, c ∈ cs) → det rs ds % p = det ss ds % p := by
  induction h with
  | nil => exact fun _ _ => rfl
  | @cons r s rs ss h _ ih => exact fun ds m => S_mod ds _ _ (fun c hc => h c (m c hc)) fun x hx => ih x fun c hc => m c (hx c hc)
/-- the sum along the first row, place by place -/
theorem S_places {r : Vec} : ∀ (cs : List Nat) (F : List Nat → Int), S r F cs = ((List.range cs.length).map fun k => (-1) ^ k * (r (cs.getD k 0) * F (cs.eraseIdx k))).sum
  | [], _ => rfl
  | c :: cs, F => by
    show r c * F cs - S r _ cs = _
    rw [S_places cs, List.length_cons, List.range_succ_eq_map, List.map_cons, List.sum_cons, List.map_map]
    have e : ∀ xs : List Nat, (xs.map ((fun k => (-1 : Int) ^ k * (r ((c :: cs).getD k 0) * F ((c :: cs).eraseIdx k))) ∘ Nat.succ)).sum = - (xs.map fun k => (-1 : Int) ^ k * (r (cs.getD k 0) * F (c :: cs.eraseIdx k))).sum := fun xs => by
      induction xs with
      | nil => rfl
      | cons x xs ih =>
        rw [List.map_cons, List.sum_cons, ih, List.map_cons, List.sum_cons]
        show (-1) ^ (x + 1) * (r (cs.getD x 0) * F (c :: cs.eraseIdx x)) + _ = _
        rw [Int.pow_succ]
        simp only [Int.mul_neg, Int.neg_mul, Int.mul_one]
        omega
    rw [e]
    show _ = (-1) ^ 0 * (r c * F cs) + _
    simp
    omega
end DT

namespace TK
open PySem PySem.Spec PyProof.Rows L2 TH
local macro_rules | `(tactic| walk_at "rd1") => `(tactic| first
  | (with_reducible refine TH.w_seq ?_)
  | (with_reducible refine TH.w_asg ?_)
  | (with_reducible refine TH.w_ret ?_)
  | (with_reducible refine TH.w_drop ?_)
  | (with_reducible refine TH.w_ifS ?_)
  | (with_reducible refine TH.w_next ?_)
  | ((with_reducible refine TH.w_var (v := ?vv) ?hv ?_); (case hv => rfl))
  | (with_reducible refine TH.w_c ?_)
  | ((with_reducible refine TH.w_gname (σ' := ?ss) ?hs ?_); (case hs => (dsimp only [List.set]; rfl)))
  | (with_reducible refine TH.w_op ?_)
  | (with_reducible refine TH.w_un ?_)
  | (with_reducible refine TH.w_chain ?_)
  | (with_reducible refine TH.w_I0 ?_)
  | ((with_reducible refine TH.w_I ?hm ?_); (case hm => first | (exact TH.CMul.l (by omega) (by omega)) | (exact TH.CMul.r (by omega) (by omega)) | (exact TH.CDiv.mk (by omega) (by omega)) | (show (0 : Int) < _; omega) | (exact TH.CPow.mk (by omega) (by omega) (by decide))))
  | (with_reducible refine TH.w_U ?_)
  | (with_reducible refine TH.w_eqI ?_)
  | (with_reducible refine TH.w_neI ?_)
  | (with_reducible refine TH.w_eqB ?_)
  | (with_reducible refine TH.w_isN ?_)
  | (with_reducible refine TH.w_nil ?_)
  | (with_reducible refine TH.w_cons ?_)
  | (with_reducible refine TH.w_test ?_)
  | (with_reducible refine TH.w_B ?_)
  | (with_reducible refine TH.w_bl ?_)
  | (with_reducible refine TH.w_and ?_)
  | (with_reducible refine TH.w_or ?_)
  | (with_reducible refine TH.w_not ?_)
  | (with_reducible refine TH.w_andV ?_)
  | (with_reducible refine TH.w_orV ?_)
  | (with_reducible refine TH.w_notV ?_)
  | (with_reducible refine TH.w_if ?_)
  | (with_reducible refine TH.w_parT ?_)
  | (with_reducible refine TH.w_par ?_)
  | (with_reducible refine TH.w_parT3 ?_)
  | (with_reducible refine TH.w_par3 ?_)
  | (with_reducible refine TH.w_cb ?_)
  | (with_reducible refine TH.w_call ?_)
  | ((with_reducible refine TH.w_aug (v := ?vv) ?hv ?_); (case hv => rfl))
  | (with_reducible refine TH.w_ip ?_)
  | (with_reducible refine TH.w_bm ?_)
  | (with_reducible refine TH.w_sl ?_)
  | (with_reducible refine TH.w_np ?_)
  | (with_reducible refine TH.w_pt ?_)
  | (with_reducible refine TH.w_pti ?_)
  | (with_reducible refine TH.w_gsub ?_)
  | (with_reducible refine TH.w_int ?_)
  | (with_reducible refine TH.w_tupT ?_)
  | (with_reducible refine TH.w_lstT ?_)
  | ((with_reducible show L2.rIxL _ _ _ _ _); (first | (refine TH.w_ixL (TH.sqL upd_same) rfl ?_) | (refine TH.w_ixL (TH.sqL (by assumption)) rfl ?_)))
  | ((with_reducible show L2.rSetL _ _ _ _ _); (first | (refine TH.w_set1 upd_same ?_) | (refine TH.w_set2 upd_same ?_) | (refine TH.w_set3 upd_same ?_) | (refine TH.w_set4 upd_same ?_) | (refine TH.w_set1 (by assumption) ?_) | (refine TH.w_set2 (by assumption) ?_) | (refine TH.w_set3 (by assumption) ?_) | (refine TH.w_set4 (by assumption) ?_)))
  | (with_reducible refine TH.w_lc ?_)
  | (with_reducible refine TH.w_dc ?_)
  | (with_reducible refine TH.w_itup ?_)
  | (with_reducible refine TH.w_ilist ?_)
  | (with_reducible refine TH.w_ienum ?_)
  | (with_reducible refine TH.w_izip ?_)
  | (with_reducible refine TH.w_irng1 ?_)
  | (with_reducible refine TH.w_irng2 ?_)
  | (with_reducible refine TH.w_for ?_)
  | (with_reducible refine TH.w_gcons ?_)
  | (with_reducible refine TH.w_gnil ?_)
  | (with_reducible refine TH.w_yes ?_)
  | (with_reducible refine TH.w_gtup2 upd_same ?_)
  | (with_reducible refine TH.w_gtup3 upd_same ?_)
  | (with_reducible refine TH.w_dput ?_)
  | (with_reducible refine TH.w_bm0 ?_)
  | (with_reducible refine TH.w_din ?_)
  | (with_reducible refine TH.w_dnotin ?_)
  | (with_reducible refine TH.w_dispK ?_)
  | (with_reducible refine TH.w_lock ?_)
  | (with_reducible refine TH.w_ikeys ?_)
  | (with_reducible refine TH.w_iitems ?_)
  | (with_reducible refine TH.w_dispT1 ?_)
  | (with_reducible refine TH.w_dnewT ?_)
  | (with_reducible refine TH.w_dnewK ?_)
  | (with_reducible refine TH.w_fld ?_)
  | (with_reducible refine TH.w_sfld ?_)
  | (with_reducible refine TH.w_meth ?_)
  | (with_reducible refine TH.w_make ?_)
  | (with_reducible refine TH.w_dget2 ?_)
  | (with_reducible refine TH.w_revL ?_)
  | (with_reducible refine TH.w_revT ?_)
  | (with_reducible refine TH.w_lstRg ?_)
  | (with_reducible refine TH.w_tupRg ?_)
  | (with_reducible refine TH.w_rg1 ?_)
  | (with_reducible refine TH.w_rg2 ?_)
  | (with_reducible refine TH.w_T ?_)
  | (with_reducible refine TH.w_F ?_))
local macro_rules | `(tactic| walk_at "rd") => `(tactic| repeat (first | walk_at "rd1" | (dsimp only [List.set, L2.wipe, List.map, TH.isInt, TH.isBool, TH.isTup, TH.isLst, TH.bo_f, TH.bo_t, TH.ba_f, TH.ba_t, TH.bn_t, TH.bn_f, List.append_nil, List.cons_append, List.nil_append])))

def top (i : Nat) : Stmt := PySem.Challenge.pw_tollhall_k02_whole_mixtures_partings_squ.main.body.getD i (.Pass ⟨0, 0, 0, 0⟩)
abbrev s_is_integer : Stmt := top 7
abbrev N_is_integer : List Str := ["thing"]
theorem sc_is_integer : FnScope N_is_integer ["thing"] (C8.fnScope s_is_integer) := ⟨rfl, rfl, rfl, by decide +kernel, rfl, by decide +kernel, by decide +kernel⟩
abbrev s_is_within : Stmt := top 8
abbrev N_is_within : List Str := ["thing", "least", "most"]
theorem sc_is_within : FnScope N_is_within ["thing", "least", "most"] (C8.fnScope s_is_within) := ⟨rfl, rfl, rfl, by decide +kernel, rfl, by decide +kernel, by decide +kernel⟩
abbrev s_is_listed : Stmt := top 9
abbrev N_is_listed : List Str := ["thing"]
theorem sc_is_listed : FnScope N_is_listed ["thing"] (C8.fnScope s_is_listed) := ⟨rfl, rfl, rfl, by decide +kernel, rfl, by decide +kernel, by decide +kernel⟩
abbrev s_check_number : Stmt := top 10
abbrev N_check_number : List Str := ["thing", "least", "most"]
theorem sc_check_number : FnScope N_check_number ["thing", "least", "most"] (C8.fnScope s_check_number) := ⟨rfl, rfl, rfl, by decide +kernel, rfl, by decide +kernel, by decide +kernel⟩
abbrev s_prime : Stmt := top 16
abbrev N_prime : List Str := ["number", "at"]
theorem sc_prime : FnScope N_prime ["number"] (C8.fnScope s_prime) := ⟨rfl, rfl, rfl, by decide +kernel, rfl, by decide +kernel, by decide +kernel⟩
abbrev s_is_clock : Stmt := top 17
abbrev N_is_clock : List Str := ["thing"]
theorem sc_is_clock : FnScope N_is_clock ["thing"] (C8.fnScope s_is_clock) := ⟨rfl, rfl, rfl, by decide +kernel, rfl, by decide +kernel, by decide +kernel⟩
abbrev s_check_clock : Stmt := top 30
abbrev N_check_clock : List Str := ["thing"]
theorem sc_check_clock : FnScope N_check_clock ["thing"] (C8.fnScope s_check_clock) := ⟨rfl, rfl, rfl, by decide +kernel, rfl, by decide +kernel, by decide +kernel⟩
abbrev s_inverse_of : Stmt := top 18
abbrev N_inverse_of : List Str := ["p", "value", "one", "other", "first", "second", "many"]
theorem sc_inverse_of : FnScope N_inverse_of ["p", "value"] (C8.fnScope s_inverse_of) := ⟨rfl, rfl, rfl, by decide +kernel, rfl, by decide +kernel, by decide +kernel⟩
abbrev s_scaled : Stmt := top 19
abbrev N_scaled : List Str := ["p", "value", "row", "one"]
theorem sc_scaled : FnScope N_scaled ["p", "value", "row"] (C8.fnScope s_scaled) := ⟨rfl, rfl, rfl, by decide +kernel, rfl, by decide +kernel, by decide +kernel⟩
abbrev s_without : Stmt := top 20
abbrev N_without : List Str := ["p", "row", "other", "value", "first", "second"]
theorem sc_without : FnScope N_without ["p", "row", "other", "value"] (C8.fnScope s_without) := ⟨rfl, rfl, rfl, by decide +kernel, rfl, by decide +kernel, by decide +kernel⟩
abbrev s_first_place : Stmt := top 21
abbrev N_first_place : List Str := ["row", "place", "value"]
theorem sc_first_place : FnScope N_first_place ["row"] (C8.fnScope s_first_place) := ⟨rfl, rfl, rfl, by decide +kernel, rfl, by decide +kernel, by decide +kernel⟩
abbrev s_Stairs_init : Stmt := inClass (top 22) 0
abbrev N_Stairs_init : List Str := ["self", "p"]
theorem sc_Stairs_init : FnScope N_Stairs_init ["self", "p"] (C8.fnScope s_Stairs_init) := ⟨rfl, rfl, rfl, by decide +kernel, rfl, by decide +kernel, by decide +kernel⟩
abbrev s_Stairs_less : Stmt := inClass (top 22) 1
abbrev N_Stairs_less : List Str := ["self", "row", "left", "used", "place", "step", "ways", "value", "number", "many"]
theorem sc_Stairs_less : FnScope N_Stairs_less ["self", "row"] (C8.fnScope s_Stairs_less) := ⟨rfl, rfl, rfl, by decide +kernel, rfl, by decide +kernel, by decide +kernel⟩
abbrev s_Stairs_take : Stmt := inClass (top 22) 2
abbrev N_Stairs_take : List Str := ["self", "number", "row", "place", "turn", "ways", "left", "used", "one", "many"]
theorem sc_Stairs_take : FnScope N_Stairs_take ["self", "number", "row"] (C8.fnScope s_Stairs_take) := ⟨rfl, rfl, rfl, by decide +kernel, rfl, by decide +kernel, by decide +kernel⟩
abbrev s_stairs_of : Stmt := top 23
abbrev N_stairs_of : List Str := ["p", "rows", "found", "number", "row"]
theorem sc_stairs_of : FnScope N_stairs_of ["p", "rows"] (C8.fnScope s_stairs_of) := ⟨rfl, rfl, rfl, by decide +kernel, rfl, by decide +kernel, by decide +kernel⟩
abbrev s_ladder_of : Stmt := top 24
abbrev N_ladder_of : List Str := ["p", "rows", "steps", "found", "place", "step", "row", "other", "later", "ways"]
theorem sc_ladder_of : FnScope N_ladder_of ["p", "rows"] (C8.fnScope s_ladder_of) := ⟨rfl, rfl, rfl, by decide +kernel, rfl, by decide +kernel, by decide +kernel⟩
abbrev s_mixture_of : Stmt := top 25
abbrev N_mixture_of : List Str := ["p", "rows", "row", "left", "used", "number"]
theorem sc_mixture_of : FnScope N_mixture_of ["p", "rows", "row"] (C8.fnScope s_mixture_of) := ⟨rfl, rfl, rfl, by decide +kernel, rfl, by decide +kernel, by decide +kernel⟩
abbrev s_parting_of : Stmt := top 26
abbrev N_parting_of : List Str := ["p", "wide", "rows", "row", "ladder", "left", "step", "place", "found"]
theorem sc_parting_of : FnScope N_parting_of ["p", "wide", "rows", "row"] (C8.fnScope s_parting_of) := ⟨rfl, rfl, rfl, by decide +kernel, rfl, by decide +kernel, by decide +kernel⟩
abbrev s_square_of : Stmt := top 27
abbrev N_square_of : List Str := ["p", "rows", "step"]
theorem sc_square_of : FnScope N_square_of ["p", "rows"] (C8.fnScope s_square_of) := ⟨rfl, rfl, rfl, by decide +kernel, rfl, by decide +kernel, by decide +kernel⟩
abbrev s_determinant_of : Stmt := top 28
abbrev N_determinant_of : List Str := ["p", "rows", "left", "found", "at", "some", "turn", "other", "row"]
theorem sc_determinant_of : FnScope N_determinant_of ["p", "rows"] (C8.fnScope s_determinant_of) := ⟨rfl, rfl, rfl, by decide +kernel, rfl, by decide +kernel, by decide +kernel⟩
abbrev s_is_row : Stmt := top 29
abbrev N_is_row : List Str := ["p", "wide", "thing", "value"]
theorem sc_is_row : FnScope N_is_row ["p", "wide", "thing"] (C8.fnScope s_is_row) := ⟨rfl, rfl, rfl, by decide +kernel, rfl, by decide +kernel, by decide +kernel⟩
abbrev s_check_rows : Stmt := top 31
abbrev N_check_rows : List Str := ["p", "wide", "rows", "index", "row"]
theorem sc_check_rows : FnScope N_check_rows ["p", "wide", "rows"] (C8.fnScope s_check_rows) := ⟨rfl, rfl, rfl, by decide +kernel, rfl, by decide +kernel, by decide +kernel⟩
abbrev s_check_row : Stmt := top 32
abbrev N_check_row : List Str := ["p", "wide", "thing"]
theorem sc_check_row : FnScope N_check_row ["p", "wide", "thing"] (C8.fnScope s_check_row) := ⟨rfl, rfl, rfl, by decide +kernel, rfl, by decide +kernel, by decide +kernel⟩
abbrev s_mixture : Stmt := top 33
abbrev N_mixture : List Str := ["p", "wide", "rows", "row"]
theorem sc_mixture : FnScope N_mixture ["p", "wide", "rows", "row"] (C8.fnScope s_mixture) := ⟨rfl, rfl, rfl, by decide +kernel, rfl, by decide +kernel, by decide +kernel⟩
abbrev s_parting : Stmt := top 34
abbrev N_parting : List Str := ["p", "wide", "rows", "row"]
theorem sc_parting : FnScope N_parting ["p", "wide", "rows", "row"] (C8.fnScope s_parting) := ⟨rfl, rfl, rfl, by decide +kernel, rfl, by decide +kernel, by decide +kernel⟩
abbrev s_square : Stmt := top 35
abbrev N_square : List Str := ["p", "wide", "rows"]
theorem sc_square : FnScope N_square ["p", "wide", "rows"] (C8.fnScope s_square) := ⟨rfl, rfl, rfl, by decide +kernel, rfl, by decide +kernel, by decide +kernel⟩
abbrev s_determinant : Stmt := top 36
abbrev N_determinant : List Str := ["p", "rows", "index", "row"]
theorem sc_determinant : FnScope N_determinant ["p", "rows"] (C8.fnScope s_determinant) := ⟨rfl, rfl, rfl, by decide +kernel, rfl, by decide +kernel, by decide +kernel⟩
abbrev s_law_hand : Stmt := top 38
abbrev N_law_hand : List Str := ["script", "cells", "cell"]
theorem sc_law_hand : FnScope N_law_hand ["script"] (C8.fnScope s_law_hand) := ⟨rfl, rfl, rfl, by decide +kernel, rfl, by decide +kernel, by decide +kernel⟩
abbrev s_law_draw : Stmt := top 39
abbrev N_law_draw : List Str := ["hand", "many", "number", "cell", "digit"]
theorem sc_law_draw : FnScope N_law_draw ["hand", "many"] (C8.fnScope s_law_draw) := ⟨rfl, rfl, rfl, by decide +kernel, rfl, by decide +kernel, by decide +kernel⟩
abbrev s_law_any : Stmt := top 40
abbrev N_law_any : List Str := ["hand", "items"]
theorem sc_law_any : FnScope N_law_any ["hand", "items"] (C8.fnScope s_law_any) := ⟨rfl, rfl, rfl, by decide +kernel, rfl, by decide +kernel, by decide +kernel⟩
abbrev s_law_is : Stmt := top 41
abbrev N_law_is : List Str := ["told", "due", "one", "two"]
theorem sc_law_is : FnScope N_law_is ["told", "due"] (C8.fnScope s_law_is) := ⟨rfl, rfl, rfl, by decide +kernel, rfl, by decide +kernel, by decide +kernel⟩
abbrev s_law_int : Stmt := top 42
abbrev N_law_int : List Str := ["thing", "least", "most"]
theorem sc_law_int : FnScope N_law_int ["thing", "least", "most"] (C8.fnScope s_law_int) := ⟨rfl, rfl, rfl, by decide +kernel, rfl, by decide +kernel, by decide +kernel⟩
abbrev s_law_turn : Stmt := top 43
abbrev N_law_turn : List Str := ["p", "value", "found", "many", "left"]
theorem sc_law_turn : FnScope N_law_turn ["p", "value"] (C8.fnScope s_law_turn) := ⟨rfl, rfl, rfl, by decide +kernel, rfl, by decide +kernel, by decide +kernel⟩
abbrev s_law_less : Stmt := top 44
abbrev N_law_less : List Str := ["p", "row", "other", "many", "one", "two"]
theorem sc_law_less : FnScope N_law_less ["p", "row", "other", "many"] (C8.fnScope s_law_less) := ⟨rfl, rfl, rfl, by decide +kernel, rfl, by decide +kernel, by decide +kernel⟩
abbrev s_law_summed : Stmt := top 48
abbrev N_law_summed : List Str := ["p", "wide", "rows", "many", "found", "row", "value"]
theorem sc_law_summed : FnScope N_law_summed ["p", "wide", "rows", "many"] (C8.fnScope s_law_summed) := ⟨rfl, rfl, rfl, by decide +kernel, rfl, by decide +kernel, by decide +kernel⟩
abbrev s_law_dot : Stmt := top 45
abbrev N_law_dot : List Str := ["p", "row", "other", "one", "two"]
theorem sc_law_dot : FnScope N_law_dot ["p", "row", "other"] (C8.fnScope s_law_dot) := ⟨rfl, rfl, rfl, by decide +kernel, rfl, by decide +kernel, by decide +kernel⟩
abbrev s_law_ladder : Stmt := top 46
abbrev N_law_ladder : List Str := ["p", "wide", "rows", "place", "left", "found", "some", "head", "turn", "at", "row", "one"]
theorem sc_law_ladder : FnScope N_law_ladder ["p", "wide", "rows"] (C8.fnScope s_law_ladder) := ⟨rfl, rfl, rfl, by decide +kernel, rfl, by decide +kernel, by decide +kernel⟩
abbrev s_law_rank : Stmt := top 47
abbrev N_law_rank : List Str := ["p", "rows"]
theorem sc_law_rank : FnScope N_law_rank ["p", "rows"] (C8.fnScope s_law_rank) := ⟨rfl, rfl, rfl, by decide +kernel, rfl, by decide +kernel, by decide +kernel⟩
abbrev s_law_clock : Stmt := top 49
abbrev N_law_clock : List Str := ["hand"]
theorem sc_law_clock : FnScope N_law_clock ["hand"] (C8.fnScope s_law_clock) := ⟨rfl, rfl, rfl, by decide +kernel, rfl, by decide +kernel, by decide +kernel⟩
abbrev s_law_some_row : Stmt := top 50
abbrev N_law_some_row : List Str := ["hand", "p", "wide", "rows", "kind", "at", "many", "row", "place"]
theorem sc_law_some_row : FnScope N_law_some_row ["hand", "p", "wide", "rows"] (C8.fnScope s_law_some_row) := ⟨rfl, rfl, rfl, by decide +kernel, rfl, by decide +kernel, by decide +kernel⟩
abbrev s_law_some_rows : Stmt := top 51
abbrev N_law_some_rows : List Str := ["hand", "p", "wide", "many", "found", "turn"]
theorem sc_law_some_rows : FnScope N_law_some_rows ["hand", "p", "wide", "many"] (C8.fnScope s_law_some_rows) := ⟨rfl, rfl, rfl, by decide +kernel, rfl, by decide +kernel, by decide +kernel⟩
abbrev s_law_is_row : Stmt := top 52
abbrev N_law_is_row : List Str := ["p", "wide", "thing", "one"]
theorem sc_law_is_row : FnScope N_law_is_row ["p", "wide", "thing"] (C8.fnScope s_law_is_row) := ⟨rfl, rfl, rfl, by decide +kernel, rfl, by decide +kernel, by decide +kernel⟩
abbrev s_law_det : Stmt := top 53
abbrev N_law_det : List Str := ["p", "rows", "place", "found", "sign", "less", "row"]
theorem sc_law_det : FnScope N_law_det ["p", "rows"] (C8.fnScope s_law_det) := ⟨rfl, rfl, rfl, by decide +kernel, rfl, by decide +kernel, by decide +kernel⟩
abbrev s_law_product : Stmt := top 54
abbrev N_law_product : List Str := ["p", "one", "other", "row"]
theorem sc_law_product : FnScope N_law_product ["p", "one", "other"] (C8.fnScope s_law_product) := ⟨rfl, rfl, rfl, by decide +kernel, rfl, by decide +kernel, by decide +kernel⟩
abbrev s_law_dets_right : Stmt := top 55
abbrev N_law_dets_right : List Str := ["hand", "told", "many", "at", "rows", "p", "wide", "one", "other", "due", "kept", "found", "below", "value", "to", "place"]
theorem sc_law_dets_right : FnScope N_law_dets_right ["hand"] (C8.fnScope s_law_dets_right) := ⟨rfl, rfl, rfl, by decide +kernel, rfl, by decide +kernel, by decide +kernel⟩
abbrev s_law_is_mixture : Stmt := top 56
abbrev N_law_is_mixture : List Str := ["p", "wide", "rows", "row", "told"]
theorem sc_law_is_mixture : FnScope N_law_is_mixture ["p", "wide", "rows", "row", "told"] (C8.fnScope s_law_is_mixture) := ⟨rfl, rfl, rfl, by decide +kernel, rfl, by decide +kernel, by decide +kernel⟩
abbrev s_law_is_parting : Stmt := top 57
abbrev N_law_is_parting : List Str := ["p", "wide", "rows", "row", "told", "one"]
theorem sc_law_is_parting : FnScope N_law_is_parting ["p", "wide", "rows", "row", "told"] (C8.fnScope s_law_is_parting) := ⟨rfl, rfl, rfl, by decide +kernel, rfl, by decide +kernel, by decide +kernel⟩
abbrev s_law_least_rows : Stmt := top 58
abbrev N_law_least_rows : List Str := ["p", "wide", "rows", "found", "some", "at", "row"]
theorem sc_law_least_rows : FnScope N_law_least_rows ["p", "wide", "rows"] (C8.fnScope s_law_least_rows) := ⟨rfl, rfl, rfl, by decide +kernel, rfl, by decide +kernel, by decide +kernel⟩
abbrev s_law : Stmt := top 59
abbrev N_law : List Str := ["script", "hand", "turn", "many", "rows", "again", "places", "told", "p", "wide", "row", "given", "due", "kept", "other", "one", "at", "place"]
theorem sc_law : FnScope N_law ["script"] (C8.fnScope s_law) := ⟨rfl, rfl, rfl, by decide +kernel, rfl, by decide +kernel, by decide +kernel⟩

structure Txt (mg : Str → Option Value) : Prop where
  b_abs : mg "abs" = none
  b_all : mg "all" = none
  b_any : mg "any" = none
  b_bool : mg "bool" = none
  b_enumerate : mg "enumerate" = none
  b_int : mg "int" = none
  b_isinstance : mg "isinstance" = none
  b_len : mg "len" = none
  b_list : mg "list" = none
  b_max : mg "max" = none
  b_range : mg "range" = none
  b_sorted : mg "sorted" = none
  b_sum : mg "sum" = none
  b_tuple : mg "tuple" = none
  b_zip : mg "zip" = none
  g_MOST_HOURS : ∃ u, mg "MOST_HOURS" = some u ∧ RelV (.int 1000000) u
  g_MOST_WIDE : ∃ u, mg "MOST_WIDE" = some u ∧ RelV (.int 200) u
  g_MOST_ROWS : ∃ u, mg "MOST_ROWS" = some u ∧ RelV (.int 200) u
  g_MOST_SQUARE : ∃ u, mg "MOST_SQUARE" = some u ∧ RelV (.int 60) u
variable {P : Program} {w : World} {K : PySem.W.Frag} {mg : Str → Option Value} {base : Heap}
/-! is_integer(thing) -/
def sp_is_integer (K : PySem.W.Frag) : Sp := fun vs H Q _ => ∃ (v : V) (d : D), vs = [v] ∧ Dp K H v d ∧ Q (.bl (isInt d)) H
theorem ok_is_integer {f : Addr} {fd : FuncData} (F : C8.Def K mg "is_integer" s_is_integer f fd) (b : Binds K fd ["thing"] []) (T : Txt mg) : C8.Cal P w K mg base 1 "is_integer" (sp_is_integer K) [] := by
  refine C8.cal0 F b .nil sc_is_integer (fun vs H Q E h => ?_) (fun cdv A outer s H vs Q E hr h => ?_)
  · obtain ⟨v, d, rfl, _⟩ := h
    rfl
  · obtain ⟨v, d, rfl, hd, q⟩ := h
    refine ⟨_, (pss_one (ps_ret (pe_and (pe_callB (TH.kcall_isi (K := K)) (by rfl) T.b_isinstance (by decide +kernel) (pa_cons (pv 0) (pa_cons (pe_bltn (v := .ty "int") (by rfl) T.b_int (by decide +kernel) rfl) pa_nil))) (pe_one (pe_not (pe_callB (TH.kcall_isi (K := K)) (by rfl) T.b_isinstance (by decide +kernel) (pa_cons (pv 0) (pa_cons (pe_bltn (v := .ty "bool") (by rfl) T.b_bool (by decide +kernel) rfl) pa_nil)))))))), ?_⟩
    refine w_start (σ' := [some v]) rfl ?_
    walk_at "rd"
    refine w_isInt hd ?_
    walk_at "rd"
    cases hd <;> walk_at "rd"
    all_goals try exact q
    · refine w_isBool (.bl _) ?_
      walk_at "rd"
      exact q
    · refine w_isBool (.int _) ?_
      walk_at "rd"
      exact q
/-! is_within(thing, least, most) -/
def inR (d : D) (lo hi : Int) : Bool := match d with
  | .int i => decide (lo ≤ i) && decide (i ≤ hi)
  | _ => false
theorem inR_int {i lo hi : Int} : inR (.int i) lo hi = (decide (lo ≤ i) && decide (i ≤ hi)) := rfl
def sp_is_within (K : PySem.W.Frag) : Sp := fun vs H Q _ => ∃ (v : V) (d : D) (lo hi : Int), vs = [v, .int lo, .int hi] ∧ Dp K H v d ∧ Q (.bl (inR d lo hi)) H
theorem ok_is_within {f : Addr} {fd : FuncData} (F : C8.Def K mg "is_within" s_is_within f fd) (b : Binds K fd ["thing", "least", "most"] []) (T : Txt mg)
    (c_is_integer : C8.Cal P w K mg base 1 "is_integer" (sp_is_integer K) []) : C8.Cal P w K mg base 2 "is_within" (sp_is_within K) [] := by
  refine C8.cal0 F b .nil sc_is_within (fun vs H Q E h => ?_) (fun cdv A outer s H vs Q E hr h => ?_)
  · obtain ⟨v, d, lo, hi, rfl, _⟩ := h
    rfl
  · obtain ⟨v, d, lo, hi, rfl, hd, q⟩ := h
    refine ⟨_, (pss_one (ps_ret (pe_and (C8.pe_c c_is_integer hr (by first | decide | exact Nat.le_refl _) (by rfl) (pa_cons (pv 0) pa_nil)) (pe_one (pe_chain op_le op_le (pv 1) (pv 0) (pv 2)))))), ?_⟩
    refine w_start (σ' := [some v, some (.int lo), some (.int hi)]) rfl ?_
    walk_at "rd"
    refine ⟨v, d, rfl, hd, ?_⟩
    walk_at "rd"
    cases hd <;> walk_at "rd"
    all_goals try exact q
    rw [inR_int] at q
    refine w_dec (fun h1 => ?_) (fun h1 => ?_)
    · walk_at "rd"
      rw [decide_eq_true h1, Bool.true_and] at q
      exact q
    · rw [decide_eq_false h1, Bool.false_and] at q
      exact q
/-! is_listed(thing) -/
def sp_is_listed (K : PySem.W.Frag) : Sp := fun vs H Q _ => ∃ (v : V) (d : D), vs = [v] ∧ Dp K H v d ∧ ∀ H', Ex H H' → Q (.bl (isLst d || isTup d)) H'
theorem ok_is_listed {f : Addr} {fd : FuncData} (F : C8.Def K mg "is_listed" s_is_listed f fd) (b : Binds K fd ["thing"] []) (T : Txt mg) : C8.Cal P w K mg base 1 "is_listed" (sp_is_listed K) [] := by
  refine C8.cal0 F b .nil sc_is_listed (fun vs H Q E h => ?_) (fun cdv A outer s H vs Q E hr h => ?_)
  · obtain ⟨v, d, rfl, _⟩ := h
    rfl
  · obtain ⟨v, d, rfl, hd, q⟩ := h
    refine ⟨_, (pss_one (ps_ret (pe_callB (TH.kcall_isiT (K := K)) (by rfl) T.b_isinstance (by decide +kernel) (pa_cons (pv 0) (pa_cons (pe_tup (pa_cons (pe_bltn (v := .ty "list") (by rfl) T.b_list (by decide +kernel) rfl) (pa_cons (pe_bltn (v := .ty "tuple") (by rfl) T.b_tuple (by decide +kernel) rfl) pa_nil))) pa_nil))))), ?_⟩
    refine w_start (σ' := [some v]) rfl ?_
    walk_at "rd"
    refine w_dispT (by decide) fun p hp => ?_
    walk_at "rd"
    exact w_isLT ((Ex.new hp).dp hd) upd_same (q _ (Ex.new hp))
/-! check_number(thing, least, most), what is right -/
def sp_check_number (K : PySem.W.Frag) : Sp := fun vs H Q _ => ∃ (v : V) (d : D) (lo hi : Int), vs = [v, .int lo, .int hi] ∧ Dp K H v d ∧ inR d lo hi = true ∧ Q .non H
theorem ok_check_number {f : Addr} {fd : FuncData} (F : C8.Def K mg "check_number" s_check_number f fd) (b : Binds K fd ["thing", "least", "most"] []) (T : Txt mg)
    (c_is_within : C8.Cal P w K mg base 2 "is_within" (sp_is_within K) []) : C8.Cal P w K mg base 3 "check_number" (sp_check_number K) [] := by
  refine C8.cal0 F b .nil sc_check_number (fun vs H Q E h => ?_) (fun cdv A outer s H vs Q E hr h => ?_)
  · obtain ⟨v, d, lo, hi, rfl, _⟩ := h
    rfl
  · obtain ⟨v, d, lo, hi, rfl, hd, hin, q⟩ := h
    refine ⟨_, (pss_one (ps_if (pt_not (pt_val (C8.pe_c c_is_within hr (by first | decide | exact Nat.le_refl _) (by rfl) (pa_cons (pv 0) (pa_cons (pv 1) (pa_cons (pv 2) pa_nil)))))) (pss_one ps_never) pss_nil)), ?_⟩
    refine w_start (σ' := [some v, some (.int lo), some (.int hi)]) rfl ?_
    walk_at "rd"
    refine ⟨v, d, lo, hi, rfl, hd, ?_⟩
    walk_at "rd"
    rw [hin]
    walk_at "rd"
    exact q
/-! prime(number) -/
def primeB (n : Int) : Bool := decide (∀ k : Nat, k < 1001 → 2 ≤ k → (k : Int) * k ≤ n → n % k ≠ 0)
theorem primeB_no {n : Int} {k : Nat} (h1 : k < 1001) (h2 : 2 ≤ k) (h3 : (k : Int) * k ≤ n) (h4 : n % k = 0) : primeB n = false :=
  decide_eq_false fun h => h k h1 h2 h3 h4
theorem primeB_yes {n : Int} {a : Nat} (h1 : n < (a : Int) * a) (h2 : ∀ k : Nat, 2 ≤ k → k < a → n % k ≠ 0) : primeB n = true :=
  decide_eq_true fun k _ k2 k3 => h2 k k2 (by
    refine Decidable.byContradiction fun z => ?_
    have z' : a ≤ k := by omega
    have : (a : Int) * a ≤ (k : Int) * k := by exact_mod_cast Nat.mul_le_mul z' z'
    omega)
theorem sq_le {a : Nat} {n : Int} (h : (a : Int) * a ≤ n) (hn : n ≤ 1000000) : a < 1001 := by
  refine Decidable.byContradiction fun z => ?_
  have z' : 1001 ≤ a := by omega
  have : (1001 * 1001 : Nat) ≤ a * a := Nat.mul_le_mul z' z'
  have : ((1001 * 1001 : Nat) : Int) ≤ (a : Int) * a := by exact_mod_cast this
  omega
def sp_prime (K : PySem.W.Frag) : Sp := fun vs H Q _ => ∃ (n : Int), vs = [.int n] ∧ 2 ≤ n ∧ n ≤ 1000000 ∧ Q (.bl (primeB n)) H
theorem ok_prime {f : Addr} {fd : FuncData} (F : C8.Def K mg "prime" s_prime f fd) (b : Binds K fd ["number"] []) (T : Txt mg) : C8.Cal P w K mg base 1 "prime" (sp_prime K) [] := by
  refine C8.cal0 F b .nil sc_prime (fun vs H Q E h => ?_) (fun cdv A outer s H vs Q E hr h => ?_)
  · obtain ⟨n, rfl, _⟩ := h
    rfl
  · obtain ⟨n, rfl, h2, hn, q⟩ := h
    refine ⟨_, (pss_cons (ps_set (i := 1) sc_prime.nd rfl (Or.inl rfl) pe_int)
      (pss_cons (ps_while PassesOwn.never (pt_cmpR op_le (pe_op op_mul (pv 1) (pv 1)) (pv 0) (nomark _)) (pss_cons (ps_if (pt_cmpR op_eq (pe_op op_mod (pv 0) (pv 1)) pe_int (nomark _)) (pss_one (ps_ret pe_bl)) pss_nil)
      (pss_one (ps_aug (i := 1) sc_prime.nd rfl (Or.inl rfl) pe_int ip_add))))
      (pss_one (ps_ret pe_bl)))), ?_⟩
    refine w_start (σ' := [some (.int n), none]) rfl ?_
    walk_at "rd"
    refine ⟨fun m σ H' => H' = H ∧ ∃ a : Nat, σ = [some (.int n), some (.int a)] ∧ 2 ≤ a ∧ a ≤ 1001 ∧ (∀ k : Nat, 2 ≤ k → k < a → n % k ≠ 0) ∧ m = 1002 - a, ⟨_, rfl, 2, rfl, by omega, by omega, fun k _ _ => by omega, rfl⟩, fun m σ H' hw => ?_⟩
    obtain ⟨rfl, a, rfl, a2, a3, hk, rfl⟩ := hw
    walk_at "rd"
    refine w_dec (fun h1 => ?_) (fun h1 => ?_)
    · have ha := sq_le h1 hn
      refine ⟨fun σ' H'' => H'' = H' ∧ σ' = [some (.int n), some (.int ((a + 1 : Nat) : Int))] ∧ n % (a : Int) ≠ 0, fun σ' H'' ⟨e1, e2, e3⟩ => ⟨1002 - (a + 1), by omega, e1, a + 1, e2, by omega, by omega, fun k k2 k3 => ?_, rfl⟩, ?_⟩
      · rcases Nat.lt_or_ge k a with z | z
        · exact hk k k2 z
        · have : k = a := by omega
          subst this
          exact e3
      · walk_at "rd"
        refine w_dec (fun h2 => ?_) (fun h2 => ?_)
        · walk_at "rd"
          rw [primeB_no ha a2 h1 h2] at q
          exact q
        · walk_at "rd"
          exact ⟨rfl, rfl, h2⟩
    · walk_at "rd"
      rw [primeB_yes (by omega) hk] at q
      exact q
/-! is_clock(thing) -/
def clockB (d : D) : Bool := match d with
  | .int n => decide (2 ≤ n) && decide (n ≤ 1000000) && primeB n
  | _ => false
def sp_is_clock (K : PySem.W.Frag) : Sp := fun vs H Q _ => ∃ (v : V) (d : D), vs = [v] ∧ Dp K H v d ∧ Q (.bl (clockB d)) H
theorem ok_is_clock {f : Addr} {fd : FuncData} (F : C8.Def K mg "is_clock" s_is_clock f fd) (b : Binds K fd ["thing"] []) (T : Txt mg)
    (c_is_within : C8.Cal P w K mg base 2 "is_within" (sp_is_within K) []) (c_prime : C8.Cal P w K mg base 1 "prime" (sp_prime K) []) : C8.Cal P w K mg base 3 "is_clock" (sp_is_clock K) [] := by
  refine C8.cal0 F b .nil sc_is_clock (fun vs H Q E h => ?_) (fun cdv A outer s H vs Q E hr h => ?_)
  · obtain ⟨v, d, rfl, _⟩ := h
    rfl
  · obtain ⟨v, d, rfl, hd, q⟩ := h
    refine ⟨_, (pss_one (ps_ret (pe_and (C8.pe_c c_is_within hr (by first | decide | exact Nat.le_refl _) (by rfl) (pa_cons (pv 0) (pa_cons pe_int (pa_cons (C8.pe_gc (by rfl) T.g_MOST_HOURS) pa_nil)))) (pe_one (C8.pe_c c_prime hr (by first | decide | exact Nat.le_refl _) (by rfl) (pa_cons (pv 0) pa_nil)))))), ?_⟩
    refine w_start (σ' := [some v]) rfl ?_
    walk_at "rd"
    refine ⟨v, d, 2, 1000000, rfl, hd, ?_⟩
    walk_at "rd"
    refine w_bool (fun h1 => ?_) (fun h1 => ?_)
    · cases hd <;> first | (exact absurd h1 Bool.false_ne_true) | skip
      walk_at "rd"
      rw [inR_int] at h1
      have h2 := Bool.and_eq_true_iff.mp h1
      refine ⟨_, rfl, of_decide_eq_true h2.1, of_decide_eq_true h2.2, ?_⟩
      refine (show clockB (.int _) = primeB _ from ?_) ▸ q
      show (_ && primeB _) = primeB _
      rw [h1, Bool.true_and]
    · have e : clockB d = false := by
        cases d <;> try rfl
        rw [inR_int] at h1
        show (_ && primeB _) = false
        rw [h1, Bool.false_and]
      rw [e] at q
      exact q
/-! check_clock(thing), what is right -/
def sp_check_clock (K : PySem.W.Frag) : Sp := fun vs H Q _ => ∃ (v : V) (d : D), vs = [v] ∧ Dp K H v d ∧ clockB d = true ∧ Q .non H
theorem ok_check_clock {f : Addr} {fd : FuncData} (F : C8.Def K mg "check_clock" s_check_clock f fd) (b : Binds K fd ["thing"] []) (T : Txt mg)
    (c_is_clock : C8.Cal P w K mg base 3 "is_clock" (sp_is_clock K) []) : C8.Cal P w K mg base 4 "check_clock" (sp_check_clock K) [] := by
  refine C8.cal0 F b .nil sc_check_clock (fun vs H Q E h => ?_) (fun cdv A outer s H vs Q E hr h => ?_)
  · obtain ⟨v, d, rfl, _⟩ := h
    rfl
  · obtain ⟨v, d, rfl, hd, hc, q⟩ := h
    refine ⟨_, (pss_one (ps_if (pt_not (pt_val (C8.pe_c c_is_clock hr (by first | decide | exact Nat.le_refl _) (by rfl) (pa_cons (pv 0) pa_nil)))) (pss_one ps_never) pss_nil)), ?_⟩
    refine w_start (σ' := [some v]) rfl ?_
    walk_at "rd"
    refine ⟨v, d, rfl, hd, ?_⟩
    rw [hc]
    walk_at "rd"
    exact q
/-! inverse_of(p, value) -/
structure Inv0 (p v one other first second : Int) : Prop where
  a : (first * v - one) % p = 0
  b : (second * v - other) % p = 0
  g : Int.gcd one other = 1
  o : 0 ≤ other
  l : other ≤ p
  n : 0 < one
  m : one ≤ p
theorem Inv0.step {p v one other first second : Int} (h : Inv0 p v one other first second) (ho : 0 < other) : Inv0 p v other (one - one / other * other) second (first - one / other * second) := by
  have e : one - one / other * other = one % other := by
    have := Int.emod_def one other
    rw [this, Int.mul_comm]
  refine ⟨h.b, ?_, ?_, ?_, ?_, ho, h.l⟩
  · have e2 : (first - one / other * second) * v - (one - one / other * other) = (first * v - one) - one / other * (second * v - other) := by grind
    rw [e2]
    obtain ⟨x, hx⟩ := Int.dvd_of_emod_eq_zero h.a
    obtain ⟨y, hy⟩ := Int.dvd_of_emod_eq_zero h.b
    rw [hx, hy]
    have e3 : p * x - one / other * (p * y) = p * (x - one / other * y) := by grind
    rw [e3, Int.mul_emod_right]
  · rw [Int.gcd_sub_mul_right_right, Int.gcd_comm]
    exact h.g
  · rw [e]; exact Int.emod_nonneg _ (by omega)
  · rw [e]
    have := Int.emod_lt_of_pos one ho
    have := h.l
    omega
theorem Inv0.fin {p v one first second : Int} (h : Inv0 p v one 0 first second) (hp : 1 < p) : (v * (first % p)) % p = 1 := by
  have e1 : one = 1 := by
    have := h.g
    rw [Int.gcd_zero_right] at this
    have := h.n
    omega
  have ha := h.a
  rw [e1] at ha
  rw [Int.mul_emod, Int.emod_emod_of_dvd _ (Int.dvd_refl p), ← Int.mul_emod, Int.mul_comm]
  have e2 : first * v = (first * v - 1) + 1 := by omega
  rw [e2, Int.add_emod, ha, Int.zero_add, Int.emod_emod_of_dvd _ (Int.dvd_refl p)]
  exact Int.emod_eq_of_lt (by omega) hp
def sp_inverse_of (K : PySem.W.Frag) : Sp := fun vs H Q _ => ∃ (p v : Int), vs = [.int p, .int v] ∧ 1 < p ∧ p ≤ 1000000 ∧ 0 < v ∧ v < p ∧ Int.gcd p v = 1 ∧ ∀ (r : Int) (H' : Hp), Ex H H' → 0 ≤ r → r < p → (v * r) % p = 1 → Q (.int r) H'
theorem ok_inverse_of {f : Addr} {fd : FuncData} (F : C8.Def K mg "inverse_of" s_inverse_of f fd) (b : Binds K fd ["p", "value"] []) (T : Txt mg) : C8.Cal P w K mg base 1 "inverse_of" (sp_inverse_of K) [] := by
  refine C8.cal0 F b .nil sc_inverse_of (fun vs H Q E h => ?_) (fun cdv A outer s H vs Q E hr h => ?_)
  · obtain ⟨p, v, rfl, _⟩ := h
    rfl
  · obtain ⟨p, v, rfl, p1, pm, v0, vp, hg, q⟩ := h
    refine ⟨_, (pss_cons (ps_par (i := 2) (j := 3) rfl sc_inverse_of.nd rfl rfl (by decide) rfl rfl (pa_cons (pv 0) (pa_cons (pv 1) pa_nil)) (by rfl))
      (pss_cons (ps_asg (pe_tup (pa_cons pe_int (pa_cons pe_int pa_nil))) (TH.kpg_tup (K := K) (n := 2) rfl (pgs_cons (pg_name (i := 4) sc_inverse_of.nd rfl (Or.inl rfl) (Or.inr rfl)) (pgs_cons (pg_name (i := 5) sc_inverse_of.nd rfl (Or.inl rfl) (Or.inr rfl)) pgs_nil))))
      (pss_cons (ps_while PassesOwn.never (pt_cmpR op_gt (pv 3) pe_int (nomark _)) (pss_cons (ps_set (i := 6) sc_inverse_of.nd rfl (Or.inl rfl) (pe_op op_fdiv (pv 2) (pv 3)))
      (pss_cons (ps_par (i := 2) (j := 3) rfl sc_inverse_of.nd rfl rfl (by decide) rfl rfl (pa_cons (pv 3) (pa_cons (pe_op op_sub (pv 2) (pe_op op_mul (pv 6) (pv 3))) pa_nil)) (by rfl))
      (pss_one (ps_par (i := 4) (j := 5) rfl sc_inverse_of.nd rfl rfl (by decide) rfl rfl (pa_cons (pv 5) (pa_cons (pe_op op_sub (pv 4) (pe_op op_mul (pv 6) (pv 5))) pa_nil)) (by rfl))))))
      (pss_one (ps_ret (pe_op op_mod (pv 4) (pv 0))))))), ?_⟩
    refine w_start (σ' := [some (.int p), some (.int v), none, none, none, none, none]) rfl ?_
    walk_at "rd"
    refine w_dispT (by decide) fun a ha => ?_
    walk_at "rd"
    have hx : Ex H (upd H a (.tup [.int 0, .int 1])) := Ex.new ha
    refine ⟨fun m σ H' => Ex H H' ∧ ∃ one other first second : Int, ∃ mn : Option V, σ = [some (.int p), some (.int v), some (.int one), some (.int other), some (.int first), some (.int second), mn] ∧ Inv0 p v one other first second ∧ m = other.toNat,
      ⟨_, hx, p, v, 0, 1, none, rfl, ⟨by rw [Int.zero_mul, Int.zero_sub]; exact Int.emod_eq_zero_of_dvd ((Int.dvd_neg).mpr (Int.dvd_refl p)), by rw [Int.one_mul, Int.sub_self, Int.zero_emod], hg, by omega, by omega, by omega, by omega⟩, rfl⟩, fun m σ H' hw => ?_⟩
    obtain ⟨ex, one, other, first, second, mn, rfl, hi, rfl⟩ := hw
    have i1 := hi.o
    have i2 := hi.l
    have i3 := hi.n
    have i4 := hi.m
    walk_at "rd"
    refine w_dec (fun h1 => ?_) (fun h1 => ?_)
    · refine ⟨fun σ' H'' => H'' = H' ∧ σ' = [some (.int p), some (.int v), some (.int other), some (.int (one - one / other * other)), some (.int second), some (.int (first - one / other * second)), some (.int (one / other))], fun σ' H'' ⟨e1, e2⟩ => ⟨_, ?_, e1 ▸ ex, _, _, _, _, _, e2, hi.step h1, rfl⟩, ?_⟩
      · have e : one - one / other * other = one % other := by rw [Int.emod_def, Int.mul_comm]
        rw [e]
        have := Int.emod_lt_of_pos one h1
        have := Int.emod_nonneg one (show other ≠ 0 by omega)
        omega
      · have d1 : 0 ≤ one / other := Int.ediv_nonneg (by omega) (by omega)
        have d2 : one / other ≤ one := Int.ediv_le_self _ (by omega)
        walk_at "rd"
        exact ⟨rfl, rfl⟩
    · have e0 : other = 0 := by omega
      subst e0
      walk_at "rd"
      have p0 : (0 : Int) < p := by omega
      exact q _ _ ex (Int.emod_nonneg _ (by omega)) (Int.emod_lt_of_pos _ p0) (hi.fin p1)
/-! scale_base -/
def iScale (p c : Int) (ns : List Int) : List Int := ns.map fun x => c * x % p
/-! scaled(p, value, row) -/
def sp_scaled (K : PySem.W.Frag) : Sp := fun vs H Q _ => ∃ (p c : Int) (v : V) (ns : List Int), vs = [.int p, .int c, v] ∧ Dp K H v (row ns) ∧ 0 < p ∧ 0 ≤ c ∧ c ≤ 1000000 ∧ ns.length ≤ 1000000 ∧ ∀ u H', Ex H H' → Dp K H' u (row (iScale p c ns)) → Q u H'
theorem ok_scaled {f : Addr} {fd : FuncData} (F : C8.Def K mg "scaled" s_scaled f fd) (b : Binds K fd ["p", "value", "row"] []) (T : Txt mg) : C8.Cal P w K mg base 1 "scaled" (sp_scaled K) [] := by
  refine C8.cal0 F b .nil sc_scaled (fun vs H Q E h => ?_) (fun cdv A outer s H vs Q E hr h => ?_)
  · obtain ⟨p, c, v, ns, rfl, _⟩ := h
    rfl
  · obtain ⟨p, c, v, ns, rfl, hd, p0, c0, c1, hl, q⟩ := h
    obtain ⟨a, rfl, ha⟩ := dp_row hd
    refine ⟨_, (pss_one (ps_ret (pe_callTy (TH.kcall_tuple (K := K)) (by rfl) T.b_tuple (by decide +kernel) (pa_cons (pe_lc (own := [("one", 3)]) (g := gName 3) (tt := tYes) rfl sc_scaled.nd (TH.kpi_tup (K := K) (pv 2)) (blkOk_by (own := [("one", 3)]) (N := N_scaled) (sc := C8.fnScope s_scaled) (by decide +kernel)) (fun _ _ _ _ _ => (pg_name (i := 3) sc_scaled.nd rfl (Or.inl rfl) (Or.inr rfl))) (fun _ _ _ _ _ => pts_nil) (fun _ _ _ _ _ => (pe_op op_mod (pe_op op_mul (pv 1) (pv 3)) (pv 0)))) pa_nil)))), ?_⟩
    refine w_start (σ' := [some (.int p), some (.int c), some (.ref a), none]) rfl ?_
    walk_at "rd"
    refine ⟨a, rfl, ⟨_, ha⟩, fun Dl hD => ?_⟩
    refine lc_data (K := K) walk_tup (fun _ => true) (fun i => .int (c * ns.getD i 0 % p)) (fun _ => rfl) (fun H' e => e.t ha) hD (by simpa using hl) (fun i x H' H'' hi e y R R0 k _ => ?_) (fun H' ws e hw hda => ?_)
    · obtain ⟨rfl, hx⟩ := y
      obtain ⟨n, hn, rfl⟩ := ints_at hx
      walk_at "rd"
      refine ⟨rfl, ?_⟩
      walk_at "rd"
      refine k rfl _ _ (Ex.refl _) ?_
      rw [getD_of hn]
      exact .int _
    · walk_at "rd"
      refine ⟨Dl, ws, rfl, .inl ⟨sqL hw, fun l hl => ?_⟩⟩
      refine q _ _ (e.trans (Ex.new hl)) ?_
      rw [made_all, List.length_map, range_map 0 (fun x => PyData.int (c * x % p))] at hda
      refine .tup (sqT upd_same) ((Ex.new hl).dpa ?_)
      unfold iScale
      rw [List.map_map]
      exact hda
/-! sub_base -/
def iSub (p : Int) (ns ms : List Int) (c : Int) : List Int := List.zipWith (fun x y => (x - c * y) % p) ns ms
/-! without(p, row, other, value) -/
def sp_without (K : PySem.W.Frag) : Sp := fun vs H Q _ => ∃ (p c : Int) (v u : V) (ns ms : List Int), vs = [.int p, v, u, .int c] ∧ Dp K H v (row ns) ∧ Dp K H u (row ms) ∧ 0 < p ∧ -1000000 ≤ c ∧ c ≤ 1000000 ∧ ns.length ≤ 1000000 ∧ ∀ u H', Ex H H' → Dp K H' u (row (iSub p ns ms c)) → Q u H'
theorem ok_without {f : Addr} {fd : FuncData} (F : C8.Def K mg "without" s_without f fd) (b : Binds K fd ["p", "row", "other", "value"] []) (T : Txt mg) : C8.Cal P w K mg base 1 "without" (sp_without K) [] := by
  refine C8.cal0 F b .nil sc_without (fun vs H Q E h => ?_) (fun cdv A outer s H vs Q E hr h => ?_)
  · obtain ⟨p, c, v, u, ns, ms, rfl, _⟩ := h
    rfl
  · obtain ⟨p, c, v, u, ns, ms, rfl, hd, hd2, p0, c0, c1, hl, q⟩ := h
    obtain ⟨a, rfl, ha⟩ := dp_row hd
    obtain ⟨b, rfl, hb⟩ := dp_row hd2
    refine ⟨_, (pss_one (ps_ret (pe_callTy (TH.kcall_tuple (K := K)) (by rfl) T.b_tuple (by decide +kernel) (pa_cons (pe_lc (own := [("first", 4), ("second", 5)]) (g := gTup K 2 (gCons (gName 4) (gCons (gName 5) gNil))) (tt := tYes) rfl sc_without.nd (TH.kpi_zip (K := K) (by rfl) T.b_zip (pa_cons (pv 1) (pa_cons (pv 2) pa_nil))) (blkOk_by (own := [("first", 4), ("second", 5)]) (N := N_without) (sc := C8.fnScope s_without) (by decide +kernel)) (fun _ _ _ _ _ => (TH.kpg_tup (K := K) (n := 2) rfl (pgs_cons (pg_name (i := 4) sc_without.nd rfl (Or.inl rfl) (Or.inr rfl)) (pgs_cons (pg_name (i := 5) sc_without.nd rfl (Or.inl rfl) (Or.inr rfl)) pgs_nil)))) (fun _ _ _ _ _ => pts_nil) (fun _ _ _ _ _ => (pe_op op_mod (pe_op op_sub (pv 4) (pe_op op_mul (pv 3) (pv 5))) (pv 0)))) pa_nil)))), ?_⟩
    refine w_start (σ' := [some (.int p), some (.ref a), some (.ref b), some (.int c), none, none]) rfl ?_
    walk_at "rd"
    refine ⟨a, b, _, _, rfl, .inr ⟨ha, hb, fun Dl hD => ?_⟩⟩
    refine lc_data (K := K) (walk_zipT rfl) (fun _ => true) (fun i => .int ((ns.getD i 0 - c * ms.getD i 0) % p)) (fun _ => rfl) (fun H' e => ⟨e.t ha, e.t hb⟩) hD (by simp; omega) (fun i x H' H'' hi e y R R0 k _ => ?_) (fun H' ws e hw hda => ?_)
    · obtain ⟨t, x1, x2, rfl, ht, rfl, h1, h2⟩ := y
      obtain ⟨n, hn, rfl⟩ := ints_at h1
      obtain ⟨m, hm, rfl⟩ := ints_at h2
      walk_at "rd"
      refine ⟨rfl, ?_⟩
      walk_at "rd"
      refine k rfl _ _ (Ex.new ht) ?_
      rw [getD_of hn, getD_of hm]
      exact .int _
    · walk_at "rd"
      refine ⟨Dl, ws, rfl, .inl ⟨sqL hw, fun l hl => ?_⟩⟩
      refine q _ _ (e.trans (Ex.new hl)) ?_
      rw [made_all, List.length_map, List.length_map, range_zip 0 0 (fun x y => PyData.int ((x - c * y) % p))] at hda
      refine .tup (sqT upd_same) ((Ex.new hl).dpa ?_)
      unfold iSub
      rw [List.map_zipWith]
      exact hda
/-! first_place(row) -/
def firstI (ns : List Int) : Option Nat := ns.findIdx? fun x => decide (x ≠ 0)
def optV : Option Nat → V
  | none => .non
  | some i => .int i
def sp_first_place (K : PySem.W.Frag) : Sp := fun vs H Q _ => ∃ (v : V) (ns : List Int), vs = [v] ∧ Dp K H v (row ns) ∧ ∀ H', Ex H H' → Q (optV (firstI ns)) H'
theorem firstI_some {ns : List Int} {i : Nat} {x : Int} (h : ∀ j, j < i → ns[j]? = some 0 ∨ ns[j]? = none) (hx : ns[i]? = some x) (h0 : x ≠ 0) : firstI ns = some i := by
  unfold firstI
  rw [List.findIdx?_eq_some_iff_getElem]
  obtain ⟨hi, e⟩ := List.getElem?_eq_some_iff.mp hx
  refine ⟨hi, by simp [e, h0], fun j hj => ?_⟩
  have hj' : j < ns.length := by omega
  rcases h j hj with z | z
  · have := (List.getElem?_eq_some_iff.mp z).2
    simp [this]
  · rw [List.getElem?_eq_getElem hj'] at z; cases z
theorem firstI_none {ns : List Int} (h : ∀ j, j < ns.length → ns[j]? = some 0) : firstI ns = none := by
  unfold firstI
  rw [List.findIdx?_eq_none_iff]
  intro x hx
  obtain ⟨j, hj, e⟩ := List.getElem_of_mem hx
  have := h j hj
  rw [List.getElem?_eq_getElem hj] at this
  have : ns[j] = 0 := Option.some.inj this
  rw [e] at this
  simp [this]
theorem ok_first_place {f : Addr} {fd : FuncData} (F : C8.Def K mg "first_place" s_first_place f fd) (b : Binds K fd ["row"] []) (T : Txt mg) : C8.Cal P w K mg base 1 "first_place" (sp_first_place K) [] := by
  refine C8.cal0 F b .nil sc_first_place (fun vs H Q E h => ?_) (fun cdv A outer s H vs Q E hr h => ?_)
  · obtain ⟨v, ns, rfl, _⟩ := h
    rfl
  · obtain ⟨v, ns, rfl, hd, q⟩ := h
    obtain ⟨a, rfl, ha⟩ := dp_row hd
    refine ⟨_, (pss_cons (ps_for PassesOwn.never rfl (TH.kpi_enum (K := K) (by rfl) T.b_enumerate (pa_cons (pv 0) pa_nil)) (TH.kpg_tup (K := K) (n := 2) rfl (pgs_cons (pg_name (i := 1) sc_first_place.nd rfl (Or.inl rfl) (Or.inr rfl)) (pgs_cons (pg_name (i := 2) sc_first_place.nd rfl (Or.inl rfl) (Or.inr rfl)) pgs_nil))) (pss_one (ps_if (pt_cmpR op_ne (pv 2) pe_int (nomark _)) (pss_one (ps_ret (pv 1))) pss_nil)))
      (pss_one (ps_ret pe_non))), ?_⟩
    refine w_start (σ' := [some (.ref a), none, none]) rfl ?_
    walk_at "rd"
    refine ⟨a, _, rfl, .inr ⟨ha, ?_⟩⟩
    refine for_go walk_enumT (fun i σ H' => Ex H H' ∧ (∃ y z, σ = [some (.ref a), y, z]) ∧ ∀ j, j < i → ns[j]? = some 0) ⟨Ex.refl _, ⟨_, _, rfl⟩, fun j hj => by omega⟩ (fun i σ H' _ p => p.1.t ha) (fun i x σ H' H'' hi p y => ?_) (fun σ H' p => ?_)
    · obtain ⟨e, ⟨y1, z1, rfl⟩, h0⟩ := p
      obtain ⟨t, x1, x2, rfl, ht, rfl, h1, h2⟩ := y
      obtain ⟨n, hn, rfl⟩ := ints_at h2
      cases h1
      walk_at "rd"
      refine w_decN (fun hz => ?_) (fun hz => ?_)
      · walk_at "rd"
        refine (show optV (firstI ns) = V.int (i : Nat) by rw [firstI_some (fun j hj => .inl (h0 j hj)) hn hz]; rfl) ▸ q _ (e.trans (Ex.new ht))
      · walk_at "rd"
        refine ⟨e.trans (Ex.new ht), ⟨_, _, rfl⟩, fun j hj => ?_⟩
        rcases Nat.lt_or_ge j i with z | z
        · exact h0 j z
        · have : j = i := by omega
          subst this
          rw [hn, hz]
    · obtain ⟨e, ⟨y1, z1, rfl⟩, h0⟩ := p
      walk_at "rd"
      exact (show optV (firstI ns) = V.non by rw [firstI_none (by simpa using h0)]; rfl) ▸ q _ e
/-! is_row(p, wide, thing) -/
def isRowD (p wide : Int) (d : D) : Bool := match d with
  | .tuple ds => decide ((ds.length : Int) = wide) && ds.all fun x => inR x 0 (p - 1)
  | _ => false
def sp_is_row (K : PySem.W.Frag) : Sp := fun vs H Q _ => ∃ (p wide : Int) (v : V) (d : D), vs = [.int p, .int wide, v] ∧ Dp K H v d ∧ (∀ ds, d = .tuple ds → ds.length ≤ 1000000) ∧ ∀ H', Ex H H' → Q (.bl (isRowD p wide d)) H'
theorem all_map {α : Type} (f : α → Bool) (xs : List α) : (xs.map f).all id = xs.all f := by
  induction xs with
  | nil => rfl
  | cons x xs ih => simp
theorem ok_is_row {f : Addr} {fd : FuncData} (F : C8.Def K mg "is_row" s_is_row f fd) (b : Binds K fd ["p", "wide", "thing"] []) (T : Txt mg)
    (c_is_within : C8.Cal P w K mg base 2 "is_within" (sp_is_within K) []) : C8.Cal P w K mg base 3 "is_row" (sp_is_row K) [] := by
  refine C8.cal0 F b .nil sc_is_row (fun vs H Q E h => ?_) (fun cdv A outer s H vs Q E hr h => ?_)
  · obtain ⟨p, wide, v, d, rfl, _⟩ := h
    rfl
  · obtain ⟨p, wide, v, d, rfl, hd, hl, q⟩ := h
    refine ⟨_, (pss_cons (ps_if (PW.pt (pw_or (pt_not (pt_val (pe_callB (TH.kcall_isi (K := K)) (by rfl) T.b_isinstance (by decide +kernel) (pa_cons (pv 2) (pa_cons (pe_bltn (v := .ty "tuple") (by rfl) T.b_tuple (by decide +kernel) rfl) pa_nil))))) (pw_or1 (pt_cmpR op_ne (pe_callB (TH.kcall_len (K := K)) (by rfl) T.b_len (by decide +kernel) (pa_cons (pv 2) pa_nil)) (pv 1) (nomark _))))) (pss_one (ps_ret pe_bl)) pss_nil)
      (pss_one (ps_ret (pe_callB (TH.kcr_all (K := K) rfl) (by rfl) T.b_all (by decide +kernel) (pa_cons (pe_lc (own := [("value", 3)]) (g := gName 3) (tt := tYes) rfl sc_is_row.nd (TH.kpi_tup (K := K) (pv 2)) (blkOk_by (own := [("value", 3)]) (N := N_is_row) (sc := C8.fnScope s_is_row) (by decide +kernel)) (fun _ _ _ _ _ => (pg_name (i := 3) sc_is_row.nd rfl (Or.inl rfl) (Or.inr rfl))) (fun _ _ _ _ _ => pts_nil) (fun _ _ _ _ _ => (C8.pe_c c_is_within hr (by first | decide | exact Nat.le_refl _) (by rfl) (pa_cons (pv 3) (pa_cons pe_int (pa_cons (pe_op op_sub (pv 0) pe_int) pa_nil)))))) pa_nil))))), ?_⟩
    refine w_start (σ' := [some (.int p), some (.int wide), some v, none]) rfl ?_
    walk_at "rd"
    refine w_isTup hd ?_
    cases hd <;> walk_at "rd"
    all_goals try exact q _ (Ex.refl _)
    rename_i a xs ds ha hda
    refine ⟨a, xs, rfl, .inr ha, ?_⟩
    walk_at "rd"
    have hle : xs.length = ds.length := dpa_len hda
    refine w_decN (fun h1 => ?_) (fun h1 => ?_)
    · walk_at "rd"
      refine (show isRowD p wide (.tuple ds) = false from ?_) ▸ q _ (Ex.refl _)
      show (_ && _) = false
      rw [decide_eq_false (by rw [← hle]; exact h1), Bool.false_and]
    · walk_at "rd"
      refine ⟨a, rfl, ⟨_, ha⟩, fun Dl hD => ?_⟩
      refine lc_data (K := K) walk_tup (fun _ => true) (fun i => .bool (inR (ds.getD i .none) 0 (p - 1))) (fun _ => rfl) (fun H' e => e.t ha) hD (by rw [hle]; exact hl _ rfl) (fun i x H' H'' hi e y R R0 k _ => ?_) (fun H' ws e hw hda' => ?_)
      · obtain ⟨rfl, hx⟩ := y
        obtain ⟨d, hd1, hd2⟩ := dpa_get (e.dpa hda) hx
        walk_at "rd"
        refine ⟨rfl, ?_⟩
        walk_at "rd"
        refine ⟨x, d, 0, p - 1, rfl, hd2, ?_⟩
        refine k rfl _ _ (Ex.refl _) ?_
        rw [getD_of hd1]
        exact .bl _
      · walk_at "rd"
        rw [made_all, hle, range_map PyData.none (fun x => PyData.bool (inR x 0 (p - 1)))] at hda'
        have e2 : ds.map (fun x => PyData.bool (inR x 0 (p - 1))) = (ds.map fun x => inR x 0 (p - 1)).map PyData.bool := by rw [List.map_map]; rfl
        rw [e2] at hda'
        have e3 := dpa_bools_inv hda'
        subst e3
        refine ⟨Dl, _, rfl, sqL hw, ?_⟩
        refine (show isRowD p wide (.tuple ds) = ((ds.map fun x => inR x 0 (p - 1)).all id) from ?_) ▸ q _ e
        rw [all_map]
        show (_ && _) = _
        rw [decide_eq_true (by rw [← hle]; exact h1), Bool.true_and]
/-! rows_base -/
structure RowsAt (K : PySem.W.Frag) (H : Hp) (v : V) (rs : List (List Int)) : Prop where
  at' : Dp K H v (rowsL rs) ∨ Dp K H v (rowsT rs)
theorem RowsAt.ex {H H' : Hp} {v : V} {rs : List (List Int)} (h : RowsAt K H v rs) (e : Ex H H') : RowsAt K H' v rs := ⟨h.at'.imp e.dp e.dp⟩
def Rin (p : Int) (wide : Nat) (r : List Int) : Prop := r.length = wide ∧ ∀ x ∈ r, 0 ≤ x ∧ x < p
theorem isRowD_row {p : Int} {wide : Nat} {r : List Int} (h : Rin p wide r) : isRowD p wide (row r) = true := by
  show (_ && _) = true
  rw [List.length_map, h.1, decide_eq_true rfl, Bool.true_and, List.all_eq_true]
  intro d hd
  obtain ⟨x, hx, rfl⟩ := List.mem_map.mp hd
  rw [inR_int]
  have := h.2 x hx
  rw [decide_eq_true (by omega), decide_eq_true (by omega)]
  rfl
theorem rowsAt_get {H : Hp} {vs : List V} {rs : List (List Int)} {i : Nat} {v : V} (h : DpAll K H vs (rs.map row)) (hv : vs[i]? = some v) : ∃ r, rs[i]? = some r ∧ Dp K H v (row r) := by
  obtain ⟨d, h1, h2⟩ := dpa_get h hv
  rw [List.getElem?_map] at h1
  cases e : rs[i]? with
  | none => rw [e] at h1; cases h1
  | some r => rw [e] at h1; cases h1; exact ⟨r, rfl, h2⟩
/-! check_rows(p, wide, rows), what is right -/
def sp_check_rows (K : PySem.W.Frag) : Sp := fun vs H Q _ => ∃ (p : Int) (wide : Nat) (v : V) (rs : List (List Int)), vs = [.int p, .int (wide : Nat), v] ∧ clockB (.int p) = true ∧ wide ≤ 200 ∧ RowsAt K H v rs ∧ rs.length ≤ 200 ∧ (∀ r ∈ rs, Rin p wide r) ∧ ∀ H', Ex H H' → Q .non H'
theorem ok_check_rows {f : Addr} {fd : FuncData} (F : C8.Def K mg "check_rows" s_check_rows f fd) (b : Binds K fd ["p", "wide", "rows"] []) (T : Txt mg)
    (c_check_clock : C8.Cal P w K mg base 4 "check_clock" (sp_check_clock K) []) (c_check_number : C8.Cal P w K mg base 3 "check_number" (sp_check_number K) []) (c_is_listed : C8.Cal P w K mg base 1 "is_listed" (sp_is_listed K) []) (c_is_row : C8.Cal P w K mg base 3 "is_row" (sp_is_row K) []) :
    C8.Cal P w K mg base 5 "check_rows" (sp_check_rows K) [] := by
  refine C8.cal0 F b .nil sc_check_rows (fun vs H Q E h => ?_) (fun cdv A outer s H vs Q E hr h => ?_)
  · obtain ⟨p, wide, v, rs, rfl, _⟩ := h
    rfl
  · obtain ⟨p, wide, v, rs, rfl, hc, hw, hR, hlen, hrin, q⟩ := h
    refine ⟨_, (pss_cons (ps_expr (C8.pe_c c_check_clock hr (by first | decide | exact Nat.le_refl _) (by rfl) (pa_cons (pv 0) pa_nil)))
      (pss_cons (ps_expr (C8.pe_c c_check_number hr (by first | decide | exact Nat.le_refl _) (by rfl) (pa_cons (pv 1) (pa_cons pe_int (pa_cons (C8.pe_gc (by rfl) T.g_MOST_WIDE) pa_nil)))))
      (pss_cons (ps_if (PW.pt (pw_or (pt_not (pt_val (C8.pe_c c_is_listed hr (by first | decide | exact Nat.le_refl _) (by rfl) (pa_cons (pv 2) pa_nil)))) (pw_or1 (pt_cmpR op_gt (pe_callB (TH.kcall_len (K := K)) (by rfl) T.b_len (by decide +kernel) (pa_cons (pv 2) pa_nil)) (C8.pe_gc (by rfl) T.g_MOST_ROWS) (nomark _))))) (pss_one ps_never) pss_nil)
      (pss_one (ps_for PassesOwn.never rfl (TH.kpi_enum (K := K) (by rfl) T.b_enumerate (pa_cons (pv 2) pa_nil)) (TH.kpg_tup (K := K) (n := 2) rfl (pgs_cons (pg_name (i := 3) sc_check_rows.nd rfl (Or.inl rfl) (Or.inr rfl)) (pgs_cons (pg_name (i := 4) sc_check_rows.nd rfl (Or.inl rfl) (Or.inr rfl)) pgs_nil))) (pss_one (ps_if (pt_not (pt_val (C8.pe_c c_is_row hr (by first | decide | exact Nat.le_refl _) (by rfl) (pa_cons (pv 0) (pa_cons (pv 1) (pa_cons (pv 4) pa_nil)))))) (pss_one ps_never) pss_nil))))))), ?_⟩
    refine w_start (σ' := [some (.int p), some (.int wide), some v, none, none]) rfl ?_
    walk_at "rd"
    refine ⟨_, _, rfl, .int p, hc, ?_⟩
    walk_at "rd"
    refine ⟨_, _, _, _, rfl, .int wide, by rw [inR_int, decide_eq_true (by omega), decide_eq_true (by omega)]; rfl, ?_⟩
    walk_at "rd"
    obtain ⟨d, hd, hdd⟩ : ∃ d, Dp K H v d ∧ (isLst d || isTup d) = true := by
      rcases hR.at' with h | h
      · exact ⟨_, h, rfl⟩
      · exact ⟨_, h, rfl⟩
    refine ⟨v, d, rfl, hd, fun H1 e1 => ?_⟩
    rw [hdd]
    walk_at "rd"
    obtain ⟨a, xs, rfl, hxs, hda⟩ : ∃ a xs, v = .ref a ∧ (SqL K H a xs ∨ SqT K H a xs) ∧ DpAll K H xs (rs.map row) := by
      rcases hR.at' with h | h
      · obtain ⟨a, xs, e, h1, h2⟩ := dp_lst h
        exact ⟨a, xs, e, .inl h1, h2⟩
      · obtain ⟨a, xs, e, h1, h2⟩ := dp_tup h
        exact ⟨a, xs, e, .inr h1, h2⟩
    have hxl : xs.length = rs.length := by rw [dpa_len hda, List.length_map]
    refine ⟨a, xs, rfl, hxs.imp e1.l e1.t, ?_⟩
    walk_at "rd"
    refine w_dec (fun h1 => by omega) (fun _ => ?_)
    walk_at "rd"
    have turn : ∀ (i : Nat) (x : V) (H2 : Hp) (y z : Option V) (t : Addr) (nx bk ct : L2.St → Hp → Prop) (rt : VK), Ex H H2 → H2 t = none → xs[i]? = some x → (∀ H3, Ex H2 H3 → nx [some (.int p), some (.int wide), some (.ref a), some (.int i), some x] H3) →
        (tIfS (tNot (tB (tCall (sp_is_row K) [] C8.E0 (tCons (tVar 0) (tCons (tVar 1) (tCons (tVar 4) tNil)))))) tNever tNext) { nx := nx, rt := rt, bk := bk, ct := ct } [some (.int p), some (.int wide), some (.ref a), some (.int i), some x] (upd H2 t (.tup [.int i, x])) := by
      intro i x H2 y z t nx bk ct rt e2 ht hx hk
      obtain ⟨r, hr1, hr2⟩ := rowsAt_get hda hx
      have hrin' : Rin p wide r := hrin r (List.mem_of_getElem? hr1)
      walk_at "rd"
      refine ⟨p, wide, x, row r, rfl, (e2.trans (Ex.new ht)).dp hr2, fun ds hds => ?_, fun H3 e3 => ?_⟩
      · cases hds
        rw [List.length_map, hrin'.1]
        omega
      · rw [isRowD_row hrin']
        walk_at "rd"
        exact hk _ ((Ex.new ht).trans e3)
    refine ⟨a, xs, rfl, ?_⟩
    rcases hxs with hxs | hxs
    · refine .inl ⟨e1.l hxs, ?_⟩
      refine for_go walk_enum (fun i σ H' => Ex H H' ∧ ∃ y z, σ = [some (.int p), some (.int wide), some (.ref a), y, z]) ⟨e1, _, _, rfl⟩ (fun i σ H' _ p => p.1.l hxs) (fun i x σ H' H'' hi p y => ?_) (fun σ H' p => ?_)
      · obtain ⟨e, y1, z1, rfl⟩ := p
        obtain ⟨t, x1, x2, rfl, ht, rfl, h1, h2⟩ := y
        cases h1
        refine w_gtup2 upd_same ?_
        refine w_gcons ?_
        refine w_gname (σ' := _) rfl ?_
        refine w_gcons ?_
        refine w_gname (σ' := _) rfl ?_
        refine w_gnil ?_
        exact turn i x2 H' y1 z1 t _ _ _ _ e ht h2 fun H3 e3 => ⟨e.trans e3, _, _, rfl⟩
      · obtain ⟨e, y1, z1, rfl⟩ := p
        exact q _ e
    · refine .inr ⟨e1.t hxs, ?_⟩
      refine for_go walk_enumT (fun i σ H' => Ex H H' ∧ ∃ y z, σ = [some (.int p), some (.int wide), some (.ref a), y, z]) ⟨e1, _, _, rfl⟩ (fun i σ H' _ p => p.1.t hxs) (fun i x σ H' H'' hi p y => ?_) (fun σ H' p => ?_)
      · obtain ⟨e, y1, z1, rfl⟩ := p
        obtain ⟨t, x1, x2, rfl, ht, rfl, h1, h2⟩ := y
        cases h1
        refine w_gtup2 upd_same ?_
        refine w_gcons ?_
        refine w_gname (σ' := _) rfl ?_
        refine w_gcons ?_
        refine w_gname (σ' := _) rfl ?_
        refine w_gnil ?_
        exact turn i x2 H' y1 z1 t _ _ _ _ e ht h2 fun H3 e3 => ⟨e.trans e3, _, _, rfl⟩
      · obtain ⟨e, y1, z1, rfl⟩ := p
        exact q _ e
/-! the law's own: _law_int -/
def sp_law_int (K : PySem.W.Frag) : Sp := fun vs H Q _ => ∃ (v : V) (d : D) (lo hi : Int), vs = [v, .int lo, .int hi] ∧ Dp K H v d ∧ Q (.bl (inR d lo hi)) H
theorem ok_law_int {f : Addr} {fd : FuncData} (F : C8.Def K mg "_law_int" s_law_int f fd) (b : Binds K fd ["thing", "least", "most"] []) (T : Txt mg) : C8.Cal P w K mg base 1 "_law_int" (sp_law_int K) [] := by
  refine C8.cal0 F b .nil sc_law_int (fun vs H Q E h => ?_) (fun cdv A outer s H vs Q E hr h => ?_)
  · obtain ⟨v, d, lo, hi, rfl, _⟩ := h
    rfl
  · obtain ⟨v, d, lo, hi, rfl, hd, q⟩ := h
    refine ⟨_, (pss_one (ps_ret (pe_and (pe_callB (TH.kcall_isi (K := K)) (by rfl) T.b_isinstance (by decide +kernel) (pa_cons (pv 0) (pa_cons (pe_bltn (v := .ty "int") (by rfl) T.b_int (by decide +kernel) rfl) pa_nil))) (pe_and (pe_not (pe_callB (TH.kcall_isi (K := K)) (by rfl) T.b_isinstance (by decide +kernel) (pa_cons (pv 0) (pa_cons (pe_bltn (v := .ty "bool") (by rfl) T.b_bool (by decide +kernel) rfl) pa_nil)))) (pe_one (pe_chain op_le op_le (pv 1) (pv 0) (pv 2))))))), ?_⟩
    refine w_start (σ' := [some v, some (.int lo), some (.int hi)]) rfl ?_
    walk_at "rd"
    refine w_isInt hd ?_
    cases hd <;> walk_at "rd"
    all_goals try exact q
    · refine w_isBool (.bl _) ?_
      walk_at "rd"
      exact q
    · refine w_isBool (.int _) ?_
      walk_at "rd"
      rw [inR_int] at q
      refine w_dec (fun h1 => ?_) (fun h1 => ?_)
      · walk_at "rd"
        rw [decide_eq_true h1, Bool.true_and] at q
        exact q
      · rw [decide_eq_false h1, Bool.false_and] at q
        exact q
/-! the hand: cells, and four numbers that are told by a word alone -/
def HandW (c : Addr) (xs : List V) : Prop := ∃ (i : Nat) (cu sd tu : Int), xs = [.ref c, .int (i : Nat), .int cu, .int sd, .int tu] ∧ 0 ≤ cu ∧ 0 ≤ sd ∧ sd ≤ 2147483647 ∧ 0 ≤ tu
def HandAt (H : Hp) (v : V) : Prop := ∃ (h c : Addr) (ns : List Int), v = .ref h ∧ H h = some (LstP h (HandW c)) ∧ H c = some (.lst (ns.map V.int)) ∧ ∀ x ∈ ns, 0 ≤ x
theorem HandAt.ex {H H' : Hp} {v : V} (x : HandAt H v) (e : Ex H H') : HandAt H' v := by
  obtain ⟨h, c, ns, rfl, h1, h2, h3⟩ := x
  exact ⟨h, c, ns, rfl, e _ _ h1, e _ _ h2, h3⟩
/-! _law_draw(hand, many) -/
def sp_draw1 (K : PySem.W.Frag) : Sp := fun vs H Q _ => ∃ (h c : Addr) (ns : List Int) (xs : List V) (many : Int), vs = [.ref h, .int many] ∧ H h = some (.lst xs) ∧ HandW c xs ∧ H c = some (.lst (ns.map V.int)) ∧ (∀ x ∈ ns, 0 ≤ x) ∧ 0 < many ∧ many ≤ 1000000000 ∧
  ∀ (r : Int) (xs' : List V), 0 ≤ r → r < many → HandW c xs' → Q (.int r) (upd H h (.lst xs'))
theorem ok_draw1 {f : Addr} {fd : FuncData} (F : C8.Def K mg "_law_draw" s_law_draw f fd) (b : Binds K fd ["hand", "many"] []) (T : Txt mg) : C8.Cal P w K mg base 1 "_law_draw" (sp_draw1 K) [] := by
  refine C8.cal0 F b .nil sc_law_draw (fun vs H Q E h => ?_) (fun cdv A outer s H vs Q E hr h => ?_)
  · obtain ⟨h, c, ns, xs, many, rfl, _⟩ := h
    rfl
  · obtain ⟨h, c, ns, xs, many, rfl, hH, hW, hC, hns, m0, m1, q⟩ := h
    have hch : c ≠ h := fun e => by
      obtain ⟨i, cu, sd, tu, rfl, _⟩ := hW
      rw [e, hH] at hC
      have z := Option.some.inj hC
      have z2 : [V.ref h, V.int (i : Nat), V.int cu, V.int sd, V.int tu] = ns.map V.int := by
        injection z with z
        rw [← z, e]
      cases ns with
      | nil => cases z2
      | cons n ns => injection z2 with z3; cases z3
    refine ⟨_, (C8.pss_cut (ps_if (PW.pt (pw_and (pt_cmpR op_eq (pe_ix (TH.kix_list (K := K)) (pv 0) pe_int (fun _ _ => rfl)) pe_int (nomark _)) (pw_and1 (pt_cmpR op_lt (pe_ix (TH.kix_list (K := K)) (pv 0) pe_int (fun _ _ => rfl)) (pe_callB (TH.kcall_len (K := K)) (by rfl) T.b_len (by decide +kernel) (pa_cons (pe_ix (TH.kix_list (K := K)) (pv 0) pe_int (fun _ _ => rfl)) pa_nil)) (nomark _))))) (pss_cons (ps_set (i := 3) sc_law_draw.nd rfl (Or.inl rfl) (pe_ix (TH.kix_list (K := K)) (pe_ix (TH.kix_list (K := K)) (pv 0) pe_int (fun _ _ => rfl)) (pe_ix (TH.kix_list (K := K)) (pv 0) pe_int (fun _ _ => rfl)) (fun _ _ => rfl)))
      (pss_cons (ps_asg (pe_op op_add (pe_ix (TH.kix_list (K := K)) (pv 0) pe_int (fun _ _ => rfl)) pe_int) (pg_sub (pv 0) pe_int set_list))
      (pss_cons (ps_asg (pe_op op_mod (pe_callTy call_int1 (by rfl) T.b_int (by decide +kernel) (pa_cons (pe_op op_add (pe_op op_add (pe_op op_mul (pe_ix (TH.kix_list (K := K)) (pv 0) pe_int (fun _ _ => rfl)) pe_int) (pv 3)) pe_int) pa_nil)) pe_int) (pg_sub (pv 0) pe_int set_list))
      (pss_one (ps_if (pt_cmpR op_ge (pv 3) (pe_op op_pow pe_int pe_int) (nomark _)) (pss_one (ps_asg (pv 3) (pg_sub (pv 0) pe_int set_list))) pss_nil))))) pss_nil)
      (pss_cons (ps_if (pt_cmpR op_gt (pe_ix (TH.kix_list (K := K)) (pv 0) pe_int (fun _ _ => rfl)) pe_int (nomark _)) (pss_cons (ps_set (i := 4) sc_law_draw.nd rfl (Or.inl rfl) (pe_op op_mod (pe_callTy call_int1 (by rfl) T.b_int (by decide +kernel) (pa_cons (pe_ix (TH.kix_list (K := K)) (pv 0) pe_int (fun _ _ => rfl)) pa_nil)) (pv 1)))
      (pss_cons (ps_asg (pe_op op_fdiv (pe_ix (TH.kix_list (K := K)) (pv 0) pe_int (fun _ _ => rfl)) (pv 1)) (pg_sub (pv 0) pe_int set_list))
      (pss_one (ps_ret (pv 4))))) pss_nil)
      (pss_cons (ps_asg (pe_op op_add (pe_ix (TH.kix_list (K := K)) (pv 0) pe_int (fun _ _ => rfl)) pe_int) (pg_sub (pv 0) pe_int set_list))
      (pss_cons (ps_set (i := 2) sc_law_draw.nd rfl (Or.inl rfl) (pe_op op_mod (pe_callTy call_int1 (by rfl) T.b_int (by decide +kernel) (pa_cons (pe_op op_mul (pe_callTy call_int1 (by rfl) T.b_int (by decide +kernel) (pa_cons (pe_op op_add (pe_ix (TH.kix_list (K := K)) (pv 0) pe_int (fun _ _ => rfl)) (pe_op op_mul pe_int (pe_ix (TH.kix_list (K := K)) (pv 0) pe_int (fun _ _ => rfl)))) pa_nil)) pe_int) pa_nil)) pe_int))
      (pss_cons (ps_set (i := 2) sc_law_draw.nd rfl (Or.inl rfl) (pe_op op_mod (pe_callTy call_int1 (by rfl) T.b_int (by decide +kernel) (pa_cons (pe_op op_mul (pv 2) (pe_op op_add (pe_op op_fdiv (pv 2) pe_int) pe_int)) pa_nil)) pe_int))
      (pss_cons (ps_set (i := 2) sc_law_draw.nd rfl (Or.inl rfl) (pe_op op_mod (pe_callTy call_int1 (by rfl) T.b_int (by decide +kernel) (pa_cons (pe_op op_mul (pv 2) (pe_op op_add (pe_op op_fdiv (pv 2) pe_int) pe_int)) pa_nil)) pe_int))
      (pss_one (ps_ret (pe_op op_mod (pe_callTy call_int1 (by rfl) T.b_int (by decide +kernel) (pa_cons (pe_op op_fdiv (pv 2) pe_int) pa_nil)) (pv 1)))))))))), ?_⟩
    refine w_start (σ' := [some (.ref h), some (.int many), none, none, none]) rfl ?_
    refine ⟨fun σ' H' => ∃ (y2 y3 y4 : Option V) (xs' : List V), σ' = [some (.ref h), some (.int many), y2, y3, y4] ∧ HandW c xs' ∧ H' = upd H h (.lst xs'), ?_, ?_⟩
    · obtain ⟨i, cu, sd, tu, rfl, c0, s0, s1, t0⟩ := hW
      have fin : ∀ y2 y3 y4 : Option V, ∃ (z2 z3 z4 : Option V) (xs' : List V), [some (.ref h), some (.int many), y2, y3, y4] = [some (.ref h), some (.int many), z2, z3, z4] ∧ HandW c xs' ∧ H = upd H h (.lst xs') := fun y2 y3 y4 => ⟨y2, y3, y4, _, rfl, ⟨i, cu, sd, tu, rfl, c0, s0, s1, t0⟩, by
        funext b
        by_cases hb : b = h
        · rw [hb, upd_same, hH]
        · rw [upd_ne hb]⟩
      walk_at "rd"
      refine w_dec (fun h1 => ?_) (fun h1 => ?_)
      · walk_at "rd"
        refine ⟨c, _, rfl, .inl (sqL hC), ?_⟩
        walk_at "rd"
        refine w_dec (fun h2 => ?_) (fun h2 => ?_)
        · walk_at "rd"
          have hi : i < ns.length := by
            rw [List.length_map] at h2
            omega
          have hx := List.getElem?_eq_getElem hi
          have h0 := hns _ (List.getElem_mem hi)
          generalize ns[i] = x at hx h0
          refine w_ixL (sqL hC) (atI_int hx) ?_
          walk_at "rd"
          have e1 : 0 ≤ (sd * 69621 + x + 11) % 2147483629 := Int.emod_nonneg _ (by decide)
          have e2 := Int.emod_lt_of_pos (sd * 69621 + x + 11) (show (0 : Int) < 2147483629 by decide)
          have e3 : ((i : Int) + 1) = ((i + 1 : Nat) : Int) := by omega
          refine w_dec (fun h3 => ?_) (fun h3 => ?_)
          · walk_at "rd"
            refine ⟨_, _, _, _, rfl, ⟨i + 1, x, _, tu, by rw [← e3], h0, e1, by omega, t0⟩, ?_⟩
            simp only [upd_upd]
          · walk_at "rd"
            refine ⟨_, _, _, _, rfl, ⟨i + 1, cu, _, tu, by rw [← e3], c0, e1, by omega, t0⟩, ?_⟩
            simp only [upd_upd]
        · walk_at "rd"
          exact fin _ _ _
      · walk_at "rd"
        exact fin _ _ _
    · rintro σ' H' ⟨y2, y3, y4, xs', rfl, ⟨i, cu, sd, tu, rfl, c0, s0, s1, t0⟩, rfl⟩
      walk_at "rd"
      refine w_dec (fun h1 => ?_) (fun h1 => ?_)
      · walk_at "rd"
        have g := q (cu % many) [.ref c, .int (i : Nat), .int (cu / many), .int sd, .int tu] (Int.emod_nonneg _ (by omega)) (Int.emod_lt_of_pos _ m0) ⟨i, _, sd, tu, rfl, Int.ediv_nonneg (by omega) (by omega), s0, s1, t0⟩
        simp only [upd_upd]
        exact g
      · walk_at "rd"
        have b1 : 0 ≤ (sd + 7919 * (tu + 1)) * 48271 % 2147483647 := Int.emod_nonneg _ (by decide)
        have b2 := Int.emod_lt_of_pos ((sd + 7919 * (tu + 1)) * 48271) (show (0 : Int) < 2147483647 by decide)
        generalize (sd + 7919 * (tu + 1)) * 48271 % 2147483647 = n1 at b1 b2
        walk_at "rd"
        have b3 : 0 ≤ n1 * (n1 / 1009 + 69621) % 2147483647 := Int.emod_nonneg _ (by decide)
        have b4 := Int.emod_lt_of_pos (n1 * (n1 / 1009 + 69621)) (show (0 : Int) < 2147483647 by decide)
        generalize n1 * (n1 / 1009 + 69621) % 2147483647 = n2 at b3 b4
        walk_at "rd"
        have g := q (n2 * (n2 / 2003 + 40692) % 2147483399 / 16 % many) [.ref c, .int (i : Nat), .int cu, .int sd, .int (tu + 1)] (Int.emod_nonneg _ (by omega)) (Int.emod_lt_of_pos _ m0) ⟨i, _, sd, _, rfl, c0, s0, s1, by omega⟩
        simp only [upd_upd]
        exact g
/-- hand, many: some number below many; all that was tracked stands -/
def sp_draw (K : PySem.W.Frag) : Sp := fun vs H Q _ => ∃ (v : V) (many : Int), vs = [v, .int many] ∧ HandAt H v ∧ 0 < many ∧ many ≤ 1000000000 ∧ ∀ r : Int, 0 ≤ r → r < many → Q (.int r) H
theorem ok_law_draw {f : Addr} {fd : FuncData} (F : C8.Def K mg "_law_draw" s_law_draw f fd) (b : Binds K fd ["hand", "many"] []) (T : Txt mg) : C8.Cal P w K mg base 1 "_law_draw" (sp_draw K) [] := by
  refine cal_hide (ok_draw1 F b T) fun vs H Q E h => ?_
  obtain ⟨v, many, rfl, ⟨h, c, ns, rfl, h1, h2, h3⟩, m0, m1, q⟩ := h
  refine ⟨h, HandW c, h1, ⟨_, 0, 0, 0, 0, rfl, by omega, by omega, by omega, by omega⟩, fun xs hx => ?_⟩
  have hch : c ≠ h := fun e => by rw [e, h1] at h2; cases h2
  refine ⟨h, c, ns, xs, many, rfl, upd_same, hx, by rw [upd_ne hch]; exact h2, h3, m0, m1, fun r xs' r0 r1 hx' => ⟨xs', hx', upd_same, ?_⟩⟩
  rw [upd_upd, upd_upd]
  have e : upd H h (LstP h (HandW c)) = H := by
    funext b
    by_cases hb : b = h
    · rw [hb, upd_same, h1]
    · rw [upd_ne hb]
  rw [e]
  exact q r r0 r1
/-! _law_hand(script) -/
def absI (x : Int) : Int := if x < 0 then -x else x
theorem absI_nn (x : Int) : 0 ≤ absI x := by
  unfold absI
  split <;> omega
theorem cut_ints (ns : List Int) (lo hi : Option Int) : ∃ ms : List Int, cutV (ns.map V.int) lo hi = ms.map V.int ∧ ms.length ≤ ns.length := by
  refine ⟨(ns.drop (HT.sIx ns.length 0 lo)).take (HT.sIx ns.length ns.length hi - HT.sIx ns.length 0 lo), ?_, ?_⟩
  · unfold cutV
    rw [List.map_take, List.map_drop, List.length_map]
  · rw [List.length_take, List.length_drop]
    omega
def sp_hand1 (K : PySem.W.Frag) : Sp := fun vs H Q _ => ∃ (a : Addr) (ns : List Int), vs = [.ref a] ∧ SqL K H a (ns.map V.int) ∧ ns.length ≤ 1000000 ∧
  ∀ (h c : Addr) (ms : List Int) (H1 H' : Hp), Ex H H1 → H1 h = none → H1 c = some (.lst (ms.map V.int)) → (∀ x ∈ ms, 0 ≤ x) → ms.length ≤ 1000000 → H' = upd H1 h (.lst [.ref c, .int 0, .int 0, .int (1 + ms.length), .int 0]) → Q (.ref h) H'
theorem ok_hand1 {f : Addr} {fd : FuncData} (F : C8.Def K mg "_law_hand" s_law_hand f fd) (b : Binds K fd ["script"] []) (T : Txt mg) : C8.Cal P w K mg base 1 "_law_hand" (sp_hand1 K) [] := by
  refine C8.cal0 F b .nil sc_law_hand (fun vs H Q E h => ?_) (fun cdv A outer s H vs Q E hr h => ?_)
  · obtain ⟨a, ns, rfl, _⟩ := h
    rfl
  · obtain ⟨a, ns, rfl, ha, hl, q⟩ := h
    refine ⟨_, (pss_cons (ps_setLc (i := 1) (own := [("cell", 2)]) (g := gName 2) (tt := tYes) rfl sc_law_hand.nd rfl rfl (sw_true rfl rfl rfl (by decide +kernel)) (TH.kpi_list (K := K) (pe_slice (TH.ksl_list (K := K)) (pv 0) po_none (po_some pe_int))) (blkOk_by (own := [("cell", 2)]) (N := N_law_hand) (sc := C8.fnScope s_law_hand) (by decide +kernel)) (fun _ _ _ _ _ => (pg_name (i := 2) sc_law_hand.nd rfl (Or.inl rfl) (Or.inr rfl))) (fun _ _ _ _ _ => pts_nil) (fun _ _ _ _ _ => (pe_callB call_abs (by rfl) T.b_abs (by decide +kernel) (pa_cons (pe_callTy call_int1 (by rfl) T.b_int (by decide +kernel) (pa_cons (pv 2) pa_nil)) pa_nil))))
      (pss_one (ps_ret (pe_lst (pa_cons (pv 1) (pa_cons pe_int (pa_cons pe_int (pa_cons (pe_op op_add pe_int (pe_callB (TH.kcall_len (K := K)) (by rfl) T.b_len (by decide +kernel) (pa_cons (pv 1) pa_nil))) (pa_cons pe_int pa_nil))))))))), ?_⟩
    refine w_start (σ' := [some (.ref a), none, none]) rfl ?_
    walk_at "rd"
    obtain ⟨ms, e1, e2⟩ := cut_ints ns none (some 63)
    refine ⟨a, _, rfl, ha, fun p hp => ?_⟩
    rw [e1]
    refine ⟨p, rfl, ⟨_, sqL upd_same⟩, fun Dl hD => ?_⟩
    refine lc_data (K := K) (walk_list (xs := ms.map V.int)) (fun _ => true) (fun i => .int (absI (ms.getD i 0))) (fun _ => rfl) (fun H' e => e.l (sqL upd_same)) hD (by rw [List.length_map]; omega) (fun i x H' H'' hi e y R R0 k _ => ?_) (fun H' ws e hw hda => ?_)
    · obtain ⟨rfl, hx⟩ := y
      obtain ⟨n, hn, rfl⟩ := ints_at hx
      walk_at "rd"
      refine ⟨rfl, ?_⟩
      walk_at "rd"
      refine ⟨_, rfl, ?_⟩
      refine k rfl _ _ (Ex.refl _) ?_
      rw [getD_of hn]
      exact .int _
    · walk_at "rd"
      rw [made_all, List.length_map, range_map 0 (fun x : Int => PyData.int (absI x))] at hda
      have e3 : ms.map (fun x : Int => PyData.int (absI x)) = (ms.map absI).map PyData.int := by rw [List.map_map]; rfl
      rw [e3] at hda
      have e4 := dpa_ints_inv hda
      subst e4
      refine ⟨Dl, _, rfl, .inl (sqL hw), ?_⟩
      walk_at "rd"
      refine w_dispT (by simp) fun h hh => ?_
      refine q h Dl _ H' _ ((Ex.new hp).trans e) hh hw (fun x hx => ?_) (by rw [List.length_map]; omega) ?_
      · obtain ⟨y, _, rfl⟩ := List.mem_map.mp hx
        exact absI_nn y
      · rw [List.length_map]
/-- a script: a hand -/
def sp_hand (K : PySem.W.Frag) : Sp := fun vs H Q _ => ∃ (a : Addr) (ns : List Int), vs = [.ref a] ∧ SqL K H a (ns.map V.int) ∧ ns.length ≤ 1000000 ∧ ∀ v H', Ex H H' → HandAt H' v → Q v H'
theorem ok_law_hand {f : Addr} {fd : FuncData} (F : C8.Def K mg "_law_hand" s_law_hand f fd) (b : Binds K fd ["script"] []) (T : Txt mg) : C8.Cal P w K mg base 1 "_law_hand" (sp_hand K) [] := by
  refine cal_seal (ok_hand1 F b T) fun vs H Q E h => ?_
  obtain ⟨a, ns, rfl, ha, hl, q⟩ := h
  refine ⟨a, ns, rfl, ha, hl, fun h c ms H1 H' e hh hc hp hm hH => ?_⟩
  subst hH
  have hch : c ≠ h := fun z => by rw [z, hh] at hc; cases hc
  refine ⟨h, HandW c, _, e.fresh hh, ⟨0, 0, 1 + ms.length, 0, rfl, by omega, by omega, by omega, by omega⟩, upd_same, ?_⟩
  rw [upd_upd]
  exact q _ _ (e.trans (Ex.new hh)) ⟨h, c, ms, rfl, upd_same, by rw [upd_ne hch]; exact hc, hp⟩
/-! _law_any(hand, items) -/
def sp_any (K : PySem.W.Frag) : Sp := fun vs H Q _ => ∃ (v : V) (a : Addr) (xs : List V), vs = [v, .ref a] ∧ HandAt H v ∧ SqL K H a xs ∧ xs ≠ [] ∧ xs.length ≤ 1000000 ∧ ∀ x ∈ xs, Q x H
theorem ok_law_any {f : Addr} {fd : FuncData} (F : C8.Def K mg "_law_any" s_law_any f fd) (b : Binds K fd ["hand", "items"] []) (T : Txt mg)
    (c_law_draw : C8.Cal P w K mg base 1 "_law_draw" (sp_draw K) []) : C8.Cal P w K mg base 2 "_law_any" (sp_any K) [] := by
  refine C8.cal0 F b .nil sc_law_any (fun vs H Q E h => ?_) (fun cdv A outer s H vs Q E hr h => ?_)
  · obtain ⟨v, a, xs, rfl, _⟩ := h
    rfl
  · obtain ⟨v, a, xs, rfl, hv, ha, hne, hl, q⟩ := h
    refine ⟨_, (pss_one (ps_ret (pe_ix (TH.kix_list (K := K)) (pv 1) (C8.pe_c c_law_draw hr (by first | decide | exact Nat.le_refl _) (by rfl) (pa_cons (pv 0) (pa_cons (pe_callB (TH.kcall_len (K := K)) (by rfl) T.b_len (by decide +kernel) (pa_cons (pv 1) pa_nil)) pa_nil))) (fun _ _ => rfl)))), ?_⟩
    refine w_start (σ' := [some v, some (.ref a)]) rfl ?_
    have hpos := List.length_pos_iff.mpr hne
    walk_at "rd"
    refine ⟨a, _, rfl, .inl ha, ?_⟩
    walk_at "rd"
    refine ⟨v, _, rfl, hv, by omega, by omega, fun r r0 r1 => ?_⟩
    obtain ⟨n, rfl⟩ : ∃ n : Nat, r = n := ⟨r.toNat, by omega⟩
    have hn : n < xs.length := by omega
    exact w_ixL ha (atI_at (List.getElem?_eq_getElem hn)) (q _ (List.getElem_mem hn))
/-! _law_is(told, due): the same data -/
def wee : Nat → D → Prop
  | 0, d => d = .none ∨ (∃ b, d = .bool b) ∨ ∃ i, d = .int i
  | n + 1, d => (d = .none ∨ (∃ b, d = .bool b) ∨ ∃ i, d = .int i) ∨ ∃ ds : List D, (d = .tuple ds ∨ d = .list ds) ∧ ds.length ≤ 1000000 ∧ ∀ x ∈ ds, wee n x
def sp_is (n : Nat) (K : PySem.W.Frag) : Sp := fun vs H Q _ => ∃ (u v : V) (d : D), vs = [u, v] ∧ Dp K H u d ∧ Dp K H v d ∧ wee n d ∧ ∀ H', Ex H H' → Q (.bl true) H'
def sp_no : Sp := fun _ _ _ _ => False
theorem ok_law_is_no {f : Addr} {fd : FuncData} (F : C8.Def K mg "_law_is" s_law_is f fd) (b : Binds K fd ["told", "due"] []) : C8.Cal P w K mg base 1 "_law_is" sp_no [] :=
  C8.cal0 F b .nil sc_law_is (fun vs H Q E h => False.elim h) (fun cdv A outer s H vs Q E hr h => False.elim h)
theorem ok_law_is0 {f : Addr} {fd : FuncData} (F : C8.Def K mg "_law_is" s_law_is f fd) (b : Binds K fd ["told", "due"] []) (T : Txt mg)
    (c_law_is : C8.Cal P w K mg base 1 "_law_is" sp_no []) : C8.Cal P w K mg base 2 "_law_is" (sp_is 0 K) [] := by
  refine C8.cal0 F b .nil sc_law_is (fun vs H Q E h => ?_) (fun cdv A outer s H vs Q E hr h => ?_)
  · obtain ⟨u, v, d, rfl, _⟩ := h
    rfl
  · obtain ⟨u, v, d, rfl, hu1, hv1, hd, q⟩ := h
    refine ⟨_, (pss_cons (ps_if (pt_val (pe_callB (TH.kcall_isiT (K := K)) (by rfl) T.b_isinstance (by decide +kernel) (pa_cons (pv 1) (pa_cons (pe_tup (pa_cons (pe_bltn (v := .ty "tuple") (by rfl) T.b_tuple (by decide +kernel) rfl) (pa_cons (pe_bltn (v := .ty "list") (by rfl) T.b_list (by decide +kernel) rfl) pa_nil))) pa_nil)))) (pss_cons (ps_if (PW.pt (pw_or (pt_cmpR op_ne (pe_callB (TH.kcall_isi (K := K)) (by rfl) T.b_isinstance (by decide +kernel) (pa_cons (pv 0) (pa_cons (pe_bltn (v := .ty "tuple") (by rfl) T.b_tuple (by decide +kernel) rfl) pa_nil))) (pe_callB (TH.kcall_isi (K := K)) (by rfl) T.b_isinstance (by decide +kernel) (pa_cons (pv 1) (pa_cons (pe_bltn (v := .ty "tuple") (by rfl) T.b_tuple (by decide +kernel) rfl) pa_nil))) (nomark _)) (pw_or1 (pt_not (pt_val (pe_callB (TH.kcall_isiT (K := K)) (by rfl) T.b_isinstance (by decide +kernel) (pa_cons (pv 0) (pa_cons (pe_tup (pa_cons (pe_bltn (v := .ty "tuple") (by rfl) T.b_tuple (by decide +kernel) rfl) (pa_cons (pe_bltn (v := .ty "list") (by rfl) T.b_list (by decide +kernel) rfl) pa_nil))) pa_nil)))))))) (pss_one (ps_ret pe_bl)) pss_nil)
      (pss_one (ps_ret (pe_and (pe_cmpR op_eq (pe_callB (TH.kcall_len (K := K)) (by rfl) T.b_len (by decide +kernel) (pa_cons (pv 0) pa_nil)) (pe_callB (TH.kcall_len (K := K)) (by rfl) T.b_len (by decide +kernel) (pa_cons (pv 1) pa_nil)) (nomark _)) (pe_one (pe_callB (TH.kcr_all (K := K) rfl) (by rfl) T.b_all (by decide +kernel) (pa_cons (pe_lc (own := [("one", 2), ("two", 3)]) (g := gTup K 2 (gCons (gName 2) (gCons (gName 3) gNil))) (tt := tYes) rfl sc_law_is.nd (TH.kpi_zip (K := K) (by rfl) T.b_zip (pa_cons (pv 0) (pa_cons (pv 1) pa_nil))) (blkOk_by (own := [("one", 2), ("two", 3)]) (N := N_law_is) (sc := C8.fnScope s_law_is) (by decide +kernel)) (fun _ _ _ _ _ => (TH.kpg_tup (K := K) (n := 2) rfl (pgs_cons (pg_name (i := 2) sc_law_is.nd rfl (Or.inl rfl) (Or.inr rfl)) (pgs_cons (pg_name (i := 3) sc_law_is.nd rfl (Or.inl rfl) (Or.inr rfl)) pgs_nil)))) (fun _ _ _ _ _ => pts_nil) (fun _ _ _ _ _ => (C8.pe_c c_law_is hr (by first | decide | exact Nat.le_refl _) (by rfl) (pa_cons (pv 2) (pa_cons (pv 3) pa_nil))))) pa_nil))))))) pss_nil)
      (pss_one (ps_ret (pe_and (pe_cmpR op_eq (pe_callB (TH.kcall_isi (K := K)) (by rfl) T.b_isinstance (by decide +kernel) (pa_cons (pv 0) (pa_cons (pe_bltn (v := .ty "bool") (by rfl) T.b_bool (by decide +kernel) rfl) pa_nil))) (pe_callB (TH.kcall_isi (K := K)) (by rfl) T.b_isinstance (by decide +kernel) (pa_cons (pv 1) (pa_cons (pe_bltn (v := .ty "bool") (by rfl) T.b_bool (by decide +kernel) rfl) pa_nil))) (nomark _)) (pe_one (pe_cmpR op_eq (pv 0) (pv 1) (nomark _))))))), ?_⟩
    refine w_start (σ' := [some u, some v, none, none]) rfl ?_
    walk_at "rd"
    refine w_dispT (by decide) fun p hp => ?_
    walk_at "rd"
    refine w_isTL ((Ex.new hp).dp hv1) upd_same ?_
    have e1 := Ex.new (o := .tup [.ty "tuple", .ty "list"]) hp
    rcases hd with rfl | ⟨k, rfl⟩ | ⟨k, rfl⟩ <;> cases hu1 <;> cases hv1 <;> walk_at "rd"
    · refine w_isBool .non ?_
      walk_at "rd"
      refine w_isBool .non ?_
      walk_at "rd"
      refine w_dec (fun _ => ?_) (fun z => absurd rfl z)
      walk_at "rd"
      exact w_eq rfl (q _ e1)
    · refine w_isBool (.bl _) ?_
      walk_at "rd"
      refine w_isBool (.bl _) ?_
      walk_at "rd"
      refine w_dec (fun _ => ?_) (fun z => absurd rfl z)
      walk_at "rd"
      rw [decide_eq_true (rfl : k = k)]
      exact q _ e1
    · refine w_isBool (.int _) ?_
      walk_at "rd"
      refine w_isBool (.int _) ?_
      walk_at "rd"
      refine w_dec (fun _ => ?_) (fun z => absurd rfl z)
      walk_at "rd"
      rw [decide_eq_true (rfl : k = k)]
      exact q _ e1
theorem w_neBB {H : Hp} {Q : VK} {a : Bool} (k : Q (.bl false) H) : rNe (.bl a) (.bl a) H Q := ⟨rfl, by
  have e : (!decide (V.bl a = V.bl a)) = false := by rw [decide_eq_true rfl]; rfl
  rw [e]; exact k⟩
theorem wee_up : ∀ {n : Nat} {d : D}, wee n d → wee (n + 1) d
  | 0, _, h => .inl h
  | n + 1, _, .inl h => .inl h
  | n + 1, _, .inr ⟨ds, h1, h2, h3⟩ => .inr ⟨ds, h1, h2, fun x hx => wee_up (h3 x hx)⟩
theorem all_trues {n : Nat} : ((List.range n).map fun _ => true).all id = true := by
  rw [List.all_eq_true]
  intro x hx
  obtain ⟨_, _, rfl⟩ := List.mem_map.mp hx
  rfl
theorem ok_law_isS {n k : Nat} {f : Addr} {fd : FuncData} (F : C8.Def K mg "_law_is" s_law_is f fd) (b : Binds K fd ["told", "due"] []) (T : Txt mg)
    (c_law_is : C8.Cal P w K mg base k "_law_is" (sp_is n K) []) : C8.Cal P w K mg base (k + 1) "_law_is" (sp_is (n + 1) K) [] := by
  refine C8.cal0 F b .nil sc_law_is (fun vs H Q E h => ?_) (fun cdv A outer s H vs Q E hr h => ?_)
  · obtain ⟨u, v, d, rfl, _⟩ := h
    rfl
  · obtain ⟨u, v, d, rfl, hu1, hv1, hd, q⟩ := h
    refine ⟨_, (pss_cons (ps_if (pt_val (pe_callB (TH.kcall_isiT (K := K)) (by rfl) T.b_isinstance (by decide +kernel) (pa_cons (pv 1) (pa_cons (pe_tup (pa_cons (pe_bltn (v := .ty "tuple") (by rfl) T.b_tuple (by decide +kernel) rfl) (pa_cons (pe_bltn (v := .ty "list") (by rfl) T.b_list (by decide +kernel) rfl) pa_nil))) pa_nil)))) (pss_cons (ps_if (PW.pt (pw_or (pt_cmpR op_ne (pe_callB (TH.kcall_isi (K := K)) (by rfl) T.b_isinstance (by decide +kernel) (pa_cons (pv 0) (pa_cons (pe_bltn (v := .ty "tuple") (by rfl) T.b_tuple (by decide +kernel) rfl) pa_nil))) (pe_callB (TH.kcall_isi (K := K)) (by rfl) T.b_isinstance (by decide +kernel) (pa_cons (pv 1) (pa_cons (pe_bltn (v := .ty "tuple") (by rfl) T.b_tuple (by decide +kernel) rfl) pa_nil))) (nomark _)) (pw_or1 (pt_not (pt_val (pe_callB (TH.kcall_isiT (K := K)) (by rfl) T.b_isinstance (by decide +kernel) (pa_cons (pv 0) (pa_cons (pe_tup (pa_cons (pe_bltn (v := .ty "tuple") (by rfl) T.b_tuple (by decide +kernel) rfl) (pa_cons (pe_bltn (v := .ty "list") (by rfl) T.b_list (by decide +kernel) rfl) pa_nil))) pa_nil)))))))) (pss_one (ps_ret pe_bl)) pss_nil)
      (pss_one (ps_ret (pe_and (pe_cmpR op_eq (pe_callB (TH.kcall_len (K := K)) (by rfl) T.b_len (by decide +kernel) (pa_cons (pv 0) pa_nil)) (pe_callB (TH.kcall_len (K := K)) (by rfl) T.b_len (by decide +kernel) (pa_cons (pv 1) pa_nil)) (nomark _)) (pe_one (pe_callB (TH.kcr_all (K := K) rfl) (by rfl) T.b_all (by decide +kernel) (pa_cons (pe_lc (own := [("one", 2), ("two", 3)]) (g := gTup K 2 (gCons (gName 2) (gCons (gName 3) gNil))) (tt := tYes) rfl sc_law_is.nd (TH.kpi_zip (K := K) (by rfl) T.b_zip (pa_cons (pv 0) (pa_cons (pv 1) pa_nil))) (blkOk_by (own := [("one", 2), ("two", 3)]) (N := N_law_is) (sc := C8.fnScope s_law_is) (by decide +kernel)) (fun _ _ _ _ _ => (TH.kpg_tup (K := K) (n := 2) rfl (pgs_cons (pg_name (i := 2) sc_law_is.nd rfl (Or.inl rfl) (Or.inr rfl)) (pgs_cons (pg_name (i := 3) sc_law_is.nd rfl (Or.inl rfl) (Or.inr rfl)) pgs_nil)))) (fun _ _ _ _ _ => pts_nil) (fun _ _ _ _ _ => (C8.pe_c c_law_is hr (by first | decide | exact Nat.le_refl _) (by rfl) (pa_cons (pv 2) (pa_cons (pv 3) pa_nil))))) pa_nil))))))) pss_nil)
      (pss_one (ps_ret (pe_and (pe_cmpR op_eq (pe_callB (TH.kcall_isi (K := K)) (by rfl) T.b_isinstance (by decide +kernel) (pa_cons (pv 0) (pa_cons (pe_bltn (v := .ty "bool") (by rfl) T.b_bool (by decide +kernel) rfl) pa_nil))) (pe_callB (TH.kcall_isi (K := K)) (by rfl) T.b_isinstance (by decide +kernel) (pa_cons (pv 1) (pa_cons (pe_bltn (v := .ty "bool") (by rfl) T.b_bool (by decide +kernel) rfl) pa_nil))) (nomark _)) (pe_one (pe_cmpR op_eq (pv 0) (pv 1) (nomark _))))))), ?_⟩
    refine w_start (σ' := [some u, some v, none, none]) rfl ?_
    walk_at "rd"
    refine w_dispT (by decide) fun p hp => ?_
    walk_at "rd"
    refine w_isTL ((Ex.new hp).dp hv1) upd_same ?_
    have e1 := Ex.new (o := .tup [.ty "tuple", .ty "list"]) hp
    rcases hd with (rfl | ⟨k, rfl⟩ | ⟨k, rfl⟩) | ⟨ds, hds, hlen, hwee⟩
    · cases hu1; cases hv1
      walk_at "rd"
      refine w_isBool .non ?_
      walk_at "rd"
      refine w_isBool .non ?_
      walk_at "rd"
      refine w_dec (fun _ => ?_) (fun z => absurd rfl z)
      walk_at "rd"
      exact w_eq rfl (q _ e1)
    · cases hu1; cases hv1
      walk_at "rd"
      refine w_isBool (.bl _) ?_
      walk_at "rd"
      refine w_isBool (.bl _) ?_
      walk_at "rd"
      refine w_dec (fun _ => ?_) (fun z => absurd rfl z)
      walk_at "rd"
      rw [decide_eq_true (rfl : k = k)]
      exact q _ e1
    · cases hu1; cases hv1
      walk_at "rd"
      refine w_isBool (.int _) ?_
      walk_at "rd"
      refine w_isBool (.int _) ?_
      walk_at "rd"
      refine w_dec (fun _ => ?_) (fun z => absurd rfl z)
      walk_at "rd"
      rw [decide_eq_true (rfl : k = k)]
      exact q _ e1
    · have hsq : ∃ (ub vb : Addr) (xs ys : List V), u = .ref ub ∧ v = .ref vb ∧ ((SqL K H ub xs ∧ SqL K H vb ys) ∨ (SqT K H ub xs ∧ SqT K H vb ys)) ∧ DpAll K H xs ds ∧ DpAll K H ys ds ∧ (isTup d || isLst d) = true := by
        rcases hds with rfl | rfl
        · obtain ⟨a1, x1, rfl, h1, h2⟩ := dp_tup hu1
          obtain ⟨a2, x2, rfl, h3, h4⟩ := dp_tup hv1
          exact ⟨_, _, _, _, rfl, rfl, .inr ⟨h1, h3⟩, h2, h4, rfl⟩
        · obtain ⟨a1, x1, rfl, h1, h2⟩ := dp_lst hu1
          obtain ⟨a2, x2, rfl, h3, h4⟩ := dp_lst hv1
          exact ⟨_, _, _, _, rfl, rfl, .inl ⟨h1, h3⟩, h2, h4, rfl⟩
      obtain ⟨ub, vb, xs, ys, rfl, rfl, hsq, hxs, hys, htl⟩ := hsq
      have lx : xs.length = ds.length := dpa_len hxs
      have ly : ys.length = ds.length := dpa_len hys
      rw [htl]
      walk_at "rd"
      refine w_isTup (e1.dp hu1) ?_
      walk_at "rd"
      refine w_isTup (e1.dp hv1) ?_
      walk_at "rd"
      refine w_neBB ⟨_, rfl, ?_⟩
      walk_at "rd"
      refine w_dispT (by decide) fun p2 hp2 => ?_
      walk_at "rd"
      have e2 : Ex H _ := e1.trans (Ex.new (o := .tup [.ty "tuple", .ty "list"]) hp2)
      refine w_isTL (e2.dp hu1) upd_same ?_
      rw [htl]
      walk_at "rd"
      refine ⟨ub, xs, rfl, hsq.imp (fun z => e2.l z.1) (fun z => e2.t z.1), ?_⟩
      walk_at "rd"
      refine ⟨vb, ys, rfl, hsq.imp (fun z => e2.l z.2) (fun z => e2.t z.2), ?_⟩
      walk_at "rd"
      refine w_dec (fun _ => ?_) (fun z => absurd (by omega) z)
      walk_at "rd"
      have turn : ∀ (i : Nat) (H' : Hp) (t : Addr) (x1 x2 : V) (R : VK), i < ds.length → Ex H H' → H' t = none → xs[i]? = some x1 → ys[i]? = some x2 → (∀ v H3, Ex H' H3 → Dp K H3 v (.bool true) → R v H3) →
          sp_is n K [x1, x2] (upd H' t (.tup [x1, x2])) R C8.E0 := by
        intro i H' t x1 x2 R hi e ht h1 h2 k
        obtain ⟨d1, hd1, hd2⟩ := dpa_get hxs h1
        obtain ⟨d2, hd3, hd4⟩ := dpa_get hys h2
        rw [hd1] at hd3
        cases hd3
        have e3 := e.trans (Ex.new (o := .tup [x1, x2]) ht)
        exact ⟨x1, x2, d1, rfl, e3.dp hd2, e3.dp hd4, hwee _ (List.mem_of_getElem? hd1), fun H3 e4 => k _ _ ((Ex.new ht).trans e4) (.bl _)⟩
      have fin : ∀ (Dl : Addr) (H' : Hp) (ws : List V), Ex (upd (upd H p (.tup [.ty "tuple", .ty "list"])) p2 (.tup [.ty "tuple", .ty "list"])) H' → H' Dl = some (.lst ws) → DpAll K H' ws (made ds.length (fun _ => true) fun _ => PyData.bool true) → rAll K [.ref Dl] H' Q := by
        intro Dl H' ws e hw hda
        rw [made_all] at hda
        have e5 : (List.range ds.length).map (fun _ => PyData.bool true) = ((List.range ds.length).map fun _ => true).map PyData.bool := by rw [List.map_map]; rfl
        rw [e5] at hda
        have e6 := dpa_bools_inv hda
        subst e6
        refine ⟨Dl, _, rfl, sqL hw, ?_⟩
        rw [all_trues]
        exact q _ (e2.trans e)
      refine ⟨ub, vb, xs, ys, rfl, ?_⟩
      rcases hsq with ⟨ha, hb⟩ | ⟨ha, hb⟩
      · refine .inl ⟨e2.l ha, e2.l hb, fun Dl hD => ?_⟩
        refine lc_data (K := K) (walk_zip (by omega : ds.length = _)) (fun _ => true) (fun i => .bool true) (fun _ => rfl) (fun H' e => ⟨(e2.trans e).l ha, (e2.trans e).l hb⟩) hD hlen (fun i x H' H'' hi e y R R0 k _ => ?_) (fun H' ws e hw hda => fin Dl H' ws e hw hda)
        obtain ⟨t, x1, x2, rfl, ht, rfl, h1, h2⟩ := y
        walk_at "rd"
        refine ⟨rfl, ?_⟩
        walk_at "rd"
        exact turn i H' t x1 x2 R hi (e2.trans e) ht h1 h2 (k rfl)
      · refine .inr ⟨e2.t ha, e2.t hb, fun Dl hD => ?_⟩
        refine lc_data (K := K) (walk_zipT (by omega : ds.length = _)) (fun _ => true) (fun i => .bool true) (fun _ => rfl) (fun H' e => ⟨(e2.trans e).t ha, (e2.trans e).t hb⟩) hD hlen (fun i x H' H'' hi e y R R0 k _ => ?_) (fun H' ws e hw hda => fin Dl H' ws e hw hda)
        obtain ⟨t, x1, x2, rfl, ht, rfl, h1, h2⟩ := y
        walk_at "rd"
        refine ⟨rfl, ?_⟩
        walk_at "rd"
        exact turn i H' t x1 x2 R hi (e2.trans e) ht h1 h2 (k rfl)
/-! _law_less(p, row, other, many) -/
def sp_law_less (K : PySem.W.Frag) : Sp := fun vs H Q _ => ∃ (p c : Int) (v u : V) (ns ms : List Int), vs = [.int p, v, u, .int c] ∧ Dp K H v (row ns) ∧ Dp K H u (row ms) ∧ 0 < p ∧ -1000000 ≤ c ∧ c ≤ 1000000 ∧ ns.length ≤ 1000000 ∧ ∀ u H', Ex H H' → Dp K H' u (row (iSub p ns ms c)) → Q u H'
theorem ok_law_less {f : Addr} {fd : FuncData} (F : C8.Def K mg "_law_less" s_law_less f fd) (b : Binds K fd ["p", "row", "other", "many"] []) (T : Txt mg) : C8.Cal P w K mg base 1 "_law_less" (sp_law_less K) [] := by
  refine C8.cal0 F b .nil sc_law_less (fun vs H Q E h => ?_) (fun cdv A outer s H vs Q E hr h => ?_)
  · obtain ⟨p, c, v, u, ns, ms, rfl, _⟩ := h
    rfl
  · obtain ⟨p, c, v, u, ns, ms, rfl, hd, hd2, p0, c0, c1, hl, q⟩ := h
    obtain ⟨a, rfl, ha⟩ := dp_row hd
    obtain ⟨b, rfl, hb⟩ := dp_row hd2
    refine ⟨_, (pss_one (ps_ret (pe_callTy (TH.kcall_tuple (K := K)) (by rfl) T.b_tuple (by decide +kernel) (pa_cons (pe_lc (own := [("one", 4), ("two", 5)]) (g := gTup K 2 (gCons (gName 4) (gCons (gName 5) gNil))) (tt := tYes) rfl sc_law_less.nd (TH.kpi_zip (K := K) (by rfl) T.b_zip (pa_cons (pv 1) (pa_cons (pv 2) pa_nil))) (blkOk_by (own := [("one", 4), ("two", 5)]) (N := N_law_less) (sc := C8.fnScope s_law_less) (by decide +kernel)) (fun _ _ _ _ _ => (TH.kpg_tup (K := K) (n := 2) rfl (pgs_cons (pg_name (i := 4) sc_law_less.nd rfl (Or.inl rfl) (Or.inr rfl)) (pgs_cons (pg_name (i := 5) sc_law_less.nd rfl (Or.inl rfl) (Or.inr rfl)) pgs_nil)))) (fun _ _ _ _ _ => pts_nil) (fun _ _ _ _ _ => (pe_op op_mod (pe_callTy call_int1 (by rfl) T.b_int (by decide +kernel) (pa_cons (pe_op op_sub (pv 4) (pe_op op_mul (pv 3) (pv 5))) pa_nil)) (pv 0)))) pa_nil)))), ?_⟩
    refine w_start (σ' := [some (.int p), some (.ref a), some (.ref b), some (.int c), none, none]) rfl ?_
    walk_at "rd"
    refine ⟨a, b, _, _, rfl, .inr ⟨ha, hb, fun Dl hD => ?_⟩⟩
    refine lc_data (K := K) (walk_zipT rfl) (fun _ => true) (fun i => .int ((ns.getD i 0 - c * ms.getD i 0) % p)) (fun _ => rfl) (fun H' e => ⟨e.t ha, e.t hb⟩) hD (by simp; omega) (fun i x H' H'' hi e y R R0 k _ => ?_) (fun H' ws e hw hda => ?_)
    · obtain ⟨t, x1, x2, rfl, ht, rfl, h1, h2⟩ := y
      obtain ⟨n, hn, rfl⟩ := ints_at h1
      obtain ⟨m, hm, rfl⟩ := ints_at h2
      walk_at "rd"
      refine ⟨rfl, ?_⟩
      walk_at "rd"
      refine k rfl _ _ (Ex.new ht) ?_
      rw [getD_of hn, getD_of hm]
      exact .int _
    · walk_at "rd"
      refine ⟨Dl, ws, rfl, .inl ⟨sqL hw, fun l hl => ?_⟩⟩
      refine q _ _ (e.trans (Ex.new hl)) ?_
      rw [made_all, List.length_map, List.length_map, range_zip 0 0 (fun x y => PyData.int ((x - c * y) % p))] at hda
      refine .tup (sqT upd_same) ((Ex.new hl).dpa ?_)
      unfold iSub
      rw [List.map_zipWith]
      exact hda
/-! _law_clock(hand) -/
def clocks : List Int := [2, 3, 5, 7, 2, 11, 101, 999983]
def sp_clock (K : PySem.W.Frag) : Sp := fun vs H Q _ => ∃ (v : V), vs = [v] ∧ HandAt H v ∧ ∀ (p : Int) (H' : Hp), Ex H H' → p ∈ clocks → Q (.int p) H'
theorem ok_law_clock {f : Addr} {fd : FuncData} (F : C8.Def K mg "_law_clock" s_law_clock f fd) (b : Binds K fd ["hand"] []) (T : Txt mg)
    (c_law_any : C8.Cal P w K mg base 2 "_law_any" (sp_any K) []) : C8.Cal P w K mg base 3 "_law_clock" (sp_clock K) [] := by
  refine C8.cal0 F b .nil sc_law_clock (fun vs H Q E h => ?_) (fun cdv A outer s H vs Q E hr h => ?_)
  · obtain ⟨v, rfl, _⟩ := h
    rfl
  · obtain ⟨v, rfl, hv, q⟩ := h
    refine ⟨_, (pss_one (ps_ret (C8.pe_c c_law_any hr (by first | decide | exact Nat.le_refl _) (by rfl) (pa_cons (pv 0) (pa_cons (pe_lst (pa_cons pe_int (pa_cons pe_int (pa_cons pe_int (pa_cons pe_int (pa_cons pe_int (pa_cons pe_int (pa_cons pe_int (pa_cons pe_int pa_nil))))))))) pa_nil))))), ?_⟩
    refine w_start (σ' := [some v]) rfl ?_
    walk_at "rd"
    refine w_dispT (by decide) fun l hl => ?_
    refine ⟨v, l, clocks.map V.int, rfl, hv.ex (Ex.new hl), sqL upd_same, by simp [clocks], by decide, fun x hx => ?_⟩
    obtain ⟨p, hp, rfl⟩ := List.mem_map.mp hx
    exact q p _ (Ex.new hl) hp
/-! _law_summed(p, wide, rows, many) -/
theorem w_rep0 {l : Addr} {k : Nat} {H : Hp} {Q : VK} (h : H l = some (.tup [.int 0])) (hk : k ≤ 1000) (q : ∀ a H', Ex H H' → Dp K H' (.ref a) (row (List.replicate k 0)) → Q (.ref a) H') : rRepA K (.ref l) (.int (k : Nat)) H Q := by
  refine ⟨l, k, _, rfl, rfl, sqT h, by simp, by omega, by omega, by simp, fun e => ?_, fun e p hp => ?_⟩
  · have e1 : k = 1 := by omega
    subst e1
    exact q l H (Ex.refl _) (dp_row_of (ns := [0]) (sqT h))
  · refine q p _ (Ex.new hp) (dp_row_of (sqT ?_))
    rw [upd_same]
    congr 3
    rw [Int.toNat_natCast]
    clear e hk q
    induction k with
    | zero => rfl
    | succ k ih => rw [List.replicate_succ, List.flatten_cons, ih, List.replicate_succ]; rfl
def sumI (p : Int) (acc : List Int) : List (List Int) → List Int → List Int
  | r :: rs, m :: ms => sumI p (if m = 0 then acc else iSub p acc r (-m)) rs ms
  | _, _ => acc
theorem sumI_snoc (p : Int) : ∀ (rs : List (List Int)) (ms : List Int) (acc r : List Int) (m : Int) (i : Nat), rs[i]? = some r → ms[i]? = some m → sumI p acc (rs.take (i + 1)) (ms.take (i + 1)) = if m = 0 then sumI p acc (rs.take i) (ms.take i) else iSub p (sumI p acc (rs.take i) (ms.take i)) r (-m)
  | [], _, _, _, _, _, h, _ => by simp at h
  | _ :: _, [], _, _, _, _, _, h => by simp at h
  | r0 :: rs, m0 :: ms, acc, r, m, 0, h1, h2 => by
    cases h1; cases h2
    simp [sumI]
  | r0 :: rs, m0 :: ms, acc, r, m, i + 1, h1, h2 => by
    have := sumI_snoc p rs ms (if m0 = 0 then acc else iSub p acc r0 (-m0)) r m i (by simpa using h1) (by simpa using h2)
    simpa [sumI] using this
theorem iSub_len {p c : Int} {ns ms : List Int} (h : ms.length = ns.length) : (iSub p ns ms c).length = ns.length := by
  unfold iSub
  rw [List.length_zipWith, h, Nat.min_self]
theorem iSub_in {p c : Int} {wide : Nat} {ns ms : List Int} (hp : 0 < p) (h1 : ns.length = wide) (h2 : ms.length = wide) : Rin p wide (iSub p ns ms c) := by
  refine ⟨by rw [iSub_len (by omega)]; exact h1, fun x hx => ?_⟩
  unfold iSub at hx
  obtain ⟨i, hi, e⟩ := List.mem_iff_getElem.mp hx
  rw [List.getElem_zipWith] at e
  subst e
  exact ⟨Int.emod_nonneg _ (by omega), Int.emod_lt_of_pos _ hp⟩
theorem sumI_len {p : Int} {wide : Nat} : ∀ {rs : List (List Int)} {ms acc : List Int}, acc.length = wide → (∀ r ∈ rs, r.length = wide) → (sumI p acc rs ms).length = wide
  | [], _, _, h, _ => by simpa [sumI] using h
  | _ :: _, [], _, h, _ => by simpa [sumI] using h
  | r :: rs, m :: ms, acc, h, hr => by
    unfold sumI
    refine sumI_len ?_ fun r' h' => hr r' (List.mem_cons_of_mem _ h')
    split
    · exact h
    · rw [iSub_len (by rw [hr r (List.mem_cons_self ..), h])]
      exact h
def sp_summed (K : PySem.W.Frag) : Sp := fun vs H Q _ => ∃ (p : Int) (wide : Nat) (a b : Addr) (xs : List V) (rs : List (List Int)) (ms : List Int), vs = [.int p, .int (wide : Nat), .ref a, .ref b] ∧ SqL K H a xs ∧ DpAll K H xs (rs.map row) ∧ SqL K H b (ms.map V.int) ∧
  0 < p ∧ wide ≤ 1000 ∧ rs.length ≤ 1000000 ∧ (∀ r ∈ rs, r.length = wide) ∧ (∀ m ∈ ms, 0 ≤ m ∧ m ≤ 1000000) ∧ ∀ u H', Ex H H' → Dp K H' u (row (sumI p (List.replicate wide 0) rs ms)) → Q u H'
theorem ok_law_summed {f : Addr} {fd : FuncData} (F : C8.Def K mg "_law_summed" s_law_summed f fd) (b : Binds K fd ["p", "wide", "rows", "many"] []) (T : Txt mg)
    (c_law_less : C8.Cal P w K mg base 1 "_law_less" (sp_law_less K) []) : C8.Cal P w K mg base 2 "_law_summed" (sp_summed K) [] := by
  refine C8.cal0 F b .nil sc_law_summed (fun vs H Q E h => ?_) (fun cdv A outer s H vs Q E hr h => ?_)
  · obtain ⟨p, wide, a, b, xs, rs, ms, rfl, _⟩ := h
    rfl
  · obtain ⟨p, wide, a, b, xs, rs, ms, rfl, ha, hda, hb, p0, hw, hrl, hrw, hms, q⟩ := h
    refine ⟨_, (pss_cons (ps_set (i := 4) sc_law_summed.nd rfl (Or.inl rfl) (pe_op (TH.kop_repA (K := K)) (pe_tup (pa_cons pe_int pa_nil)) (pv 1)))
      (pss_cons (ps_for PassesOwn.never rfl (TH.kpi_zip (K := K) (by rfl) T.b_zip (pa_cons (pv 2) (pa_cons (pv 3) pa_nil))) (TH.kpg_tup (K := K) (n := 2) rfl (pgs_cons (pg_name (i := 5) sc_law_summed.nd rfl (Or.inl rfl) (Or.inr rfl)) (pgs_cons (pg_name (i := 6) sc_law_summed.nd rfl (Or.inl rfl) (Or.inr rfl)) pgs_nil))) (pss_one (ps_set (i := 4) sc_law_summed.nd rfl (Or.inl rfl) (pe_ifExp (pt_cmpR op_ne (pv 6) pe_int (nomark _)) (C8.pe_c c_law_less hr (by first | decide | exact Nat.le_refl _) (by rfl) (pa_cons (pv 0) (pa_cons (pv 4) (pa_cons (pv 5) (pa_cons (pe_un un_neg (pv 6)) pa_nil))))) (pv 4)))))
      (pss_one (ps_ret (pv 4))))), ?_⟩
    refine w_start (σ' := [some (.int p), some (.int wide), some (.ref a), some (.ref b), none, none, none]) rfl ?_
    walk_at "rd"
    refine w_dispT (by decide) fun t ht => ?_
    walk_at "rd"
    refine w_rep0 upd_same hw fun z H1 e1 hz => ?_
    have e1 : Ex H H1 := (Ex.new ht).trans e1
    walk_at "rd"
    have hxl : xs.length = rs.length := by rw [dpa_len hda, List.length_map]
    refine ⟨a, b, _, _, rfl, .inl ⟨e1.l ha, e1.l hb, ?_⟩⟩
    refine for_go (walk_zip rfl) (fun i σ H' => Ex H H' ∧ ∃ u y1 y2, σ = [some (.int p), some (.int wide), some (.ref a), some (.ref b), some u, y1, y2] ∧ Dp K H' u (row (sumI p (List.replicate wide 0) (rs.take i) (ms.take i))))
      ⟨e1, _, _, _, rfl, by cases rs <;> cases ms <;> exact hz⟩ (fun i σ H' _ p => ⟨p.1.l ha, p.1.l hb⟩) (fun i x σ H' H'' hi p y => ?_) (fun σ H' p => ?_)
    · obtain ⟨e, u, y1, y2, rfl, hu⟩ := p
      obtain ⟨t2, x1, x2, rfl, ht2, rfl, h1, h2⟩ := y
      obtain ⟨m, hm, rfl⟩ := ints_at h2
      obtain ⟨r, hr1, hr2⟩ := rowsAt_get hda h1
      have hlen : (sumI p (List.replicate wide 0) (rs.take i) (ms.take i)).length = wide := sumI_len (by simp) fun r hr => hrw r (List.mem_of_mem_take hr)
      have e3 := e.trans (Ex.new (o := .tup [x1, .int m]) ht2)
      have hmm := hms m (List.mem_of_getElem? hm)
      have hsn := sumI_snoc p rs ms (List.replicate wide 0) r m i hr1 hm
      walk_at "rd"
      refine w_decN (fun hz => ?_) (fun hz => ?_)
      · walk_at "rd"
        refine ⟨_, _, _, _, _, _, rfl, (Ex.new ht2).dp hu, e3.dp hr2, p0, by omega, by omega, by omega, fun u' H3 e4 hu' => ?_⟩
        walk_at "rd"
        refine ⟨e3.trans e4, _, _, _, rfl, ?_⟩
        rw [hsn, if_neg hz]
        exact hu'
      · walk_at "rd"
        refine ⟨e3, _, _, _, rfl, ?_⟩
        rw [hsn, if_pos hz]
        exact (Ex.new ht2).dp hu
    · obtain ⟨e, u, y1, y2, rfl, hu⟩ := p
      walk_at "rd"
      refine q u H' e ?_
      have e9 : ∀ (rs : List (List Int)) (ms acc : List Int), sumI p acc (rs.take (min rs.length ms.length)) (ms.take (min rs.length ms.length)) = sumI p acc rs ms := by
        intro rs
        induction rs with
        | nil => intro ms acc; simp [sumI]
        | cons r rs ih =>
          intro ms acc
          cases ms with
          | nil => simp [sumI]
          | cons m ms =>
            have := ih ms (if m = 0 then acc else iSub p acc r (-m))
            simpa [sumI, Nat.add_min_add_right] using this
      rw [hxl, List.length_map, e9] at hu
      exact hu
/-! _law_some_row(hand, p, wide, rows): a row that is right -/
theorem sumI_in {p : Int} {wide : Nat} (hp : 0 < p) : ∀ {rs : List (List Int)} {ms acc : List Int}, Rin p wide acc → (∀ r ∈ rs, Rin p wide r) → Rin p wide (sumI p acc rs ms)
  | [], _, _, h, _ => by simpa [sumI] using h
  | _ :: _, [], _, h, _ => by simpa [sumI] using h
  | r :: rs, m :: ms, acc, h, hr => by
    unfold sumI
    refine sumI_in hp ?_ fun r' h' => hr r' (List.mem_cons_of_mem _ h')
    split
    · exact h
    · exact iSub_in hp h.1 (hr r (List.mem_cons_self ..)).1
theorem zero_in {p : Int} {wide : Nat} (hp : 0 < p) : Rin p wide (List.replicate wide 0) := ⟨by simp, fun x hx => by rw [(List.mem_replicate.mp hx).2]; omega⟩
theorem rin_of {p : Int} {wide : Nat} {ds : List D} (hl : ds.length = wide) (h : ∀ (i : Nat) (d : D), ds[i]? = some d → ∃ x, d = PyData.int x ∧ 0 ≤ x ∧ x < p) : ∃ ns, ds = ns.map PyData.int ∧ Rin p wide ns := by
  obtain ⟨ns, rfl, hns⟩ := ints_of (P := fun _ x => 0 ≤ x ∧ x < p) ds h
  refine ⟨ns, rfl, by simpa using hl, fun x hx => ?_⟩
  obtain ⟨i, hi⟩ := List.mem_iff_getElem?.mp hx
  exact hns i x hi
def sp_some_row (K : PySem.W.Frag) : Sp := fun vs H Q _ => ∃ (v : V) (p : Int) (wide : Nat) (a : Addr) (xs : List V) (rs : List (List Int)), vs = [v, .int p, .int (wide : Nat), .ref a] ∧ HandAt H v ∧ SqL K H a xs ∧ DpAll K H xs (rs.map row) ∧
  2 ≤ p ∧ p ≤ 1000000 ∧ wide ≤ 1000 ∧ rs.length ≤ 1000000 ∧ (∀ r ∈ rs, Rin p wide r) ∧ ∀ u H' r, Ex H H' → Dp K H' u (row r) → Rin p wide r → Q u H'
theorem ok_law_some_row {f : Addr} {fd : FuncData} (F : C8.Def K mg "_law_some_row" s_law_some_row f fd) (b : Binds K fd ["hand", "p", "wide", "rows"] []) (T : Txt mg)
    (c_law_draw : C8.Cal P w K mg base 1 "_law_draw" (sp_draw K) []) (c_law_any : C8.Cal P w K mg base 2 "_law_any" (sp_any K) []) (c_law_summed : C8.Cal P w K mg base 2 "_law_summed" (sp_summed K) []) : C8.Cal P w K mg base 3 "_law_some_row" (sp_some_row K) [] := by
  refine C8.cal0 F b .nil sc_law_some_row (fun vs H Q E h => ?_) (fun cdv A outer s H vs Q E hr h => ?_)
  · obtain ⟨v, p, wide, a, xs, rs, rfl, _⟩ := h
    rfl
  · obtain ⟨v, p, wide, a, xs, rs, rfl, hv, ha, hda, p2, pm, hw, hrl, hrs, q⟩ := h
    have hxl : xs.length = rs.length := by rw [dpa_len hda, List.length_map]
    have fin : ∀ (Dl : Addr) (H' : Hp) (ws : List V) (ds : List D), Ex H H' → H' Dl = some (.lst ws) → ds.length = wide → (∀ (i : Nat) (d : D), ds[i]? = some d → ∃ x, d = PyData.int x ∧ 0 ≤ x ∧ x < p) → DpAll K H' ws ds → ∃ p ys, [V.ref Dl] = [V.ref p] ∧ ((SqL K H' p ys ∧ ∀ l, H' l = none → Q (.ref l) (upd H' l (.tup ys))) ∨ (SqT K H' p ys ∧ Q (.ref p) H')) := by
      intro Dl H' ws ds e hw hl hφ hda
      obtain ⟨ns, rfl, hns⟩ := rin_of hl hφ
      refine ⟨Dl, ws, rfl, .inl ⟨sqL hw, fun l hl => ?_⟩⟩
      exact q _ _ ns (e.trans (Ex.new hl)) (.tup (sqT upd_same) ((Ex.new hl).dpa hda)) hns
    refine ⟨_, (pss_cons (ps_set (i := 4) sc_law_some_row.nd rfl (Or.inl rfl) (C8.pe_c c_law_draw hr (by first | decide | exact Nat.le_refl _) (by rfl) (pa_cons (pv 0) (pa_cons pe_int pa_nil))))
      (pss_cons (ps_if (pt_cmpR op_eq (pv 4) pe_int (nomark _)) (pss_one (ps_ret (pe_op (TH.kop_repA (K := K)) (pe_tup (pa_cons pe_int pa_nil)) (pv 2)))) pss_nil)
      (C8.pss_cut (ps_if (PW.pt (pw_and (pt_cmpR op_lt (pv 4) pe_int (nomark _)) (pw_and1 (pt_cmpR op_gt (pv 2) pe_int (nomark _))))) (pss_cons (ps_set (i := 5) sc_law_some_row.nd rfl (Or.inr rfl) (C8.pe_c c_law_draw hr (by first | decide | exact Nat.le_refl _) (by rfl) (pa_cons (pv 0) (pa_cons (pv 2) pa_nil))))
      (pss_one (ps_ret (pe_callTy (TH.kcall_tuple (K := K)) (by rfl) T.b_tuple (by decide +kernel) (pa_cons (pe_lc (own := [("place", 8)]) (g := gName 8) (tt := tYes) rfl sc_law_some_row.nd (pi_range1 (by rfl) T.b_range (pa_cons (pv 2) pa_nil)) (blkOk_by (own := [("place", 8)]) (N := N_law_some_row) (sc := C8.fnScope s_law_some_row) (by decide +kernel)) (fun _ _ _ _ _ => (pg_name (i := 8) sc_law_some_row.nd rfl (Or.inl rfl) (Or.inr rfl))) (fun _ _ _ _ _ => pts_nil) (fun _ _ _ _ _ => (pe_ifExp (pt_cmpR op_eq (pv 8) (pv 5) (nomark _)) (pe_op op_add pe_int (C8.pe_c c_law_draw hr (by first | decide | exact Nat.le_refl _) (by rfl) (pa_cons (pv 0) (pa_cons (pe_op op_sub (pv 1) pe_int) pa_nil)))) pe_int))) pa_nil))))) pss_nil)
      (C8.pss_cut (ps_if (PW.pt (pw_and (pt_cmpR op_lt (pv 4) pe_int (nomark _)) (pw_and1 (pt_cmpR op_gt (pe_callB (TH.kcall_len (K := K)) (by rfl) T.b_len (by decide +kernel) (pa_cons (pv 3) pa_nil)) pe_int (nomark _))))) (pss_cons (ps_setLc (i := 6) (own := [("row", 7)]) (g := gName 7) (tt := tYes) rfl sc_law_some_row.nd rfl rfl (sw_true rfl rfl rfl (by decide +kernel)) (TH.kpi_list (K := K) (pv 3)) (blkOk_by (own := [("row", 7)]) (N := N_law_some_row) (sc := C8.fnScope s_law_some_row) (by decide +kernel)) (fun _ _ _ _ _ => (pg_name (i := 7) sc_law_some_row.nd rfl (Or.inl rfl) (Or.inr rfl))) (fun _ _ _ _ _ => pts_nil) (fun _ _ _ _ _ => (C8.pe_c c_law_any hr (by first | decide | exact Nat.le_refl _) (by rfl) (pa_cons (pv 0) (pa_cons (pe_lst (pa_cons pe_int (pa_cons pe_int (pa_cons (pe_op op_sub (pv 1) pe_int) (pa_cons (C8.pe_c c_law_draw hr (by first | decide | exact Nat.le_refl _) (by rfl) (pa_cons (pv 0) (pa_cons (pv 1) pa_nil))) pa_nil))))) pa_nil)))))
      (pss_one (ps_ret (C8.pe_c c_law_summed hr (by first | decide | exact Nat.le_refl _) (by rfl) (pa_cons (pv 1) (pa_cons (pv 2) (pa_cons (pv 3) (pa_cons (pv 6) pa_nil)))))))) pss_nil)
      (C8.pss_cut (ps_if (pt_cmpR op_eq (pv 4) pe_int (nomark _)) (pss_one (ps_ret (pe_callTy (TH.kcall_tuple (K := K)) (by rfl) T.b_tuple (by decide +kernel) (pa_cons (pe_lc (own := [("place", 8)]) (g := gName 8) (tt := tYes) rfl sc_law_some_row.nd (pi_range1 (by rfl) T.b_range (pa_cons (pv 2) pa_nil)) (blkOk_by (own := [("place", 8)]) (N := N_law_some_row) (sc := C8.fnScope s_law_some_row) (by decide +kernel)) (fun _ _ _ _ _ => (pg_name (i := 8) sc_law_some_row.nd rfl (Or.inl rfl) (Or.inr rfl))) (fun _ _ _ _ _ => pts_nil) (fun _ _ _ _ _ => (pe_ifExp (pt_cmpR op_eq (C8.pe_c c_law_draw hr (by first | decide | exact Nat.le_refl _) (by rfl) (pa_cons (pv 0) (pa_cons pe_int pa_nil))) pe_int (nomark _)) (C8.pe_c c_law_draw hr (by first | decide | exact Nat.le_refl _) (by rfl) (pa_cons (pv 0) (pa_cons (pv 1) pa_nil))) pe_int))) pa_nil)))) pss_nil)
      (pss_one (ps_ret (pe_callTy (TH.kcall_tuple (K := K)) (by rfl) T.b_tuple (by decide +kernel) (pa_cons (pe_lc (own := [("place", 8)]) (g := gName 8) (tt := tYes) rfl sc_law_some_row.nd (pi_range1 (by rfl) T.b_range (pa_cons (pv 2) pa_nil)) (blkOk_by (own := [("place", 8)]) (N := N_law_some_row) (sc := C8.fnScope s_law_some_row) (by decide +kernel)) (fun _ _ _ _ _ => (pg_name (i := 8) sc_law_some_row.nd rfl (Or.inl rfl) (Or.inr rfl))) (fun _ _ _ _ _ => pts_nil) (fun _ _ _ _ _ => (C8.pe_c c_law_draw hr (by first | decide | exact Nat.le_refl _) (by rfl) (pa_cons (pv 0) (pa_cons (pv 1) pa_nil))))) pa_nil))))))))), ?_⟩
    refine w_start (σ' := [some v, some (.int p), some (.int wide), some (.ref a), none, none, none, none, none]) rfl ?_
    walk_at "rd"
    refine ⟨v, _, rfl, hv, by omega, by omega, fun kind k0 k1 => ?_⟩
    walk_at "rd"
    refine w_dec (fun _ => ?_) (fun _ => ?_)
    · walk_at "rd"
      refine w_dispT (by decide) fun t ht => ?_
      walk_at "rd"
      exact w_rep0 upd_same hw fun z H1 e1 hz => q _ _ _ ((Ex.new ht).trans e1) hz (zero_in (by omega))

    walk_at "rd"
    refine ⟨fun σ' H' => H' = H ∧ ∃ y1 y2 y3 y4, σ' = [some v, some (.int p), some (.int wide), some (.ref a), some (.int kind), y1, y2, y3, y4], ?_, ?_⟩
    · walk_at "rd"
      refine w_dec (fun _ => ?_) (fun _ => ?_)
      · walk_at "rd"
        refine w_dec (fun hw0 => ?_) (fun _ => ?_)
        · walk_at "rd"
          refine ⟨v, _, rfl, hv, by omega, by omega, fun at' a0 a1 => ?_⟩
          walk_at "rd"
          refine w_isrng (by omega) (by omega) fun Dl hD => ?_
          refine lc_some (K := K) walk_range (fun _ d => ∃ x, d = PyData.int x ∧ 0 ≤ x ∧ x < p) (fun i d hd => by obtain ⟨x, rfl, _⟩ := hd; rfl) (fun _ _ => trivial) hD (by omega) (fun i x H' H'' hi e y R k => ?_) (fun H' ws ds e hw hl hφ hda => ?_)
          · obtain ⟨rfl, rfl⟩ := y
            walk_at "rd"
            refine ⟨rfl, ?_⟩
            walk_at "rd"
            refine w_dec (fun _ => ?_) (fun _ => ?_)
            · walk_at "rd"
              refine ⟨v, _, rfl, hv.ex e, by omega, by omega, fun r r0 r1 => ?_⟩
              walk_at "rd"
              exact k _ _ _ (Ex.refl _) ⟨_, rfl, by omega, by omega⟩ (.int _)
            · walk_at "rd"
              exact k _ _ _ (Ex.refl _) ⟨_, rfl, by omega, by omega⟩ (.int _)
          · walk_at "rd"
            exact fin Dl H' ws ds e hw (by omega) hφ hda
        · walk_at "rd"
          exact ⟨rfl, _, _, _, _, rfl⟩
      · walk_at "rd"
        exact ⟨rfl, _, _, _, _, rfl⟩
    rintro σ' H' ⟨rfl, y1, y2, y3, y4, rfl⟩
    refine ⟨fun σ' H'' => H'' = H' ∧ ∃ y1 y2 y3 y4, σ' = [some v, some (.int p), some (.int wide), some (.ref a), some (.int kind), y1, y2, y3, y4], ?_, ?_⟩
    · walk_at "rd"
      refine w_dec (fun _ => ?_) (fun _ => ?_)
      · walk_at "rd"
        refine ⟨a, _, rfl, .inl ha, ?_⟩
        walk_at "rd"
        refine w_dec (fun hw0 => ?_) (fun _ => ?_)
        · walk_at "rd"
          refine ⟨a, rfl, ⟨_, ha⟩, fun Dl hD => ?_⟩
          refine lc_some (K := K) walk_list (fun _ d => ∃ x, d = PyData.int x ∧ 0 ≤ x ∧ x < p) (fun i d hd => by obtain ⟨x, rfl, _⟩ := hd; rfl) (fun H' e => e.l ha) hD (by omega) (fun i x H2 H'' hi e y R k => ?_) (fun H2 ws ds e hws hl hφ hda' => ?_)
          · obtain ⟨rfl, hx⟩ := y
            walk_at "rd"
            refine ⟨rfl, ?_⟩
            walk_at "rd"
            refine ⟨v, _, rfl, hv.ex e, by omega, by omega, fun r r0 r1 => ?_⟩
            walk_at "rd"
            refine w_dispT (by simp) fun l hl => ?_
            refine ⟨v, l, [.int 0, .int 1, .int (p - 1), .int r], rfl, (hv.ex e).ex (Ex.new hl), sqL upd_same, by simp, by simp, fun x hx => ?_⟩
            have hx' : ∃ n : Int, x = .int n ∧ 0 ≤ n ∧ n < p := by
              simp only [List.mem_cons, List.not_mem_nil, or_false] at hx
              rcases hx with rfl | rfl | rfl | rfl
              · exact ⟨_, rfl, by omega, by omega⟩
              · exact ⟨_, rfl, by omega, by omega⟩
              · exact ⟨_, rfl, by omega, by omega⟩
              · exact ⟨_, rfl, by omega, by omega⟩
            obtain ⟨n, rfl, n0, n1⟩ := hx'
            exact k _ _ _ (Ex.new hl) ⟨_, rfl, n0, n1⟩ (.int n)
          · obtain ⟨ms, rfl, hms⟩ := rin_of (p := p) rfl hφ
            have e5 := dpa_ints_inv hda'
            subst e5
            walk_at "rd"
            refine ⟨p, wide, a, Dl, xs, rs, ms, rfl, e.l ha, e.dpa hda, sqL hws, by omega, hw, hrl, fun r hr => (hrs r hr).1, fun m hm => ?_, fun u H3 e3 hu => ?_⟩
            · have := hms.2 m hm
              omega
            · exact q u H3 _ (e.trans e3) hu (sumI_in (by omega) (zero_in (by omega)) hrs)
        · walk_at "rd"
          exact ⟨rfl, _, _, _, _, rfl⟩
      · walk_at "rd"
        exact ⟨rfl, _, _, _, _, rfl⟩
    rintro σ' H'' ⟨rfl, y1, y2, y3, y4, rfl⟩
    refine ⟨fun σ' H' => H' = H'' ∧ ∃ y1 y2 y3 y4, σ' = [some v, some (.int p), some (.int wide), some (.ref a), some (.int kind), y1, y2, y3, y4], ?_, ?_⟩
    · walk_at "rd"
      refine w_dec (fun _ => ?_) (fun _ => ?_)
      · walk_at "rd"
        refine w_isrng (by omega) (by omega) fun Dl hD => ?_
        refine lc_some (K := K) walk_range (fun _ d => ∃ x, d = PyData.int x ∧ 0 ≤ x ∧ x < p) (fun i d hd => by obtain ⟨x, rfl, _⟩ := hd; rfl) (fun _ _ => trivial) hD (by omega) (fun i x H2 H3 hi e y R k => ?_) (fun H2 ws ds e hws hl hφ hda' => ?_)
        · obtain ⟨rfl, rfl⟩ := y
          walk_at "rd"
          refine ⟨rfl, ?_⟩
          walk_at "rd"
          refine ⟨v, _, rfl, hv.ex e, by omega, by omega, fun r r0 r1 => ?_⟩
          walk_at "rd"
          refine w_dec (fun _ => ?_) (fun _ => ?_)
          · walk_at "rd"
            refine ⟨v, _, rfl, hv.ex e, by omega, by omega, fun r2 r3 r4 => ?_⟩
            exact k _ _ _ (Ex.refl _) ⟨_, rfl, by omega, by omega⟩ (.int _)
          · walk_at "rd"
            exact k _ _ _ (Ex.refl _) ⟨_, rfl, by omega, by omega⟩ (.int _)
        · walk_at "rd"
          exact fin Dl H2 ws ds e hws (by omega) hφ hda'
      · walk_at "rd"
        exact ⟨rfl, _, _, _, _, rfl⟩
    rintro σ' H' ⟨rfl, y1, y2, y3, y4, rfl⟩
    walk_at "rd"
    refine w_isrng (by omega) (by omega) fun Dl hD => ?_
    refine lc_some (K := K) walk_range (fun _ d => ∃ x, d = PyData.int x ∧ 0 ≤ x ∧ x < p) (fun i d hd => by obtain ⟨x, rfl, _⟩ := hd; rfl) (fun _ _ => trivial) hD (by omega) (fun i x H2 H3 hi e y R k => ?_) (fun H2 ws ds e hws hl hφ hda' => ?_)
    · obtain ⟨rfl, rfl⟩ := y
      walk_at "rd"
      refine ⟨rfl, ?_⟩
      walk_at "rd"
      refine ⟨v, _, rfl, hv.ex e, by omega, by omega, fun r r0 r1 => ?_⟩
      exact k _ _ _ (Ex.refl _) ⟨_, rfl, by omega, by omega⟩ (.int _)
    · walk_at "rd"
      exact fin Dl H2 ws ds e hws (by omega) hφ hda'
/-! _law_some_rows(hand, p, wide, many) -/
def sp_some_rows (K : PySem.W.Frag) : Sp := fun vs H Q _ => ∃ (v : V) (p : Int) (wide many : Nat), vs = [v, .int p, .int (wide : Nat), .int (many : Nat)] ∧ HandAt H v ∧
  2 ≤ p ∧ p ≤ 1000000 ∧ wide ≤ 1000 ∧ many ≤ 1000 ∧ ∀ (l : Addr) (H' : Hp) (xs : List V) (rs : List (List Int)), Ex H H' → H' l = some (.lst xs) → DpAll K H' xs (rs.map row) → rs.length = many → (∀ r ∈ rs, Rin p wide r) → Q (.ref l) H'
theorem ok_law_some_rows {f : Addr} {fd : FuncData} (F : C8.Def K mg "_law_some_rows" s_law_some_rows f fd) (b : Binds K fd ["hand", "p", "wide", "many"] []) (T : Txt mg)
    (c_law_some_row : C8.Cal P w K mg base 3 "_law_some_row" (sp_some_row K) []) : C8.Cal P w K mg base 4 "_law_some_rows" (sp_some_rows K) [] := by
  refine C8.cal0 F b .nil sc_law_some_rows (fun vs H Q E h => ?_) (fun cdv A outer s H vs Q E hr h => ?_)
  · obtain ⟨v, p, wide, many, rfl, _⟩ := h
    rfl
  · obtain ⟨v, p, wide, many, rfl, hv, p2, pm, hw, hm, q⟩ := h
    refine ⟨_, (pss_cons (ps_set (i := 4) sc_law_some_rows.nd rfl (Or.inl rfl) (pe_lst pa_nil))
      (pss_cons (ps_for PassesOwn.never rfl (pi_range1 (by rfl) T.b_range (pa_cons (pv 3) pa_nil)) (pg_name (i := 5) sc_law_some_rows.nd rfl (Or.inl rfl) (Or.inr rfl)) (pss_one (ps_expr (TH.kpe_bm (K := K) PySem.F.plainAttrs_list PySem.F.slot_list_append PySem.F.type_list_append mt_append (pv 4) (pa_cons (C8.pe_c c_law_some_row hr (by first | decide | exact Nat.le_refl _) (by rfl) (pa_cons (pv 0) (pa_cons (pv 1) (pa_cons (pv 2) (pa_cons (pv 4) pa_nil))))) pa_nil)))))
      (pss_one (ps_ret (pv 4))))), ?_⟩
    refine w_start (σ' := [some v, some (.int p), some (.int wide), some (.int many), none, none]) rfl ?_
    walk_at "rd"
    refine w_dispT (by decide) fun l hl => ?_
    walk_at "rd"
    refine w_isrng (by omega) (by omega) ?_
    refine for_go walk_range (fun i σ H' => Ex H H' ∧ (∃ y, σ = [some v, some (.int p), some (.int wide), some (.int many), some (.ref l), y]) ∧ ∃ xs rs, H' l = some (.lst xs) ∧ DpAll K H' xs (rs.map row) ∧ rs.length = i ∧ ∀ r ∈ rs, Rin p wide r)
      ⟨Ex.new hl, ⟨_, rfl⟩, [], [], upd_same, .nil, rfl, fun r hr => nomatch hr⟩ (fun _ _ _ _ _ => trivial) (fun i x σ H' H'' hi p y => ?_) (fun σ H' p => ?_)
    · obtain ⟨e, ⟨y1, rfl⟩, xs, rs, h1, h2, h3, h4⟩ := p
      obtain ⟨rfl, rfl⟩ := y
      have hxl : xs.length = rs.length := by rw [dpa_len h2, List.length_map]
      walk_at "rd"
      refine ⟨tyL h1, ?_⟩
      walk_at "rd"
      refine ⟨v, _, wide, l, xs, rs, rfl, hv.ex e, sqL h1, h2, p2, pm, hw, by omega, h4, fun u H3 r e3 hu hr => ?_⟩
      walk_at "rd"
      refine w_app (e3 _ _ h1) (by omega) ?_
      walk_at "rd"
      refine ⟨(e.trans e3).mut hl, ⟨_, rfl⟩, xs ++ [u], rs ++ [r], upd_same, ?_, by rw [List.length_append, h3]; rfl, fun r' hr' => ?_⟩
      · rw [List.map_append]
        exact dpa_snoc ((Tx.updL (e3 _ _ h1)).dpa (imm_rows rs) (e3.dpa h2)) ((Tx.updL (e3 _ _ h1)).dp (imm_row r) hu)
      · rcases List.mem_append.mp hr' with z | z
        · exact h4 r' z
        · rw [List.mem_singleton.mp z]
          exact hr
    · obtain ⟨e, ⟨y1, rfl⟩, xs, rs, h1, h2, h3, h4⟩ := p
      walk_at "rd"
      exact q l H' xs rs e h1 h2 (by omega) h4
/-! numbers, rows over Fin n -/
section
open LA
variable {n : Nat} [NeZero n]
def toF (n : Nat) [NeZero n] (r : List Int) : List (Fin n) := r.map (cF n)
theorem toF_len (r : List Int) : (toF n r).length = r.length := List.length_map _
theorem toF_at (r : List Int) (j : Nat) : at' (toF n r) j = cF n (r.getD j 0) := by
  unfold at' toF
  rw [List.getD_eq_getElem?_getD, List.getD_eq_getElem?_getD, List.getElem?_map]
  cases r[j]? with
  | none => exact cF_zero.symm
  | some x => rfl
theorem toF_sub (r o : List Int) (c : Int) : toF n (iSub n r o c) = sub (toF n r) (toF n o) (cF n c) := by
  unfold toF iSub sub
  rw [List.map_zipWith, List.zipWith_map]
  congr 1
  funext x y
  rw [cF_mod, cF_sub, cF_mul]
theorem toF_scale (r : List Int) (c : Int) : toF n (iScale n c r) = smul (cF n c) (toF n r) := by
  unfold toF iScale smul
  rw [List.map_map, List.map_map]
  congr 1
  funext x
  show cF n (c * x % n) = cF n c * cF n x
  rw [cF_mod, cF_mul]
theorem toF_zero (w : Nat) : toF n (List.replicate w 0) = zero w := by
  unfold toF zero
  rw [List.map_replicate, cF_zero]
theorem toF_inj {w : Nat} {r s : List Int} (hr : Rin n w r) (hs : Rin n w s) (h : toF n r = toF n s) : r = s := by
  apply List.ext_getElem (by rw [hr.1, hs.1])
  intro i h1 h2
  have e := congrArg (fun l => l[i]?) h
  simp only [toF, List.getElem?_map, List.getElem?_eq_getElem h1, List.getElem?_eq_getElem h2] at e
  exact cF_inj (hr.2 _ (List.getElem_mem h1)) (hs.2 _ (List.getElem_mem h2)) (Option.some.inj e)
def rowsF (n : Nat) [NeZero n] (rs : List (List Int)) : List (List (Fin n)) := rs.map (toF n)
theorem rowsF_wd {w : Nat} {rs : List (List Int)} (h : ∀ r ∈ rs, r.length = w) : Wd w (rowsF n rs) := fun x hx => by
  obtain ⟨r, hr, rfl⟩ := List.mem_map.mp hx
  rw [toF_len]
  exact h r hr
theorem clk_of {n : Nat} (h : clockB (.int n) = true) : Clk n := by
  have h1 := Bool.and_eq_true_iff.mp h
  have h2 := Bool.and_eq_true_iff.mp h1.1
  have a1 := of_decide_eq_true h2.1
  have a2 := of_decide_eq_true h2.2
  exact ⟨by omega, by omega, of_decide_eq_true h1.2⟩
end
/-! _law_turn(p, value): the value's inverse -/
open LA in
def sp_law_turn (K : PySem.W.Frag) : Sp := fun vs H Q _ => ∃ (n : Nat) (_ : NeZero n) (v : Int), vs = [.int (n : Nat), .int v] ∧ Clk n ∧ 0 < v ∧ v < n ∧ ∀ r : Int, 0 ≤ r → r < n → cF n r * cF n v = 1 → Q (.int r) H
open LA in
theorem turn_fin {n : Nat} [NeZero n] (h : Clk n) {v r : Int} (v0 : 0 < v ∧ v < n) (e : cF n r = cF n v ^ (n - 2)) : cF n r * cF n v = 1 := by
  obtain ⟨m, rfl⟩ : ∃ m, n = m + 1 := ⟨n - 1, by have := h.two; omega⟩
  have hv := cF_nz (n := m + 1) v0
  have := fermat h _ hv
  have h2 := h.two
  have e2 : cF (m + 1) v ^ (m + 1 - 2) * cF (m + 1) v = cF (m + 1) v ^ m := by
    rw [← Lean.Grind.Semiring.pow_succ]
    congr 1
    omega
  rw [e, e2]
  exact this
open LA in
theorem ok_law_turn {f : Addr} {fd : FuncData} (F : C8.Def K mg "_law_turn" s_law_turn f fd) (b : Binds K fd ["p", "value"] []) (T : Txt mg) : C8.Cal P w K mg base 1 "_law_turn" (sp_law_turn K) [] := by
  refine C8.cal0 F b .nil sc_law_turn (fun vs H Q E h => ?_) (fun cdv A outer s H vs Q E hr h => ?_)
  · obtain ⟨n, _, v, rfl, _⟩ := h
    rfl
  · obtain ⟨n, inst, v, rfl, hc, v0, v1, q⟩ := h
    have n2 := hc.two
    have nm := hc.le
    refine ⟨_, (pss_cons (ps_par3 (i := 2) (j := 3) (l := 4) rfl sc_law_turn.nd rfl rfl rfl (by decide) (by decide) (by decide) rfl rfl rfl (pa_cons pe_int (pa_cons (pv 1) (pa_cons (pe_op op_sub (pv 0) pe_int) pa_nil))) (by rfl))
      (pss_cons (ps_while PassesOwn.never (pt_cmpR op_gt (pv 4) pe_int (nomark _)) (pss_cons (ps_if (pt_cmpR op_eq (pe_op op_mod (pe_callTy call_int1 (by rfl) T.b_int (by decide +kernel) (pa_cons (pv 4) pa_nil)) pe_int) pe_int (nomark _)) (pss_one (ps_set (i := 2) sc_law_turn.nd rfl (Or.inl rfl) (pe_op op_mod (pe_callTy call_int1 (by rfl) T.b_int (by decide +kernel) (pa_cons (pe_op op_mul (pv 2) (pv 3)) pa_nil)) (pv 0)))) pss_nil)
      (pss_cons (ps_set (i := 3) sc_law_turn.nd rfl (Or.inl rfl) (pe_op op_mod (pe_callTy call_int1 (by rfl) T.b_int (by decide +kernel) (pa_cons (pe_op op_mul (pv 3) (pv 3)) pa_nil)) (pv 0)))
      (pss_one (ps_set (i := 4) sc_law_turn.nd rfl (Or.inl rfl) (pe_op op_fdiv (pv 4) pe_int))))))
      (pss_one (ps_ret (pe_op op_mod (pe_callTy call_int1 (by rfl) T.b_int (by decide +kernel) (pa_cons (pv 2) pa_nil)) (pv 0)))))), ?_⟩
    refine w_start (σ' := [some (.int n), some (.int v), none, none, none]) rfl ?_
    walk_at "rd"
    refine ⟨fun m σ H' => H' = H ∧ ∃ (found many : Int) (left : Nat), σ = [some (.int n), some (.int v), some (.int found), some (.int many), some (.int left)] ∧ 0 ≤ found ∧ found < n ∧ 0 ≤ many ∧ many < n ∧ cF n found * cF n many ^ left = cF n v ^ (n - 2) ∧ m = left,
      ⟨n - 2, rfl, 1, v, n - 2, by simp; omega, by omega, by omega, by omega, by omega, by rw [cF_one]; grind, rfl⟩, fun m σ H' hw => ?_⟩
    obtain ⟨rfl, found, many, left, rfl, f0, f1, m0, m1, he, hml⟩ := hw
    walk_at "rd"
    refine w_dec (fun h1 => ?_) (fun h1 => ?_)
    · refine ⟨fun σ' H'' => H'' = H' ∧ ∃ (found' : Int), σ' = [some (.int n), some (.int v), some (.int found'), some (.int (many * many % n)), some (.int ((left : Int) / 2))] ∧ 0 ≤ found' ∧ found' < n ∧ cF n found' * cF n (many * many) ^ (left / 2) = cF n v ^ (n - 2), fun σ' H'' ⟨e1, f', e2, e3, e4, e5⟩ => ⟨left / 2, by omega, e1, f', many * many % n, left / 2, e2, e3, e4, Int.emod_nonneg _ (by omega), Int.emod_lt_of_pos _ (by omega), by rw [cF_mod]; exact e5, rfl⟩, ?_⟩
      have ee := hc.two
      have half : (cF n many ^ (left / 2)) * (cF n many ^ (left / 2)) = cF n (many * many) ^ (left / 2) := by
        rw [cF_mul]
        generalize left / 2 = k
        induction k with
        | zero => grind
        | succ k ih => rw [Lean.Grind.Semiring.pow_succ, Lean.Grind.Semiring.pow_succ, ← ih]; grind
      walk_at "rd"
      refine w_dec (fun h2 => ?_) (fun h2 => ?_)
      · walk_at "rd"
        refine ⟨rfl, _, rfl, Int.emod_nonneg _ (by omega), Int.emod_lt_of_pos _ (by omega), ?_⟩
        rw [cF_mod, cF_mul, ← he, ← half]
        have el : left = left / 2 + left / 2 + 1 := by omega
        have : cF n many ^ left = cF n many ^ (left / 2) * cF n many ^ (left / 2) * cF n many := by
          conv => lhs; rw [el]
          rw [Lean.Grind.Semiring.pow_succ, Lean.Grind.Semiring.pow_add]
        rw [this]
        grind
      · walk_at "rd"
        refine ⟨rfl, _, rfl, f0, f1, ?_⟩
        rw [← he, ← half]
        have el : left = left / 2 + left / 2 := by omega
        have : cF n many ^ left = cF n many ^ (left / 2) * cF n many ^ (left / 2) := by
          conv => lhs; rw [el]
          rw [Lean.Grind.Semiring.pow_add]
        rw [this]
    · have e0 : left = 0 := by omega
      subst e0
      walk_at "rd"
      refine q _ (Int.emod_nonneg _ (by omega)) (Int.emod_lt_of_pos _ (by omega)) (turn_fin hc ⟨v0, v1⟩ ?_)
      rw [cF_mod, ← he, Lean.Grind.Semiring.pow_zero]
      grind
/-! _law_ladder(p, wide, rows) -/
section
open LA
variable {n : Nat} [NeZero n]
/-- a row with a head taken off at a place -/
def offI (p : Int) (h : List Int) (q : Nat) (r : List Int) : List Int := if r.getD q 0 = 0 then r else iSub p r h (r.getD q 0)
theorem offI_in {w q : Nat} {r h : List Int} (hr : Rin n w r) (hh : Rin n w h) : Rin n w (offI n h q r) := by
  unfold offI
  split
  · exact hr
  · exact iSub_in n_pos hr.1 hh.1
theorem toF_off {w q : Nat} {r h : List Int} (hr : r.length = w) (hh : h.length = w) : toF n (offI n h q r) = sub (toF n r) (toF n h) (at' (toF n r) q) := by
  unfold offI
  rw [toF_at]
  split
  · next e => rw [e, cF_zero, sub_zero' (w := w) (by rw [toF_len, hr]) (by rw [toF_len, hh])]
  · rw [toF_sub]
theorem scale_in {w : Nat} {r : List Int} {c : Int} (hr : r.length = w) : Rin n w (iScale n c r) := ⟨by unfold iScale; rw [List.length_map]; exact hr, fun x hx => by
  unfold iScale at hx
  obtain ⟨y, _, rfl⟩ := List.mem_map.mp hx
  exact ⟨Int.emod_nonneg _ (by have := n_pos (n := n); omega), Int.emod_lt_of_pos _ n_pos⟩⟩
/-- what stands after some places -/
structure ColI (n : Nat) [NeZero n] (wide : Nat) (rs : List (List Int)) (i : Nat) (lf fd : List (List Int)) : Prop where
  inl : ∀ r ∈ lf, Rin n wide r
  inf : ∀ r ∈ fd, Rin n wide r
  len : lf.length + fd.length = rs.length
  col : ∃ L, rowsOf L = rowsF n fd ∧ Col wide (rowsF n rs) i (rowsF n lf) L
theorem colI_start {wide : Nat} {rs : List (List Int)} (h : ∀ r ∈ rs, Rin n wide r) : ColI n wide rs 0 rs [] := ⟨h, fun r hr => (nomatch hr), by simp, [], rfl, col_start (rowsF_wd fun r hr => (h r hr).1)⟩
theorem colI_none {wide i : Nat} {rs lf fd : List (List Int)} (h : ColI n wide rs i lf fd) (hz : ∀ r ∈ lf, r.getD i 0 = 0) : ColI n wide rs (i + 1) lf fd := by
  obtain ⟨L, e, c⟩ := h.col
  refine ⟨h.inl, h.inf, h.len, L, e, col_none c fun r hr => ?_⟩
  obtain ⟨r0, h0, rfl⟩ := List.mem_map.mp hr
  rw [toF_at, hz r0 h0, cF_zero]
theorem mem_erase_iff {α : Type} {xs : List α} {k : Nat} {y : α} (h : xs[k]? = some y) (r : α) : r ∈ xs ↔ r = y ∨ r ∈ xs.eraseIdx k := by
  rw [← (erase_perm h).mem_iff, List.mem_cons]
theorem colI_some {wide i k : Nat} {rs lf fd : List (List Int)} {head : List Int} {t : Int} (h : ColI n wide rs i lf fd) (hi : i < wide) (hk : lf[k]? = some head) (ht : cF n t * cF n (head.getD i 0) = 1) :
    ColI n wide rs (i + 1) ((lf.eraseIdx k).map (offI n (iScale n t head) i)) (fd.map (offI n (iScale n t head) i) ++ [iScale n t head]) := by
  obtain ⟨L, e, c⟩ := h.col
  have hhead := h.inl head (List.mem_of_getElem? hk)
  have hs : Rin n wide (iScale n t head) := scale_in hhead.1
  have hel : ∀ r ∈ lf.eraseIdx k, r ∈ lf := fun r hr => (mem_erase_iff hk r).mpr (.inr hr)
  refine ⟨fun r hr => ?_, fun r hr => ?_, ?_, L.map (fun a => (a.1, sub a.2 (smul (cF n t) (toF n head)) (at' a.2 i))) ++ [(i, smul (cF n t) (toF n head))], ?_, ?_⟩
  · obtain ⟨r0, h0, rfl⟩ := List.mem_map.mp hr
    exact offI_in (h.inl r0 (hel r0 h0)) hs
  · rcases List.mem_append.mp hr with m | m
    · obtain ⟨r0, h0, rfl⟩ := List.mem_map.mp m
      exact offI_in (h.inf r0 h0) hs
    · rw [List.mem_singleton.mp m]; exact hs
  · have hkl := (List.getElem?_eq_some_iff.mp hk).1
    have := h.len
    rw [List.length_map, List.length_append, List.length_map, List.length_eraseIdx_of_lt hkl]
    simp
    omega
  rotate_left 1
  · have := col_some (rest := rowsF n (lf.eraseIdx k)) (head := toF n head) (t := cF n t) c hi (fun r => ?_) (by rw [toF_at]; exact ht)
    · have e1 : (rowsF n (lf.eraseIdx k)).map (fun r => sub r (smul (cF n t) (toF n head)) (at' r i)) = rowsF n ((lf.eraseIdx k).map (offI n (iScale n t head) i)) := by
        unfold rowsF
        rw [List.map_map, List.map_map]
        refine List.map_congr_left fun r hr => ?_
        show _ = toF n (offI n (iScale n t head) i r)
        rw [toF_off (h.inl r (hel r hr)).1 hs.1, toF_scale]
        rfl
      rw [e1] at this
      exact this
    · constructor
      · intro hr
        obtain ⟨r0, h0, rfl⟩ := List.mem_map.mp hr
        rcases (mem_erase_iff hk r0).mp h0 with rfl | m
        · exact .inl rfl
        · exact .inr (List.mem_map.mpr ⟨r0, m, rfl⟩)
      · intro hr
        rcases hr with rfl | m
        · exact List.mem_map.mpr ⟨head, List.mem_of_getElem? hk, rfl⟩
        · obtain ⟨r0, h0, rfl⟩ := List.mem_map.mp m
          exact List.mem_map.mpr ⟨r0, hel r0 h0, rfl⟩
  · have e2 : rowsOf (L.map (fun a => (a.1, sub a.2 (smul (cF n t) (toF n head)) (at' a.2 i)))) = (rowsOf L).map fun r => sub r (smul (cF n t) (toF n head)) (at' r i) := by
      rw [rowsOf, rowsOf, List.map_map, List.map_map]; rfl
    rw [rowsOf, List.map_append, show (L.map (fun a => (a.1, sub a.2 (smul (cF n t) (toF n head)) (at' a.2 i)))).map (·.2) = _ from e2, e]
    unfold rowsF
    rw [List.map_append, List.map_map, List.map_map]
    congr 1
    · refine List.map_congr_left fun r hr => ?_
      show _ = toF n (offI n (iScale n t head) i r)
      rw [toF_off (h.inf r hr).1 hs.1, toF_scale]
      rfl
    · show [smul (cF n t) (toF n head)] = [toF n (iScale n t head)]
      rw [toF_scale]
/-- a ladder of these rows -/
structure LadI (n : Nat) [NeZero n] (wide : Nat) (rs ls : List (List Int)) : Prop where
  inr : ∀ r ∈ ls, Rin n wide r
  len : ls.length ≤ rs.length
  lad : ∃ L, rowsOf L = rowsF n ls ∧ Lad wide L
  eqv : Eqv wide (rowsF n ls) (rowsF n rs)
theorem colI_end {wide : Nat} {rs lf fd : List (List Int)} (h : ColI n wide rs wide lf fd) : LadI n wide rs fd := by
  obtain ⟨L, e, c⟩ := h.col
  refine ⟨h.inf, by have := h.len; omega, ⟨L, e, c.lad⟩, ?_⟩
  rw [← e]
  exact col_end c
theorem rowsF_inj {wide : Nat} : ∀ {as bs : List (List Int)}, (∀ r ∈ as, Rin n wide r) → (∀ r ∈ bs, Rin n wide r) → rowsF n as = rowsF n bs → as = bs
  | [], [], _, _, _ => rfl
  | [], b :: bs, _, _, e => by cases e
  | a :: as, [], _, _, e => by cases e
  | a :: as, b :: bs, ha, hb, e => by
    have e' : toF n a :: rowsF n as = toF n b :: rowsF n bs := e
    injection e' with e1 e2
    rw [toF_inj (ha a List.mem_cons_self) (hb b List.mem_cons_self) e1, rowsF_inj (fun r hr => ha r (List.mem_cons_of_mem _ hr)) (fun r hr => hb r (List.mem_cons_of_mem _ hr)) e2]
theorem ladI_one {wide : Nat} {rs rs' ls ls' : List (List Int)} (hc : Clk n) (h : LadI n wide rs ls) (h' : LadI n wide rs' ls') (e : Eqv wide (rowsF n rs) (rowsF n rs')) : ls = ls' := by
  obtain ⟨L, e1, l1⟩ := h.lad
  obtain ⟨M, e2, l2⟩ := h'.lad
  have : L = M := lad_one (fin_ne hc) l1 l2 (by rw [e1, e2]; exact h.eqv.trans (e.trans h'.eqv.symm))
  subst this
  exact rowsF_inj h.inr h'.inr (e1.symm.trans e2)
end
open LA in
def sp_law_ladder (K : PySem.W.Frag) : Sp := fun vs H Q _ => ∃ (n : Nat) (_ : NeZero n) (wide : Nat) (a : Addr) (xs : List V) (rs : List (List Int)), vs = [.int (n : Nat), .int (wide : Nat), .ref a] ∧ Clk n ∧ SqL K H a xs ∧ DpAll K H xs (rs.map row) ∧
  wide ≤ 1000 ∧ rs.length ≤ 1000 ∧ (∀ r ∈ rs, Rin n wide r) ∧ ∀ u H' ls, Ex H H' → Dp K H' u (rowsT ls) → LadI n wide rs ls → Q u H'
theorem made_row {m : Nat} {xs : List (List Int)} (f : List Int → List Int) (hm : xs.length = m) : made m (fun _ => true) (fun i => row (f (xs.getD i []))) = (xs.map f).map row := by
  subst hm
  rw [made_all, range_map [] (fun r => row (f r)), List.map_map]
  rfl
open LA in
theorem ok_law_ladder {f : Addr} {fd : FuncData} (F : C8.Def K mg "_law_ladder" s_law_ladder f fd) (b : Binds K fd ["p", "wide", "rows"] []) (T : Txt mg)
    (c_law_turn : C8.Cal P w K mg base 1 "_law_turn" (sp_law_turn K) []) (c_law_less : C8.Cal P w K mg base 1 "_law_less" (sp_law_less K) []) : C8.Cal P w K mg base 2 "_law_ladder" (sp_law_ladder K) [] := by
  refine C8.cal0 F b .nil sc_law_ladder (fun vs H Q E h => ?_) (fun cdv A outer s H vs Q E hr h => ?_)
  · obtain ⟨n, _, wide, a, xs, rs, rfl, _⟩ := h
    rfl
  · obtain ⟨n, inst, wide, a, xs, rs, rfl, hc, ha, hda, hw, hl, hrs, q⟩ := h
    have n2 := hc.two
    have nm := hc.le
    refine ⟨_, (pss_cons (ps_par (i := 4) (j := 5) rfl sc_law_ladder.nd rfl rfl (by decide) rfl rfl (pa_cons (pe_callTy (TH.kcall_list (K := K)) (by rfl) T.b_list (by decide +kernel) (pa_cons (pv 2) pa_nil)) (pa_cons (pe_lst pa_nil) pa_nil)) (by rfl))
      (pss_cons (ps_for PassesOwn.never rfl (pi_range1 (by rfl) T.b_range (pa_cons (pv 1) pa_nil)) (pg_name (i := 3) sc_law_ladder.nd rfl (Or.inr rfl) (Or.inl rfl)) (pss_cons (ps_setLc (i := 6) (own := [("at", 9), ("row", 10)]) (g := gTup K 2 (gCons (gName 9) (gCons (gName 10) gNil))) rfl sc_law_ladder.nd rfl rfl (sw_true rfl rfl rfl (by decide +kernel)) (TH.kpi_enum (K := K) (by rfl) T.b_enumerate (pa_cons (pv 4) pa_nil)) (blkOk_by (own := [("at", 9), ("row", 10)]) (N := N_law_ladder) (sc := C8.fnScope s_law_ladder) (by decide +kernel)) (fun _ _ _ _ _ => (TH.kpg_tup (K := K) (n := 2) rfl (pgs_cons (pg_name (i := 9) sc_law_ladder.nd rfl (Or.inl rfl) (Or.inr rfl)) (pgs_cons (pg_name (i := 10) sc_law_ladder.nd rfl (Or.inl rfl) (Or.inr rfl)) pgs_nil)))) (fun _ _ _ _ _ => (pts_one (pt_cmpR op_ne (pe_ix (TH.kix_tup (K := K)) (pv 10) (pv 3) (fun _ _ => rfl)) pe_int (nomark _)))) (fun _ _ _ _ _ => (pv 9)))
      (pss_one (ps_if (pt_cmpR op_gt (pe_callB (TH.kcall_len (K := K)) (by rfl) T.b_len (by decide +kernel) (pa_cons (pv 6) pa_nil)) pe_int (nomark _)) (pss_cons (ps_set (i := 7) sc_law_ladder.nd rfl (Or.inr rfl) (TH.kpe_bm (K := K) PySem.F.plainAttrs_list PySem.F.slot_list_pop PySem.F.type_list_pop mt_popAt (pv 4) (pa_cons (pe_ix (TH.kix_list (K := K)) (pv 6) pe_int (fun _ _ => rfl)) pa_nil)))
      (pss_cons (ps_set (i := 8) sc_law_ladder.nd rfl (Or.inr rfl) (C8.pe_c c_law_turn hr (by first | decide | exact Nat.le_refl _) (by rfl) (pa_cons (pv 0) (pa_cons (pe_ix (TH.kix_tup (K := K)) (pv 7) (pv 3) (fun _ _ => rfl)) pa_nil))))
      (pss_cons (ps_set (i := 7) sc_law_ladder.nd rfl (Or.inr rfl) (pe_callTy (TH.kcall_tuple (K := K)) (by rfl) T.b_tuple (by decide +kernel) (pa_cons (pe_lc (own := [("one", 11)]) (g := gName 11) (tt := tYes) rfl sc_law_ladder.nd (TH.kpi_tup (K := K) (pv 7)) (blkOk_by (own := [("one", 11)]) (N := N_law_ladder) (sc := C8.fnScope s_law_ladder) (by decide +kernel)) (fun _ _ _ _ _ => (pg_name (i := 11) sc_law_ladder.nd rfl (Or.inl rfl) (Or.inr rfl))) (fun _ _ _ _ _ => pts_nil) (fun _ _ _ _ _ => (pe_op op_mod (pe_callTy call_int1 (by rfl) T.b_int (by decide +kernel) (pa_cons (pe_op op_mul (pv 11) (pv 8)) pa_nil)) (pv 0)))) pa_nil)))
      (pss_cons (ps_setLc (i := 4) (own := [("row", 10)]) (g := gName 10) (tt := tYes) rfl sc_law_ladder.nd rfl rfl (sw_true rfl rfl rfl (by decide +kernel)) (TH.kpi_list (K := K) (pv 4)) (blkOk_by (own := [("row", 10)]) (N := N_law_ladder) (sc := C8.fnScope s_law_ladder) (by decide +kernel)) (fun _ _ _ _ _ => (pg_name (i := 10) sc_law_ladder.nd rfl (Or.inl rfl) (Or.inr rfl))) (fun _ _ _ _ _ => pts_nil) (fun _ _ _ _ _ => (pe_ifExp (pt_cmpR op_ne (pe_ix (TH.kix_tup (K := K)) (pv 10) (pv 3) (fun _ _ => rfl)) pe_int (nomark _)) (C8.pe_c c_law_less hr (by first | decide | exact Nat.le_refl _) (by rfl) (pa_cons (pv 0) (pa_cons (pv 10) (pa_cons (pv 7) (pa_cons (pe_ix (TH.kix_tup (K := K)) (pv 10) (pv 3) (fun _ _ => rfl)) pa_nil))))) (pv 10))))
      (pss_one (ps_set (i := 5) sc_law_ladder.nd rfl (Or.inl rfl) (pe_op op_cat (pe_lc (own := [("row", 10)]) (g := gName 10) (tt := tYes) rfl sc_law_ladder.nd (TH.kpi_list (K := K) (pv 5)) (blkOk_by (own := [("row", 10)]) (N := N_law_ladder) (sc := C8.fnScope s_law_ladder) (by decide +kernel)) (fun _ _ _ _ _ => (pg_name (i := 10) sc_law_ladder.nd rfl (Or.inl rfl) (Or.inr rfl))) (fun _ _ _ _ _ => pts_nil) (fun _ _ _ _ _ => (pe_ifExp (pt_cmpR op_ne (pe_ix (TH.kix_tup (K := K)) (pv 10) (pv 3) (fun _ _ => rfl)) pe_int (nomark _)) (C8.pe_c c_law_less hr (by first | decide | exact Nat.le_refl _) (by rfl) (pa_cons (pv 0) (pa_cons (pv 10) (pa_cons (pv 7) (pa_cons (pe_ix (TH.kix_tup (K := K)) (pv 10) (pv 3) (fun _ _ => rfl)) pa_nil))))) (pv 10)))) (pe_lst (pa_cons (pv 7) pa_nil))))))))) pss_nil))))
      (pss_one (ps_ret (pe_callTy (TH.kcall_tuple (K := K)) (by rfl) T.b_tuple (by decide +kernel) (pa_cons (pv 5) pa_nil)))))), ?_⟩
    refine w_start (σ' := [some (.int n), some (.int wide), some (.ref a), none, none, none, none, none, none, none, none, none]) rfl ?_
    walk_at "rd"
    refine ⟨a, _, rfl, .inl ha, fun l hl0 => ?_⟩
    walk_at "rd"
    refine w_dispT (by decide) fun g hg => ?_
    walk_at "rd"
    have hgl : g ≠ l := fun z => by rw [z, upd_same] at hg; cases hg
    refine w_isrng (by omega) (by omega) ?_
    have e0 := (Ex.new (o := .lst xs) hl0).trans (Ex.new (o := .lst []) hg)
    refine for_go walk_rng (fun i σ H' => Ex H H' ∧ ∃ (l g : Addr) (y3 y6 y7 y8 y9 y10 y11 : Option V) (lf fd : List (List Int)) (us vs : List V), σ = [some (.int n), some (.int wide), some (.ref a), y3, some (.ref l), some (.ref g), y6, y7, y8, y9, y10, y11] ∧
        H l = none ∧ H g = none ∧ l ≠ g ∧ H' l = some (.lst us) ∧ H' g = some (.lst vs) ∧ DpAll K H' us (lf.map row) ∧ DpAll K H' vs (fd.map row) ∧ ColI n wide rs i lf fd)
      ⟨e0, l, g, _, _, _, _, _, _, _, rs, [], xs, [], rfl, hl0, by rw [upd_ne hgl] at hg; exact hg, Ne.symm hgl, by rw [upd_ne (Ne.symm hgl)]; exact upd_same, upd_same, e0.dpa hda, .nil, colI_start hrs⟩ (fun _ _ _ _ _ => trivial) (fun i x σ H' H'' hi p y => ?_) (fun σ H' p => ?_)
    · obtain ⟨e, l, g, y3, y6, y7, y8, y9, y10, y11, lf, fd, us, vs, rfl, hl0, hg0, hlg, h1, h2, d1, d2, hcol⟩ := p
      obtain ⟨rfl, rfl⟩ := y
      have hi' : i < wide := by omega
      have hul : us.length = lf.length := by rw [dpa_len d1, List.length_map]
      have hvl : vs.length = fd.length := by rw [dpa_len d2, List.length_map]
      have hlen := hcol.len
      walk_at "rd"
      refine ⟨l, _, rfl, .inl ⟨sqL h1, fun Dl hD => ?_⟩⟩
      refine lc_data (K := K) walk_enum (fun j => !decide ((lf.getD j []).getD i 0 = 0)) (fun j => .int (j : Nat)) (fun _ => rfl) (fun H' e => e.l (sqL h1)) hD (by omega) (fun j x H2 H3 hj e2 y R R0 k k0 => ?_) (fun H2 ws e2 hws hdw => ?_)
      · obtain ⟨t, x1, x2, rfl, ht, rfl, z1, z2⟩ := y
        cases z1
        obtain ⟨r, hr1, hr2⟩ := rowsAt_get d1 z2
        have hri := hcol.inl r (List.mem_of_getElem? hr1)
        obtain ⟨ra, rfl, hra⟩ := dp_row hr2
        walk_at "rd"
        refine ⟨rfl, ?_⟩
        have e3 := e2.trans (Ex.new (o := .tup [.int (j : Nat), .ref ra]) ht)
        have hri2 := hri.1
        walk_at "rd"
        refine w_ixT (e3.t hra) (atI_int (getD_at (i := i) (d := 0) (by omega))) ?_
        walk_at "rd"
        have ek : (lf.getD j []).getD i 0 = r.getD i 0 := by rw [getD_of hr1]
        refine w_decN (fun hz => ?_) (fun hz => ?_)
        · walk_at "rd"
          exact k (by rw [ek, decide_eq_false hz]; rfl) _ _ (Ex.new ht) (.int _)
        · walk_at "rd"
          exact k0 (by rw [ek, decide_eq_true hz]; rfl) _ (Ex.new ht)
      · have h1' := e2 _ _ h1
        have h2' := e2 _ _ h2
        have eH := e.trans e2
        have d1' := e2.dpa d1
        have d2' := e2.dpa d2
        unfold made at hdw
        generalize hfl : (List.range us.length).filter (fun j => !decide ((lf.getD j []).getD i 0 = 0)) = fl at hdw
        have e5 : fl.map (fun j => PyData.int (j : Nat)) = (fl.map fun j => ((j : Nat) : Int)).map PyData.int := by rw [List.map_map]; rfl
        rw [e5] at hdw
        have e6 := dpa_ints_inv hdw
        subst e6
        walk_at "rd"
        refine ⟨Dl, _, rfl, .inl (sqL hws), ?_⟩
        walk_at "rd"
        cases fl with
        | nil =>
          refine w_dec (fun z => absurd z (by simp)) (fun _ => ?_)
          walk_at "rd"
          refine ⟨eH, l, g, _, _, _, _, _, _, _, lf, fd, us, vs, rfl, hl0, hg0, hlg, h1', h2', d1', d2', colI_none hcol fun r hr => ?_⟩
          obtain ⟨j, hj⟩ := List.mem_iff_getElem?.mp hr
          have hjl := (List.getElem?_eq_some_iff.mp hj).1
          have z := List.filter_eq_nil_iff.mp hfl j (List.mem_range.mpr (by omega))
          rw [getD_of hj] at z
          simpa using z
        | cons j0 fl =>
          refine w_dec (fun _ => ?_) (fun z => absurd (by simp) z)
          have hj0 : j0 ∈ (List.range us.length).filter (fun j => !decide ((lf.getD j []).getD i 0 = 0)) := by rw [hfl]; exact List.mem_cons_self
          obtain ⟨hjr, hjk⟩ := List.mem_filter.mp hj0
          have hjl := List.mem_range.mp hjr
          have hju := List.getElem?_eq_getElem hjl
          generalize us[j0] = hv at hju
          obtain ⟨r, hr1, hr2⟩ := rowsAt_get d1' hju
          have hri := hcol.inl r (List.mem_of_getElem? hr1)
          have hri1 := hri.1
          obtain ⟨ra, rfl, hra⟩ := dp_row hr2
          rw [getD_of hr1] at hjk
          have hnz : r.getD i 0 ≠ 0 := by simpa using hjk
          have hrr : 0 ≤ r.getD i 0 ∧ r.getD i 0 < n := hri.2 _ (List.mem_of_getElem? (getD_at (i := i) (d := 0) (by omega)))
          walk_at "rd"
          refine ⟨tyL h1', ?_⟩
          walk_at "rd"
          refine w_ixL (sqL hws) atI_zero ?_
          walk_at "rd"
          refine w_popAt h1' hju (by omega) ?_
          walk_at "rd"
          have tx : Tx H2 (upd H2 l (.lst (us.eraseIdx j0))) := Tx.updL h1'
          have eH3 : Ex H (upd H2 l (.lst (us.eraseIdx j0))) := eH.mut hl0
          have hra3 := tx.t hra
          have d1e : DpAll K (upd H2 l (.lst (us.eraseIdx j0))) (us.eraseIdx j0) ((lf.eraseIdx j0).map row) := by
            rw [erase_map]
            exact dpa_erase j0 (tx.dpa (imm_rows lf) d1')
          have d2e := tx.dpa (imm_rows fd) d2'
          have h2e : upd H2 l (.lst (us.eraseIdx j0)) g = some (.lst vs) := by rw [upd_ne (Ne.symm hlg)]; exact h2'
          have h1e : upd H2 l (.lst (us.eraseIdx j0)) l = some (.lst (us.eraseIdx j0)) := upd_same
          generalize upd H2 l (.lst (us.eraseIdx j0)) = H3 at eH3 hra3 d1e d2e h2e h1e ⊢
          clear tx
          refine w_ixT hra3 (atI_int (getD_at (i := i) (d := 0) (by omega))) ?_
          walk_at "rd"
          refine ⟨n, inst, _, rfl, hc, by omega, by omega, fun t t0 t1 ht => ?_⟩
          walk_at "rd"
          refine ⟨ra, rfl, ⟨_, hra3⟩, fun D2 hD2 => ?_⟩
          refine lc_data (K := K) walk_tup (fun _ => true) (fun j => .int (r.getD j 0 * t % n)) (fun _ => rfl) (fun H' e => e.t hra3) hD2 (by rw [List.length_map]; omega) (fun j x H4 H5 hj e4 y R R0 k _ => ?_) (fun H4 ws e4 hw4 hda4 => ?_)
          · obtain ⟨rfl, hx⟩ := y
            obtain ⟨m, hm, rfl⟩ := ints_at hx
            walk_at "rd"
            refine ⟨rfl, ?_⟩
            walk_at "rd"
            refine k rfl _ _ (Ex.refl _) ?_
            rw [getD_of hm]
            exact .int _
          · walk_at "rd"
            rw [made_all, List.length_map, range_map 0 (fun x => PyData.int (x * t % n))] at hda4
            have e7 : r.map (fun x => PyData.int (x * t % n)) = (iScale n t r).map PyData.int := by
              unfold iScale
              rw [List.map_map]
              refine List.map_congr_left fun x _ => ?_
              show PyData.int _ = PyData.int (t * x % n)
              rw [Int.mul_comm]
            rw [e7] at hda4
            refine ⟨D2, ws, rfl, .inl ⟨sqL hw4, fun ha5 hha5 => ?_⟩⟩
            walk_at "rd"
            have hdh : Dp K (upd H4 ha5 (.tup ws)) (.ref ha5) (row (iScale n t r)) := .tup (sqT upd_same) ((Ex.new hha5).dpa hda4)
            have e45 := e4.trans (Ex.new (o := .tup ws) hha5)
            generalize upd H4 ha5 (.tup ws) = H5 at hdh e45 ⊢
            have hh : (iScale n t r).length = wide := (scale_in (n := n) (c := t) hri.1).1
            generalize hhd : iScale n t r = hd at hdh hh
            have h1f := e45 _ _ h1e
            have h2f := e45 _ _ h2e
            have d1f := e45.dpa d1e
            have d2f := e45.dpa d2e
            have eH5 := eH3.trans e45
            clear e4 hw4 hda4 hha5
            have hle : (lf.eraseIdx j0).length ≤ 1000 := by rw [List.length_eraseIdx_of_lt (by omega)]; omega
            refine ⟨l, rfl, ⟨_, sqL h1f⟩, fun D3 hD3 => ?_⟩
            have turn : ∀ (qs : List (List Int)) (ps : List V) (j : Nat) (x : V) (H6 : Hp) (R : VK) (y3 y4 y5 y6 y7 y8 : Option V), (∀ r ∈ qs, Rin n wide r) → Ex H5 H6 → DpAll K H5 ps (qs.map row) → ps[j]? = some x → (∀ v H3, Ex H6 H3 → Dp K H3 v (row (offI n hd i (qs.getD j []))) → R v H3) →
                tIf (tTest (tOp rNe (tOp (rIxT K) (tVar 10) (tVar 3)) (tC (.int 0)))) (tCall (sp_law_less K) [] C8.E0 (tCons (tVar 0) (tCons (tVar 10) (tCons (tVar 7) (tCons (tOp (rIxT K) (tVar 10) (tVar 3)) tNil))))) (tVar 10)
                  [some (.int n), some (.int wide), some (.ref a), some (.int i), y3, y4, y5, some (.ref ha5), y6, y7, some x, y8] H6 R := by
              intro qs ps j x H6 R y3 y4 y5 y6 y7 y8 hqs e6 hps hx k
              obtain ⟨r6, hr6, hd6⟩ := rowsAt_get hps hx
              have hrin6 := hqs r6 (List.mem_of_getElem? hr6)
              have hl6 := hrin6.1
              obtain ⟨ra6, rfl, hra6⟩ := dp_row hd6
              have hb6 : 0 ≤ r6.getD i 0 ∧ r6.getD i 0 < n := hrin6.2 _ (List.mem_of_getElem? (getD_at (i := i) (d := 0) (by omega)))
              have ix : ∀ {Q : VK}, Q (.int (r6.getD i 0)) H6 → rIxT K (.ref ra6) (.int (i : Nat)) H6 Q := fun {Q} q => w_ixT (e6.t hra6) (atI_int (getD_at (i := i) (d := 0) (by omega))) q
              rw [getD_of hr6] at k
              walk_at "rd"
              refine ix ?_
              walk_at "rd"
              refine w_decN (fun hz => ?_) (fun hz => ?_)
              · walk_at "rd"
                refine ix ?_
                walk_at "rd"
                refine ⟨_, _, _, _, r6, hd, rfl, e6.dp hd6, e6.dp hdh, by omega, by omega, by omega, by omega, fun u H7 e7 hu => k u H7 e7 ?_⟩
                unfold offI
                rw [if_neg hz]
                exact hu
              · walk_at "rd"
                refine k _ _ (Ex.refl _) ?_
                unfold offI
                rw [if_pos hz]
                exact e6.dp hd6
            have hcol' := colI_some (t := t) hcol hi' hr1 ht
            rw [hhd] at hcol'
            refine lc_data (K := K) walk_list (fun _ => true) (fun j => row (offI n hd i ((lf.eraseIdx j0).getD j []))) (fun _ => imm_row _) (fun H' e => e.l (sqL h1f)) hD3 (by rw [dpa_len d1f, List.length_map]; omega) (fun j x H6 H7 hj e6 y R R0 k _ => ?_) (fun H6 ws6 e6 hw6 hda6 => ?_)
            · obtain ⟨rfl, hx⟩ := y
              walk_at "rd"
              refine ⟨rfl, ?_⟩
              refine w_yes (w_T (turn (lf.eraseIdx j0) _ j x _ R _ _ _ _ _ _ (fun r hr => hcol.inl r ((mem_erase_iff hr1 r).mpr (.inr hr))) e6 d1f hx (k rfl)))
            · have hlen6 : (us.eraseIdx j0).length = (lf.eraseIdx j0).length := by rw [dpa_len d1f, List.length_map]
              rw [made_row (offI n hd i) hlen6.symm] at hda6
              walk_at "rd"
              refine ⟨g, rfl, ⟨_, sqL (e6 _ _ h2f)⟩, fun D4 hD4 => ?_⟩
              refine lc_data (K := K) walk_list (fun _ => true) (fun j => row (offI n hd i (fd.getD j []))) (fun _ => imm_row _) (fun H' e => e.l (sqL (e6 _ _ h2f))) hD4 (by omega) (fun j x H7 H8 hj e7 y R R0 k _ => ?_) (fun H7 ws7 e7 hw7 hda7 => ?_)
              · obtain ⟨rfl, hx⟩ := y
                walk_at "rd"
                refine ⟨rfl, ?_⟩
                refine w_yes (w_T (turn fd _ j x _ R _ _ _ _ _ _ hcol.inf (e6.trans e7) d2f hx (k rfl)))
              · rw [made_row (offI n hd i) hvl.symm] at hda7
                walk_at "rd"
                refine w_dispT (by simp) fun D5 hD5 => ?_
                walk_at "rd"
                have hd57 : D4 ≠ D5 := fun z => by rw [z, hD5] at hw7; cases hw7
                refine ⟨D4, D5, _, _, rfl, rfl, by rw [upd_ne hd57]; exact hw7, upd_same, ?_, fun D6 hD6 => ?_⟩
                · refine small2 ?_
                  rw [dpa_len hda7]
                  simp
                  omega
                · walk_at "rd"
                  have e8 : Ex H7 (upd (upd H7 D5 (.lst [.ref ha5])) D6 (.lst (ws7 ++ [.ref ha5]))) := (Ex.new hD5).trans (Ex.new hD6)
                  have eF := (eH5.trans e6).trans (e7.trans e8)
                  have hn4 : ∀ a, H5 a = none → H a = none := fun a h => eH5.fresh h
                  have hD34 : D3 ≠ D6 := fun z => by
                    have z1 := e7 _ _ hw6
                    have z2 := (Ex.new (o := .lst [.ref ha5]) hD5) _ _ z1
                    rw [z, hD6] at z2
                    cases z2
                  refine ⟨eF, D3, D6, _, _, _, _, _, _, _, _, _, _, _, rfl, eH5.fresh hD3, (eH5.trans (e6.trans (e7.trans (Ex.new hD5)))).fresh hD6, hD34, e8 _ _ (e7 _ _ hw6), upd_same, (e7.trans e8).dpa hda6, ?_, hcol'⟩
                  rw [List.map_append]
                  exact dpa_snoc (e8.dpa hda7) ((e6.trans (e7.trans e8)).dp hdh)
    · obtain ⟨e, l, g, y3, y6, y7, y8, y9, y10, y11, lf, fd, us, vs, rfl, hl0, hg0, hlg, h1, h2, d1, d2, hcol⟩ := p
      walk_at "rd"
      refine ⟨g, _, rfl, .inl ⟨sqL h2, fun t ht => ?_⟩⟩
      rw [Int.toNat_natCast] at hcol
      exact q _ _ fd (e.trans (Ex.new ht)) (.tup (sqT upd_same) ((Ex.new ht).dpa d2)) (colI_end hcol)
/-! the object -/
structure StC (K : PySem.W.Frag) (C : Addr) : Prop where
  cl : Cls K C
  nP : NoAttr K C "p"
  nS : NoAttr K C "steps"
  nT : NoAttr K C "taken"
def pf (p : Int) (st tk : Addr) : List (Str × V) := putF "taken" (.ref tk) (putF "steps" (.ref st) (putF "p" (.int p) []))
theorem pf_p {p : Int} {st tk : Addr} : (pf p st tk).lookup ("p" : Str) = some (.int p) := by
  unfold pf
  rw [lookup_putF, if_neg (by decide +kernel), lookup_putF, if_neg (by decide +kernel), lookup_putF, if_pos rfl]
theorem pf_steps {p : Int} {st tk : Addr} : (pf p st tk).lookup ("steps" : Str) = some (.ref st) := by
  unfold pf
  rw [lookup_putF, if_neg (by decide +kernel), lookup_putF, if_pos rfl]
theorem pf_taken {p : Int} {st tk : Addr} : (pf p st tk).lookup ("taken" : Str) = some (.ref tk) := by
  unfold pf
  rw [lookup_putF, if_pos rfl]
theorem pf_no {p : Int} {st tk : Addr} {m : Str} (h1 : ¬ m = "taken") (h2 : ¬ m = "steps") (h3 : ¬ m = "p") : (pf p st tk).lookup m = none := by
  unfold pf
  rw [lookup_putF, if_neg h1, lookup_putF, if_neg h2, lookup_putF, if_neg h3]
  rfl
/-! the ways: a dict of numbers that no answer rests on -/
def WaysAt (n B : Int) (kvs : List (Key × V)) : Prop := ∃ ks : List Int, kvs.map (·.1) = ks.map Sum.inl ∧ ks.Nodup ∧ (∀ k ∈ ks, 0 ≤ k ∧ k < B) ∧ ∀ p ∈ kvs, ∃ x : Int, p.2 = .int x ∧ 0 ≤ x ∧ x < n
theorem waysAt_nil {n B : Int} : WaysAt n B [] := ⟨[], rfl, .nil, fun k h => (nomatch h), fun p h => (nomatch h)⟩
theorem waysAt_len {n B : Int} {kvs : List (Key × V)} (h : WaysAt n B kvs) (hB : 0 ≤ B) : (kvs.length : Int) ≤ B := by
  obtain ⟨ks, e, nd, hk, _⟩ := h
  have e1 : kvs.length = ks.length := by simpa using congrArg List.length e
  have := LA.nodup_le (L := (List.range B.toNat).map fun i => ((i : Nat) : Int)) nd fun k hk' => by
    have := hk k hk'
    exact List.mem_map.mpr ⟨k.toNat, List.mem_range.mpr (by omega), by omega⟩
  rw [List.length_map, List.length_range] at this
  omega
theorem waysAt_put {n B k x : Int} {kvs : List (Key × V)} (h : WaysAt n B kvs) (hk : 0 ≤ k ∧ k < B) (hx : 0 ≤ x ∧ x < n) : WaysAt n B (putK kvs (Sum.inl k) (.int x)) := by
  obtain ⟨ks, e, nd, hks, hvs⟩ := h
  have hany : (kvs.any fun kv => decide (kv.1 = Sum.inl k)) = true ↔ k ∈ ks := by
    rw [List.any_eq_true]
    constructor
    · intro ⟨p, hp, e1⟩
      have hm : p.1 ∈ kvs.map (·.1) := List.mem_map.mpr ⟨p, hp, rfl⟩
      rw [e, of_decide_eq_true e1] at hm
      obtain ⟨k', hk', e2⟩ := List.mem_map.mp hm
      rw [← Sum.inl.inj e2]
      exact hk'
    · intro hk'
      have hm : Sum.inl k ∈ kvs.map (·.1) := by
        rw [e]
        exact List.mem_map.mpr ⟨k, hk', rfl⟩
      obtain ⟨p, hp, e1⟩ := List.mem_map.mp hm
      exact ⟨p, hp, decide_eq_true e1⟩
  unfold putK
  by_cases hm : k ∈ ks
  · rw [if_pos (hany.mpr hm)]
    refine ⟨ks, ?_, nd, hks, fun p hp => ?_⟩
    · rw [List.map_map, ← e]
      refine List.map_congr_left fun p _ => ?_
      show (if p.1 = Sum.inl k then (p.1, V.int x) else p).1 = p.1
      split <;> rfl
    · obtain ⟨p0, h0, rfl⟩ := List.mem_map.mp hp
      by_cases e1 : p0.1 = Sum.inl k
      · rw [if_pos e1]
        exact ⟨x, rfl, hx⟩
      · rw [if_neg e1]
        exact hvs p0 h0
  · rw [if_neg fun z => hm (hany.mp z)]
    refine ⟨ks ++ [k], ?_, List.nodup_append.mpr ⟨nd, by simp, fun a ha b hb e1 => hm (by rw [List.mem_singleton] at hb; rw [← hb, ← e1]; exact ha)⟩, fun j hj => ?_, fun p hp => ?_⟩
    · rw [List.map_append, List.map_append, e]
      rfl
    · rcases List.mem_append.mp hj with z | z
      · exact hks j z
      · rw [List.mem_singleton.mp z]; exact hk
    · rcases List.mem_append.mp hp with z | z
      · exact hvs p z
      · rw [List.mem_singleton.mp z]; exact ⟨x, rfl, hx⟩
theorem waysAt_get {n B : Int} {kvs : List (Key × V)} {k : Key} (h : WaysAt n B kvs) (hn : 0 < n) : ∃ x : Int, (valV kvs k).getD (.int 0) = .int x ∧ 0 ≤ x ∧ x < n := by
  obtain ⟨ks, e, nd, hks, hvs⟩ := h
  unfold valV
  cases g : kvs.find? fun kv => decide (kv.1 = k) with
  | none => exact ⟨0, rfl, by omega, hn⟩
  | some p =>
    obtain ⟨x, h1, h2⟩ := hvs p (List.mem_of_find?_eq_some g)
    exact ⟨x, h1, h2⟩
theorem waysAt_at {n B : Int} {kvs : List (Key × V)} {i : Nat} {p : Key × V} (h : WaysAt n B kvs) (hp : kvs[i]? = some p) : ∃ k x : Int, p = (Sum.inl k, .int x) ∧ (0 ≤ k ∧ k < B) ∧ 0 ≤ x ∧ x < n := by
  obtain ⟨ks, e, nd, hks, hvs⟩ := h
  obtain ⟨x, h1, h2⟩ := hvs p (List.mem_of_getElem? hp)
  have hm : p.1 ∈ kvs.map (·.1) := List.mem_map.mpr ⟨p, List.mem_of_getElem? hp, rfl⟩
  rw [e] at hm
  obtain ⟨k, hk, e2⟩ := List.mem_map.mp hm
  exact ⟨k, x, Prod.ext e2.symm h1, hks k hk, h2⟩
/-! Stairs.__init__(p) -/
def sp_st_init (C : Addr) : Sp := fun vs H Q _ => ∃ (s dx : Addr) (p : Int), vs = [.ref s, .int p] ∧ H s = some (.ins C dx []) ∧ ∀ (st tk : Addr) (H' : Hp), H st = none → H tk = none → st ≠ tk → (∀ a, a ≠ s → ∀ o, H a = some o → H' a = some o) → H' s = some (.ins C dx (pf p st tk)) → H' st = some (.lst []) → H' tk = some (.lst []) → Q .non H'
theorem ok_st_init {C f : Addr} {fd : FuncData} (M : Mk K C f) (hm : mg "Stairs" = some (.ref C)) (F : C8.Fun K "__init__" "Stairs.__init__" s_Stairs_init f fd) (b : Binds K fd ["self", "p"] []) (T : StC K C) : C8.Mak P w K mg base 1 "Stairs" C (sp_st_init C) [] := by
  refine C8.mak0 M hm F b .nil sc_Stairs_init (fun vs H Q E h => ?_) (fun cdv A outer s H vs Q E hr h => ?_)
  · obtain ⟨s, dx, p, rfl, _⟩ := h
    rfl
  · obtain ⟨s, dx, p, rfl, hs, q⟩ := h
    refine ⟨_, (pss_cons (ps_fld (pv 0) (pv 1) rfl)
      (pss_cons (ps_fld (pv 0) (pe_lst pa_nil) rfl)
      (pss_one (ps_fld (pv 0) (pe_lst pa_nil) rfl)))), ?_⟩
    refine w_start (σ' := [some (.ref s), some (.int p)]) rfl ?_
    walk_at "rd"
    refine ⟨s, C, dx, [], rfl, hs, T.cl, T.nP, by decide, ?_⟩
    walk_at "rd"
    refine w_dispT (by simp) fun st hst => ?_
    walk_at "rd"
    have hs1 : s ≠ st := fun z => by rw [z, upd_same] at hst; cases hst
    refine ⟨s, C, dx, _, rfl, by rw [upd_ne hs1]; exact upd_same, T.cl, T.nS, Nat.lt_of_le_of_lt (length_putF _ _ _) (by decide), ?_⟩
    walk_at "rd"
    refine w_dispT (by simp) fun tk htk => ?_
    walk_at "rd"
    have hs2 : s ≠ tk := fun z => by rw [z, upd_same] at htk; cases htk
    have hst2 : st ≠ tk := fun z => by rw [z, upd_ne (Ne.symm (z ▸ hs1)), upd_same] at htk; cases htk
    refine ⟨s, C, dx, _, rfl, by rw [upd_ne hs2]; exact upd_same, T.cl, T.nT, Nat.lt_of_le_of_lt (length_putF _ _ _) (Nat.lt_of_le_of_lt (Nat.add_le_add_right (length_putF _ _ _) 1) (by decide)), ?_⟩
    have hst0 : H st = none := by rw [upd_ne (Ne.symm hs1)] at hst; exact hst
    have htk0 : H tk = none := by
      rw [upd_ne (Ne.symm hs2), upd_ne (Ne.symm hst2), upd_ne (Ne.symm hs2)] at htk
      exact htk
    refine q st tk _ hst0 htk0 hst2 (fun a ha o ho => ?_) upd_same ?_ ?_
    · rw [upd_ne ha, upd_ne (ne_of_none ho htk0), upd_ne ha, upd_ne (ne_of_none ho hst0), upd_ne ha]
      exact ho
    · rw [upd_ne (Ne.symm hs1), upd_ne hst2, upd_ne (Ne.symm hs1)]
      exact upd_same
    · rw [upd_ne (Ne.symm hs2)]
      exact upd_same
/-! data that is its own like -/
theorem lay_ints : ∀ ns : List Int, PyData.canLayAll0 (ns.map .int) = true
  | [] => rfl
  | n :: ns => by
    show (PyData.canLay0 (.int n) && PyData.canLayAll0 (ns.map .int)) = true
    rw [lay_ints ns]
    rfl
theorem lay_list : ∀ ds : List D, (∀ d ∈ ds, ∃ r : List Int, d = row r) → PyData.canLayAll0 ds = true
  | [], _ => rfl
  | d :: ds, h => by
    obtain ⟨r, rfl⟩ := h d List.mem_cons_self
    show (PyData.canLayAll0 (r.map .int) && PyData.canLayAll0 ds) = true
    rw [lay_ints, lay_list ds fun d hd => h d (List.mem_cons_of_mem _ hd)]
    rfl
theorem depth_list : ∀ ds : List D, (∀ d ∈ ds, ∃ r : List Int, d = row r) → PyData.depthAll ds ≤ 1
  | [], _ => Nat.zero_le _
  | d :: ds, h => by
    obtain ⟨r, rfl⟩ := h d List.mem_cons_self
    have := depth_list ds fun d hd => h d (List.mem_cons_of_mem _ hd)
    show max (PyData.depthAll (r.map .int) + 1) (PyData.depthAll ds) ≤ 1
    rw [PySem.W.depth_ints]
    omega
theorem ne_list {H : Hp} {Q : VK} {x y : V} {ds : List D} (hx : Dp K H x (.list ds)) (hy : Dp K H y (.list ds)) (h : ∀ d ∈ ds, ∃ r : List Int, d = row r) (q : Q (.bl false) H) : rNeD K x y H Q := by
  have hl : PyData.canLay0 (.list ds) = true := lay_list ds h
  have hd : (PyData.list ds).depth ≤ 64 := by
    have := depth_list ds h
    show PyData.depthAll ds + 1 ≤ 64
    omega
  have hs : SeqAt.shaped (.list ds) = true := by
    unfold SeqAt.shaped
    rw [hl, decide_eq_true hd]
    rfl
  refine ⟨_, _, hx, hy, hs, hs, ?_⟩
  rw [SeqAt.eqv_refl _ hl]
  exact q
theorem rows_are (rs : List (List Int)) : ∀ d ∈ rs.map row, ∃ r : List Int, d = row r := fun d hd => by
  obtain ⟨r, _, rfl⟩ := List.mem_map.mp hd
  exact ⟨r, rfl⟩
/-! the clocks that are drawn -/
theorem clock_ok {p : Int} (h : p ∈ clocks) : ∃ n : Nat, p = n ∧ clockB (.int n) = true ∧ n ≤ 1000000 := by
  simp only [clocks, List.mem_cons, List.not_mem_nil, or_false] at h
  rcases h with rfl | rfl | rfl | rfl | rfl | rfl | rfl | rfl
  · exact ⟨2, rfl, by decide +kernel, by decide⟩
  · exact ⟨3, rfl, by decide +kernel, by decide⟩
  · exact ⟨5, rfl, by decide +kernel, by decide⟩
  · exact ⟨7, rfl, by decide +kernel, by decide⟩
  · exact ⟨2, rfl, by decide +kernel, by decide⟩
  · exact ⟨11, rfl, by decide +kernel, by decide⟩
  · exact ⟨101, rfl, by decide +kernel, by decide⟩
  · exact ⟨999983, rfl, by decide +kernel, by decide⟩
theorem wee_rows {rs : List (List Int)} {wide : Nat} (h1 : rs.length ≤ 1000000) (h2 : ∀ r ∈ rs, r.length ≤ 1000000) : wee 2 (rowsT rs) := by
  refine .inr ⟨rs.map row, .inl rfl, by rw [List.length_map]; exact h1, fun d hd => ?_⟩
  obtain ⟨r, hr, rfl⟩ := List.mem_map.mp hd
  refine .inr ⟨r.map PyData.int, .inl rfl, by rw [List.length_map]; exact h2 r hr, fun x hx => ?_⟩
  obtain ⟨i, _, rfl⟩ := List.mem_map.mp hx
  exact .inr (.inr ⟨i, rfl⟩)
theorem wee_bool (b : Bool) : wee 2 (.bool b) := .inl (.inr (.inl ⟨b, rfl⟩))
theorem wee_int (i : Int) : wee 2 (.int i) := .inl (.inr (.inr ⟨i, rfl⟩))
end TK

namespace TK
open PySem PySem.Spec PyProof.Rows L2 TH
local macro_rules | `(tactic| walk_at "rd1") => `(tactic| first
  | (with_reducible refine TH.w_seq ?_)
  | (with_reducible refine TH.w_asg ?_)
  | (with_reducible refine TH.w_ret ?_)
  | (with_reducible refine TH.w_drop ?_)
  | (with_reducible refine TH.w_ifS ?_)
  | (with_reducible refine TH.w_next ?_)
  | ((with_reducible refine TH.w_var (v := ?vv) ?hv ?_); (case hv => rfl))
  | (with_reducible refine TH.w_c ?_)
  | ((with_reducible refine TH.w_gname (σ' := ?ss) ?hs ?_); (case hs => (dsimp only [List.set]; rfl)))
  | (with_reducible refine TH.w_op ?_)
  | (with_reducible refine TH.w_un ?_)
  | (with_reducible refine TH.w_chain ?_)
  | (with_reducible refine TH.w_I0 ?_)
  | ((with_reducible refine TH.w_I ?hm ?_); (case hm => first | (exact TH.CMul.l (by omega) (by omega)) | (exact TH.CMul.r (by omega) (by omega)) | (exact TH.CDiv.mk (by omega) (by omega)) | (show (0 : Int) < _; omega) | (exact TH.CPow.mk (by omega) (by omega) (by decide))))
  | (with_reducible refine TH.w_U ?_)
  | (with_reducible refine TH.w_eqI ?_)
  | (with_reducible refine TH.w_neI ?_)
  | (with_reducible refine TH.w_eqB ?_)
  | (with_reducible refine TH.w_isN ?_)
  | (with_reducible refine TH.w_nil ?_)
  | (with_reducible refine TH.w_cons ?_)
  | (with_reducible refine TH.w_test ?_)
  | (with_reducible refine TH.w_B ?_)
  | (with_reducible refine TH.w_bl ?_)
  | (with_reducible refine TH.w_and ?_)
  | (with_reducible refine TH.w_or ?_)
  | (with_reducible refine TH.w_not ?_)
  | (with_reducible refine TH.w_andV ?_)
  | (with_reducible refine TH.w_orV ?_)
  | (with_reducible refine TH.w_notV ?_)
  | (with_reducible refine TH.w_if ?_)
  | (with_reducible refine TH.w_parT ?_)
  | (with_reducible refine TH.w_par ?_)
  | (with_reducible refine TH.w_parT3 ?_)
  | (with_reducible refine TH.w_par3 ?_)
  | (with_reducible refine TH.w_cb ?_)
  | (with_reducible refine TH.w_call ?_)
  | ((with_reducible refine TH.w_aug (v := ?vv) ?hv ?_); (case hv => rfl))
  | (with_reducible refine TH.w_ip ?_)
  | (with_reducible refine TH.w_bm ?_)
  | (with_reducible refine TH.w_sl ?_)
  | (with_reducible refine TH.w_np ?_)
  | (with_reducible refine TH.w_pt ?_)
  | (with_reducible refine TH.w_pti ?_)
  | (with_reducible refine TH.w_gsub ?_)
  | (with_reducible refine TH.w_int ?_)
  | (with_reducible refine TH.w_tupT ?_)
  | (with_reducible refine TH.w_lstT ?_)
  | ((with_reducible show L2.rIxL _ _ _ _ _); (first | (refine TH.w_ixL (TH.sqL upd_same) rfl ?_) | (refine TH.w_ixL (TH.sqL (by assumption)) rfl ?_)))
  | ((with_reducible show L2.rSetL _ _ _ _ _); (first | (refine TH.w_set1 upd_same ?_) | (refine TH.w_set2 upd_same ?_) | (refine TH.w_set3 upd_same ?_) | (refine TH.w_set4 upd_same ?_) | (refine TH.w_set1 (by assumption) ?_) | (refine TH.w_set2 (by assumption) ?_) | (refine TH.w_set3 (by assumption) ?_) | (refine TH.w_set4 (by assumption) ?_)))
  | (with_reducible refine TH.w_lc ?_)
  | (with_reducible refine TH.w_dc ?_)
  | (with_reducible refine TH.w_itup ?_)
  | (with_reducible refine TH.w_ilist ?_)
  | (with_reducible refine TH.w_ienum ?_)
  | (with_reducible refine TH.w_izip ?_)
  | (with_reducible refine TH.w_irng1 ?_)
  | (with_reducible refine TH.w_irng2 ?_)
  | (with_reducible refine TH.w_for ?_)
  | (with_reducible refine TH.w_gcons ?_)
  | (with_reducible refine TH.w_gnil ?_)
  | (with_reducible refine TH.w_yes ?_)
  | (with_reducible refine TH.w_gtup2 upd_same ?_)
  | (with_reducible refine TH.w_gtup3 upd_same ?_)
  | (with_reducible refine TH.w_dput ?_)
  | (with_reducible refine TH.w_bm0 ?_)
  | (with_reducible refine TH.w_din ?_)
  | (with_reducible refine TH.w_dnotin ?_)
  | (with_reducible refine TH.w_dispK ?_)
  | (with_reducible refine TH.w_lock ?_)
  | (with_reducible refine TH.w_ikeys ?_)
  | (with_reducible refine TH.w_iitems ?_)
  | (with_reducible refine TH.w_dispT1 ?_)
  | (with_reducible refine TH.w_dnewT ?_)
  | (with_reducible refine TH.w_dnewK ?_)
  | (with_reducible refine TH.w_fld ?_)
  | (with_reducible refine TH.w_sfld ?_)
  | (with_reducible refine TH.w_meth ?_)
  | (with_reducible refine TH.w_make ?_)
  | (with_reducible refine TH.w_dget2 ?_)
  | (with_reducible refine TH.w_revL ?_)
  | (with_reducible refine TH.w_revT ?_)
  | (with_reducible refine TH.w_lstRg ?_)
  | (with_reducible refine TH.w_tupRg ?_)
  | (with_reducible refine TH.w_rg1 ?_)
  | (with_reducible refine TH.w_rg2 ?_)
  | (with_reducible refine TH.w_T ?_)
  | (with_reducible refine TH.w_F ?_))
local macro_rules | `(tactic| walk_at "rd") => `(tactic| repeat (first | walk_at "rd1" | (dsimp only [List.set, L2.wipe, List.map, TH.isInt, TH.isBool, TH.isTup, TH.isLst, TH.bo_f, TH.bo_t, TH.ba_f, TH.ba_t, TH.bn_t, TH.bn_f, List.append_nil, List.cons_append, List.nil_append])))

variable {P : Program} {w : World} {K : PySem.W.Frag} {mg : Str → Option Value} {base : Heap}
/-! ### congruent, mixtures -/
def Cg (n a b : Int) : Prop := n ∣ a - b
theorem Cg.refl (n a : Int) : Cg n a a := ⟨0, by omega⟩
theorem Cg.of {n a b : Int} (h : a = b) : Cg n a b := h ▸ Cg.refl n a
theorem Cg.symm {n a b : Int} (h : Cg n a b) : Cg n b a := by
  obtain ⟨k, h⟩ := h
  exact ⟨-k, by rw [Int.mul_neg]; omega⟩
theorem Cg.trans {n a b c : Int} (h : Cg n a b) (g : Cg n b c) : Cg n a c := by
  have := Int.dvd_add h g
  rwa [show a - b + (b - c) = a - c by omega] at this
theorem Cg.add {n a b c d : Int} (h : Cg n a b) (g : Cg n c d) : Cg n (a + c) (b + d) := by
  have := Int.dvd_add h g
  rwa [show a - b + (c - d) = a + c - (b + d) by omega] at this
theorem Cg.sub {n a b c d : Int} (h : Cg n a b) (g : Cg n c d) : Cg n (a - c) (b - d) := by
  have := Int.dvd_sub h g
  rwa [show a - b - (c - d) = a - c - (b - d) by omega] at this
theorem Cg.mul {n a b : Int} (c : Int) (h : Cg n a b) : Cg n (c * a) (c * b) := by
  obtain ⟨k, h⟩ := h
  exact ⟨c * k, by rw [← Int.mul_sub, h, Int.mul_left_comm]⟩
theorem Cg.mod (n a : Int) : Cg n (a % n) a := ⟨-(a / n), by
  have := Int.emod_add_mul_ediv a n
  rw [Int.mul_neg]
  omega⟩
theorem Cg.iff {n a b : Int} : Cg n a b ↔ a % n = b % n := ⟨fun h => Int.emod_eq_emod_iff_emod_sub_eq_zero.mpr (Int.emod_eq_zero_of_dvd h), fun h => Int.dvd_of_emod_eq_zero (Int.emod_eq_emod_iff_emod_sub_eq_zero.mp h)⟩
def cfK (kvs : List (Key × V)) (k : Nat) : Int := match valV kvs (Sum.inl (k : Int)) with
  | some (.int x) => x
  | _ => 0
def mixZ (co : Nat → Int) (rs : List (List Int)) (j : Nat) : Int := ((List.range rs.length).map fun k => co k * (rs.getD k []).getD j 0).sum
theorem sum_lin {n : Int} {f g h : Nat → Int} {c : Int} : ∀ xs : List Nat, (∀ k ∈ xs, Cg n (f k) (g k + c * h k)) → Cg n (xs.map f).sum ((xs.map g).sum + c * (xs.map h).sum)
  | [], _ => .of (by simp)
  | x :: xs, H => by
    have ih := sum_lin (f := f) (g := g) (h := h) (c := c) xs fun k hk => H k (List.mem_cons_of_mem _ hk)
    rw [List.map_cons, List.sum_cons, List.map_cons, List.sum_cons, List.map_cons, List.sum_cons, Int.mul_add]
    have := (H x List.mem_cons_self).add ih
    rwa [show g x + c * h x + ((xs.map g).sum + c * (xs.map h).sum) = g x + (xs.map g).sum + (c * h x + c * (xs.map h).sum) by omega] at this
theorem mix_lin {n c : Int} {f g h : Nat → Int} {rs : List (List Int)} {j : Nat} (H : ∀ k, k < rs.length → Cg n (f k) (g k + c * h k)) : Cg n (mixZ f rs j) (mixZ g rs j + c * mixZ h rs j) := by
  refine sum_lin _ fun k hk => ?_
  have := (H k (List.mem_range.mp hk)).mul ((rs.getD k []).getD j 0)
  rw [Int.mul_add] at this
  rw [Int.mul_comm (f k), Int.mul_comm (g k), Int.mul_comm (h k), Int.mul_left_comm c]
  exact this
theorem mix_eq {n : Int} {f g : Nat → Int} {rs : List (List Int)} {j : Nat} (H : ∀ k, k < rs.length → Cg n (f k) (g k)) : Cg n (mixZ f rs j) (mixZ g rs j) := by
  have := mix_lin (n := n) (c := 0) (f := f) (g := g) (h := fun _ => 0) (rs := rs) (j := j) fun k hk => by rw [Int.zero_mul, Int.add_zero]; exact H k hk
  rwa [Int.zero_mul, Int.add_zero] at this
/-- one row, taken once -/
theorem sum_one {i : Nat} {f : Nat → Int} : ∀ m : Nat, (∀ k, k ≠ i → f k = 0) → ((List.range m).map f).sum = if i < m then f i else 0
  | 0, _ => rfl
  | m + 1, h => by
    rw [List.range_succ, List.map_append, List.sum_append, sum_one m h]
    show _ + (f m + 0) = _
    by_cases e : m = i
    · subst e
      rw [if_neg (Nat.lt_irrefl _), if_pos (Nat.lt_succ_self _)]
      omega
    · rw [h m e]
      by_cases h1 : i < m
      · rw [if_pos h1, if_pos (by omega)]
        omega
      · rw [if_neg h1, if_neg (by omega)]
        omega
theorem mix_one {rs : List (List Int)} {i : Nat} {r : List Int} {t : Int} {j : Nat} (h : rs[i]? = some r) : mixZ (fun k => if k = i then t else 0) rs j = t * r.getD j 0 := by
  unfold mixZ
  rw [sum_one (i := i) (f := fun k => (if k = i then t else 0) * (rs.getD k []).getD j 0) rs.length fun k hk => by
    show (if k = i then t else 0) * _ = 0
    rw [if_neg hk, Int.zero_mul], if_pos (List.getElem?_eq_some_iff.mp h).1, if_pos rfl, getD_of h]
def Mixes (n : Int) (rs : List (List Int)) (kvs : List (Key × V)) (row : List Int) : Prop := ∀ j, Cg n (row.getD j 0) (mixZ (cfK kvs) rs j)
theorem waysAt_mono {n B B' : Int} {kvs : List (Key × V)} (h : WaysAt n B kvs) (hB : B ≤ B') : WaysAt n B' kvs := by
  obtain ⟨ks, h1, h2, h3, h4⟩ := h
  exact ⟨ks, h1, h2, fun k hk => ⟨(h3 k hk).1, by have := (h3 k hk).2; omega⟩, h4⟩
theorem cfK_get {n B : Int} {kvs : List (Key × V)} {k : Nat} (h : WaysAt n B kvs) : (valV kvs (Sum.inl (k : Int))).getD (.int 0) = .int (cfK kvs k) := by
  obtain ⟨ks, e, nd, hks, hvs⟩ := h
  unfold cfK valV
  cases g : kvs.find? fun kv => decide (kv.1 = Sum.inl (k : Int)) with
  | none => rfl
  | some p =>
    obtain ⟨x, h1, h2⟩ := hvs p (List.mem_of_find?_eq_some g)
    show p.2 = .int (match some p.2 with | some (.int x) => x | _ => 0)
    rw [h1]
theorem cfK_put (kvs : List (Key × V)) (i k : Nat) (x : Int) : cfK (putK kvs (Sum.inl (i : Int)) (.int x)) k = if k = i then x else cfK kvs k := by
  unfold cfK
  rw [valV_put]
  by_cases h : k = i
  · subst h
    rw [if_pos rfl, if_pos rfl]
  · have : ¬ (Sum.inl (k : Int) : Key) = Sum.inl (i : Int) := fun z => h (by injection z with z; omega)
    rw [if_neg this, if_neg h]
theorem cfK_nil (k : Nat) : cfK [] k = 0 := rfl
/-- a key that is at or over the bound -/
theorem cfK_over {n B : Int} {kvs : List (Key × V)} {k : Nat} (h : WaysAt n B kvs) (hk : B ≤ (k : Int)) : cfK kvs k = 0 := by
  obtain ⟨ks, e, nd, hks, hvs⟩ := h
  unfold cfK valV
  cases g : kvs.find? fun kv => decide (kv.1 = Sum.inl (k : Int)) with
  | none => rfl
  | some p =>
    exfalso
    have hm : p.1 ∈ kvs.map (·.1) := List.mem_map.mpr ⟨p, List.mem_of_find?_eq_some g, rfl⟩
    rw [e] at hm
    obtain ⟨k', hk', e2⟩ := List.mem_map.mp hm
    have hp0 := List.find?_some g
    have hp : p.1 = Sum.inl (k : Int) := by simpa using hp0
    rw [hp] at e2
    have := hks k' hk'
    injection e2 with e2
    omega
theorem nodup_at' {α : Type} {xs : List α} {i j : Nat} {x : α} (h : xs.Nodup) (hi : xs[i]? = some x) (hj : xs[j]? = some x) : i = j := by
  obtain ⟨h1, h2⟩ := List.getElem?_eq_some_iff.mp hi
  obtain ⟨h3, h4⟩ := List.getElem?_eq_some_iff.mp hj
  exact (List.getElem_inj h).mp (h2.trans h4.symm)
def nz (l : List Nat) : List Int := l.map fun x : Nat => (x : Int)
/-- the first j of the pairs -/
theorem cfK_take {n B : Int} {kvs : List (Key × V)} {j i : Nat} {x : Int} (h : WaysAt n B kvs) (hj : kvs[j]? = some (Sum.inl (i : Int), .int x)) (k : Nat) : cfK (kvs.take (j + 1)) k = if k = i then x else cfK (kvs.take j) k := by
  obtain ⟨ks, e, nd, hks, hvs⟩ := h
  have hno : ∀ p ∈ kvs.take j, p.1 ≠ Sum.inl (i : Int) := fun p hp z => by
    have e1 : (kvs.take j).map (·.1) = (ks.take j).map Sum.inl := by rw [List.map_take, e, List.map_take]
    have hm : p.1 ∈ (kvs.take j).map (·.1) := List.mem_map.mpr ⟨p, hp, rfl⟩
    rw [e1, z] at hm
    obtain ⟨k', hk', e2⟩ := List.mem_map.mp hm
    injection e2 with e2
    have hkj : ks[j]? = some (i : Int) := by
      have := congrArg (fun l => l[j]?) e
      simp only [List.getElem?_map, hj, Option.map_some] at this
      cases hh : ks[j]? with
      | none => rw [hh] at this; cases this
      | some y =>
        rw [hh] at this
        injection this with this
        injection this with this
        rw [this]
    obtain ⟨m, hm1, hm2⟩ := List.mem_iff_getElem.mp hk'
    rw [List.length_take] at hm1
    rw [List.getElem_take] at hm2
    have h1 : ks[m]? = some (i : Int) := by rw [List.getElem?_eq_getElem (by omega), hm2, e2]
    have := nodup_at' nd h1 hkj
    omega
  unfold cfK
  have ev : valV (kvs.take (j + 1)) (Sum.inl (k : Int)) = if k = i then some (.int x) else valV (kvs.take j) (Sum.inl (k : Int)) := by
    rw [List.take_add_one, hj]
    unfold valV
    rw [List.find?_append]
    by_cases hk : k = i
    · subst hk
      rw [if_pos rfl]
      have : (kvs.take j).find? (fun kv => decide (kv.1 = Sum.inl (k : Int))) = none := List.find?_eq_none.mpr fun p hp => by simpa using hno p hp
      rw [this]
      simp
    · rw [if_neg hk]
      have h2 : ¬ (Sum.inl (i : Int) : Key) = Sum.inl (k : Int) := fun z => hk (by injection z with z; omega)
      have : [((Sum.inl (i : Int) : Key), V.int x)].find? (fun kv => decide (kv.1 = Sum.inl (k : Int))) = none := List.find?_eq_none.mpr fun p hp => by
        rw [List.mem_singleton.mp hp]
        simpa using h2
      show ((List.find? _ (kvs.take j)).or ([((Sum.inl (i : Int) : Key), V.int x)].find? _)).map _ = _
      rw [this, Option.or_none]
  rw [ev]
  by_cases hk : k = i
  · rw [if_pos hk, if_pos hk]
  · rw [if_neg hk, if_neg hk]
theorem iSub_at {n : Int} {r o : List Int} {c : Int} (h : r.length = o.length) (j : Nat) : (iSub n r o c).getD j 0 = (r.getD j 0 - c * o.getD j 0) % n := by
  unfold iSub
  rw [List.getD_eq_getElem?_getD, List.getD_eq_getElem?_getD, List.getD_eq_getElem?_getD, List.getElem?_zipWith]
  by_cases hj : j < r.length
  · rw [List.getElem?_eq_getElem hj, List.getElem?_eq_getElem (by omega)]
    rfl
  · rw [List.getElem?_eq_none (by omega), List.getElem?_eq_none (by omega)]
    simp
theorem iScale_at {n c : Int} {r : List Int} (j : Nat) : (iScale n c r).getD j 0 = (c * r.getD j 0) % n := by
  unfold iScale
  rw [List.getD_eq_getElem?_getD, List.getD_eq_getElem?_getD, List.getElem?_map]
  cases r[j]? with
  | none => simp
  | some x => rfl
/-! the steps -/
def StepAt (K : PySem.W.Frag) (H : Hp) (n B : Int) (rs : List (List Int)) (v : V) (a : Nat × List Int) : Prop := ∃ (t b d : Addr) (kvs : List (Key × V)), v = .ref t ∧ H t = some (.tup [.int (a.1 : Nat), .ref b, .ref d]) ∧ Dp K H (.ref b) (row a.2) ∧ H d = some (.dK kvs) ∧ WaysAt n B kvs ∧ Mixes n rs kvs a.2
def StepsAt (K : PySem.W.Frag) (H : Hp) (n B : Int) (rs : List (List Int)) (us : List V) (S : List (Nat × List Int)) : Prop := us.length = S.length ∧ ∀ (i : Nat) (v : V), us[i]? = some v → ∃ a, S[i]? = some a ∧ StepAt K H n B rs v a
theorem StepAt.ex {H H' : Hp} {n B : Int} {rs : List (List Int)} {v : V} {a : Nat × List Int} (h : StepAt K H n B rs v a) (e : Ex H H') : StepAt K H' n B rs v a := by
  obtain ⟨t, b, d, kvs, rfl, h1, h2, h3, h4⟩ := h
  exact ⟨t, b, d, kvs, rfl, e _ _ h1, e.dp h2, e _ _ h3, h4⟩
theorem StepsAt.ex {H H' : Hp} {n B : Int} {rs : List (List Int)} {us : List V} {S : List (Nat × List Int)} (h : StepsAt K H n B rs us S) (e : Ex H H') : StepsAt K H' n B rs us S := ⟨h.1, fun i v hv => by
  obtain ⟨a, h1, h2⟩ := h.2 i v hv
  exact ⟨a, h1, h2.ex e⟩⟩
/-- a list is written: the steps stand -/
theorem StepAt.wr {H : Hp} {n B : Int} {rs : List (List Int)} {v : V} {a : Nat × List Int} {l : Addr} {xs ys : List V} (h : StepAt K H n B rs v a) (hl : H l = some (.lst xs)) : StepAt K (upd H l (.lst ys)) n B rs v a := by
  obtain ⟨t, b, d, kvs, rfl, h1, h2, h3, h4⟩ := h
  exact ⟨t, b, d, kvs, rfl, by rw [upd_ne fun z => by rw [z, hl] at h1; cases h1]; exact h1, (Tx.updL hl).dp (imm_row _) h2, by rw [upd_ne fun z => by rw [z, hl] at h3; cases h3]; exact h3, h4⟩
theorem StepsAt.wr {H : Hp} {n B : Int} {rs : List (List Int)} {us : List V} {S : List (Nat × List Int)} {l : Addr} {xs ys : List V} (h : StepsAt K H n B rs us S) (hl : H l = some (.lst xs)) : StepsAt K (upd H l (.lst ys)) n B rs us S := ⟨h.1, fun i v hv => by
  obtain ⟨a, h1, h2⟩ := h.2 i v hv
  exact ⟨a, h1, h2.wr hl⟩⟩
theorem StepsAt.snoc {H : Hp} {n B : Int} {rs : List (List Int)} {us : List V} {S : List (Nat × List Int)} {v : V} {a : Nat × List Int} (h : StepsAt K H n B rs us S) (g : StepAt K H n B rs v a) : StepsAt K H n B rs (us ++ [v]) (S ++ [a]) := ⟨by rw [List.length_append, List.length_append, h.1]; rfl, fun i x hx => by
  rcases Nat.lt_or_ge i us.length with z | z
  · rw [List.getElem?_append_left z] at hx
    obtain ⟨a', h1, h2⟩ := h.2 i x hx
    exact ⟨a', by rw [List.getElem?_append_left (by rw [← h.1]; exact z)]; exact h1, h2⟩
  · rw [List.getElem?_append_right z] at hx
    have z2 : i - us.length = 0 := by
      refine Decidable.byContradiction fun z3 => ?_
      rw [List.getElem?_eq_none (by simp; omega)] at hx
      cases hx
    rw [z2] at hx
    cases hx
    refine ⟨a, ?_, g⟩
    rw [List.getElem?_append_right (by rw [← h.1]; exact z), ← h.1, z2]
    rfl⟩
/-- stairs at s -/
structure StairsAt (K : PySem.W.Frag) (C : Addr) (H : Hp) (s st tk : Addr) (n B : Int) (rs : List (List Int)) (us : List V) (S : List (Nat × List Int)) (ts : List Nat) : Prop where
  obj : ∃ dx, H s = some (.ins C dx (pf n st tk))
  steps : H st = some (.lst us)
  taken : H tk = some (.lst ((nz ts).map V.int)) ∧ ts.length = S.length
  at' : StepsAt K H n B rs us S
theorem StairsAt.ex {C : Addr} {H H' : Hp} {s st tk : Addr} {n B : Int} {rs : List (List Int)} {us : List V} {S : List (Nat × List Int)} {ts : List Nat} (h : StairsAt K C H s st tk n B rs us S ts) (e : Ex H H') : StairsAt K C H' s st tk n B rs us S ts := by
  obtain ⟨⟨dx, h1⟩, h2, ⟨h3, h4⟩, h5⟩ := h
  exact ⟨⟨dx, e _ _ h1⟩, e _ _ h2, ⟨e _ _ h3, h4⟩, h5.ex e⟩
theorem StepsAt.mono {H : Hp} {n B B' : Int} {rs : List (List Int)} {us : List V} {S : List (Nat × List Int)} (h : StepsAt K H n B rs us S) (hB : B ≤ B') : StepsAt K H n B' rs us S := ⟨h.1, fun i v hv => by
  obtain ⟨a, h1, t, b, d, kvs, h2, h3, h4, h5, h6, h7⟩ := h.2 i v hv
  exact ⟨a, h1, t, b, d, kvs, h2, h3, h4, h5, waysAt_mono h6 hB, h7⟩⟩
end TK

namespace TK
open PySem PySem.Spec PyProof.Rows L2 TH
local macro_rules | `(tactic| walk_at "rd1") => `(tactic| first
  | (with_reducible refine TH.w_seq ?_)
  | (with_reducible refine TH.w_asg ?_)
  | (with_reducible refine TH.w_ret ?_)
  | (with_reducible refine TH.w_drop ?_)
  | (with_reducible refine TH.w_ifS ?_)
  | (with_reducible refine TH.w_next ?_)
  | ((with_reducible refine TH.w_var (v := ?vv) ?hv ?_); (case hv => rfl))
  | (with_reducible refine TH.w_c ?_)
  | ((with_reducible refine TH.w_gname (σ' := ?ss) ?hs ?_); (case hs => (dsimp only [List.set]; rfl)))
  | (with_reducible refine TH.w_op ?_)
  | (with_reducible refine TH.w_un ?_)
  | (with_reducible refine TH.w_chain ?_)
  | (with_reducible refine TH.w_I0 ?_)
  | ((with_reducible refine TH.w_I ?hm ?_); (case hm => first | (exact TH.CMul.l (by omega) (by omega)) | (exact TH.CMul.r (by omega) (by omega)) | (exact TH.CDiv.mk (by omega) (by omega)) | (show (0 : Int) < _; omega) | (exact TH.CPow.mk (by omega) (by omega) (by decide))))
  | (with_reducible refine TH.w_U ?_)
  | (with_reducible refine TH.w_eqI ?_)
  | (with_reducible refine TH.w_neI ?_)
  | (with_reducible refine TH.w_eqB ?_)
  | (with_reducible refine TH.w_isN ?_)
  | (with_reducible refine TH.w_nil ?_)
  | (with_reducible refine TH.w_cons ?_)
  | (with_reducible refine TH.w_test ?_)
  | (with_reducible refine TH.w_B ?_)
  | (with_reducible refine TH.w_bl ?_)
  | (with_reducible refine TH.w_and ?_)
  | (with_reducible refine TH.w_or ?_)
  | (with_reducible refine TH.w_not ?_)
  | (with_reducible refine TH.w_andV ?_)
  | (with_reducible refine TH.w_orV ?_)
  | (with_reducible refine TH.w_notV ?_)
  | (with_reducible refine TH.w_if ?_)
  | (with_reducible refine TH.w_parT ?_)
  | (with_reducible refine TH.w_par ?_)
  | (with_reducible refine TH.w_parT3 ?_)
  | (with_reducible refine TH.w_par3 ?_)
  | (with_reducible refine TH.w_cb ?_)
  | (with_reducible refine TH.w_call ?_)
  | ((with_reducible refine TH.w_aug (v := ?vv) ?hv ?_); (case hv => rfl))
  | (with_reducible refine TH.w_ip ?_)
  | (with_reducible refine TH.w_bm ?_)
  | (with_reducible refine TH.w_sl ?_)
  | (with_reducible refine TH.w_np ?_)
  | (with_reducible refine TH.w_pt ?_)
  | (with_reducible refine TH.w_pti ?_)
  | (with_reducible refine TH.w_gsub ?_)
  | (with_reducible refine TH.w_int ?_)
  | (with_reducible refine TH.w_tupT ?_)
  | (with_reducible refine TH.w_lstT ?_)
  | ((with_reducible show L2.rIxL _ _ _ _ _); (first | (refine TH.w_ixL (TH.sqL upd_same) rfl ?_) | (refine TH.w_ixL (TH.sqL (by assumption)) rfl ?_)))
  | ((with_reducible show L2.rSetL _ _ _ _ _); (first | (refine TH.w_set1 upd_same ?_) | (refine TH.w_set2 upd_same ?_) | (refine TH.w_set3 upd_same ?_) | (refine TH.w_set4 upd_same ?_) | (refine TH.w_set1 (by assumption) ?_) | (refine TH.w_set2 (by assumption) ?_) | (refine TH.w_set3 (by assumption) ?_) | (refine TH.w_set4 (by assumption) ?_)))
  | (with_reducible refine TH.w_lc ?_)
  | (with_reducible refine TH.w_dc ?_)
  | (with_reducible refine TH.w_itup ?_)
  | (with_reducible refine TH.w_ilist ?_)
  | (with_reducible refine TH.w_ienum ?_)
  | (with_reducible refine TH.w_izip ?_)
  | (with_reducible refine TH.w_irng1 ?_)
  | (with_reducible refine TH.w_irng2 ?_)
  | (with_reducible refine TH.w_for ?_)
  | (with_reducible refine TH.w_gcons ?_)
  | (with_reducible refine TH.w_gnil ?_)
  | (with_reducible refine TH.w_yes ?_)
  | (with_reducible refine TH.w_gtup2 upd_same ?_)
  | (with_reducible refine TH.w_gtup3 upd_same ?_)
  | (with_reducible refine TH.w_dput ?_)
  | (with_reducible refine TH.w_bm0 ?_)
  | (with_reducible refine TH.w_din ?_)
  | (with_reducible refine TH.w_dnotin ?_)
  | (with_reducible refine TH.w_dispK ?_)
  | (with_reducible refine TH.w_lock ?_)
  | (with_reducible refine TH.w_ikeys ?_)
  | (with_reducible refine TH.w_iitems ?_)
  | (with_reducible refine TH.w_dispT1 ?_)
  | (with_reducible refine TH.w_dnewT ?_)
  | (with_reducible refine TH.w_dnewK ?_)
  | (with_reducible refine TH.w_fld ?_)
  | (with_reducible refine TH.w_sfld ?_)
  | (with_reducible refine TH.w_meth ?_)
  | (with_reducible refine TH.w_make ?_)
  | (with_reducible refine TH.w_dget2 ?_)
  | (with_reducible refine TH.w_revL ?_)
  | (with_reducible refine TH.w_revT ?_)
  | (with_reducible refine TH.w_lstRg ?_)
  | (with_reducible refine TH.w_tupRg ?_)
  | (with_reducible refine TH.w_rg1 ?_)
  | (with_reducible refine TH.w_rg2 ?_)
  | (with_reducible refine TH.w_T ?_)
  | (with_reducible refine TH.w_F ?_))
local macro_rules | `(tactic| walk_at "rd") => `(tactic| repeat (first | walk_at "rd1" | (dsimp only [List.set, L2.wipe, List.map, TH.isInt, TH.isBool, TH.isTup, TH.isLst, TH.bo_f, TH.bo_t, TH.ba_f, TH.ba_t, TH.bn_t, TH.bn_f, List.append_nil, List.cons_append, List.nil_append])))

variable {P : Program} {w : World} {K : PySem.W.Frag} {mg : Str → Option Value} {base : Heap}
theorem sum_noughts {f : Nat → Int} : ∀ xs : List Nat, (∀ k, f k = 0) → (xs.map f).sum = 0
  | [], _ => rfl
  | x :: xs, h => by
    rw [List.map_cons, List.sum_cons, h x, sum_noughts xs h]
    rfl
theorem cfK_before {n B : Int} {kvs : List (Key × V)} {j i : Nat} {x : Int} (h : WaysAt n B kvs) (hj : kvs[j]? = some (Sum.inl (i : Int), .int x)) : cfK (kvs.take j) i = 0 := by
  obtain ⟨ks, e, nd, hks, hvs⟩ := h
  have hno : ∀ p ∈ kvs.take j, p.1 ≠ Sum.inl (i : Int) := fun p hp z => by
    have e1 : (kvs.take j).map (·.1) = (ks.take j).map Sum.inl := by rw [List.map_take, e, List.map_take]
    have hm : p.1 ∈ (kvs.take j).map (·.1) := List.mem_map.mpr ⟨p, hp, rfl⟩
    rw [e1, z] at hm
    obtain ⟨k', hk', e2⟩ := List.mem_map.mp hm
    injection e2 with e2
    have hkj : ks[j]? = some (i : Int) := by
      have := congrArg (fun l => l[j]?) e
      simp only [List.getElem?_map, hj, Option.map_some] at this
      cases hh : ks[j]? with
      | none => rw [hh] at this; cases this
      | some y =>
        rw [hh] at this
        injection this with this
        injection this with this
        rw [this]
    obtain ⟨m, hm1, hm2⟩ := List.mem_iff_getElem.mp hk'
    rw [List.length_take] at hm1
    rw [List.getElem_take] at hm2
    have h1 : ks[m]? = some (i : Int) := by rw [List.getElem?_eq_getElem (by omega), hm2, e2]
    have := nodup_at' nd h1 hkj
    omega
  unfold cfK valV
  have : (kvs.take j).find? (fun kv => decide (kv.1 = Sum.inl (i : Int))) = none := List.find?_eq_none.mpr fun p hp => by simpa using hno p hp
  rw [this]
  rfl
/-! Stairs.less(row) -/
def lessI (n : Int) (S : List (Nat × List Int)) (r : List Int) : List Int := S.foldl (fun l a => offI n a.2 a.1 l) r
theorem lessI_snoc {n : Int} {S : List (Nat × List Int)} {r : List Int} {i : Nat} {a : Nat × List Int} (h : S[i]? = some a) : lessI n (S.take (i + 1)) r = offI n a.2 a.1 (lessI n (S.take i) r) := by
  unfold lessI
  rw [List.take_add_one, h, List.foldl_append]
  rfl
section
open LA
variable {n : Nat} [NeZero n]
theorem lessI_in {wide : Nat} : ∀ {S : List (Nat × List Int)} {r : List Int}, (∀ a ∈ S, Rin n wide a.2) → Rin n wide r → Rin n wide (lessI n S r)
  | [], _, _, h => h
  | a :: S, r, hS, h => lessI_in (S := S) (fun b hb => hS b (List.mem_cons_of_mem _ hb)) (offI_in h (hS a List.mem_cons_self))
end
open LA in
def sp_st_less (K : PySem.W.Frag) (C : Addr) : Sp := fun vs H Q _ => ∃ (n : Nat) (_ : NeZero n) (wide : Nat) (B : Int) (s st tk : Addr) (rs : List (List Int)) (us : List V) (S : List (Nat × List Int)) (ts : List Nat) (u : V) (r : List Int), vs = [.ref s, u] ∧ Clk n ∧ 0 ≤ B ∧ B ≤ 1000 ∧ wide ≤ 1000 ∧ StairsAt K C H s st tk n B rs us S ts ∧
  (∀ a ∈ S, Rin n wide a.2 ∧ a.1 < wide) ∧ Dp K H u (row r) ∧ Rin n wide r ∧ ∀ (t a d : Addr) (kvs : List (Key × V)) (H' : Hp), Ex H H' → H' t = some (.tup [.ref a, .ref d]) → Dp K H' (.ref a) (row (lessI n S r)) → H' d = some (.dK kvs) → WaysAt n B kvs → (∀ j, Cg n (r.getD j 0 - (lessI n S r).getD j 0) (mixZ (cfK kvs) rs j)) → Q (.ref t) H'
open LA in
theorem ok_st_less {C f : Addr} {fd : FuncData} (me : Meth K C "less" f) (F : C8.Fun K "less" "Stairs.less" s_Stairs_less f fd) (b : Binds K fd ["self", "row"] []) (T : Txt mg) (TC : StC K C)
    (c_without : C8.Cal P w K mg base 1 "without" (sp_without K) []) : C8.Met P w K mg base 2 C "less" (sp_st_less K C) [] := by
  refine C8.met0 TC.cl me F b sc_Stairs_less (fun vs H Q E h => ?_) (fun cdv A outer s H vs Q E hr h => ?_)
  · obtain ⟨n, _, wide, B, s, st, tk, rs, us, S, ts, u, r, rfl, _⟩ := h
    rfl
  · obtain ⟨n, inst, wide, B, s, st, tk, rs, us, S, ts, u, r, rfl, hc, hB0, hB, hw, hst, hS, hu1, hr1, q⟩ := h
    have n2 := hc.two
    have nm := hc.le
    have hu := hu_of hr
    have hsl := hst.at'.1
    refine ⟨_, (pss_cons (ps_par (i := 2) (j := 3) rfl sc_Stairs_less.nd rfl rfl (by decide) rfl rfl (pa_cons (pv 1) (pa_cons pe_dnewK pa_nil)) (by rfl))
      (pss_cons (ps_for PassesOwn.never rfl (TH.kpi_list (K := K) (TH.kpe_fld (K := K) (pv 0) rfl)) (TH.kpg_tup (K := K) (n := 3) rfl (pgs_cons (pg_name (i := 4) sc_Stairs_less.nd rfl (Or.inl rfl) (Or.inr rfl)) (pgs_cons (pg_name (i := 5) sc_Stairs_less.nd rfl (Or.inl rfl) (Or.inr rfl)) (pgs_cons (pg_name (i := 6) sc_Stairs_less.nd rfl (Or.inl rfl) (Or.inr rfl)) pgs_nil)))) (pss_cons (ps_set (i := 7) sc_Stairs_less.nd rfl (Or.inl rfl) (pe_ix (TH.kix_tup (K := K)) (pv 2) (pv 4) (fun _ _ => rfl)))
      (pss_one (ps_if (pt_cmpR op_ne (pv 7) pe_int (nomark _)) (pss_cons (ps_set (i := 2) sc_Stairs_less.nd rfl (Or.inl rfl) (C8.pe_c c_without hr (by first | decide | exact Nat.le_refl _) (by rfl) (pa_cons (TH.kpe_fld (K := K) (pv 0) rfl) (pa_cons (pv 2) (pa_cons (pv 5) (pa_cons (pv 7) pa_nil))))))
      (pss_one (ps_lock (ps_for PassesOwn.never rfl (pi_items (pv 6)) (TH.kpg_tup (K := K) (n := 2) rfl (pgs_cons (pg_name (i := 8) sc_Stairs_less.nd rfl (Or.inl rfl) (Or.inr rfl)) (pgs_cons (pg_name (i := 9) sc_Stairs_less.nd rfl (Or.inl rfl) (Or.inr rfl)) pgs_nil))) (pss_one (ps_dput hu (pv 3) (pv 8) (pe_op op_mod (pe_op op_add (pe_dget2 hu (pv 3) (pv 8) pe_int ⟨rfl, rfl, rfl, rfl⟩) (pe_op op_mul (pv 7) (pv 9))) (TH.kpe_fld (K := K) (pv 0) rfl)) rfl)))))) pss_nil))))
      (pss_one (ps_ret (pe_tup (pa_cons (pv 2) (pa_cons (pv 3) pa_nil))))))), ?_⟩
    refine w_start (σ' := [some (.ref s), some u, none, none, none, none, none, none, none, none]) rfl ?_
    walk_at "rd"
    intro ud hud
    walk_at "rd"
    have e0 : Ex H (upd H ud (.dK [])) := Ex.new hud
    have hst0 := hst.ex e0
    obtain ⟨⟨dx, hobj⟩, hsteps, _, _⟩ := hst0
    refine ⟨s, C, dx, _, _, rfl, hobj, TC.cl, TC.nS, pf_steps, ?_⟩
    refine ⟨st, rfl, ⟨_, sqL hsteps⟩, ?_⟩
    refine for_go walk_list (fun i σ H2 => Ex H H2 ∧ ∃ (l : V) (y4 y5 y6 y7 y8 y9 : Option V) (kvs : List (Key × V)), σ = [some (.ref s), some u, some l, some (.ref ud), y4, y5, y6, y7, y8, y9] ∧ Dp K H2 l (row (lessI n (S.take i) r)) ∧ H2 ud = some (.dK kvs) ∧ WaysAt n B kvs ∧ ∀ j, Cg n (r.getD j 0 - (lessI n (S.take i) r).getD j 0) (mixZ (cfK kvs) rs j))
      ⟨e0, u, _, _, _, _, _, _, [], rfl, e0.dp hu1, upd_same, waysAt_nil, fun j => .of (by
        show r.getD j 0 - r.getD j 0 = _
        unfold mixZ
        rw [sum_noughts (f := fun k => cfK [] k * (rs.getD k []).getD j 0) _ fun k => Int.zero_mul _]
        omega)⟩ (fun i σ H2 _ p => p.1.l (sqL hst.steps)) (fun i x σ H2 H3 hi p y => ?_) (fun σ H2 p => ?_)
    · obtain ⟨e, l, y4, y5, y6, y7, y8, y9, kvs, rfl, hl, hd, hk, hmx⟩ := p
      obtain ⟨rfl, hx⟩ := y
      obtain ⟨a, ha1, t, bb, d, wvs, rfl, h1, h2, h30, h4, hms⟩ := hst.at'.2 i x hx
      have hdu : ud ≠ d := fun z => by rw [z, h30] at hud; cases hud
      have h1 := e _ _ h1
      have h2 := e.dp h2
      have h3 := e _ _ h30
      have hobj0 := e0 _ _ hst.obj.choose_spec
      obtain ⟨⟨dx', hobj'⟩, _, _, _⟩ := hst.ex e
      have hsd : s ≠ d := fun z => by rw [z, h3] at hobj'; cases hobj'
      have hsu : s ≠ ud := fun z => by rw [z, hd] at hobj'; cases hobj'
      obtain ⟨hain, hap⟩ := hS a (List.mem_of_getElem? ha1)
      have hain1 := hain.1
      have hli := lessI_in (n := n) (S := S.take i) (fun b hb => (hS b (List.mem_of_mem_take hb)).1) hr1
      have hln := lessI_snoc (n := n) (r := r) ha1
      generalize lessI n (S.take i) r = lr at hl hli hln hmx
      have hli1 := hli.1
      obtain ⟨la, rfl, hla⟩ := dp_row hl
      have hb6 : 0 ≤ lr.getD a.1 0 ∧ lr.getD a.1 0 < n := hli.2 _ (List.mem_of_getElem? (getD_at (i := a.1) (d := 0) (by omega)))
      walk_at "rd"
      refine w_gtup3 h1 ?_
      walk_at "rd"
      refine w_ixT hla (atI_int (getD_at (i := a.1) (d := 0) (by omega))) ?_
      walk_at "rd"
      refine w_decN (fun hz => ?_) (fun hz => ?_)
      · walk_at "rd"
        refine ⟨s, C, dx', _, _, rfl, hobj', TC.cl, TC.nP, pf_p, ?_⟩
        walk_at "rd"
        refine ⟨_, _, _, _, lr, a.2, rfl, hl, h2, by omega, by omega, by omega, by omega, fun ln H4 e4 hln4 => ?_⟩
        walk_at "rd"
        have hoff : offI n a.2 a.1 lr = iSub n lr a.2 (lr.getD a.1 0) := by
          unfold offI
          rw [if_neg hz]
        rw [hoff] at hln
        have eH4 := e.trans e4
        have h34 := e4 _ _ h3
        have hd4 := e4 _ _ hd
        refine ⟨d, .dK wvs, h34, trivial, fun od => ?_⟩
        walk_at "rd"
        refine ⟨d, od, wvs, rfl, upd_same, ?_⟩
        obtain ⟨kvs0, hk0⟩ : ∃ x, x = kvs := ⟨_, rfl⟩
        refine for_go walk_items (fun j σ H5 => H5 d = some (.frz od (.dK wvs)) ∧ Ex H (upd H5 d (.dK wvs)) ∧ H5 s = some (.ins C dx' (pf n st tk)) ∧ ∃ (y8 y9 : Option V) (kvs : List (Key × V)), σ = [some (.ref s), some u, some ln, some (.ref ud), some (.int a.1), some (.ref bb), some (.ref d), some (.int (lr.getD a.1 0)), y8, y9] ∧ Dp K H5 ln (row (iSub n lr a.2 (lr.getD a.1 0))) ∧ H5 ud = some (.dK kvs) ∧ WaysAt n B kvs ∧ ∀ k, Cg n (cfK kvs k) (cfK kvs0 k + lr.getD a.1 0 * cfK (wvs.take j) k))
          ⟨upd_same, ?_, ?_, _, _, kvs, rfl, ?_, ?_, hk, fun k => .of (by rw [hk0]; show _ = _ + _ * (0 : Int); rw [Int.mul_zero, Int.add_zero])⟩ (fun j σ H5 _ p => p.1) (fun j x5 σ H5 H6 hj p y => ?_) (fun σ H5 p => ?_)
        · rw [upd_upd]
          refine fun c o h => ?_
          by_cases hcd : c = d
          · subst hcd
            rw [h30] at h
            rw [upd_same]
            exact h
          · rw [upd_ne hcd]
            exact eH4 c o h
        · rw [upd_ne hsd]
          exact e4 _ _ hobj'
        · exact (Tx.updK h34).dp (imm_row _) hln4
        · rw [upd_ne hdu]
          exact hd4
        · obtain ⟨g1, g2, g3, y8, y9, kvs, rfl, g4, g5, g6, g7⟩ := p
          obtain ⟨tp, x1, x2, rfl, htp, rfl, k1, k2⟩ := y
          have hjl : j < wvs.length := by omega
          have hgj := List.getElem?_eq_getElem hjl
          obtain ⟨k, x, ek, hkk, hxx⟩ := waysAt_at h4 hgj
          rw [ek] at hgj
          have ek1 : x1 = .int k := by
            have k1' : (wvs[j]?).map (fun kv => kV kv.1) = some x1 := k1
            rw [hgj] at k1'
            exact (Option.some.inj k1').symm
          have ek2 : x2 = .int x := by
            have k2' : (wvs[j]?).map Prod.snd = some x2 := k2
            rw [hgj] at k2'
            exact (Option.some.inj k2').symm
          obtain ⟨k, rfl⟩ : ∃ m : Nat, k = m := ⟨k.toNat, by omega⟩
          subst ek1 ek2
          have ud_ne : ud ≠ tp := fun z => by rw [z, htp] at g5; cases g5
          have d_ne : d ≠ tp := fun z => by rw [z, htp] at g1; cases g1
          have s_ne : s ≠ tp := fun z => by rw [z, htp] at g3; cases g3
          have g5' : upd H5 tp (.tup [.int k, .int x]) ud = some (.dK kvs) := by rw [upd_ne ud_ne]; exact g5
          have g3' : upd H5 tp (.tup [.int k, .int x]) s = some (.ins C dx' (pf n st tk)) := by rw [upd_ne s_ne]; exact g3
          walk_at "rd"
          refine ⟨ud, rfl, .inl ⟨kvs, .inl g5'⟩, ?_⟩
          walk_at "rd"
          refine ⟨_, DGet.k (k := Sum.inl k) g5', ?_⟩
          rw [cfK_get (k := k) g6]
          walk_at "rd"
          refine ⟨s, C, dx', _, _, rfl, g3', TC.cl, TC.nP, pf_p, ?_⟩
          walk_at "rd"
          have hlk := waysAt_len g6 hB0
          refine ⟨ud, _, rfl, DPut.k (k := Sum.inl k) g5' (Nat.lt_of_lt_of_le (show kvs.length < 1000000 by omega) (small2 (Nat.le_refl _))), ?_⟩
          refine ⟨by rw [upd_ne (Ne.symm hdu), upd_ne d_ne]; exact g1, ?_, by rw [upd_ne hsu]; exact g3', _, _, _, rfl, (Tx.updK g5').dp (imm_row _) ((Ex.new htp).dp g4), upd_same, waysAt_put g6 hkk ⟨Int.emod_nonneg _ (by omega), Int.emod_lt_of_pos _ (by omega)⟩, fun m => ?_⟩
          · rw [upd_comm' (Ne.symm hdu)]
            refine Ex.mut ?_ hud
            rw [upd_comm' d_ne]
            refine Ex.mut g2 ?_
            cases hh : H tp with
            | none => rfl
            | some o =>
              have := g2 _ _ hh
              rw [upd_ne (Ne.symm d_ne), htp] at this
              cases this
          · rw [cfK_put, cfK_take h4 hgj]
            by_cases hm : m = k
            · subst hm
              rw [if_pos rfl, if_pos rfl]
              refine (Cg.mod _ _).trans ?_
              have := g7 m
              have h0 : cfK (wvs.take j) m = 0 := cfK_before h4 hgj
              rw [h0, Int.mul_zero, Int.add_zero] at this
              exact this.add (.refl _ _)
            · rw [if_neg hm, if_neg hm]
              exact g7 m
        · obtain ⟨g1, g2, g3, y8, y9, kvs, rfl, g4, g5, g6, g7⟩ := p
          refine ⟨g1, g2, ln, _, _, _, _, _, _, kvs, rfl, ?_, by rw [upd_ne hdu]; exact g5, g6, fun j => ?_⟩
          rotate_left
          · rw [List.take_length] at g7
            rw [hln, iSub_at (by omega)]
            have m1 := mix_lin (rs := rs) (j := j) fun k _ => g7 k
            rw [hk0] at m1
            have m2 := (hmx j).add ((hms j).mul (lr.getD a.1 0))
            refine Cg.trans ?_ (m2.trans m1.symm)
            have m3 := (Cg.refl n (r.getD j 0)).sub (Cg.mod n (lr.getD j 0 - lr.getD a.1 0 * a.2.getD j 0))
            refine m3.trans (.of (by omega))
          rw [hln]
          have tx : Tx H5 (upd H5 d (.dK wvs)) := Tx.wr g1 (fun _ z => by cases z) (fun _ _ z => by cases z)
          exact tx.dp (imm_row _) g4
      · walk_at "rd"
        have hof : offI n a.2 a.1 lr = lr := by
          unfold offI
          rw [if_pos hz]
        rw [hof] at hln
        refine ⟨e, _, _, _, _, _, _, _, kvs, rfl, ?_, hd, hk, fun j => ?_⟩
        · rw [hln]
          exact hl
        · rw [hln]
          exact hmx j
    · obtain ⟨e, l, y4, y5, y6, y7, y8, y9, kvs, rfl, hl, hd, hk, hmx⟩ := p
      rw [hsl, List.take_length] at hl hmx
      obtain ⟨la, rfl, hla⟩ := dp_row hl
      walk_at "rd"
      refine w_dispT (by simp) fun t ht => ?_
      exact q t la ud kvs _ (e.trans (Ex.new ht)) upd_same ((Ex.new ht).dp hl) ((Ex.new ht) _ _ hd) hk hmx

end TK

namespace TK
open PySem PySem.Spec PyProof.Rows L2 TH
local macro_rules | `(tactic| walk_at "rd1") => `(tactic| first
  | (with_reducible refine TH.w_seq ?_)
  | (with_reducible refine TH.w_asg ?_)
  | (with_reducible refine TH.w_ret ?_)
  | (with_reducible refine TH.w_drop ?_)
  | (with_reducible refine TH.w_ifS ?_)
  | (with_reducible refine TH.w_next ?_)
  | ((with_reducible refine TH.w_var (v := ?vv) ?hv ?_); (case hv => rfl))
  | (with_reducible refine TH.w_c ?_)
  | ((with_reducible refine TH.w_gname (σ' := ?ss) ?hs ?_); (case hs => (dsimp only [List.set]; rfl)))
  | (with_reducible refine TH.w_op ?_)
  | (with_reducible refine TH.w_un ?_)
  | (with_reducible refine TH.w_chain ?_)
  | (with_reducible refine TH.w_I0 ?_)
  | ((with_reducible refine TH.w_I ?hm ?_); (case hm => first | (exact TH.CMul.l (by omega) (by omega)) | (exact TH.CMul.r (by omega) (by omega)) | (exact TH.CDiv.mk (by omega) (by omega)) | (show (0 : Int) < _; omega) | (exact TH.CPow.mk (by omega) (by omega) (by decide))))
  | (with_reducible refine TH.w_U ?_)
  | (with_reducible refine TH.w_eqI ?_)
  | (with_reducible refine TH.w_neI ?_)
  | (with_reducible refine TH.w_eqB ?_)
  | (with_reducible refine TH.w_isN ?_)
  | (with_reducible refine TH.w_nil ?_)
  | (with_reducible refine TH.w_cons ?_)
  | (with_reducible refine TH.w_test ?_)
  | (with_reducible refine TH.w_B ?_)
  | (with_reducible refine TH.w_bl ?_)
  | (with_reducible refine TH.w_and ?_)
  | (with_reducible refine TH.w_or ?_)
  | (with_reducible refine TH.w_not ?_)
  | (with_reducible refine TH.w_andV ?_)
  | (with_reducible refine TH.w_orV ?_)
  | (with_reducible refine TH.w_notV ?_)
  | (with_reducible refine TH.w_if ?_)
  | (with_reducible refine TH.w_parT ?_)
  | (with_reducible refine TH.w_par ?_)
  | (with_reducible refine TH.w_parT3 ?_)
  | (with_reducible refine TH.w_par3 ?_)
  | (with_reducible refine TH.w_cb ?_)
  | (with_reducible refine TH.w_call ?_)
  | ((with_reducible refine TH.w_aug (v := ?vv) ?hv ?_); (case hv => rfl))
  | (with_reducible refine TH.w_ip ?_)
  | (with_reducible refine TH.w_bm ?_)
  | (with_reducible refine TH.w_sl ?_)
  | (with_reducible refine TH.w_np ?_)
  | (with_reducible refine TH.w_pt ?_)
  | (with_reducible refine TH.w_pti ?_)
  | (with_reducible refine TH.w_gsub ?_)
  | (with_reducible refine TH.w_int ?_)
  | (with_reducible refine TH.w_tupT ?_)
  | (with_reducible refine TH.w_lstT ?_)
  | ((with_reducible show L2.rIxL _ _ _ _ _); (first | (refine TH.w_ixL (TH.sqL upd_same) rfl ?_) | (refine TH.w_ixL (TH.sqL (by assumption)) rfl ?_)))
  | ((with_reducible show L2.rSetL _ _ _ _ _); (first | (refine TH.w_set1 upd_same ?_) | (refine TH.w_set2 upd_same ?_) | (refine TH.w_set3 upd_same ?_) | (refine TH.w_set4 upd_same ?_) | (refine TH.w_set1 (by assumption) ?_) | (refine TH.w_set2 (by assumption) ?_) | (refine TH.w_set3 (by assumption) ?_) | (refine TH.w_set4 (by assumption) ?_)))
  | (with_reducible refine TH.w_lc ?_)
  | (with_reducible refine TH.w_dc ?_)
  | (with_reducible refine TH.w_itup ?_)
  | (with_reducible refine TH.w_ilist ?_)
  | (with_reducible refine TH.w_ienum ?_)
  | (with_reducible refine TH.w_izip ?_)
  | (with_reducible refine TH.w_irng1 ?_)
  | (with_reducible refine TH.w_irng2 ?_)
  | (with_reducible refine TH.w_for ?_)
  | (with_reducible refine TH.w_gcons ?_)
  | (with_reducible refine TH.w_gnil ?_)
  | (with_reducible refine TH.w_yes ?_)
  | (with_reducible refine TH.w_gtup2 upd_same ?_)
  | (with_reducible refine TH.w_gtup3 upd_same ?_)
  | (with_reducible refine TH.w_dput ?_)
  | (with_reducible refine TH.w_bm0 ?_)
  | (with_reducible refine TH.w_din ?_)
  | (with_reducible refine TH.w_dnotin ?_)
  | (with_reducible refine TH.w_dispK ?_)
  | (with_reducible refine TH.w_lock ?_)
  | (with_reducible refine TH.w_ikeys ?_)
  | (with_reducible refine TH.w_iitems ?_)
  | (with_reducible refine TH.w_dispT1 ?_)
  | (with_reducible refine TH.w_dnewT ?_)
  | (with_reducible refine TH.w_dnewK ?_)
  | (with_reducible refine TH.w_fld ?_)
  | (with_reducible refine TH.w_sfld ?_)
  | (with_reducible refine TH.w_meth ?_)
  | (with_reducible refine TH.w_make ?_)
  | (with_reducible refine TH.w_dget2 ?_)
  | (with_reducible refine TH.w_revL ?_)
  | (with_reducible refine TH.w_revT ?_)
  | (with_reducible refine TH.w_lstRg ?_)
  | (with_reducible refine TH.w_tupRg ?_)
  | (with_reducible refine TH.w_rg1 ?_)
  | (with_reducible refine TH.w_rg2 ?_)
  | (with_reducible refine TH.w_T ?_)
  | (with_reducible refine TH.w_F ?_))
local macro_rules | `(tactic| walk_at "rd") => `(tactic| repeat (first | walk_at "rd1" | (dsimp only [List.set, L2.wipe, List.map, TH.isInt, TH.isBool, TH.isTup, TH.isLst, TH.bo_f, TH.bo_t, TH.ba_f, TH.ba_t, TH.bn_t, TH.bn_f, List.append_nil, List.cons_append, List.nil_append])))

variable {P : Program} {w : World} {K : PySem.W.Frag} {mg : Str → Option Value} {base : Heap}
theorem nz_len' (l : List Nat) : (nz l).length = l.length := by simp [nz]
/-! Stairs.take(number, row) -/
theorem firstI_lt {ns : List Int} {q : Nat} (h : firstI ns = some q) : q < ns.length ∧ ns.getD q 0 ≠ 0 ∧ ∀ j, j < q → ns.getD j 0 = 0 := by
  unfold firstI at h
  rw [List.findIdx?_eq_some_iff_getElem] at h
  obtain ⟨h1, h2, h3⟩ := h
  refine ⟨h1, ?_, fun j hj => ?_⟩
  · rw [List.getD_eq_getElem?_getD, List.getElem?_eq_getElem h1]
    simpa using h2
  · have hj' : j < ns.length := by omega
    have := h3 j hj
    rw [List.getD_eq_getElem?_getD, List.getElem?_eq_getElem hj']
    simpa using this
theorem firstI_zero {ns : List Int} (h : firstI ns = none) (j : Nat) : ns.getD j 0 = 0 := by
  unfold firstI at h
  rw [List.findIdx?_eq_none_iff] at h
  rw [List.getD_eq_getElem?_getD]
  cases g : ns[j]? with
  | none => rfl
  | some x =>
    have := h x (List.mem_of_getElem? g)
    simpa using this
section
open LA
def Took (n : Nat) [NeZero n] (r : List Int) (S S' : List (Nat × List Int)) : Prop := (firstI (lessI n S r) = none ∧ S' = S) ∨
  ∃ (q : Nat) (t : Int), firstI (lessI n S r) = some q ∧ cF n t * cF n ((lessI n S r).getD q 0) = 1 ∧ S' = S ++ [(q, iScale n t (lessI n S r))]
def sp_st_take (K : PySem.W.Frag) (C : Addr) : Sp := fun vs H Q _ => ∃ (n : Nat) (_ : NeZero n) (wide : Nat) (s st tk : Addr) (rs : List (List Int)) (us : List V) (S : List (Nat × List Int)) (ts : List Nat) (u : V) (r : List Int) (number : Nat) (H0 : Hp), vs = [.ref s, .int (number : Nat), u] ∧ Clk n ∧ number ≤ 900 ∧ rs[number]? = some r ∧
  wide ≤ 1000 ∧ S.length ≤ 1000 ∧ StairsAt K C H s st tk n (number : Nat) rs us S ts ∧ st ≠ tk ∧ (∀ a ∈ S, Rin n wide a.2 ∧ a.1 < wide) ∧ Dp K H u (row r) ∧ Rin n wide r ∧ Ex H0 H ∧ H0 st = none ∧ H0 tk = none ∧
  ∀ v H' us' S' ts', Ex H0 H' → StairsAt K C H' s st tk n (number + 1 : Nat) rs us' S' ts' → Took n r S S' → (ts' = if (firstI (lessI n S r)).isSome = true then ts ++ [number] else ts) → Q v H'
theorem ok_st_take {C f : Addr} {fd : FuncData} (me : Meth K C "take" f) (F : C8.Fun K "take" "Stairs.take" s_Stairs_take f fd) (b : Binds K fd ["self", "number", "row"] []) (T : Txt mg) (TC : StC K C)
    (c_Stairs_less : C8.Met P w K mg base 2 C "less" (sp_st_less K C) []) (c_first_place : C8.Cal P w K mg base 1 "first_place" (sp_first_place K) []) (c_inverse_of : C8.Cal P w K mg base 1 "inverse_of" (sp_inverse_of K) []) (c_scaled : C8.Cal P w K mg base 1 "scaled" (sp_scaled K) []) : C8.Met P w K mg base 3 C "take" (sp_st_take K C) [] := by
  refine C8.met0 TC.cl me F b sc_Stairs_take (fun vs H Q E h => ?_) (fun cdv A outer s H vs Q E hr h => ?_)
  · obtain ⟨n, _, wide, s, st, tk, rs, us, S, ts, u, r, number, H0, rfl, _⟩ := h
    rfl
  · obtain ⟨n, inst, wide, s, st, tk, rs, us, S, ts, u, r, number, H0, rfl, hc, hnB, hrn, hw, hSl, hst, hstk, hS, hu1, hr1, ex0, z1, z2, q⟩ := h
    have n2 := hc.two
    have nm := hc.le
    have hu := hu_of hr
    refine ⟨_, (pss_cons (ps_asg (C8.pe_mt c_Stairs_less hr (by first | decide | exact Nat.le_refl _) (pv 0) (pa_cons (pv 2) pa_nil)) (TH.kpg_tup (K := K) (n := 2) rfl (pgs_cons (pg_name (i := 6) sc_Stairs_take.nd rfl (Or.inl rfl) (Or.inr rfl)) (pgs_cons (pg_name (i := 7) sc_Stairs_take.nd rfl (Or.inl rfl) (Or.inr rfl)) pgs_nil))))
      (pss_cons (ps_set (i := 3) sc_Stairs_take.nd rfl (Or.inl rfl) (C8.pe_c c_first_place hr (by first | decide | exact Nat.le_refl _) (by rfl) (pa_cons (pv 6) pa_nil)))
      (pss_cons (ps_if (pt_cmpR op_isN (pv 3) pe_non (nomark _)) (pss_one (ps_ret pe_bl)) pss_nil)
      (pss_cons (ps_set (i := 4) sc_Stairs_take.nd rfl (Or.inr rfl) (C8.pe_c c_inverse_of hr (by first | decide | exact Nat.le_refl _) (by rfl) (pa_cons (TH.kpe_fld (K := K) (pv 0) rfl) (pa_cons (pe_ix (TH.kix_tup (K := K)) (pv 6) (pv 3) (fun _ _ => rfl)) pa_nil))))
      (pss_cons (ps_lock (TH.ps_setDc (i := 5) (own := [("one", 8), ("many", 9)]) (g := gTup K 2 (gCons (gName 8) (gCons (gName 9) gNil))) (tt := tYes) rfl sc_Stairs_take.nd rfl rfl (TH.sw_trueD rfl rfl rfl (by decide +kernel)) (pi_items (pv 7)) (blkOk_by (own := [("one", 8), ("many", 9)]) (N := N_Stairs_take) (sc := C8.fnScope s_Stairs_take) (by decide +kernel)) (fun _ _ _ _ _ => (TH.kpg_tup (K := K) (n := 2) rfl (pgs_cons (pg_name (i := 8) sc_Stairs_take.nd rfl (Or.inl rfl) (Or.inr rfl)) (pgs_cons (pg_name (i := 9) sc_Stairs_take.nd rfl (Or.inl rfl) (Or.inr rfl)) pgs_nil)))) (fun _ _ _ _ _ => pts_nil) (fun _ _ _ _ _ => (pv 8)) (fun _ _ _ _ _ => (pe_op op_mod (pe_op op_mul (pe_un un_neg (pv 9)) (pv 4)) (TH.kpe_fld (K := K) (pv 0) rfl)))))
      (pss_cons (ps_dput hu (pv 5) (pv 1) (pv 4) rfl)
      (pss_cons (ps_expr (TH.kpe_bm (K := K) PySem.F.plainAttrs_list PySem.F.slot_list_append PySem.F.type_list_append mt_append (TH.kpe_fld (K := K) (pv 0) rfl) (pa_cons (pe_tup (pa_cons (pv 3) (pa_cons (C8.pe_c c_scaled hr (by first | decide | exact Nat.le_refl _) (by rfl) (pa_cons (TH.kpe_fld (K := K) (pv 0) rfl) (pa_cons (pv 4) (pa_cons (pv 6) pa_nil)))) (pa_cons (pv 5) pa_nil)))) pa_nil)))
      (pss_cons (ps_expr (TH.kpe_bm (K := K) PySem.F.plainAttrs_list PySem.F.slot_list_append PySem.F.type_list_append mt_append (TH.kpe_fld (K := K) (pv 0) rfl) (pa_cons (pv 1) pa_nil)))
      (pss_one (ps_ret pe_bl)))))))))), ?_⟩
    refine w_start (σ' := [some (.ref s), some (.int (number : Nat)), some u, none, none, none, none, none, none, none]) rfl ?_
    obtain ⟨⟨dx, hobj⟩, _, _, _⟩ := id hst
    walk_at "rd"
    refine ⟨s, dx, _, rfl, hobj, pf_no (by decide +kernel) (by decide +kernel) (by decide +kernel), ?_⟩
    walk_at "rd"
    refine ⟨n, inst, wide, (number : Nat), s, st, tk, rs, us, S, ts, u, r, rfl, hc, by omega, by omega, hw, hst, hS, hu1, hr1, fun t a d kvs H1 e1 ht ha hd hk hmx => ?_⟩
    refine w_gtup2 ht ?_
    walk_at "rd"
    have hli := lessI_in (n := n) (S := S) (fun b hb => (hS b hb).1) hr1
    have hTook : ∀ S', Took n r S S' ↔ ((firstI (lessI n S r) = none ∧ S' = S) ∨ ∃ (q : Nat) (t : Int), firstI (lessI n S r) = some q ∧ cF n t * cF n ((lessI n S r).getD q 0) = 1 ∧ S' = S ++ [(q, iScale n t (lessI n S r))]) := fun _ => Iff.rfl
    have hq : ∀ v H' us' S' ts', Ex H0 H' → StairsAt K C H' s st tk n (number + 1 : Nat) rs us' S' ts' → Took n r S S' → (ts' = if (firstI (lessI n S r)).isSome = true then ts ++ [number] else ts) → Q v H' := q
    clear q
    generalize lessI n S r = lr at ha hli hTook hmx hq
    have hli1 := hli.1
    refine ⟨_, lr, rfl, ha, fun H2 e2 => ?_⟩
    have e12 := e1.trans e2
    have hst2 := hst.ex e12
    cases hf : firstI lr with
    | none =>
      show _
      walk_at "rd"
      obtain ⟨o1, o2, o3, o4⟩ := hst2
      exact hq _ H2 us S ts (ex0.trans e12) ⟨o1, o2, o3, o4.mono (by omega)⟩ ((hTook S).mpr (.inl ⟨hf, rfl⟩)) (by rw [hf]; rfl)
    | some pl =>
      obtain ⟨f1, f2, f3⟩ := firstI_lt hf
      show _
      walk_at "rd"
      refine w_dec (fun z => by cases z) (fun _ => ?_)
      have eo : optV (some pl) = .int (pl : Nat) := rfl
      rw [eo]
      walk_at "rd"
      have hv : 0 ≤ lr.getD pl 0 ∧ lr.getD pl 0 < n := hli.2 _ (List.mem_of_getElem? (getD_at (i := pl) (d := 0) f1))
      have ha2 := e2.dp ha
      have hd2 := e2 _ _ hd
      obtain ⟨la, ela, hla⟩ := dp_row ha2
      cases ela
      have hobj2 := e12 _ _ hobj
      refine ⟨s, C, dx, _, _, rfl, hobj2, TC.cl, TC.nP, pf_p, ?_⟩
      walk_at "rd"
      refine w_ixT hla (atI_int (getD_at (i := pl) (d := 0) f1)) ?_
      walk_at "rd"
      have hcop : Int.gcd n (lr.getD pl 0) = 1 := by
        have := hc.cop (v := (lr.getD pl 0).toNat) (by omega) (by omega)
        have e : lr.getD pl 0 = (((lr.getD pl 0).toNat : Nat) : Int) := by omega
        rw [e]
        exact this
      refine ⟨_, _, rfl, by omega, by omega, by omega, hv.2, hcop, fun tn H3 e3 t0 t1 htn => ?_⟩
      have hinv : cF n tn * cF n (lr.getD pl 0) = 1 := by
        rw [← cF_mul, ← cF_one, cF_iff, Int.mul_comm, htn, Int.emod_eq_of_lt (by omega) (by omega)]
      walk_at "rd"
      have hd3 := e3 _ _ hd2
      have hobj3 := e3 _ _ hobj2
      have hsd : s ≠ d := fun z => by rw [z, hd3] at hobj3; cases hobj3
      refine ⟨d, .dK kvs, hd3, trivial, fun od => ?_⟩
      walk_at "rd"
      refine ⟨d, od, kvs, rfl, upd_same, fun wd hwd => ?_⟩
      have hwd0 : d ≠ wd := fun z => by rw [z, upd_same] at hwd; cases hwd
      have hwd3 : H3 wd = none := by rw [upd_ne (Ne.symm hwd0)] at hwd; exact hwd
      refine dc_go walk_items (fun j H5 => H5 d = some (.frz od (.dK kvs)) ∧ Ex H3 (upd H5 d (.dK kvs)) ∧ ∃ wvs, H5 wd = some (.dK wvs) ∧ WaysAt n (number : Nat) wvs ∧ ∀ k, Cg n (cfK wvs k) (0 + (-tn) * cfK (kvs.take j) k)) ⟨?_, ?_, [], upd_same, waysAt_nil, fun k => .of (by show (0 : Int) = 0 + (-tn) * 0; rw [Int.mul_zero]; rfl)⟩ (fun j H5 _ p => p.1) (fun j x5 H5 H6 hj p y => ?_) (fun H5 p => ?_)
      · rw [upd_ne hwd0]; exact upd_same
      · rw [upd_comm' hwd0]
        exact (lock_start hd3).mut hwd3
      · obtain ⟨g1, g2, wvs, g5, g6, g6k⟩ := p
        obtain ⟨tp, x1, x2, rfl, htp, rfl, k1, k2⟩ := y
        have hjl : j < kvs.length := by omega
        have hgj := List.getElem?_eq_getElem hjl
        obtain ⟨k, x, ek, hkk, hxx⟩ := waysAt_at hk hgj
        rw [ek] at hgj
        have ek1 : x1 = .int k := by
          have k1' : (kvs[j]?).map (fun kv => kV kv.1) = some x1 := k1
          rw [hgj] at k1'
          exact (Option.some.inj k1').symm
        have ek2 : x2 = .int x := by
          have k2' : (kvs[j]?).map Prod.snd = some x2 := k2
          rw [hgj] at k2'
          exact (Option.some.inj k2').symm
        obtain ⟨k, rfl⟩ : ∃ m : Nat, k = m := ⟨k.toNat, by omega⟩
        subst ek1 ek2
        have d_ne : d ≠ tp := fun z => by rw [z, htp] at g1; cases g1
        have w_ne : wd ≠ tp := fun z => by rw [z, htp] at g5; cases g5
        have g3 := lock_back g2 hsd hobj3
        have s_ne : s ≠ tp := fun z => by rw [z, htp] at g3; cases g3
        have g5' : upd H5 tp (.tup [.int k, .int x]) wd = some (.dK wvs) := by rw [upd_ne w_ne]; exact g5
        have g3' : upd H5 tp (.tup [.int k, .int x]) s = some (.ins C dx (pf n st tk)) := by rw [upd_ne s_ne]; exact g3
        walk_at "rd"
        refine ⟨rfl, ?_⟩
        walk_at "rd"
        refine ⟨s, C, dx, _, _, rfl, g3', TC.cl, TC.nP, pf_p, ?_⟩
        walk_at "rd"
        have hlk := waysAt_len g6 (by omega)
        refine ⟨wvs, Sum.inl (k : Int), rfl, g5', Nat.lt_of_lt_of_le (show wvs.length < 1000000 by omega) (small2 (Nat.le_refl _)), ?_, ?_, _, upd_same, waysAt_put g6 hkk ⟨Int.emod_nonneg _ (by omega), Int.emod_lt_of_pos _ (by omega)⟩, fun m => ?_⟩
        · rw [upd_ne hwd0, upd_ne d_ne]; exact g1
        · rw [upd_comm' hwd0]
          refine Ex.mut ?_ hwd3
          rw [upd_comm' d_ne]
          refine Ex.mut g2 ?_
          cases hh : H3 tp with
          | none => rfl
          | some o =>
            have := g2 _ _ hh
            rw [upd_ne (Ne.symm d_ne), htp] at this
            cases this
        · rw [cfK_put, cfK_take hk hgj]
          by_cases hm : m = k
          · subst hm
            rw [if_pos rfl, if_pos rfl]
            refine (Cg.mod _ _).trans (.of ?_)
            rw [Int.zero_add, Int.neg_mul, Int.neg_mul, Int.mul_comm]
          · rw [if_neg hm, if_neg hm]
            exact g6k m
      · obtain ⟨g1, g2, wvs, g5, g6, g6k⟩ := p
        walk_at "rd"
        refine ⟨g1, ?_⟩
        have g5' : upd H5 d (.dK kvs) wd = some (.dK wvs) := by rw [upd_ne (Ne.symm hwd0)]; exact g5
        generalize upd H5 d (.dK kvs) = H6 at g2 g5'
        walk_at "rd"
        have hlk := waysAt_len g6 (by omega)
        refine ⟨wd, _, rfl, DPut.k (k := Sum.inl (number : Int)) g5' (Nat.lt_of_lt_of_le (show wvs.length < 1000000 by omega) (small2 (Nat.le_refl _))), ?_⟩
        have g7 : WaysAt n (number + 1 : Nat) (putK wvs (Sum.inl (number : Int)) (.int tn)) := waysAt_put (waysAt_mono g6 (by omega)) ⟨by omega, by omega⟩ ⟨t0, t1⟩
        have hmw : Mixes n rs (putK wvs (Sum.inl (number : Int)) (.int tn)) (iScale n tn lr) := fun j => by
          rw [iScale_at]
          refine (Cg.mod _ _).trans ?_
          have q1 := mix_lin (n := n) (c := -tn) (rs := rs) (j := j) (f := cfK (putK wvs (Sum.inl (number : Int)) (.int tn))) (g := fun k => if k = number then tn else 0) (h := cfK kvs) fun k _ => by
            rw [cfK_put]
            by_cases hm : k = number
            · subst hm
              rw [if_pos rfl, if_pos rfl, cfK_over hk (Int.le_refl _)]
              exact .of (by rw [Int.mul_zero, Int.add_zero])
            · rw [if_neg hm, if_neg hm]
              have := g6k k
              rwa [List.take_length] at this
          rw [mix_one hrn] at q1
          have q2 := ((hmx j).mul (-tn))
          have q3 := (Cg.refl n (tn * r.getD j 0)).add q2
          refine Cg.trans ?_ (q3.trans q1.symm)
          refine .of ?_
          rw [Int.neg_mul, Int.mul_sub]
          omega
        have e36 : Ex H3 (upd H6 wd (.dK (putK wvs (Sum.inl (number : Int)) (.int tn)))) := g2.mut hwd3
        have g8 : upd H6 wd (.dK (putK wvs (Sum.inl (number : Int)) (.int tn))) wd = some (.dK (putK wvs (Sum.inl (number : Int)) (.int tn))) := upd_same
        generalize putK wvs (Sum.inl (number : Int)) (.int tn) = wvs2 at g7 e36 g8 hmw ⊢
        generalize upd H6 wd (.dK wvs2) = H7 at e36 g8 ⊢
        have e27 := e3.trans e36
        have hst7 := hst2.ex e27
        have hobj7 := e27 _ _ hobj2
        have ha7 := e27.dp ha2
        walk_at "rd"
        refine ⟨s, C, dx, _, _, rfl, hobj7, TC.cl, TC.nS, pf_steps, tyL hst7.steps, ?_⟩
        walk_at "rd"
        refine ⟨s, C, dx, _, _, rfl, hobj7, TC.cl, TC.nP, pf_p, ?_⟩
        walk_at "rd"
        refine ⟨_, _, _, lr, rfl, ha7, by omega, t0, by omega, by omega, fun sr H8 e8 hsr => ?_⟩
        walk_at "rd"
        refine w_dispT (by simp) fun tt htt => ?_
        have hst8 := hst7.ex (e8.trans (Ex.new (o := .tup [.int pl, sr, .ref wd]) htt))
        have e89 := e8.trans (Ex.new (o := .tup [.int pl, sr, .ref wd]) htt)
        obtain ⟨sra, esr, _⟩ := dp_row hsr
        subst esr
        have hnew : StepAt K (upd H8 tt (.tup [.int pl, .ref sra, .ref wd])) n (number + 1 : Nat) rs (.ref tt) (pl, iScale n tn lr) := ⟨tt, sra, wd, wvs2, rfl, upd_same, (Ex.new htt).dp hsr, e89 _ _ g8, g7, hmw⟩
        have hobj8 := e89 _ _ hobj7
        have ex8 : Ex H0 (upd H8 tt (.tup [.int pl, .ref sra, .ref wd])) := ex0.trans (e12.trans (e27.trans e89))
        generalize upd H8 tt (.tup [.int pl, .ref sra, .ref wd]) = H9 at hst8 hnew hobj8 ex8 ⊢
        obtain ⟨_, s1, ⟨s2, s3⟩, s4⟩ := hst8
        have hul := s4.1
        walk_at "rd"
        refine w_app s1 (by omega) ?_
        walk_at "rd"
        have hss : s ≠ st := fun z => by rw [z, s1] at hobj8; cases hobj8
        have hsk : s ≠ tk := fun z => by rw [z, s2] at hobj8; cases hobj8
        have s2' : upd H9 st (.lst (us ++ [.ref tt])) tk = some (.lst ((nz ts).map V.int)) := by rw [upd_ne (Ne.symm hstk)]; exact s2
        refine ⟨s, C, dx, _, _, rfl, by rw [upd_ne hss]; exact hobj8, TC.cl, TC.nT, pf_taken, tyL s2', ?_⟩
        walk_at "rd"
        refine w_app s2' (by rw [List.length_map, nz_len']; omega) ?_
        walk_at "rd"
        refine hq _ _ (us ++ [.ref tt]) (S ++ [(pl, iScale n tn lr)]) (ts ++ [number]) ((ex8.mut z1).mut z2) ⟨⟨dx, by rw [upd_ne hsk, upd_ne hss]; exact hobj8⟩, by rw [upd_ne hstk]; exact upd_same, ⟨?_, by rw [List.length_append, List.length_append, s3]; rfl⟩, ?_⟩ ((hTook _).mpr (.inr ⟨pl, tn, hf, hinv, rfl⟩)) (by rw [hf]; rfl)
        · rw [upd_same]
          unfold nz
          rw [List.map_append, List.map_append]
          rfl
        · exact ((s4.mono (by omega)).snoc hnew |>.wr s1).wr s2'
end

end TK

namespace TK
open PySem PySem.Spec PyProof.Rows L2 TH
local macro_rules | `(tactic| walk_at "rd1") => `(tactic| first
  | (with_reducible refine TH.w_seq ?_)
  | (with_reducible refine TH.w_asg ?_)
  | (with_reducible refine TH.w_ret ?_)
  | (with_reducible refine TH.w_drop ?_)
  | (with_reducible refine TH.w_ifS ?_)
  | (with_reducible refine TH.w_next ?_)
  | ((with_reducible refine TH.w_var (v := ?vv) ?hv ?_); (case hv => rfl))
  | (with_reducible refine TH.w_c ?_)
  | ((with_reducible refine TH.w_gname (σ' := ?ss) ?hs ?_); (case hs => (dsimp only [List.set]; rfl)))
  | (with_reducible refine TH.w_op ?_)
  | (with_reducible refine TH.w_un ?_)
  | (with_reducible refine TH.w_chain ?_)
  | (with_reducible refine TH.w_I0 ?_)
  | ((with_reducible refine TH.w_I ?hm ?_); (case hm => first | (exact TH.CMul.l (by omega) (by omega)) | (exact TH.CMul.r (by omega) (by omega)) | (exact TH.CDiv.mk (by omega) (by omega)) | (show (0 : Int) < _; omega) | (exact TH.CPow.mk (by omega) (by omega) (by decide))))
  | (with_reducible refine TH.w_U ?_)
  | (with_reducible refine TH.w_eqI ?_)
  | (with_reducible refine TH.w_neI ?_)
  | (with_reducible refine TH.w_eqB ?_)
  | (with_reducible refine TH.w_isN ?_)
  | (with_reducible refine TH.w_nil ?_)
  | (with_reducible refine TH.w_cons ?_)
  | (with_reducible refine TH.w_test ?_)
  | (with_reducible refine TH.w_B ?_)
  | (with_reducible refine TH.w_bl ?_)
  | (with_reducible refine TH.w_and ?_)
  | (with_reducible refine TH.w_or ?_)
  | (with_reducible refine TH.w_not ?_)
  | (with_reducible refine TH.w_andV ?_)
  | (with_reducible refine TH.w_orV ?_)
  | (with_reducible refine TH.w_notV ?_)
  | (with_reducible refine TH.w_if ?_)
  | (with_reducible refine TH.w_parT ?_)
  | (with_reducible refine TH.w_par ?_)
  | (with_reducible refine TH.w_parT3 ?_)
  | (with_reducible refine TH.w_par3 ?_)
  | (with_reducible refine TH.w_cb ?_)
  | (with_reducible refine TH.w_call ?_)
  | ((with_reducible refine TH.w_aug (v := ?vv) ?hv ?_); (case hv => rfl))
  | (with_reducible refine TH.w_ip ?_)
  | (with_reducible refine TH.w_bm ?_)
  | (with_reducible refine TH.w_sl ?_)
  | (with_reducible refine TH.w_np ?_)
  | (with_reducible refine TH.w_pt ?_)
  | (with_reducible refine TH.w_pti ?_)
  | (with_reducible refine TH.w_gsub ?_)
  | (with_reducible refine TH.w_int ?_)
  | (with_reducible refine TH.w_tupT ?_)
  | (with_reducible refine TH.w_lstT ?_)
  | ((with_reducible show L2.rIxL _ _ _ _ _); (first | (refine TH.w_ixL (TH.sqL upd_same) rfl ?_) | (refine TH.w_ixL (TH.sqL (by assumption)) rfl ?_)))
  | ((with_reducible show L2.rSetL _ _ _ _ _); (first | (refine TH.w_set1 upd_same ?_) | (refine TH.w_set2 upd_same ?_) | (refine TH.w_set3 upd_same ?_) | (refine TH.w_set4 upd_same ?_) | (refine TH.w_set1 (by assumption) ?_) | (refine TH.w_set2 (by assumption) ?_) | (refine TH.w_set3 (by assumption) ?_) | (refine TH.w_set4 (by assumption) ?_)))
  | (with_reducible refine TH.w_lc ?_)
  | (with_reducible refine TH.w_dc ?_)
  | (with_reducible refine TH.w_itup ?_)
  | (with_reducible refine TH.w_ilist ?_)
  | (with_reducible refine TH.w_ienum ?_)
  | (with_reducible refine TH.w_izip ?_)
  | (with_reducible refine TH.w_irng1 ?_)
  | (with_reducible refine TH.w_irng2 ?_)
  | (with_reducible refine TH.w_for ?_)
  | (with_reducible refine TH.w_gcons ?_)
  | (with_reducible refine TH.w_gnil ?_)
  | (with_reducible refine TH.w_yes ?_)
  | (with_reducible refine TH.w_gtup2 upd_same ?_)
  | (with_reducible refine TH.w_gtup3 upd_same ?_)
  | (with_reducible refine TH.w_dput ?_)
  | (with_reducible refine TH.w_bm0 ?_)
  | (with_reducible refine TH.w_din ?_)
  | (with_reducible refine TH.w_dnotin ?_)
  | (with_reducible refine TH.w_dispK ?_)
  | (with_reducible refine TH.w_lock ?_)
  | (with_reducible refine TH.w_ikeys ?_)
  | (with_reducible refine TH.w_iitems ?_)
  | (with_reducible refine TH.w_dispT1 ?_)
  | (with_reducible refine TH.w_dnewT ?_)
  | (with_reducible refine TH.w_dnewK ?_)
  | (with_reducible refine TH.w_fld ?_)
  | (with_reducible refine TH.w_sfld ?_)
  | (with_reducible refine TH.w_meth ?_)
  | (with_reducible refine TH.w_make ?_)
  | (with_reducible refine TH.w_dget2 ?_)
  | (with_reducible refine TH.w_revL ?_)
  | (with_reducible refine TH.w_revT ?_)
  | (with_reducible refine TH.w_lstRg ?_)
  | (with_reducible refine TH.w_tupRg ?_)
  | (with_reducible refine TH.w_rg1 ?_)
  | (with_reducible refine TH.w_rg2 ?_)
  | (with_reducible refine TH.w_T ?_)
  | (with_reducible refine TH.w_F ?_))
local macro_rules | `(tactic| walk_at "rd") => `(tactic| repeat (first | walk_at "rd1" | (dsimp only [List.set, L2.wipe, List.map, TH.isInt, TH.isBool, TH.isTup, TH.isLst, TH.bo_f, TH.bo_t, TH.ba_f, TH.ba_t, TH.bn_t, TH.bn_f, List.append_nil, List.cons_append, List.nil_append])))

variable {P : Program} {w : World} {K : PySem.W.Frag} {mg : Str → Option Value} {base : Heap}
section
open LA
variable {n : Nat} [NeZero n]
/-! ### the stairs over Fin n -/
def stF (n : Nat) [NeZero n] (S : List (Nat × List Int)) : List (Nat × List (_root_.Fin n)) := S.map fun a => (a.1, toF n a.2)
theorem stF_rows (S : List (Nat × List Int)) : rowsOf (stF n S) = rowsF n (S.map (·.2)) := by
  unfold rowsOf stF rowsF
  rw [List.map_map, List.map_map]
  rfl
theorem toF_less {wide : Nat} : ∀ {S : List (Nat × List Int)} {r : List Int}, (∀ a ∈ S, Rin n wide a.2) → Rin n wide r → toF n (lessI n S r) = lessF (stF n S) (toF n r)
  | [], _, _, _ => rfl
  | a :: S, r, hS, h => by
    have ha := hS a List.mem_cons_self
    have := toF_less (S := S) (r := offI n a.2 a.1 r) (fun b hb => hS b (List.mem_cons_of_mem _ hb)) (offI_in h ha)
    rw [toF_off h.1 ha.1] at this
    exact this
structure StI (n : Nat) [NeZero n] (wide : Nat) (rs : List (List Int)) (S : List (Nat × List Int)) : Prop where
  inr : ∀ a ∈ S, Rin n wide a.2 ∧ a.1 < wide
  len : S.length ≤ rs.length
  sta : Sta wide (stF n S)
  eqv : Eqv wide (rowsOf (stF n S)) (rowsF n rs)
theorem stI_nil {wide : Nat} : StI n wide [] [] := ⟨fun a ha => (nomatch ha), Nat.le_refl _, ⟨fun a ha => (nomatch ha), .nil⟩, .refl _⟩
theorem stI_took {wide : Nat} {rs : List (List Int)} {S S' : List (Nat × List Int)} {r : List Int} (hc : Clk n) (hrs : ∀ x ∈ rs, Rin n wide x) (hr : Rin n wide r) (h : StI n wide rs S) (t : Took n r S S') : StI n wide (rs ++ [r]) S' := by
  have hR := rowsF_wd (n := n) fun x hx => (hrs x hx).1
  have hl : (toF n r).length = wide := by rw [toF_len]; exact hr.1
  have el := toF_less (n := n) (fun a ha => (h.inr a ha).1) hr
  have hli := lessI_in (n := n) (fun a ha => (h.inr a ha).1) hr
  have er : rowsF n (rs ++ [r]) = rowsF n rs ++ [toF n r] := by
    unfold rowsF
    rw [List.map_append]
    rfl
  rcases t with ⟨hf, rfl⟩ | ⟨q, c, hf, hc1, rfl⟩
  · refine ⟨h.inr, by rw [List.length_append]; have := h.len; omega, h.sta, ?_⟩
    rw [er]
    refine sta_none h.sta hR hl h.eqv ?_
    rw [← el]
    refine row_zero (by rw [toF_len]; exact hli.1) fun j _ => ?_
    rw [toF_at, firstI_zero hf, cF_zero]
  · obtain ⟨f1, f2, f3⟩ := firstI_lt hf
    have hq : q < wide := by rw [← hli.1]; exact f1
    have := sta_some (t := cF n c) (q := q) (fin_ne hc) h.sta hR hl h.eqv hq (fun j hj => by rw [← el, toF_at, f3 j hj, cF_zero]) (by rw [← el, toF_at]; exact hc1)
    have es : stF n (S ++ [(q, iScale n c (lessI n S r))]) = stF n S ++ [(q, smul (cF n c) (lessF (stF n S) (toF n r)))] := by
      unfold stF
      rw [List.map_append]
      show _ ++ [(q, toF n (iScale n c (lessI n S r)))] = _
      rw [toF_scale, el]
      rfl
    rw [← es] at this
    refine ⟨fun a ha => ?_, by rw [List.length_append, List.length_append]; have := h.len; simp; omega, this.1, by rw [er]; exact this.2⟩
    rcases List.mem_append.mp ha with m | m
    · exact h.inr a m
    · rw [List.mem_singleton.mp m]
      exact ⟨scale_in hli.1, hq⟩
/-! ### from the stairs to the ladder -/
def redI (n : Int) (D : List (Nat × List Int)) (r : List Int) : List Int := D.foldl (fun l a => iSub n l a.2 (l.getD a.1 0)) r
theorem redI_in {wide : Nat} : ∀ {D : List (Nat × List Int)} {r : List Int}, (∀ a ∈ D, Rin n wide a.2) → Rin n wide r → Rin n wide (redI n D r)
  | [], _, _, h => h
  | a :: D, r, hD, h => redI_in (D := D) (fun b hb => hD b (List.mem_cons_of_mem _ hb)) (iSub_in n_pos h.1 (hD a List.mem_cons_self).1)
theorem toF_red : ∀ (D : List (Nat × List Int)) (r : List Int), toF n (redI n D r) = lessF (stF n D) (toF n r)
  | [], _ => rfl
  | a :: D, r => by
    have := toF_red D (iSub n r a.2 (r.getD a.1 0))
    rw [toF_sub, ← toF_at] at this
    exact this
def desI (n : Int) (R : List (Nat × List Int)) : List (Nat × List Int) := R.foldl (fun D a => D ++ [(a.1, redI n D a.2)]) []
theorem desI_snoc (R : List (Nat × List Int)) (a : Nat × List Int) : desI n (R ++ [a]) = desI n R ++ [(a.1, redI n (desI n R) a.2)] := by
  unfold desI
  rw [List.foldl_append]
  rfl
structure DesOk (n : Nat) [NeZero n] (wide : Nat) (R D : List (Nat × List Int)) : Prop where
  inr : ∀ a ∈ D, Rin n wide a.2
  pl : D.map (·.1) = R.map (·.1)
  desc : Desc wide (stF n D)
  eqv : Eqv wide (rowsOf (stF n D)) (rowsOf (stF n R))
theorem desI_ok {wide : Nat} {R : List (Nat × List Int)} (hR : ∀ a ∈ R, Rin n wide a.2) (hg : ∀ a ∈ stF n R, Good wide a) (hp : R.Pairwise fun a b => b.1 < a.1) : ∀ i, DesOk n wide (R.take i) (desI n (R.take i))
  | 0 => ⟨fun a ha => by simp [desI] at ha, rfl, ⟨fun a ha => by simp [desI, stF] at ha, by simp [desI, stF]⟩, by simp [desI]; exact .refl _⟩
  | i + 1 => by
    have ih := desI_ok hR hg hp i
    rw [List.take_add_one]
    cases ha : R[i]? with
    | none => simpa using ih
    | some a =>
      show DesOk n wide (R.take i ++ [a]) (desI n (R.take i ++ [a]))
      rw [desI_snoc]
      have ham := List.mem_of_getElem? ha
      have hain := hR a ham
      have hgood : Good wide (a.1, toF n a.2) := hg _ (List.mem_map.mpr ⟨a, ham, rfl⟩)
      have hT : Wd wide (rowsOf (stF n (R.take i))) := fun x hx => by
        obtain ⟨b, hb, rfl⟩ := List.mem_map.mp hx
        obtain ⟨c, hc, rfl⟩ := List.mem_map.mp hb
        show (toF n c.2).length = wide
        rw [toF_len]
        exact (hR c (List.mem_of_mem_take hc)).1
      have hlt : ∀ b ∈ stF n (desI n (R.take i)), a.1 < b.1 := fun b hb => by
        obtain ⟨c, hc, rfl⟩ := List.mem_map.mp hb
        have hm : c.1 ∈ (desI n (R.take i)).map (·.1) := List.mem_map.mpr ⟨c, hc, rfl⟩
        rw [ih.pl] at hm
        obtain ⟨e, he, ee⟩ := List.mem_map.mp hm
        show a.1 < c.1
        rw [← ee]
        obtain ⟨j, hj⟩ := List.mem_iff_getElem?.mp he
        have hji : j < i := by
          have := (List.getElem?_eq_some_iff.mp hj).1
          rw [List.length_take] at this
          omega
        rw [List.getElem?_take_of_lt hji] at hj
        obtain ⟨j1, j2⟩ := List.getElem?_eq_some_iff.mp hj
        obtain ⟨i1, i2⟩ := List.getElem?_eq_some_iff.mp ha
        have := List.pairwise_iff_getElem.mp hp j i j1 i1 hji
        rw [j2, i2] at this
        exact this
      have step := desc_step ih.desc hgood hlt hT ih.eqv
      have es : stF n (desI n (R.take i) ++ [(a.1, redI n (desI n (R.take i)) a.2)]) = stF n (desI n (R.take i)) ++ [(a.1, lessF (stF n (desI n (R.take i))) (toF n a.2))] := by
        unfold stF
        rw [List.map_append]
        show _ ++ [(a.1, toF n (redI n (desI n (R.take i)) a.2))] = _
        rw [toF_red]
        rfl
      have er : rowsOf (stF n (R.take i ++ [a])) = rowsOf (stF n (R.take i)) ++ [toF n a.2] := by
        unfold rowsOf stF
        rw [List.map_append, List.map_append]
        rfl
      rw [← es, ← er] at step
      refine ⟨fun b hb => ?_, by rw [List.map_append, List.map_append, ih.pl]; rfl, step.1, step.2⟩
      rcases List.mem_append.mp hb with m | m
      · exact ih.inr b m
      · rw [List.mem_singleton.mp m]
        exact redI_in ih.inr hain
def lePl (a b : Nat × List Int) : Bool := decide (a.1 ≤ b.1)
def finI (n : Int) (S : List (Nat × List Int)) : List (List Int) := (desI n (S.mergeSort lePl).reverse).reverse.map (·.2)
theorem sorted_pl {wide : Nat} {S : List (Nat × List Int)} (h : Sta wide (stF n S)) : (S.mergeSort lePl).Pairwise fun a b => a.1 < b.1 := by
  have hp := List.mergeSort_perm S lePl
  have hs : (S.mergeSort lePl).Pairwise fun a b => lePl a b = true := List.pairwise_mergeSort (le := lePl) (fun a b c h1 h2 => by
    have h1 := of_decide_eq_true h1
    have h2 := of_decide_eq_true h2
    exact decide_eq_true (by omega)) (fun a b => by
    rcases Nat.le_total a.1 b.1 with z | z
    · rw [Bool.or_eq_true]; exact .inl (decide_eq_true z)
    · rw [Bool.or_eq_true]; exact .inr (decide_eq_true z)) S
  have hn : S.Pairwise fun a b => a.1 ≠ b.1 := by
    have := h.pw
    unfold stF at this
    rw [List.pairwise_map] at this
    exact this.imp fun z => z.1
  have hn' : (S.mergeSort lePl).Pairwise fun a b => a.1 ≠ b.1 := hp.symm.pairwise hn fun z => Ne.symm z
  exact (hs.and hn').imp fun ⟨a, b⟩ => by
    have := of_decide_eq_true a
    omega
theorem finI_ok {wide : Nat} {rs : List (List Int)} {S : List (Nat × List Int)} (h : StI n wide rs S) : LadI n wide rs (finI n S) ∧ (finI n S).length = S.length := by
  have hp := List.mergeSort_perm S lePl
  have hm : ∀ a, a ∈ (S.mergeSort lePl).reverse ↔ a ∈ S := fun a => by rw [List.mem_reverse]; exact hp.mem_iff
  have ok := desI_ok (n := n) (R := (S.mergeSort lePl).reverse) (fun a ha => (h.inr a ((hm a).mp ha)).1) (fun a ha => by
    obtain ⟨b, hb, rfl⟩ := List.mem_map.mp ha
    exact h.sta.good _ (List.mem_map.mpr ⟨b, (hm b).mp hb, rfl⟩)) (List.pairwise_reverse.mpr (sorted_pl h.sta)) (S.mergeSort lePl).reverse.length
  rw [List.take_length] at ok
  have hlen : (finI n S).length = S.length := by
    have e := congrArg List.length ok.pl
    rw [List.length_map, List.length_map, List.length_reverse] at e
    unfold finI
    rw [List.length_map, List.length_reverse, e, hp.length_eq]
  have ein : ∀ r ∈ finI n S, Rin n wide r := fun r hr => by
    obtain ⟨a, ha, rfl⟩ := List.mem_map.mp hr
    exact ok.inr a (List.mem_reverse.mp ha)
  have erow : rowsOf (stF n (desI n (S.mergeSort lePl).reverse)).reverse = rowsF n (finI n S) := by
    unfold rowsOf stF rowsF finI
    rw [List.map_reverse, List.map_map, List.map_reverse, List.map_reverse, List.map_map]
    rfl
  have hwD : Wd wide (rowsOf (stF n (desI n (S.mergeSort lePl).reverse))) := ok.desc.sta.wds.wd
  refine ⟨⟨ein, by rw [hlen]; exact h.len, ⟨_, erow, ok.desc.lad⟩, ?_⟩, hlen⟩
  have e1 : Eqv wide (rowsF n (finI n S)) (rowsOf (stF n (desI n (S.mergeSort lePl).reverse))) := Eqv.mem (rowsF_wd fun r hr => (ein r hr).1) hwD fun r => by
    rw [← erow, rowsOf, List.map_reverse, List.mem_reverse]
  have e2 : Eqv wide (rowsOf (stF n (S.mergeSort lePl).reverse)) (rowsOf (stF n S)) := Eqv.mem (fun r hr => by
    obtain ⟨a, ha, rfl⟩ := List.mem_map.mp hr
    obtain ⟨b, hb, rfl⟩ := List.mem_map.mp ha
    show (toF n b.2).length = wide
    rw [toF_len]
    exact (h.inr b ((hm b).mp hb)).1.1) h.sta.wds.wd fun r => by
    constructor
    · intro hr
      obtain ⟨a, ha, rfl⟩ := List.mem_map.mp hr
      obtain ⟨b, hb, rfl⟩ := List.mem_map.mp ha
      exact List.mem_map.mpr ⟨_, List.mem_map.mpr ⟨b, (hm b).mp hb, rfl⟩, rfl⟩
    · intro hr
      obtain ⟨a, ha, rfl⟩ := List.mem_map.mp hr
      obtain ⟨b, hb, rfl⟩ := List.mem_map.mp ha
      exact List.mem_map.mpr ⟨_, List.mem_map.mpr ⟨b, (hm b).mpr hb, rfl⟩, rfl⟩
  exact e1.trans (ok.eqv.trans (e2.trans h.eqv))
end
end TK

namespace TK
open PySem PySem.Spec PyProof.Rows L2 TH
local macro_rules | `(tactic| walk_at "rd1") => `(tactic| first
  | (with_reducible refine TH.w_seq ?_)
  | (with_reducible refine TH.w_asg ?_)
  | (with_reducible refine TH.w_ret ?_)
  | (with_reducible refine TH.w_drop ?_)
  | (with_reducible refine TH.w_ifS ?_)
  | (with_reducible refine TH.w_next ?_)
  | ((with_reducible refine TH.w_var (v := ?vv) ?hv ?_); (case hv => rfl))
  | (with_reducible refine TH.w_c ?_)
  | ((with_reducible refine TH.w_gname (σ' := ?ss) ?hs ?_); (case hs => (dsimp only [List.set]; rfl)))
  | (with_reducible refine TH.w_op ?_)
  | (with_reducible refine TH.w_un ?_)
  | (with_reducible refine TH.w_chain ?_)
  | (with_reducible refine TH.w_I0 ?_)
  | ((with_reducible refine TH.w_I ?hm ?_); (case hm => first | (exact TH.CMul.l (by omega) (by omega)) | (exact TH.CMul.r (by omega) (by omega)) | (exact TH.CDiv.mk (by omega) (by omega)) | (show (0 : Int) < _; omega) | (exact TH.CPow.mk (by omega) (by omega) (by decide))))
  | (with_reducible refine TH.w_U ?_)
  | (with_reducible refine TH.w_eqI ?_)
  | (with_reducible refine TH.w_neI ?_)
  | (with_reducible refine TH.w_eqB ?_)
  | (with_reducible refine TH.w_isN ?_)
  | (with_reducible refine TH.w_nil ?_)
  | (with_reducible refine TH.w_cons ?_)
  | (with_reducible refine TH.w_test ?_)
  | (with_reducible refine TH.w_B ?_)
  | (with_reducible refine TH.w_bl ?_)
  | (with_reducible refine TH.w_and ?_)
  | (with_reducible refine TH.w_or ?_)
  | (with_reducible refine TH.w_not ?_)
  | (with_reducible refine TH.w_andV ?_)
  | (with_reducible refine TH.w_orV ?_)
  | (with_reducible refine TH.w_notV ?_)
  | (with_reducible refine TH.w_if ?_)
  | (with_reducible refine TH.w_parT ?_)
  | (with_reducible refine TH.w_par ?_)
  | (with_reducible refine TH.w_parT3 ?_)
  | (with_reducible refine TH.w_par3 ?_)
  | (with_reducible refine TH.w_cb ?_)
  | (with_reducible refine TH.w_call ?_)
  | ((with_reducible refine TH.w_aug (v := ?vv) ?hv ?_); (case hv => rfl))
  | (with_reducible refine TH.w_ip ?_)
  | (with_reducible refine TH.w_bm ?_)
  | (with_reducible refine TH.w_sl ?_)
  | (with_reducible refine TH.w_np ?_)
  | (with_reducible refine TH.w_pt ?_)
  | (with_reducible refine TH.w_pti ?_)
  | (with_reducible refine TH.w_gsub ?_)
  | (with_reducible refine TH.w_int ?_)
  | (with_reducible refine TH.w_tupT ?_)
  | (with_reducible refine TH.w_lstT ?_)
  | ((with_reducible show L2.rIxL _ _ _ _ _); (first | (refine TH.w_ixL (TH.sqL upd_same) rfl ?_) | (refine TH.w_ixL (TH.sqL (by assumption)) rfl ?_)))
  | ((with_reducible show L2.rSetL _ _ _ _ _); (first | (refine TH.w_set1 upd_same ?_) | (refine TH.w_set2 upd_same ?_) | (refine TH.w_set3 upd_same ?_) | (refine TH.w_set4 upd_same ?_) | (refine TH.w_set1 (by assumption) ?_) | (refine TH.w_set2 (by assumption) ?_) | (refine TH.w_set3 (by assumption) ?_) | (refine TH.w_set4 (by assumption) ?_)))
  | (with_reducible refine TH.w_lc ?_)
  | (with_reducible refine TH.w_dc ?_)
  | (with_reducible refine TH.w_itup ?_)
  | (with_reducible refine TH.w_ilist ?_)
  | (with_reducible refine TH.w_ienum ?_)
  | (with_reducible refine TH.w_izip ?_)
  | (with_reducible refine TH.w_irng1 ?_)
  | (with_reducible refine TH.w_irng2 ?_)
  | (with_reducible refine TH.w_for ?_)
  | (with_reducible refine TH.w_gcons ?_)
  | (with_reducible refine TH.w_gnil ?_)
  | (with_reducible refine TH.w_yes ?_)
  | (with_reducible refine TH.w_gtup2 upd_same ?_)
  | (with_reducible refine TH.w_gtup3 upd_same ?_)
  | (with_reducible refine TH.w_dput ?_)
  | (with_reducible refine TH.w_bm0 ?_)
  | (with_reducible refine TH.w_din ?_)
  | (with_reducible refine TH.w_dnotin ?_)
  | (with_reducible refine TH.w_dispK ?_)
  | (with_reducible refine TH.w_lock ?_)
  | (with_reducible refine TH.w_ikeys ?_)
  | (with_reducible refine TH.w_iitems ?_)
  | (with_reducible refine TH.w_dispT1 ?_)
  | (with_reducible refine TH.w_dnewT ?_)
  | (with_reducible refine TH.w_dnewK ?_)
  | (with_reducible refine TH.w_fld ?_)
  | (with_reducible refine TH.w_sfld ?_)
  | (with_reducible refine TH.w_meth ?_)
  | (with_reducible refine TH.w_make ?_)
  | (with_reducible refine TH.w_dget2 ?_)
  | (with_reducible refine TH.w_revL ?_)
  | (with_reducible refine TH.w_revT ?_)
  | (with_reducible refine TH.w_lstRg ?_)
  | (with_reducible refine TH.w_tupRg ?_)
  | (with_reducible refine TH.w_rg1 ?_)
  | (with_reducible refine TH.w_rg2 ?_)
  | (with_reducible refine TH.w_T ?_)
  | (with_reducible refine TH.w_F ?_))
local macro_rules | `(tactic| walk_at "rd") => `(tactic| repeat (first | walk_at "rd1" | (dsimp only [List.set, L2.wipe, List.map, TH.isInt, TH.isBool, TH.isTup, TH.isLst, TH.bo_f, TH.bo_t, TH.ba_f, TH.ba_t, TH.bn_t, TH.bn_f, List.append_nil, List.cons_append, List.nil_append])))

variable {P : Program} {w : World} {K : PySem.W.Frag} {mg : Str → Option Value} {base : Heap}
open LA in
theorem sta_in {F : Type} [Lean.Grind.CommRing F] {w : Nat} : ∀ {S : List (Nat × List F)} {v : List F}, Sta w S → v.length = w → InS w (rowsOf S) v → (∀ a ∈ S, at' v a.1 = 0) → v = zero w
  | [], _, _, _, h, _ => h
  | x :: S, v, hS, hv, ⟨c, h⟩, hz => by
    have gx := hS.good x List.mem_cons_self
    obtain ⟨p1, p2⟩ := List.pairwise_cons.mp hS.pw
    have hT : Sta w S := ⟨fun b hb => hS.good b (List.mem_cons_of_mem _ hb), p2⟩
    have hsl := sub_len (c := c) hv gx.len
    have h0 : at' (sub v x.2 c) x.1 = 0 := inS_nil hT.wds.wd hsl (fun r hr => by
      obtain ⟨b, hb, rfl⟩ := List.mem_map.mp hr
      exact (p1 b hb).2) h
    rw [sub_at (by rw [hv, gx.len]), gx.one, hz x List.mem_cons_self] at h0
    have c0 : c = 0 := by grind
    subst c0
    rw [sub_zero' hv gx.len] at h
    exact sta_in hT hv h fun b hb => hz b (List.mem_cons_of_mem _ hb)
section
open LA
variable {n : Nat} [NeZero n]
/-- nothing is left just of what is a mixture -/
theorem none_iff {wide : Nat} {rs : List (List Int)} {S : List (Nat × List Int)} {r : List Int} (hrs : ∀ x ∈ rs, Rin n wide x) (hr : Rin n wide r) (h : StI n wide rs S) : firstI (lessI n S r) = none ↔ InS wide (rowsF n rs) (toF n r) := by
  have hl : (toF n r).length = wide := by rw [toF_len]; exact hr.1
  have el := toF_less (n := n) (fun a ha => (h.inr a ha).1) hr
  have hli := lessI_in (n := n) (fun a ha => (h.inr a ha).1) hr
  have hsp := lessF_span (S := stF n S) (l := toF n r) (T := rowsOf (stF n S)) h.sta.wds h.sta.wds.wd hl fun a ha => inS_mem h.sta.wds.wd (List.mem_map.mpr ⟨a, ha, rfl⟩)
  refine Iff.trans ?_ (h.eqv _ hl)
  refine Iff.trans ?_ hsp
  constructor
  · intro hf
    have : lessF (stF n S) (toF n r) = zero wide := by
      rw [← el]
      refine row_zero (by rw [toF_len]; exact hli.1) fun j _ => ?_
      rw [toF_at, firstI_zero hf, cF_zero]
    rw [this]
    exact inS_zero h.sta.wds.wd
  · intro hi
    have hz := sta_in h.sta (lessF_len h.sta.wds hl) hi (lessF_zero h.sta hl)
    rw [← el, ← toF_zero] at hz
    have e := toF_inj hli ⟨List.length_replicate, fun x hx => by
      rw [(List.mem_replicate.mp hx).2]
      exact ⟨Int.le_refl _, n_pos⟩⟩ hz
    rw [e]
    unfold firstI
    rw [List.findIdx?_eq_none_iff]
    intro x hx
    rw [(List.mem_replicate.mp hx).2]
    rfl
/-- the numbers of the rows that are no mixtures of those ahead -/
inductive Least (n : Nat) [NeZero n] (wide : Nat) (rs : List (List Int)) : Nat → List Nat → Prop where
  | nil : Least n wide rs 0 []
  | skip {i : Nat} {r : List Int} {ts : List Nat} (h : Least n wide rs i ts) (e : rs[i]? = some r) (m : InS wide (rowsF n (rs.take i)) (toF n r)) : Least n wide rs (i + 1) ts
  | more {i : Nat} {r : List Int} {ts : List Nat} (h : Least n wide rs i ts) (e : rs[i]? = some r) (m : ¬ InS wide (rowsF n (rs.take i)) (toF n r)) : Least n wide rs (i + 1) (ts ++ [i])
theorem Least.one {wide : Nat} {rs : List (List Int)} {i : Nat} {ts us : List Nat} (h : Least n wide rs i ts) : ∀ us, Least n wide rs i us → ts = us := by
  induction h with
  | nil =>
    intro us g
    cases g
    rfl
  | skip h e m ih =>
    intro us g
    cases g with
    | skip g e' m' => exact ih _ g
    | more g e' m' =>
      rw [e] at e'
      cases e'
      exact absurd m m'
  | more h e m ih =>
    intro us g
    cases g with
    | skip g e' m' =>
      rw [e] at e'
      cases e'
      exact absurd m' m
    | more g e' m' => rw [ih _ g]
theorem Least.step {wide : Nat} {rs : List (List Int)} {i : Nat} {ts : List Nat} {r : List Int} {S : List (Nat × List Int)} (h : Least n wide rs i ts) (hc : Clk n) (hrs : ∀ x ∈ rs.take i, Rin n wide x) (hr : Rin n wide r) (e : rs[i]? = some r) (hS : StI n wide (rs.take i) S) :
    Least n wide rs (i + 1) (if (firstI (lessI n S r)).isSome = true then ts ++ [i] else ts) := by
  have := none_iff hrs hr hS
  cases hf : firstI (lessI n S r) with
  | none =>
    rw [if_neg (by simp)]
    exact h.skip e (this.mp hf)
  | some q =>
    show Least n wide rs (i + 1) (ts ++ [i])
    exact h.more e fun z => by
      rw [this.mpr z] at hf
      cases hf
end
section
open LA
/-! stairs_of(p, rows) -/
def sp_stairs_of (K : PySem.W.Frag) (C : Addr) : Sp := fun vs H Q _ => ∃ (n : Nat) (_ : NeZero n) (wide : Nat) (v : V) (rs : List (List Int)), vs = [.int (n : Nat), v] ∧ Clk n ∧ wide ≤ 1000 ∧ rs.length ≤ 200 ∧ RowsAt K H v rs ∧ (∀ r ∈ rs, Rin n wide r) ∧
  ∀ (s st tk : Addr) (us : List V) (S : List (Nat × List Int)) (ts : List Nat) (H' : Hp), Ex H H' → StairsAt K C H' s st tk n (rs.length : Nat) rs us S ts → StI n wide rs S → Least n wide rs rs.length ts → Q (.ref s) H'
theorem ok_stairs_of {C f : Addr} {fd : FuncData} (F : C8.Def K mg "stairs_of" s_stairs_of f fd) (b : Binds K fd ["p", "rows"] []) (T : Txt mg) (TC : StC K C)
    (c_Stairs : C8.Mak P w K mg base 1 "Stairs" C (sp_st_init C) []) (c_Stairs_take : C8.Met P w K mg base 3 C "take" (sp_st_take K C) []) : C8.Cal P w K mg base 4 "stairs_of" (sp_stairs_of K C) [] := by
  refine C8.cal0 F b .nil sc_stairs_of (fun vs H Q E h => ?_) (fun cdv A outer s H vs Q E hr h => ?_)
  · obtain ⟨n, _, wide, v, rs, rfl, _⟩ := h
    rfl
  · obtain ⟨n, inst, wide, v, rs, rfl, hc, hw, hl, hR, hrs, q⟩ := h
    have n2 := hc.two
    have nm := hc.le
    refine ⟨_, (pss_cons (ps_set (i := 2) sc_stairs_of.nd rfl (Or.inl rfl) (C8.pe_mk c_Stairs hr (by first | decide | exact Nat.le_refl _) (by rfl) (pa_cons (pv 0) pa_nil)))
      (pss_cons (ps_for PassesOwn.never rfl (TH.kpi_enum (K := K) (by rfl) T.b_enumerate (pa_cons (pv 1) pa_nil)) (TH.kpg_tup (K := K) (n := 2) rfl (pgs_cons (pg_name (i := 3) sc_stairs_of.nd rfl (Or.inl rfl) (Or.inr rfl)) (pgs_cons (pg_name (i := 4) sc_stairs_of.nd rfl (Or.inl rfl) (Or.inr rfl)) pgs_nil))) (pss_one (ps_expr (C8.pe_mt c_Stairs_take hr (by first | decide | exact Nat.le_refl _) (pv 2) (pa_cons (pv 3) (pa_cons (pv 4) pa_nil))))))
      (pss_one (ps_ret (pv 2))))), ?_⟩
    refine w_start (σ' := [some (.int n), some v, none, none, none]) rfl ?_
    walk_at "rd"
    intro s dx hs hdx hne
    refine ⟨s, dx, n, rfl, upd_same, fun st tk H1 h1 h2 h3 h4 h5 h6 h7 => ⟨rfl, ?_⟩⟩
    have hdx' : upd (upd H dx (.own s)) s (.ins C dx []) dx = some (.own s) := by rw [upd_ne hne]; exact upd_same
    have hsx : upd (upd H dx (.own s)) s (.ins C dx []) s = some (.ins C dx []) := upd_same
    have e1 : Ex H H1 := fun a o ha => h4 a (fun z => by rw [z, hs] at ha; cases ha) o (by
      rw [upd_ne (ne_of_none ha hs), upd_ne (ne_of_none ha hdx)]
      exact ha)
    have h1' : H st = none := by
      have z1 : st ≠ s := fun z => by rw [z, hsx] at h1; cases h1
      have z2 : st ≠ dx := fun z => by rw [z, hdx'] at h1; cases h1
      rw [upd_ne z1, upd_ne z2] at h1
      exact h1
    have h2' : H tk = none := by
      have z1 : tk ≠ s := fun z => by rw [z, hsx] at h2; cases h2
      have z2 : tk ≠ dx := fun z => by rw [z, hdx'] at h2; cases h2
      rw [upd_ne z1, upd_ne z2] at h2
      exact h2
    obtain ⟨a, xs, rfl, hxs, hda⟩ : ∃ a xs, v = .ref a ∧ (SqL K H a xs ∨ SqT K H a xs) ∧ DpAll K H xs (rs.map row) := by
      rcases hR.at' with h | h
      · obtain ⟨a, xs, e, h1, h2⟩ := dp_lst h
        exact ⟨a, xs, e, .inl h1, h2⟩
      · obtain ⟨a, xs, e, h1, h2⟩ := dp_tup h
        exact ⟨a, xs, e, .inr h1, h2⟩
    have hxl : xs.length = rs.length := by rw [dpa_len hda, List.length_map]
    have hst1 : StairsAt K C H1 s st tk n (0 : Nat) rs [] [] [] := ⟨⟨dx, h5⟩, h6, ⟨h7, rfl⟩, rfl, fun i v hv => by simp at hv⟩
    walk_at "rd"
    have turn : ∀ (i : Nat) (x : V) (H2 : Hp) (us : List V) (S : List (Nat × List Int)) (ts : List Nat) (y z : Option V) (t : Addr) (nx : L2.St → Hp → Prop) (R : L2.St → Hp → Prop) (D : Ends), Ex H H2 → H2 t = none → xs[i]? = some x → StairsAt K C H2 s st tk n (i : Nat) rs us S ts → StI n wide (rs.take i) S → Least n wide rs i ts →
        (∀ us' S' ts' H3, Ex H H3 → StairsAt K C H3 s st tk n (i + 1 : Nat) rs us' S' ts' → StI n wide (rs.take (i + 1)) S' → Least n wide rs (i + 1) ts' → D.nx [some (.int n), some (.ref a), some (.ref s), some (.int i), some x] H3) →
        tDrop (tMeth C "take" (sp_st_take K C) [] C8.E0 (tVar 2) (tCons (tVar 3) (tCons (tVar 4) tNil))) D [some (.int n), some (.ref a), some (.ref s), some (.int i), some x] (upd H2 t (.tup [.int i, x])) := by
      intro i x H2 us S ts y z t nx R D e2 ht hx hst hS hls hk
      obtain ⟨r, hr1, hr2⟩ := rowsAt_get hda hx
      have hrin : Rin n wide r := hrs r (List.mem_of_getElem? hr1)
      have hi := (List.getElem?_eq_some_iff.mp hr1).1
      have hsl := hS.len
      rw [List.length_take] at hsl
      have e3 := e2.trans (Ex.new (o := .tup [.int i, x]) ht)
      have hst3 := hst.ex (Ex.new (o := .tup [.int i, x]) ht)
      walk_at "rd"
      obtain ⟨⟨dx3, hob3⟩, _, _, _⟩ := id hst3
      refine ⟨s, dx3, _, rfl, hob3, pf_no (by decide +kernel) (by decide +kernel) (by decide +kernel), ?_⟩
      walk_at "rd"
      refine ⟨n, inst, wide, s, st, tk, rs, us, S, ts, x, r, i, H, rfl, hc, by omega, hr1, hw, by omega, hst3, h3, hS.inr, e3.dp hr2, hrin, e3, h1', h2', fun v' H4 us' S' ts' e4 hst4 ht4 hts => ?_⟩
      walk_at "rd"
      refine hk us' S' ts' H4 e4 hst4 ?_ ?_
      · rw [List.take_add_one, hr1]
        exact stI_took hc (fun y hy => hrs y (List.mem_of_mem_take hy)) hrin hS ht4
      · rw [hts]
        exact hls.step hc (fun y hy => hrs y (List.mem_of_mem_take hy)) hrin hr1 hS
    refine ⟨a, xs, rfl, ?_⟩
    have hfin : ∀ H2 us S ts, Ex H H2 → StairsAt K C H2 s st tk n (xs.length : Nat) rs us S ts → StI n wide (rs.take xs.length) S → Least n wide rs xs.length ts → Q (.ref s) H2 := fun H2 us S ts e hst hS hls => q s st tk us S ts H2 e (by rw [hxl] at hst; exact hst) (by rw [hxl, List.take_length] at hS; exact hS) (by rw [hxl] at hls; exact hls)
    rcases hxs with hxs | hxs
    · refine .inl ⟨e1.l hxs, ?_⟩
      refine for_go walk_enum (fun i σ H2 => Ex H H2 ∧ ∃ (y z : Option V) (us : List V) (S : List (Nat × List Int)) (ts : List Nat), σ = [some (.int n), some (.ref a), some (.ref s), y, z] ∧ StairsAt K C H2 s st tk n (i : Nat) rs us S ts ∧ StI n wide (rs.take i) S ∧ Least n wide rs i ts) ⟨e1, _, _, [], [], [], rfl, hst1, stI_nil, .nil⟩ (fun i σ H' _ p => p.1.l hxs) (fun i x σ H' H'' hi p y => ?_) (fun σ H' p => ?_)
      · obtain ⟨e, y1, z1, us, S, ts, rfl, hst, hS, hls⟩ := p
        obtain ⟨t, x1, x2, rfl, ht, rfl, k1, k2⟩ := y
        cases k1
        refine w_gtup2 upd_same ?_
        refine w_gcons ?_
        refine w_gname (σ' := _) rfl ?_
        refine w_gcons ?_
        refine w_gname (σ' := _) rfl ?_
        refine w_gnil ?_
        exact turn i x2 H' us S ts y1 z1 t (fun _ _ => True) (fun _ _ => True) _ e ht k2 hst hS hls fun us' S' ts' H3 e3 a1 a2 a3 => ⟨e3, _, _, us', S', ts', rfl, a1, a2, a3⟩
      · obtain ⟨e, y1, z1, us, S, ts, rfl, hst, hS, hls⟩ := p
        walk_at "rd"
        exact hfin H' us S ts e hst hS hls
    · refine .inr ⟨e1.t hxs, ?_⟩
      refine for_go walk_enumT (fun i σ H2 => Ex H H2 ∧ ∃ (y z : Option V) (us : List V) (S : List (Nat × List Int)) (ts : List Nat), σ = [some (.int n), some (.ref a), some (.ref s), y, z] ∧ StairsAt K C H2 s st tk n (i : Nat) rs us S ts ∧ StI n wide (rs.take i) S ∧ Least n wide rs i ts) ⟨e1, _, _, [], [], [], rfl, hst1, stI_nil, .nil⟩ (fun i σ H' _ p => p.1.t hxs) (fun i x σ H' H'' hi p y => ?_) (fun σ H' p => ?_)
      · obtain ⟨e, y1, z1, us, S, ts, rfl, hst, hS, hls⟩ := p
        obtain ⟨t, x1, x2, rfl, ht, rfl, k1, k2⟩ := y
        cases k1
        refine w_gtup2 upd_same ?_
        refine w_gcons ?_
        refine w_gname (σ' := _) rfl ?_
        refine w_gcons ?_
        refine w_gname (σ' := _) rfl ?_
        refine w_gnil ?_
        exact turn i x2 H' us S ts y1 z1 t (fun _ _ => True) (fun _ _ => True) _ e ht k2 hst hS hls fun us' S' ts' H3 e3 a1 a2 a3 => ⟨e3, _, _, us', S', ts', rfl, a1, a2, a3⟩
      · obtain ⟨e, y1, z1, us, S, ts, rfl, hst, hS, hls⟩ := p
        walk_at "rd"
        exact hfin H' us S ts e hst hS hls
end
end TK

namespace TK
open PySem PySem.Spec PyProof.Rows L2 TH
local macro_rules | `(tactic| walk_at "rd1") => `(tactic| first
  | (with_reducible refine TH.w_seq ?_)
  | (with_reducible refine TH.w_asg ?_)
  | (with_reducible refine TH.w_ret ?_)
  | (with_reducible refine TH.w_drop ?_)
  | (with_reducible refine TH.w_ifS ?_)
  | (with_reducible refine TH.w_next ?_)
  | ((with_reducible refine TH.w_var (v := ?vv) ?hv ?_); (case hv => rfl))
  | (with_reducible refine TH.w_c ?_)
  | ((with_reducible refine TH.w_gname (σ' := ?ss) ?hs ?_); (case hs => (dsimp only [List.set]; rfl)))
  | (with_reducible refine TH.w_op ?_)
  | (with_reducible refine TH.w_un ?_)
  | (with_reducible refine TH.w_chain ?_)
  | (with_reducible refine TH.w_I0 ?_)
  | ((with_reducible refine TH.w_I ?hm ?_); (case hm => first | (exact TH.CMul.l (by omega) (by omega)) | (exact TH.CMul.r (by omega) (by omega)) | (exact TH.CDiv.mk (by omega) (by omega)) | (show (0 : Int) < _; omega) | (exact TH.CPow.mk (by omega) (by omega) (by decide))))
  | (with_reducible refine TH.w_U ?_)
  | (with_reducible refine TH.w_eqI ?_)
  | (with_reducible refine TH.w_neI ?_)
  | (with_reducible refine TH.w_eqB ?_)
  | (with_reducible refine TH.w_isN ?_)
  | (with_reducible refine TH.w_nil ?_)
  | (with_reducible refine TH.w_cons ?_)
  | (with_reducible refine TH.w_test ?_)
  | (with_reducible refine TH.w_B ?_)
  | (with_reducible refine TH.w_bl ?_)
  | (with_reducible refine TH.w_and ?_)
  | (with_reducible refine TH.w_or ?_)
  | (with_reducible refine TH.w_not ?_)
  | (with_reducible refine TH.w_andV ?_)
  | (with_reducible refine TH.w_orV ?_)
  | (with_reducible refine TH.w_notV ?_)
  | (with_reducible refine TH.w_if ?_)
  | (with_reducible refine TH.w_parT ?_)
  | (with_reducible refine TH.w_par ?_)
  | (with_reducible refine TH.w_parT3 ?_)
  | (with_reducible refine TH.w_par3 ?_)
  | (with_reducible refine TH.w_cb ?_)
  | (with_reducible refine TH.w_call ?_)
  | ((with_reducible refine TH.w_aug (v := ?vv) ?hv ?_); (case hv => rfl))
  | (with_reducible refine TH.w_ip ?_)
  | (with_reducible refine TH.w_bm ?_)
  | (with_reducible refine TH.w_sl ?_)
  | (with_reducible refine TH.w_np ?_)
  | (with_reducible refine TH.w_pt ?_)
  | (with_reducible refine TH.w_pti ?_)
  | (with_reducible refine TH.w_gsub ?_)
  | (with_reducible refine TH.w_int ?_)
  | (with_reducible refine TH.w_tupT ?_)
  | (with_reducible refine TH.w_lstT ?_)
  | ((with_reducible show L2.rIxL _ _ _ _ _); (first | (refine TH.w_ixL (TH.sqL upd_same) rfl ?_) | (refine TH.w_ixL (TH.sqL (by assumption)) rfl ?_)))
  | ((with_reducible show L2.rSetL _ _ _ _ _); (first | (refine TH.w_set1 upd_same ?_) | (refine TH.w_set2 upd_same ?_) | (refine TH.w_set3 upd_same ?_) | (refine TH.w_set4 upd_same ?_) | (refine TH.w_set1 (by assumption) ?_) | (refine TH.w_set2 (by assumption) ?_) | (refine TH.w_set3 (by assumption) ?_) | (refine TH.w_set4 (by assumption) ?_)))
  | (with_reducible refine TH.w_lc ?_)
  | (with_reducible refine TH.w_dc ?_)
  | (with_reducible refine TH.w_itup ?_)
  | (with_reducible refine TH.w_ilist ?_)
  | (with_reducible refine TH.w_ienum ?_)
  | (with_reducible refine TH.w_izip ?_)
  | (with_reducible refine TH.w_irng1 ?_)
  | (with_reducible refine TH.w_irng2 ?_)
  | (with_reducible refine TH.w_for ?_)
  | (with_reducible refine TH.w_gcons ?_)
  | (with_reducible refine TH.w_gnil ?_)
  | (with_reducible refine TH.w_yes ?_)
  | (with_reducible refine TH.w_gtup2 upd_same ?_)
  | (with_reducible refine TH.w_gtup3 upd_same ?_)
  | (with_reducible refine TH.w_dput ?_)
  | (with_reducible refine TH.w_bm0 ?_)
  | (with_reducible refine TH.w_din ?_)
  | (with_reducible refine TH.w_dnotin ?_)
  | (with_reducible refine TH.w_dispK ?_)
  | (with_reducible refine TH.w_lock ?_)
  | (with_reducible refine TH.w_ikeys ?_)
  | (with_reducible refine TH.w_iitems ?_)
  | (with_reducible refine TH.w_dispT1 ?_)
  | (with_reducible refine TH.w_dnewT ?_)
  | (with_reducible refine TH.w_dnewK ?_)
  | (with_reducible refine TH.w_fld ?_)
  | (with_reducible refine TH.w_sfld ?_)
  | (with_reducible refine TH.w_meth ?_)
  | (with_reducible refine TH.w_make ?_)
  | (with_reducible refine TH.w_dget2 ?_)
  | (with_reducible refine TH.w_revL ?_)
  | (with_reducible refine TH.w_revT ?_)
  | (with_reducible refine TH.w_lstRg ?_)
  | (with_reducible refine TH.w_tupRg ?_)
  | (with_reducible refine TH.w_rg1 ?_)
  | (with_reducible refine TH.w_rg2 ?_)
  | (with_reducible refine TH.w_T ?_)
  | (with_reducible refine TH.w_F ?_))
local macro_rules | `(tactic| walk_at "rd") => `(tactic| repeat (first | walk_at "rd1" | (dsimp only [List.set, L2.wipe, List.map, TH.isInt, TH.isBool, TH.isTup, TH.isLst, TH.bo_f, TH.bo_t, TH.ba_f, TH.ba_t, TH.bn_t, TH.bn_f, List.append_nil, List.cons_append, List.nil_append])))

variable {P : Program} {w : World} {K : PySem.W.Frag} {mg : Str → Option Value} {base : Heap}
/-- a place and a row -/
def pd (a : Nat × List Int) : D := .tuple [.int (a.1 : Nat), row a.2]
theorem imm_pd (a : Nat × List Int) : imm (pd a) = true := by
  show immAll [.int (a.1 : Nat), row a.2] = true
  rw [immAll_iff]
  intro d hd
  rcases List.mem_cons.mp hd with rfl | m
  · rfl
  · rw [List.mem_singleton.mp m]; exact imm_row _
theorem imm_pds (S : List (Nat × List Int)) : immAll (S.map pd) = true := immAll_iff.mpr fun d hd => by
  obtain ⟨a, _, rfl⟩ := List.mem_map.mp hd
  exact imm_pd a
section
open PySem.W
theorem alike_pd (a b : Nat × List Int) : alike (pd a) (pd b) = true := by
  have h1 : alike (row a.2) (row b.2) = true := by
    show alike (.tuple (a.2.map .int)) (.tuple (b.2.map .int)) = true
    simpa [alike] using alike_ints a.2 b.2
  show alike (.tuple [.int (a.1 : Nat), row a.2]) (.tuple [.int (b.1 : Nat), row b.2]) = true
  simp [alike, alikeAll, h1]
theorem depth_pd (a : Nat × List Int) : (pd a).depth ≤ 50 := by
  show PyData.depthAll [.int (a.1 : Nat), .tuple (a.2.map .int)] + 1 ≤ 50
  simp [PyData.depthAll, PyData.depth, depth_ints]
theorem lt_pd (a b : Nat × List Int) (h : a.1 ≠ b.1) : dataLt (pd a) (pd b) = decide (a.1 < b.1) := by
  have h1 : alike (row a.2) (row b.2) = true := by
    show alike (.tuple (a.2.map .int)) (.tuple (b.2.map .int)) = true
    simpa [alike] using alike_ints a.2 b.2
  unfold pd
  rw [dataLt_pair (by simp [alike]) h1, dataLt_int]
  have e : PyData.eqv (.int (a.1 : Nat)) (.int (b.1 : Nat)) = false := by
    simp [PyData.eqv]
    omega
  rw [e]
  simp
theorem sort_pd {S : List (Nat × List Int)} (h : S.Pairwise fun a b => a.1 ≠ b.1) : (S.map pd).mergeSort (dataLe false id) = (S.mergeSort lePl).map pd := by
  refine (sort_maps pd fun a ha b hb => ?_).symm
  show lePl a b = !dataLt (pd b) (pd a)
  by_cases e : a.1 = b.1
  · have : a = b := by
      refine Decidable.byContradiction fun ne => ?_
      obtain ⟨i, hi⟩ := List.mem_iff_getElem?.mp ha
      obtain ⟨j, hj⟩ := List.mem_iff_getElem?.mp hb
      obtain ⟨i1, i2⟩ := List.getElem?_eq_some_iff.mp hi
      obtain ⟨j1, j2⟩ := List.getElem?_eq_some_iff.mp hj
      rcases Nat.lt_trichotomy i j with z | z | z
      · have := List.pairwise_iff_getElem.mp h i j i1 j1 z
        rw [i2, j2] at this
        exact this e
      · subst z
        rw [hi] at hj
        exact ne (Option.some.inj hj)
      · have := List.pairwise_iff_getElem.mp h j i j1 i1 z
        rw [i2, j2] at this
        exact this e.symm
    subst this
    have e2 : dataLt (pd a) (pd a) = false := by
      unfold pd
      rw [dataLt_tuple]
      exact lex_irrefl _
    rw [e2]
    exact decide_eq_true (Nat.le_refl _)
  · rw [lt_pd b a (Ne.symm e)]
    unfold lePl
    by_cases z : a.1 ≤ b.1
    · rw [decide_eq_true z, decide_eq_false (by omega)]; rfl
    · rw [decide_eq_false z, decide_eq_true (by omega)]; rfl
end
section
open LA
/-! ladder_of(p, rows) -/
def sp_ladder_of (K : PySem.W.Frag) : Sp := fun vs H Q _ => ∃ (n : Nat) (_ : NeZero n) (wide : Nat) (v : V) (rs : List (List Int)), vs = [.int (n : Nat), v] ∧ Clk n ∧ wide ≤ 1000 ∧ rs.length ≤ 200 ∧ RowsAt K H v rs ∧ (∀ r ∈ rs, Rin n wide r) ∧
  ∀ (u : V) (ls : List (List Int)) (H' : Hp), Ex H H' → Dp K H' u (rowsT ls) → LadI n wide rs ls → Q u H'
theorem redI_snoc {n : Int} {D : List (Nat × List Int)} {r : List Int} {i : Nat} {a : Nat × List Int} (h : D[i]? = some a) : redI n (D.take (i + 1)) r = iSub n (redI n (D.take i) r) a.2 ((redI n (D.take i) r).getD a.1 0) := by
  unfold redI
  rw [List.take_add_one, h, List.foldl_append]
  rfl
theorem desI_take {n : Nat} [NeZero n] {R : List (Nat × List Int)} {i : Nat} {a : Nat × List Int} (h : R[i]? = some a) : desI n (R.take (i + 1)) = desI n (R.take i) ++ [(a.1, redI n (desI n (R.take i)) a.2)] := by
  rw [List.take_add_one, h]
  exact desI_snoc _ _
/-- a pair told -/
theorem dp_pd {H : Hp} {v : V} {a : Nat × List Int} (h : Dp K H v (pd a)) : ∃ t b, v = .ref t ∧ SqT K H t [.int (a.1 : Nat), .ref b] ∧ Dp K H (.ref b) (row a.2) := by
  obtain ⟨t, vs, rfl, h1, h2⟩ := dp_tup h
  cases h2 with
  | cons d1 d2 => cases d2 with
    | cons d3 d4 =>
      cases d4
      cases d1
      obtain ⟨b, rfl, _⟩ := dp_row d3
      exact ⟨t, b, rfl, h1, d3⟩
theorem dpa_pd {H : Hp} {vs : List V} {S : List (Nat × List Int)} {i : Nat} {v : V} (h : DpAll K H vs (S.map pd)) (hv : vs[i]? = some v) : ∃ a, S[i]? = some a ∧ Dp K H v (pd a) := by
  obtain ⟨d, h1, h2⟩ := dpa_get h hv
  rw [List.getElem?_map] at h1
  cases e : S[i]? with
  | none => rw [e] at h1; cases h1
  | some r => rw [e] at h1; cases h1; exact ⟨r, rfl, h2⟩
theorem ok_ladder_of {C f : Addr} {fd : FuncData} (F : C8.Def K mg "ladder_of" s_ladder_of f fd) (b : Binds K fd ["p", "rows"] []) (T : Txt mg) (TC : StC K C)
    (c_stairs_of : C8.Cal P w K mg base 4 "stairs_of" (sp_stairs_of K C) []) (c_without : C8.Cal P w K mg base 1 "without" (sp_without K) []) : C8.Cal P w K mg base 5 "ladder_of" (sp_ladder_of K) [] := by
  refine C8.cal0 F b .nil sc_ladder_of (fun vs H Q E h => ?_) (fun cdv A outer s H vs Q E hr h => ?_)
  · obtain ⟨n, _, wide, v, rs, rfl, _⟩ := h
    rfl
  · obtain ⟨n, inst, wide, v, rs, rfl, hc, hw, hl, hR, hrs, q⟩ := h
    have hu64 := hu64_of hr
    have n2 := hc.two
    have nm := hc.le
    refine ⟨_, (pss_cons (ps_set (i := 2) sc_ladder_of.nd rfl (Or.inl rfl) (pe_callB (TH.call_sortedD (K := K) hu64) (by rfl) T.b_sorted (by decide +kernel) (pa_cons (pe_lc (own := [("place", 4), ("step", 5), ("ways", 9)]) (g := gTup K 3 (gCons (gName 4) (gCons (gName 5) (gCons (gName 9) gNil)))) (tt := tYes) rfl sc_ladder_of.nd (TH.kpi_list (K := K) (TH.kpe_fld (K := K) (C8.pe_c c_stairs_of hr (by first | decide | exact Nat.le_refl _) (by rfl) (pa_cons (pv 0) (pa_cons (pv 1) pa_nil))) rfl)) (blkOk_by (own := [("place", 4), ("step", 5), ("ways", 9)]) (N := N_ladder_of) (sc := C8.fnScope s_ladder_of) (by decide +kernel)) (fun _ _ _ _ _ => (TH.kpg_tup (K := K) (n := 3) rfl (pgs_cons (pg_name (i := 4) sc_ladder_of.nd rfl (Or.inl rfl) (Or.inr rfl)) (pgs_cons (pg_name (i := 5) sc_ladder_of.nd rfl (Or.inl rfl) (Or.inr rfl)) (pgs_cons (pg_name (i := 9) sc_ladder_of.nd rfl (Or.inl rfl) (Or.inr rfl)) pgs_nil))))) (fun _ _ _ _ _ => pts_nil) (fun _ _ _ _ _ => (pe_tup (pa_cons (pv 4) (pa_cons (pv 5) pa_nil))))) pa_nil)))
      (pss_cons (ps_set (i := 3) sc_ladder_of.nd rfl (Or.inl rfl) (pe_lst pa_nil))
      (pss_cons (ps_for PassesOwn.never rfl (TH.kpi_list (K := K) (TH.kpe_revL (K := K) (pv 2))) (TH.kpg_tup (K := K) (n := 2) rfl (pgs_cons (pg_name (i := 4) sc_ladder_of.nd rfl (Or.inl rfl) (Or.inr rfl)) (pgs_cons (pg_name (i := 5) sc_ladder_of.nd rfl (Or.inl rfl) (Or.inr rfl)) pgs_nil))) (pss_cons (ps_set (i := 6) sc_ladder_of.nd rfl (Or.inl rfl) (pv 5))
      (pss_cons (ps_for PassesOwn.never rfl (TH.kpi_list (K := K) (pv 3)) (TH.kpg_tup (K := K) (n := 2) rfl (pgs_cons (pg_name (i := 7) sc_ladder_of.nd rfl (Or.inl rfl) (Or.inr rfl)) (pgs_cons (pg_name (i := 8) sc_ladder_of.nd rfl (Or.inl rfl) (Or.inr rfl)) pgs_nil))) (pss_one (ps_set (i := 6) sc_ladder_of.nd rfl (Or.inl rfl) (C8.pe_c c_without hr (by first | decide | exact Nat.le_refl _) (by rfl) (pa_cons (pv 0) (pa_cons (pv 6) (pa_cons (pv 8) (pa_cons (pe_ix (TH.kix_tup (K := K)) (pv 6) (pv 7) (fun _ _ => rfl)) pa_nil))))))))
      (pss_one (ps_expr (TH.kpe_bm (K := K) PySem.F.plainAttrs_list PySem.F.slot_list_append PySem.F.type_list_append mt_append (pv 3) (pa_cons (pe_tup (pa_cons (pv 4) (pa_cons (pv 6) pa_nil))) pa_nil)))))))
      (pss_one (ps_ret (pe_callTy (TH.kcall_tuple (K := K)) (by rfl) T.b_tuple (by decide +kernel) (pa_cons (pe_lc (own := [("place", 4), ("row", 6)]) (g := gTup K 2 (gCons (gName 4) (gCons (gName 6) gNil))) (tt := tYes) rfl sc_ladder_of.nd (TH.kpi_list (K := K) (TH.kpe_revL (K := K) (pv 3))) (blkOk_by (own := [("place", 4), ("row", 6)]) (N := N_ladder_of) (sc := C8.fnScope s_ladder_of) (by decide +kernel)) (fun _ _ _ _ _ => (TH.kpg_tup (K := K) (n := 2) rfl (pgs_cons (pg_name (i := 4) sc_ladder_of.nd rfl (Or.inl rfl) (Or.inr rfl)) (pgs_cons (pg_name (i := 6) sc_ladder_of.nd rfl (Or.inl rfl) (Or.inr rfl)) pgs_nil)))) (fun _ _ _ _ _ => pts_nil) (fun _ _ _ _ _ => (pv 6))) pa_nil))))))), ?_⟩
    refine w_start (σ' := [some (.int n), some v, none, none, none, none, none, none, none, none]) rfl ?_
    walk_at "rd"
    refine ⟨n, inst, wide, v, rs, rfl, hc, hw, hl, hR, hrs, fun s st tk us S ts H1 e1 hst hS hls => ?_⟩
    obtain ⟨⟨dx, hob⟩, hsteps, _, hat⟩ := hst
    have hSl := hS.len
    have hul := hat.1
    refine ⟨s, C, dx, _, _, rfl, hob, TC.cl, TC.nS, pf_steps, ?_⟩
    walk_at "rd"
    refine ⟨st, rfl, ⟨_, sqL hsteps⟩, fun Dl hD => ?_⟩
    refine lc_data (K := K) walk_list (fun _ => true) (fun i => pd (S.getD i (0, []))) (fun _ => imm_pd _) (fun H' e => e.l (sqL hsteps)) hD (by omega) (fun i x H' H'' hi e y R R0 k _ => ?_) (fun H2 ws e2 hws hda => ?_)
    · obtain ⟨rfl, hx⟩ := y
      obtain ⟨a, ha1, t, bb, d, wvs, rfl, h1, h2, h3, h4⟩ := hat.2 i x hx
      refine w_gtup3 (e _ _ h1) ?_
      walk_at "rd"
      refine ⟨rfl, ?_⟩
      walk_at "rd"
      refine w_dispT (by simp) fun p hp => ?_
      refine k rfl _ _ (Ex.new hp) ?_
      rw [getD_of ha1]
      exact .tup (sqT upd_same) (.cons (.int _) (.cons ((e.trans (Ex.new hp)).dp h2) .nil))
    · have e3 : (List.range us.length).map (fun i => pd (S.getD i (0, []))) = S.map pd := by
        rw [hul]
        exact range_map (0, []) pd S
      rw [made_all, e3] at hda
      have hne : S.Pairwise fun a b => a.1 ≠ b.1 := by
        have := hS.sta.pw
        unfold stF at this
        rw [List.pairwise_map] at this
        exact this.imp fun z => z.1
      walk_at "rd"
      refine ⟨Dl, ws, S.map pd, rfl, sqL hws, hda, PySem.W.AllAlike.of alike_pd, .inl fun d hd => ?_, fun d hd => ?_, fun ws3 p3 hp3 hd3 => ?_⟩
      · obtain ⟨a, _, rfl⟩ := List.mem_map.mp hd
        exact ⟨_, _, rfl⟩
      · obtain ⟨a, _, rfl⟩ := List.mem_map.mp hd
        exact depth_pd a
      · rw [sort_pd hne] at hd3
        have hperm := List.mergeSort_perm S lePl
        have hTin : ∀ a ∈ S.mergeSort lePl, Rin n wide a.2 ∧ a.1 < wide := fun a ha => hS.inr a (hperm.mem_iff.mp ha)
        have hTl : (S.mergeSort lePl).length = S.length := hperm.length_eq
        have hfin := finI_ok hS
        have hok := desI_ok (n := n) (wide := wide) (R := (S.mergeSort lePl).reverse) (fun a ha => (hTin a (List.mem_reverse.mp ha)).1) (fun a ha => by
          obtain ⟨b, hb, rfl⟩ := List.mem_map.mp ha
          exact hS.sta.good _ (List.mem_map.mpr ⟨b, hperm.mem_iff.mp (List.mem_reverse.mp hb), rfl⟩)) (List.pairwise_reverse.mpr (sorted_pl hS.sta))
        have hfe : finI n S = (desI n (S.mergeSort lePl).reverse).reverse.map (·.2) := rfl
        generalize S.mergeSort lePl = TT at hd3 hTin hTl hfe hok
        have eb : Ex H (upd H2 p3 (.lst ws3)) := e1.trans (e2.trans (Ex.new hp3))
        have hd3' := (Ex.new (o := .lst ws3) hp3).dpa hd3
        have hb3 : upd H2 p3 (.lst ws3) p3 = some (.lst ws3) := upd_same
        generalize upd H2 p3 (.lst ws3) = Hb at eb hd3' hb3 ⊢
        walk_at "rd"
        refine w_dispT (by simp) fun fl hfl => ?_
        walk_at "rd"
        refine ⟨p3, ws3, rfl, sqL ((Ex.new hfl) _ _ hb3), fun rv hrv => ?_⟩
        have hrf : fl ≠ rv := fun z => by rw [z, upd_same] at hrv; cases hrv
        have hdr : DpAll K Hb ws3.reverse (TT.reverse.map pd) := by
          rw [List.map_reverse]
          exact dpa_rev hd3'
        have hrl : ws3.reverse.length = TT.reverse.length := by rw [dpa_len hdr, List.length_map]
        have hD : ∀ i, ∀ c ∈ desI n (TT.reverse.take i), Rin n wide c.2 ∧ c.1 < wide := fun i c hc => by
          have o := hok i
          refine ⟨o.inr c hc, ?_⟩
          have hm : c.1 ∈ (desI n (TT.reverse.take i)).map (·.1) := List.mem_map.mpr ⟨c, hc, rfl⟩
          rw [o.pl] at hm
          obtain ⟨e, he, ee⟩ := List.mem_map.mp hm
          rw [← ee]
          exact (hTin e (List.mem_reverse.mp (List.mem_of_mem_take he))).2
        have hDl : ∀ i, (desI n (TT.reverse.take i)).length ≤ TT.length := fun i => by
          have := congrArg List.length (hok i).pl
          rw [List.length_map, List.length_map, List.length_take, List.length_reverse] at this
          omega
        refine ⟨rv, rfl, ⟨_, sqL upd_same⟩, ?_⟩
        refine for_go walk_list (fun i σ H' => Ex Hb H' ∧ H' rv = some (.lst ws3.reverse) ∧ ∃ (fs : List V) (y4 y5 y6 y7 y8 : Option V), σ = [some (.int n), some v, some (.ref p3), some (.ref fl), y4, y5, y6, y7, y8, none] ∧ H' fl = some (.lst fs) ∧ DpAll K H' fs ((desI n (TT.reverse.take i)).map pd))
          ⟨(Ex.new hfl).trans (Ex.new hrv), upd_same, [], _, _, _, _, _, rfl, by rw [upd_ne hrf]; exact upd_same, .nil⟩ (fun i σ H' _ p => sqL p.2.1) (fun i x σ H' H'' hi p y => ?_) (fun σ H' p => ?_)
        · obtain ⟨e, hrv', fs, y4, y5, y6, y7, y8, rfl, hfl', hfd⟩ := p
          obtain ⟨rfl, hx⟩ := y
          obtain ⟨a, ha1, ha2⟩ := dpa_pd hdr hx
          obtain ⟨t, b, rfl, ht, hb⟩ := dp_pd ha2
          have hain := hTin a (List.mem_reverse.mp (List.mem_of_getElem? ha1))
          have hdes := desI_take (n := n) ha1
          have hDi := hD i
          have hDli := hDl i
          generalize desI n (TT.reverse.take i) = DD at hfd hdes hDi hDli
          have hfsl : fs.length = DD.length := by rw [dpa_len hfd, List.length_map]
          refine w_gtup (e.t ht) rfl ?_
          walk_at "rd"
          refine ⟨fl, rfl, ⟨_, sqL hfl'⟩, ?_⟩
          refine for_go walk_list (fun j σ H5 => Ex H'' H5 ∧ ∃ (l : V) (y7 y8 : Option V), σ = [some (.int n), some v, some (.ref p3), some (.ref fl), some (.int a.1), some (.ref b), some l, y7, y8, none] ∧ Dp K H5 l (row (redI n (DD.take j) a.2)))
            ⟨Ex.refl _, _, _, _, rfl, e.dp hb⟩ (fun j σ H5 _ p => p.1.l (sqL hfl')) (fun j x5 σ H5 H6 hj p y => ?_) (fun σ H5 p => ?_)
          · obtain ⟨e5, l, z7, z8, rfl, hl5⟩ := p
            obtain ⟨rfl, hx5⟩ := y
            obtain ⟨c, hc1, hc2⟩ := dpa_pd (e5.dpa hfd) hx5
            obtain ⟨t5, b5, rfl, ht5, hb5⟩ := dp_pd hc2
            have hcin := hDi c (List.mem_of_getElem? hc1)
            have hrd := redI_in (n := n) (D := DD.take j) (fun b hb => (hDi b (List.mem_of_mem_take hb)).1) hain.1
            have hsn := redI_snoc (n := n) (r := a.2) hc1
            generalize redI n (DD.take j) a.2 = lr at hl5 hrd hsn
            have hrd1 := hrd.1
            obtain ⟨la, rfl, hla⟩ := dp_row hl5
            have hv6 : 0 ≤ lr.getD c.1 0 ∧ lr.getD c.1 0 < n := hrd.2 _ (List.mem_of_getElem? (getD_at (i := c.1) (d := 0) (by omega)))
            refine w_gtup ht5 rfl ?_
            walk_at "rd"
            refine w_ixT hla (atI_int (getD_at (i := c.1) (d := 0) (by omega))) ?_
            walk_at "rd"
            refine ⟨_, _, _, _, lr, c.2, rfl, hl5, hb5, by omega, by omega, by omega, by omega, fun u7 H7 e7 hu7 => ?_⟩
            walk_at "rd"
            refine ⟨e5.trans e7, u7, _, _, rfl, ?_⟩
            rw [hsn]
            exact hu7
          · obtain ⟨e5, l, z7, z8, rfl, hl5⟩ := p
            rw [hfsl, List.take_length] at hl5
            have hfl5 := e5 _ _ hfl'
            walk_at "rd"
            refine ⟨tyL hfl5, ?_⟩
            walk_at "rd"
            refine w_dispT (by simp) fun t6 ht6 => ?_
            have hfl6 : upd H5 t6 (.tup [.int a.1, l]) fl = some (.lst fs) := (Ex.new ht6) _ _ hfl5
            walk_at "rd"
            refine w_app hfl6 (by omega) ?_
            walk_at "rd"
            have hrv6 : upd (upd H5 t6 (.tup [.int a.1, l])) fl (.lst (fs ++ [.ref t6])) rv = some (.lst ws3.reverse) := by
              rw [upd_ne (Ne.symm hrf)]
              exact (Ex.new ht6) _ _ (e5 _ _ hrv')
            refine ⟨((e.trans e5).trans (Ex.new ht6)).mut hfl, hrv6, fs ++ [.ref t6], _, _, _, _, _, rfl, upd_same, ?_⟩
            rw [hdes, List.map_append]
            have tx : Tx (upd H5 t6 (.tup [.int a.1, l])) (upd (upd H5 t6 (.tup [.int a.1, l])) fl (.lst (fs ++ [.ref t6]))) := Tx.updL hfl6
            refine dpa_snoc (tx.dpa (imm_pds DD) ((e5.trans (Ex.new ht6)).dpa hfd)) (tx.dp (imm_pd (a.1, redI n DD a.2)) ?_)
            exact .tup (sqT upd_same) (.cons (.int _) (.cons ((Ex.new ht6).dp hl5) .nil))
        · obtain ⟨e, hrv', fs, y4, y5, y6, y7, y8, rfl, hfl', hfd⟩ := p
          rw [hrl, List.take_length] at hfd
          have hDl' := hDl TT.reverse.length
          rw [List.take_length] at hDl'
          generalize desI n TT.reverse = DD at hfd hfe hDl'
          have hfsl : fs.length = DD.length := by rw [dpa_len hfd, List.length_map]
          walk_at "rd"
          refine ⟨fl, fs, rfl, sqL hfl', fun r2 hr2 => ?_⟩
          have hd2 : DpAll K (upd H' r2 (.lst fs.reverse)) fs.reverse (DD.reverse.map pd) := by
            rw [List.map_reverse]
            exact dpa_rev ((Ex.new hr2).dpa hfd)
          refine ⟨r2, rfl, ⟨_, sqL upd_same⟩, fun D2 hD2 => ?_⟩
          refine lc_data (K := K) walk_list (fun _ => true) (fun i => row (DD.reverse.getD i (0, [])).2) (fun _ => imm_row _) (fun H' e => e.l (sqL upd_same)) hD2 (by rw [List.length_reverse]; omega) (fun i x H3 H4 hi e3 y R R0 k _ => ?_) (fun H3 ws4 e3 hws4 hda4 => ?_)
          · obtain ⟨rfl, hx⟩ := y
            obtain ⟨a, ha1, ha2⟩ := dpa_pd (e3.dpa hd2) hx
            obtain ⟨t, b, rfl, ht, hb⟩ := dp_pd ha2
            refine w_gtup ht rfl ?_
            walk_at "rd"
            refine ⟨rfl, ?_⟩
            walk_at "rd"
            refine k rfl _ _ (Ex.refl _) ?_
            rw [getD_of ha1]
            exact hb
          · have e4 : (List.range fs.reverse.length).map (fun i => row (DD.reverse.getD i (0, [])).2) = DD.reverse.map fun a => row a.2 := by
              rw [show fs.reverse.length = DD.reverse.length by rw [List.length_reverse, List.length_reverse, hfsl]]
              exact range_map (0, []) (fun a => row a.2) DD.reverse
            rw [made_all, e4] at hda4
            walk_at "rd"
            refine ⟨D2, ws4, rfl, .inl ⟨sqL hws4, fun l hl => ?_⟩⟩
            refine q _ (finI n S) _ (eb.trans (e.trans ((Ex.new hr2).trans (e3.trans (Ex.new hl))))) (.tup (sqT upd_same) ((Ex.new hl).dpa ?_)) hfin.1
            rw [hfe, List.map_map]
            exact hda4
end
end TK

namespace TK
open PySem PySem.Spec PyProof.Rows L2 TH
local macro_rules | `(tactic| walk_at "rd1") => `(tactic| first
  | (with_reducible refine TH.w_seq ?_)
  | (with_reducible refine TH.w_asg ?_)
  | (with_reducible refine TH.w_ret ?_)
  | (with_reducible refine TH.w_drop ?_)
  | (with_reducible refine TH.w_ifS ?_)
  | (with_reducible refine TH.w_next ?_)
  | ((with_reducible refine TH.w_var (v := ?vv) ?hv ?_); (case hv => rfl))
  | (with_reducible refine TH.w_c ?_)
  | ((with_reducible refine TH.w_gname (σ' := ?ss) ?hs ?_); (case hs => (dsimp only [List.set]; rfl)))
  | (with_reducible refine TH.w_op ?_)
  | (with_reducible refine TH.w_un ?_)
  | (with_reducible refine TH.w_chain ?_)
  | (with_reducible refine TH.w_I0 ?_)
  | ((with_reducible refine TH.w_I ?hm ?_); (case hm => first | (exact TH.CMul.l (by omega) (by omega)) | (exact TH.CMul.r (by omega) (by omega)) | (exact TH.CDiv.mk (by omega) (by omega)) | (show (0 : Int) < _; omega) | (exact TH.CPow.mk (by omega) (by omega) (by decide))))
  | (with_reducible refine TH.w_U ?_)
  | (with_reducible refine TH.w_eqI ?_)
  | (with_reducible refine TH.w_neI ?_)
  | (with_reducible refine TH.w_eqB ?_)
  | (with_reducible refine TH.w_isN ?_)
  | (with_reducible refine TH.w_nil ?_)
  | (with_reducible refine TH.w_cons ?_)
  | (with_reducible refine TH.w_test ?_)
  | (with_reducible refine TH.w_B ?_)
  | (with_reducible refine TH.w_bl ?_)
  | (with_reducible refine TH.w_and ?_)
  | (with_reducible refine TH.w_or ?_)
  | (with_reducible refine TH.w_not ?_)
  | (with_reducible refine TH.w_andV ?_)
  | (with_reducible refine TH.w_orV ?_)
  | (with_reducible refine TH.w_notV ?_)
  | (with_reducible refine TH.w_if ?_)
  | (with_reducible refine TH.w_parT ?_)
  | (with_reducible refine TH.w_par ?_)
  | (with_reducible refine TH.w_parT3 ?_)
  | (with_reducible refine TH.w_par3 ?_)
  | (with_reducible refine TH.w_cb ?_)
  | (with_reducible refine TH.w_call ?_)
  | ((with_reducible refine TH.w_aug (v := ?vv) ?hv ?_); (case hv => rfl))
  | (with_reducible refine TH.w_ip ?_)
  | (with_reducible refine TH.w_bm ?_)
  | (with_reducible refine TH.w_sl ?_)
  | (with_reducible refine TH.w_np ?_)
  | (with_reducible refine TH.w_pt ?_)
  | (with_reducible refine TH.w_pti ?_)
  | (with_reducible refine TH.w_gsub ?_)
  | (with_reducible refine TH.w_int ?_)
  | (with_reducible refine TH.w_tupT ?_)
  | (with_reducible refine TH.w_lstT ?_)
  | ((with_reducible show L2.rIxL _ _ _ _ _); (first | (refine TH.w_ixL (TH.sqL upd_same) rfl ?_) | (refine TH.w_ixL (TH.sqL (by assumption)) rfl ?_)))
  | ((with_reducible show L2.rSetL _ _ _ _ _); (first | (refine TH.w_set1 upd_same ?_) | (refine TH.w_set2 upd_same ?_) | (refine TH.w_set3 upd_same ?_) | (refine TH.w_set4 upd_same ?_) | (refine TH.w_set1 (by assumption) ?_) | (refine TH.w_set2 (by assumption) ?_) | (refine TH.w_set3 (by assumption) ?_) | (refine TH.w_set4 (by assumption) ?_)))
  | (with_reducible refine TH.w_lc ?_)
  | (with_reducible refine TH.w_dc ?_)
  | (with_reducible refine TH.w_itup ?_)
  | (with_reducible refine TH.w_ilist ?_)
  | (with_reducible refine TH.w_ienum ?_)
  | (with_reducible refine TH.w_izip ?_)
  | (with_reducible refine TH.w_irng1 ?_)
  | (with_reducible refine TH.w_irng2 ?_)
  | (with_reducible refine TH.w_for ?_)
  | (with_reducible refine TH.w_gcons ?_)
  | (with_reducible refine TH.w_gnil ?_)
  | (with_reducible refine TH.w_yes ?_)
  | (with_reducible refine TH.w_gtup2 upd_same ?_)
  | (with_reducible refine TH.w_gtup3 upd_same ?_)
  | (with_reducible refine TH.w_dput ?_)
  | (with_reducible refine TH.w_bm0 ?_)
  | (with_reducible refine TH.w_din ?_)
  | (with_reducible refine TH.w_dnotin ?_)
  | (with_reducible refine TH.w_dispK ?_)
  | (with_reducible refine TH.w_lock ?_)
  | (with_reducible refine TH.w_ikeys ?_)
  | (with_reducible refine TH.w_iitems ?_)
  | (with_reducible refine TH.w_dispT1 ?_)
  | (with_reducible refine TH.w_dnewT ?_)
  | (with_reducible refine TH.w_dnewK ?_)
  | (with_reducible refine TH.w_fld ?_)
  | (with_reducible refine TH.w_sfld ?_)
  | (with_reducible refine TH.w_meth ?_)
  | (with_reducible refine TH.w_make ?_)
  | (with_reducible refine TH.w_dget2 ?_)
  | (with_reducible refine TH.w_revL ?_)
  | (with_reducible refine TH.w_revT ?_)
  | (with_reducible refine TH.w_lstRg ?_)
  | (with_reducible refine TH.w_tupRg ?_)
  | (with_reducible refine TH.w_rg1 ?_)
  | (with_reducible refine TH.w_rg2 ?_)
  | (with_reducible refine TH.w_T ?_)
  | (with_reducible refine TH.w_F ?_))
local macro_rules | `(tactic| walk_at "rd") => `(tactic| repeat (first | walk_at "rd1" | (dsimp only [List.set, L2.wipe, List.map, TH.isInt, TH.isBool, TH.isTup, TH.isLst, TH.bo_f, TH.bo_t, TH.ba_f, TH.ba_t, TH.bn_t, TH.bn_f, List.append_nil, List.cons_append, List.nil_append])))

variable {P : Program} {w : World} {K : PySem.W.Frag} {mg : Str → Option Value} {base : Heap}
/-! _law_summed(p, wide, rows, many), many a list or a tuple -/
def sp_summedM (K : PySem.W.Frag) : Sp := fun vs H Q _ => ∃ (p : Int) (wide : Nat) (a b : Addr) (xs : List V) (rs : List (List Int)) (ms : List Int), vs = [.int p, .int (wide : Nat), .ref a, .ref b] ∧ SqL K H a xs ∧ DpAll K H xs (rs.map row) ∧ (SqL K H b (ms.map V.int) ∨ SqT K H b (ms.map V.int)) ∧
  0 < p ∧ wide ≤ 1000 ∧ rs.length ≤ 1000000 ∧ (∀ r ∈ rs, r.length = wide) ∧ (∀ m ∈ ms, 0 ≤ m ∧ m ≤ 1000000) ∧ ∀ u H', Ex H H' → Dp K H' u (row (sumI p (List.replicate wide 0) rs ms)) → Q u H'
theorem ok_law_summedM {f : Addr} {fd : FuncData} (F : C8.Def K mg "_law_summed" s_law_summed f fd) (b : Binds K fd ["p", "wide", "rows", "many"] []) (T : Txt mg)
    (c_law_less : C8.Cal P w K mg base 1 "_law_less" (sp_law_less K) []) : C8.Cal P w K mg base 2 "_law_summed" (sp_summedM K) [] := by
  refine C8.cal0 F b .nil sc_law_summed (fun vs H Q E h => ?_) (fun cdv A outer s H vs Q E hr h => ?_)
  · obtain ⟨p, wide, a, b, xs, rs, ms, rfl, _⟩ := h
    rfl
  · obtain ⟨p, wide, a, b, xs, rs, ms, rfl, ha, hda, hb, p0, hw, hrl, hrw, hms, q⟩ := h
    refine ⟨_, (pss_cons (ps_set (i := 4) sc_law_summed.nd rfl (Or.inl rfl) (pe_op (TH.kop_repA (K := K)) (pe_tup (pa_cons pe_int pa_nil)) (pv 1)))
      (pss_cons (ps_for PassesOwn.never rfl (TH.kpi_zipM (K := K) (by rfl) T.b_zip (pa_cons (pv 2) (pa_cons (pv 3) pa_nil))) (TH.kpg_tup (K := K) (n := 2) rfl (pgs_cons (pg_name (i := 5) sc_law_summed.nd rfl (Or.inl rfl) (Or.inr rfl)) (pgs_cons (pg_name (i := 6) sc_law_summed.nd rfl (Or.inl rfl) (Or.inr rfl)) pgs_nil))) (pss_one (ps_set (i := 4) sc_law_summed.nd rfl (Or.inl rfl) (pe_ifExp (pt_cmpR op_ne (pv 6) pe_int (nomark _)) (C8.pe_c c_law_less hr (by first | decide | exact Nat.le_refl _) (by rfl) (pa_cons (pv 0) (pa_cons (pv 4) (pa_cons (pv 5) (pa_cons (pe_un un_neg (pv 6)) pa_nil))))) (pv 4)))))
      (pss_one (ps_ret (pv 4))))), ?_⟩
    refine w_start (σ' := [some (.int p), some (.int wide), some (.ref a), some (.ref b), none, none, none]) rfl ?_
    walk_at "rd"
    refine w_dispT (by decide) fun t ht => ?_
    walk_at "rd"
    refine w_rep0 upd_same hw fun z H1 e1 hz => ?_
    have e1 : Ex H H1 := (Ex.new ht).trans e1
    walk_at "rd"
    have hxl : xs.length = rs.length := by rw [dpa_len hda, List.length_map]
    refine w_izipM ?_
    walk_at "rd"
    rcases hb with hb | hb
    · refine ⟨a, b, _, _, rfl, e1.l ha, .inl ⟨e1.l hb, ?_⟩⟩
      refine for_go (walk_zip rfl) (fun i σ H' => Ex H H' ∧ ∃ u y1 y2, σ = [some (.int p), some (.int wide), some (.ref a), some (.ref b), some u, y1, y2] ∧ Dp K H' u (row (sumI p (List.replicate wide 0) (rs.take i) (ms.take i))))
        ⟨e1, _, _, _, rfl, by cases rs <;> cases ms <;> exact hz⟩ (fun i σ H' _ p => ⟨p.1.l ha, p.1.l hb⟩) (fun i x σ H' H'' hi p y => ?_) (fun σ H' p => ?_)
      · obtain ⟨e, u, y1, y2, rfl, hu⟩ := p
        obtain ⟨t2, x1, x2, rfl, ht2, rfl, h1, h2⟩ := y
        obtain ⟨m, hm, rfl⟩ := ints_at h2
        obtain ⟨r, hr1, hr2⟩ := rowsAt_get hda h1
        have hlen : (sumI p (List.replicate wide 0) (rs.take i) (ms.take i)).length = wide := sumI_len (by simp) fun r hr => hrw r (List.mem_of_mem_take hr)
        have e3 := e.trans (Ex.new (o := .tup [x1, .int m]) ht2)
        have hmm := hms m (List.mem_of_getElem? hm)
        have hsn := sumI_snoc p rs ms (List.replicate wide 0) r m i hr1 hm
        walk_at "rd"
        refine w_decN (fun hz => ?_) (fun hz => ?_)
        · walk_at "rd"
          refine ⟨_, _, _, _, _, _, rfl, (Ex.new ht2).dp hu, e3.dp hr2, p0, by omega, by omega, by omega, fun u' H3 e4 hu' => ?_⟩
          walk_at "rd"
          refine ⟨e3.trans e4, _, _, _, rfl, ?_⟩
          rw [hsn, if_neg hz]
          exact hu'
        · walk_at "rd"
          refine ⟨e3, _, _, _, rfl, ?_⟩
          rw [hsn, if_pos hz]
          exact (Ex.new ht2).dp hu
      · obtain ⟨e, u, y1, y2, rfl, hu⟩ := p
        walk_at "rd"
        refine q u H' e ?_
        have e9 : ∀ (rs : List (List Int)) (ms acc : List Int), sumI p acc (rs.take (min rs.length ms.length)) (ms.take (min rs.length ms.length)) = sumI p acc rs ms := by
          intro rs
          induction rs with
          | nil => intro ms acc; simp [sumI]
          | cons r rs ih =>
            intro ms acc
            cases ms with
            | nil => simp [sumI]
            | cons m ms =>
              have := ih ms (if m = 0 then acc else iSub p acc r (-m))
              simpa [sumI, Nat.add_min_add_right] using this
        rw [hxl, List.length_map, e9] at hu
        exact hu
    · refine ⟨a, b, _, _, rfl, e1.l ha, .inr ⟨e1.t hb, ?_⟩⟩
      refine for_go (walk_zipM rfl) (fun i σ H' => Ex H H' ∧ ∃ u y1 y2, σ = [some (.int p), some (.int wide), some (.ref a), some (.ref b), some u, y1, y2] ∧ Dp K H' u (row (sumI p (List.replicate wide 0) (rs.take i) (ms.take i))))
        ⟨e1, _, _, _, rfl, by cases rs <;> cases ms <;> exact hz⟩ (fun i σ H' _ p => ⟨p.1.l ha, p.1.t hb⟩) (fun i x σ H' H'' hi p y => ?_) (fun σ H' p => ?_)
      · obtain ⟨e, u, y1, y2, rfl, hu⟩ := p
        obtain ⟨t2, x1, x2, rfl, ht2, rfl, h1, h2⟩ := y
        obtain ⟨m, hm, rfl⟩ := ints_at h2
        obtain ⟨r, hr1, hr2⟩ := rowsAt_get hda h1
        have hlen : (sumI p (List.replicate wide 0) (rs.take i) (ms.take i)).length = wide := sumI_len (by simp) fun r hr => hrw r (List.mem_of_mem_take hr)
        have e3 := e.trans (Ex.new (o := .tup [x1, .int m]) ht2)
        have hmm := hms m (List.mem_of_getElem? hm)
        have hsn := sumI_snoc p rs ms (List.replicate wide 0) r m i hr1 hm
        walk_at "rd"
        refine w_decN (fun hz => ?_) (fun hz => ?_)
        · walk_at "rd"
          refine ⟨_, _, _, _, _, _, rfl, (Ex.new ht2).dp hu, e3.dp hr2, p0, by omega, by omega, by omega, fun u' H3 e4 hu' => ?_⟩
          walk_at "rd"
          refine ⟨e3.trans e4, _, _, _, rfl, ?_⟩
          rw [hsn, if_neg hz]
          exact hu'
        · walk_at "rd"
          refine ⟨e3, _, _, _, rfl, ?_⟩
          rw [hsn, if_pos hz]
          exact (Ex.new ht2).dp hu
      · obtain ⟨e, u, y1, y2, rfl, hu⟩ := p
        walk_at "rd"
        refine q u H' e ?_
        have e9 : ∀ (rs : List (List Int)) (ms acc : List Int), sumI p acc (rs.take (min rs.length ms.length)) (ms.take (min rs.length ms.length)) = sumI p acc rs ms := by
          intro rs
          induction rs with
          | nil => intro ms acc; simp [sumI]
          | cons r rs ih =>
            intro ms acc
            cases ms with
            | nil => simp [sumI]
            | cons m ms =>
              have := ih ms (if m = 0 then acc else iSub p acc r (-m))
              simpa [sumI, Nat.add_min_add_right] using this
        rw [hxl, List.length_map, e9] at hu
        exact hu
theorem ok_law_summed2 {f : Addr} {fd : FuncData} (F : C8.Def K mg "_law_summed" s_law_summed f fd) (b : Binds K fd ["p", "wide", "rows", "many"] []) (T : Txt mg)
    (c_law_less : C8.Cal P w K mg base 1 "_law_less" (sp_law_less K) []) : C8.Cal P w K mg base 2 "_law_summed" (sp_summed K) [] :=
  cal_mono (ok_law_summedM F b T c_law_less) fun vs H Q E h => by
    obtain ⟨p, wide, a, b, xs, rs, ms, rfl, ha, hda, hb, p0, hw, hrl, hrw, hms, q⟩ := h
    exact ⟨p, wide, a, b, xs, rs, ms, rfl, ha, hda, .inl hb, p0, hw, hrl, hrw, hms, q⟩
end TK

namespace TK
open PySem PySem.Spec PyProof.Rows L2 TH
/-! ### plain: mixtures, partings -/
theorem mixZ_cons {co : Nat → Int} {r : List Int} {rs : List (List Int)} {j : Nat} : mixZ co (r :: rs) j = co 0 * r.getD j 0 + mixZ (fun k => co (k + 1)) rs j := by
  unfold mixZ
  rw [List.length_cons, List.range_succ_eq_map, List.map_cons, List.sum_cons, List.map_map]
  rfl
theorem sumI_cg {n : Int} {wide j : Nat} : ∀ {rs : List (List Int)} {ms acc : List Int}, acc.length = wide → (∀ r ∈ rs, r.length = wide) → ms.length = rs.length → Cg n ((sumI n acc rs ms).getD j 0) (acc.getD j 0 + mixZ (fun k => ms.getD k 0) rs j)
  | [], ms, acc, _, _, _ => by
    refine .of ?_
    show (sumI n acc [] ms).getD j 0 = acc.getD j 0 + 0
    rw [Int.add_zero]
    cases ms <;> rfl
  | r :: rs, [], acc, _, _, h => by simp at h
  | r :: rs, m :: ms, acc, hl, hr, h => by
    have hrl := hr r List.mem_cons_self
    have ih := sumI_cg (n := n) (j := j) (rs := rs) (ms := ms) (acc := if m = 0 then acc else iSub n acc r (-m)) (by
      split
      · exact hl
      · rw [iSub_len (by rw [hrl, hl])]; exact hl) (fun x hx => hr x (List.mem_cons_of_mem _ hx)) (by simpa using h)
    rw [mixZ_cons]
    show Cg n ((sumI n (if m = 0 then acc else iSub n acc r (-m)) rs ms).getD j 0) (acc.getD j 0 + (m * r.getD j 0 + mixZ (fun k => ms.getD k 0) rs j))
    refine ih.trans ?_
    have e : Cg n ((if m = 0 then acc else iSub n acc r (-m)).getD j 0) (acc.getD j 0 + m * r.getD j 0) := by
      by_cases hm : m = 0
      · rw [if_pos hm, hm]
        exact .of (by rw [Int.zero_mul, Int.add_zero])
      · rw [if_neg hm, iSub_at (by rw [hrl, hl])]
        refine (Cg.mod _ _).trans (.of ?_)
        rw [Int.neg_mul]
        omega
    refine (e.add (.refl n (mixZ (fun k => ms.getD k 0) rs j))).trans (.of (by omega))
theorem rin_eq {n : Int} {wide : Nat} {r s : List Int} (hr : Rin n wide r) (hs : Rin n wide s) (h : ∀ j, Cg n (r.getD j 0) (s.getD j 0)) : r = s := by
  refine List.ext_getElem (by rw [hr.1, hs.1]) fun i h1 h2 => ?_
  have := Cg.iff.mp (h i)
  rw [List.getD_eq_getElem?_getD, List.getD_eq_getElem?_getD, List.getElem?_eq_getElem h1, List.getElem?_eq_getElem h2] at this
  have a := hr.2 _ (List.getElem_mem h1)
  have b := hs.2 _ (List.getElem_mem h2)
  have this : r[i] % n = s[i] % n := this
  rwa [Int.emod_eq_of_lt a.1 a.2, Int.emod_eq_of_lt b.1 b.2] at this
/-- what a mixture told must be -/
structure MixOk (n : Int) (rs : List (List Int)) (r cs : List Int) : Prop where
  len : cs.length = rs.length
  rng : ∀ x ∈ cs, 0 ≤ x ∧ x < n
  sum : ∀ j, Cg n (r.getD j 0) (mixZ (fun k => cs.getD k 0) rs j)
theorem MixOk.summed {n : Int} {wide : Nat} {rs : List (List Int)} {r cs : List Int} (n0 : 0 < n) (h : MixOk n rs r cs) (hr : Rin n wide r) (hrs : ∀ x ∈ rs, Rin n wide x) : sumI n (List.replicate wide 0) rs cs = r := by
  refine rin_eq (wide := wide) (sumI_in n0 ⟨by simp, fun x hx => by rw [(List.mem_replicate.mp hx).2]; omega⟩ hrs) hr fun j => ?_
  refine (sumI_cg (wide := wide) (by simp) (fun x hx => (hrs x hx).1) h.len).trans ?_
  have e0 : (List.replicate wide (0 : Int)).getD j 0 = 0 := by
    rw [List.getD_eq_getElem?_getD, List.getElem?_replicate]
    split <;> rfl
  rw [e0, Int.zero_add]
  exact (h.sum j).symm
/-- the first places of a ladder -/
structure Piv (n : Int) (wide : Nat) (ls : List (List Int)) (qs : List Nat) : Prop where
  len : qs.length = ls.length
  at' : ∀ (i : Nat) (r : List Int) (q : Nat), ls[i]? = some r → qs[i]? = some q → firstI r = some q ∧ q < wide ∧ r.getD q 0 = 1
  off : ∀ (i j : Nat) (r : List Int) (q : Nat), ls[i]? = some r → qs[j]? = some q → i ≠ j → r.getD q 0 = 0
theorem first_of {r : List Int} {q : Nat} (h1 : r.getD q 0 ≠ 0) (h2 : ∀ j, j < q → r.getD j 0 = 0) : firstI r = some q := by
  unfold firstI
  rw [List.findIdx?_eq_some_iff_getElem]
  have hq : q < r.length := by
    refine Decidable.byContradiction fun z => h1 ?_
    rw [List.getD_eq_getElem?_getD, List.getElem?_eq_none (by omega)]
    rfl
  refine ⟨hq, ?_, fun j hj => ?_⟩
  · rw [List.getD_eq_getElem?_getD, List.getElem?_eq_getElem hq] at h1
    simpa using h1
  · have := h2 j hj
    rw [List.getD_eq_getElem?_getD, List.getElem?_eq_getElem (by omega)] at this
    simpa using this
section
open LA
variable {n : Nat} [NeZero n]
theorem cF_val0 (hc : Clk n) {x : Int} (hx : 0 ≤ x ∧ x < n) (h : cF n x = 0) : x = 0 := cF_inj hx ⟨by omega, by have := hc.two; omega⟩ (by rw [h, cF_zero])
theorem cF_val1 (hc : Clk n) {x : Int} (hx : 0 ≤ x ∧ x < n) (h : cF n x = 1) : x = 1 := cF_inj hx ⟨by omega, by have := hc.two; omega⟩ (by rw [h, cF_one])
theorem rin_at (hc : Clk n) {wide : Nat} {r : List Int} (hr : Rin n wide r) (j : Nat) : 0 ≤ r.getD j 0 ∧ r.getD j 0 < n := by
  rw [List.getD_eq_getElem?_getD]
  cases e : r[j]? with
  | none =>
    have := hc.two
    exact ⟨Int.le_refl _, by show (0 : Int) < n; omega⟩
  | some x => exact hr.2 x (List.mem_of_getElem? e)
theorem LadI.piv (hc : Clk n) {wide : Nat} {rs ls : List (List Int)} (h : LadI n wide rs ls) : ∃ qs, Piv n wide ls qs := by
  obtain ⟨L, e, hL⟩ := h.lad
  have hlen : L.length = ls.length := by
    have := congrArg List.length e
    unfold rowsOf rowsF at this
    rwa [List.length_map, List.length_map] at this
  have hat : ∀ (i : Nat) (r : List Int) (q : Nat), ls[i]? = some r → (L.map (·.1))[i]? = some q → ∃ a ∈ L, L[i]? = some a ∧ a.1 = q ∧ a.2 = toF n r := fun i r q h1 h2 => by
    rw [List.getElem?_map] at h2
    cases ea : L[i]? with
    | none => rw [ea] at h2; cases h2
    | some a =>
      rw [ea] at h2
      have h2 : some a.1 = some q := h2
      refine ⟨a, List.mem_of_getElem? ea, rfl, Option.some.inj h2, ?_⟩
      have := congrArg (fun l => l[i]?) e
      unfold rowsOf rowsF at this
      simp only [List.getElem?_map, ea, h1] at this
      exact Option.some.inj this
  refine ⟨L.map (·.1), by rw [List.length_map, hlen], fun i r q h1 h2 => ?_, fun i j r q h1 h2 hij => ?_⟩
  · obtain ⟨a, ha, _, rfl, e2⟩ := hat i r q h1 h2
    have g := hL.good a ha
    have hr := h.inr r (List.mem_of_getElem? h1)
    have e1 : r.getD a.1 0 = 1 := cF_val1 hc (rin_at hc hr _) (by rw [← toF_at, ← e2]; exact g.one)
    refine ⟨first_of (by rw [e1]; decide) fun j hj => cF_val0 hc (rin_at hc hr _) ?_, g.lt, e1⟩
    rw [← toF_at, ← e2]
    exact g.nil j hj
  · have hr := h.inr r (List.mem_of_getElem? h1)
    have hi : i < ls.length := (List.getElem?_eq_some_iff.mp h1).1
    obtain ⟨qi, hqi⟩ : ∃ qi, (L.map (·.1))[i]? = some qi := ⟨_, List.getElem?_eq_getElem (by rw [List.length_map, hlen]; exact hi)⟩
    obtain ⟨a, ha, ea, rfl, e2⟩ := hat i r qi h1 hqi
    have hj : j < ls.length := by
      have := (List.getElem?_eq_some_iff.mp h2).1
      rwa [List.length_map, hlen] at this
    obtain ⟨b, hb, eb, rfl, _⟩ := hat j _ q (List.getElem?_eq_getElem hj) h2
    refine cF_val0 hc (rin_at hc hr _) ?_
    rw [← toF_at, ← e2]
    refine hL.zeroAt a ha b hb fun z => ?_
    have pw : L.Pairwise fun a b => a.1 < b.1 := hL.pw.imp fun z => z.1
    have hil := (List.getElem?_eq_some_iff.mp ea).1
    have hjl := (List.getElem?_eq_some_iff.mp eb).1
    have ea' := (List.getElem?_eq_some_iff.mp ea).2
    have eb' := (List.getElem?_eq_some_iff.mp eb).2
    rw [List.pairwise_iff_getElem] at pw
    rcases Nat.lt_or_gt_of_ne hij with z1 | z1
    · have := pw i j hil hjl z1
      rw [ea', eb'] at this
      omega
    · have := pw j i hjl hil z1
      rw [ea', eb'] at this
      omega
/-- all steps of the ladder taken off -/
def redQ (n : Int) : List (List Int) → List Nat → List Int → List Int
  | r :: ls, q :: qs, v => redQ n ls qs (iSub n v r (v.getD q 0))
  | _, _, v => v
theorem redQ_in {wide : Nat} : ∀ {ls : List (List Int)} {qs : List Nat} {v : List Int}, (∀ r ∈ ls, Rin n wide r) → Rin n wide v → Rin n wide (redQ n ls qs v)
  | [], _, _, _, h => h
  | _ :: _, [], _, _, h => h
  | r :: ls, q :: qs, v, hl, h => redQ_in (ls := ls) (qs := qs) (fun x hx => hl x (List.mem_cons_of_mem _ hx)) (iSub_in n_pos h.1 (hl r List.mem_cons_self).1)
theorem redQ_snoc : ∀ {i : Nat} {r : List Int} {q : Nat} {ls : List (List Int)} {qs : List Nat} {v : List Int}, ls[i]? = some r → qs[i]? = some q → redQ n (ls.take (i + 1)) (qs.take (i + 1)) v = iSub n (redQ n (ls.take i) (qs.take i) v) r ((redQ n (ls.take i) (qs.take i) v).getD q 0)
  | 0, r, q, r' :: ls, q' :: qs, v, h1, h2 => by
    cases h1
    cases h2
    simp [redQ]
  | i + 1, r, q, r' :: ls, q' :: qs, v, h1, h2 => by
    have := redQ_snoc (i := i) (ls := ls) (qs := qs) (v := iSub n v r' (v.getD q' 0)) (by simpa using h1) (by simpa using h2)
    simpa [redQ] using this
  | _, _, _, [], _, _, h1, _ => by simp at h1
  | _, _, _, _ :: _, [], _, _, h2 => by simp at h2
theorem redQ_span {wide : Nat} {T : List (List (Fin n))} (hT : Wd wide T) : ∀ {ls : List (List Int)} {qs : List Nat} {v : List Int}, (∀ r ∈ ls, Rin n wide r ∧ InS wide T (toF n r)) → Rin n wide v → (InS wide T (toF n (redQ n ls qs v)) ↔ InS wide T (toF n v))
  | [], _, _, _, _ => Iff.rfl
  | _ :: _, [], _, _, _ => Iff.rfl
  | r :: ls, q :: qs, v, hl, h => by
    obtain ⟨h1, h2⟩ := hl r List.mem_cons_self
    refine (redQ_span hT (fun x hx => hl x (List.mem_cons_of_mem _ hx)) (iSub_in n_pos h.1 h1.1)).trans ?_
    rw [toF_sub]
    exact ⟨fun z => inS_back hT (by rw [toF_len, h.1]) (by rw [toF_len, h1.1]) z h2, fun z => inS_sub hT (by rw [toF_len, h.1]) (by rw [toF_len, h1.1]) z h2⟩
/-- nothing stands at the first places -/
theorem redQ_zero (hc : Clk n) {wide : Nat} {ls : List (List Int)} {qs : List Nat} {v : List Int} (hl : ∀ r ∈ ls, Rin n wide r) (h : Rin n wide v) (hp : Piv n wide ls qs) : ∀ i, i ≤ ls.length → ∀ j q, j < i → qs[j]? = some q → (redQ n (ls.take i) (qs.take i) v).getD q 0 = 0
  | 0, _, j, _, hj, _ => absurd hj (Nat.not_lt_zero j)
  | i + 1, hi, j, q, hj, hq => by
    have e1 : ls[i]? = some (ls.getD i []) := getD_at (by omega)
    have e2 : qs[i]? = some (qs.getD i 0) := getD_at (by rw [hp.len]; omega)
    have hin := redQ_in (n := n) (ls := ls.take i) (qs := qs.take i) (fun x hx => hl x (List.mem_of_mem_take hx)) h
    have hri := hl _ (List.mem_of_getElem? e1)
    rw [redQ_snoc e1 e2, iSub_at (by rw [hin.1, hri.1])]
    by_cases hji : j = i
    · subst hji
      rw [e2] at hq
      cases hq
      rw [(hp.at' j _ _ e1 e2).2.2, Int.mul_one, Int.sub_self, Int.zero_emod]
    · rw [redQ_zero hc hl h hp i (by omega) j q (by omega) hq, hp.off i j _ q e1 hq (Ne.symm hji), Int.mul_zero, Int.sub_self, Int.zero_emod]
theorem redQ_iff (hc : Clk n) {wide : Nat} {rs ls : List (List Int)} {qs : List Nat} {v : List Int} (hL : LadI n wide rs ls) (hrs : ∀ r ∈ rs, Rin n wide r) (h : Rin n wide v) (hp : Piv n wide ls qs) : firstI (redQ n ls qs v) = none ↔ InS wide (rowsF n rs) (toF n v) := by
  have hT := rowsF_wd (n := n) fun r hr => (hL.inr r hr).1
  have hv : (toF n v).length = wide := by rw [toF_len, h.1]
  have hin := redQ_in (n := n) (ls := ls) (qs := qs) hL.inr h
  have hsp := redQ_span (n := n) hT (ls := ls) (qs := qs) (fun r hr => ⟨hL.inr r hr, inS_mem hT (List.mem_map.mpr ⟨r, hr, rfl⟩)⟩) h
  refine Iff.trans ?_ (hsp.trans (hL.eqv _ hv))
  constructor
  · intro hf
    have : toF n (redQ n ls qs v) = zero wide := row_zero (by rw [toF_len]; exact hin.1) fun j _ => by rw [toF_at, firstI_zero hf, cF_zero]
    rw [this]
    exact inS_zero hT
  · intro hi
    obtain ⟨L, e, hLd⟩ := hL.lad
    rw [← e] at hi
    have hz := lad_zero hLd (by rw [toF_len]; exact hin.1) hi fun a ha => by
      obtain ⟨i, hi1⟩ := List.mem_iff_getElem?.mp ha
      have hil := (List.getElem?_eq_some_iff.mp hi1).1
      have hlen : L.length = ls.length := by
        have := congrArg List.length e
        unfold rowsOf rowsF at this
        rwa [List.length_map, List.length_map] at this
      have e1 : ls[i]? = some (ls.getD i []) := getD_at (by omega)
      have e2 : qs[i]? = some (qs.getD i 0) := getD_at (by rw [hp.len]; omega)
      have ea : a.2 = toF n (ls.getD i []) := by
        have := congrArg (fun l => l[i]?) e
        unfold rowsOf rowsF at this
        simp only [List.getElem?_map, hi1, e1] at this
        exact Option.some.inj this
      have g := hLd.good a ha
      have hr := hL.inr _ (List.mem_of_getElem? e1)
      have ef : firstI (ls.getD i []) = some a.1 := first_of (by
        rw [cF_val1 hc (rin_at hc hr _) (by rw [← toF_at, ← ea]; exact g.one)]
        decide) fun j hj => cF_val0 hc (rin_at hc hr _) (by rw [← toF_at, ← ea]; exact g.nil j hj)
      have eq : qs.getD i 0 = a.1 := by
        have := (hp.at' i _ _ e1 e2).1
        rw [ef] at this
        exact (Option.some.inj this).symm
      have := redQ_zero hc hL.inr h hp ls.length (Nat.le_refl _) i (qs.getD i 0) (by omega) e2
      rw [List.take_length, ← hp.len, List.take_length, eq] at this
      rw [toF_at, this, cF_zero]
    have e0 : redQ n ls qs v = List.replicate wide 0 := toF_inj hin ⟨List.length_replicate, fun x hx => by
      rw [(List.mem_replicate.mp hx).2]
      exact ⟨Int.le_refl _, n_pos⟩⟩ (by rw [hz, toF_zero])
    rw [e0]
    unfold firstI
    rw [List.findIdx?_eq_none_iff]
    intro x hx
    rw [(List.mem_replicate.mp hx).2]
    rfl
end
end TK

namespace TK
open PySem PySem.Spec PyProof.Rows L2 TH
/-! ### plain: the parting -/
def dotZ : List Int → List Int → Int
  | x :: f, y :: v => x * y + dotZ f v
  | _, _ => 0
theorem dot_sub {n c : Int} : ∀ {f v r : List Int}, v.length = r.length → Cg n (dotZ f (iSub n v r c)) (dotZ f v - c * dotZ f r)
  | [], v, r, _ => .of (by
    show (0 : Int) = 0 - c * 0
    rw [Int.mul_zero]
    rfl)
  | x :: f, [], [], _ => .of (by
    show (0 : Int) = 0 - c * 0
    rw [Int.mul_zero]
    rfl)
  | x :: f, y :: v, z :: r, h => by
    have ih := dot_sub (n := n) (c := c) (f := f) (v := v) (r := r) (by simpa using h)
    show Cg n (x * ((y - c * z) % n) + dotZ f (iSub n v r c)) ((x * y + dotZ f v) - c * (x * z + dotZ f r))
    have h1 := (Cg.mod n (y - c * z)).mul x
    refine (h1.add ih).trans (.of ?_)
    rw [Int.mul_sub, Int.mul_add, Int.mul_left_comm x c z]
    omega
  | _ :: _, [], _ :: _, h => by simp at h
  | _ :: _, _ :: _, [], h => by simp at h
theorem dot_set : ∀ {f v : List Int} {q : Nat} {x : Int}, f.length = v.length → q < f.length → dotZ (f.set q x) v = dotZ f v + (x - f.getD q 0) * v.getD q 0
  | [], _, _, _, _, h => by simp at h
  | _ :: _, [], _, _, h, _ => by simp at h
  | a :: f, y :: v, 0, x, _, _ => by
    show x * y + dotZ f v = a * y + dotZ f v + (x - a) * y
    rw [Int.sub_mul]
    omega
  | a :: f, y :: v, q + 1, x, h, hq => by
    have ih := dot_set (f := f) (v := v) (q := q) (x := x) (by simpa using h) (by simpa using hq)
    show a * y + dotZ (f.set q x) v = a * y + dotZ f v + (x - f.getD q 0) * v.getD q 0
    rw [ih]
    omega
theorem dot_nil : ∀ (k : Nat) (v : List Int), dotZ (List.replicate k 0) v = 0
  | 0, _ => rfl
  | k + 1, [] => rfl
  | k + 1, y :: v => by
    show 0 * y + dotZ (List.replicate k 0) v = 0
    rw [dot_nil k v, Int.zero_mul]
    rfl
theorem dot_zero : ∀ (f v : List Int), (∀ j, v.getD j 0 = 0) → dotZ f v = 0
  | [], _, _ => rfl
  | _ :: _, [], _ => rfl
  | x :: f, y :: v, h => by
    have hy : y = 0 := h 0
    show x * y + dotZ f v = 0
    rw [dot_zero f v fun j => h (j + 1), hy, Int.mul_zero]
    rfl
theorem set_at {f : List Int} {q j : Nat} {x : Int} (hq : q < f.length) : (f.set q x).getD j 0 = if j = q then x else f.getD j 0 := by
  rw [List.getD_eq_getElem?_getD, List.getD_eq_getElem?_getD, List.getElem?_set]
  by_cases h : j = q
  · subst h
    rw [if_pos rfl, if_pos rfl, if_pos hq]
    rfl
  · rw [if_neg h, if_neg (Ne.symm h)]
theorem rep_at (k j : Nat) : (List.replicate k (0 : Int)).getD j 0 = 0 := by
  rw [List.getD_eq_getElem?_getD, List.getElem?_replicate]
  split <;> rfl
/-- the values put at the first places -/
def putQ (n : Int) (pl : Nat) : List (List Int) → List Nat → List Int → List Int
  | r :: ls, q :: qs, f => putQ n pl ls qs (f.set q ((-(r.getD pl 0) * f.getD pl 0) % n))
  | _, _, f => f
theorem putQ_snoc {n : Int} {pl : Nat} : ∀ {i : Nat} {r : List Int} {q : Nat} {ls : List (List Int)} {qs : List Nat} {f : List Int}, ls[i]? = some r → qs[i]? = some q → putQ n pl (ls.take (i + 1)) (qs.take (i + 1)) f = (putQ n pl (ls.take i) (qs.take i) f).set q ((-(r.getD pl 0) * (putQ n pl (ls.take i) (qs.take i) f).getD pl 0) % n)
  | 0, r, q, r' :: ls, q' :: qs, f, h1, h2 => by
    cases h1
    cases h2
    simp [putQ]
  | i + 1, r, q, r' :: ls, q' :: qs, f, h1, h2 => by
    have := putQ_snoc (n := n) (pl := pl) (i := i) (ls := ls) (qs := qs) (f := f.set q' ((-(r'.getD pl 0) * f.getD pl 0) % n)) (by simpa using h1) (by simpa using h2)
    simpa [putQ] using this
  | _, _, _, [], _, _, h1, _ => by simp at h1
  | _, _, _, _ :: _, [], _, _, h2 => by simp at h2
structure PutOk (n : Int) (wide pl : Nat) (t : Int) (ls : List (List Int)) (qs : List Nat) (i : Nat) (f : List Int) : Prop where
  rin : Rin n wide f
  piv : f.getD pl 0 = t
  later : ∀ j q, i ≤ j → qs[j]? = some q → f.getD q 0 = 0
  dot : ∀ v : List Int, v.length = wide → dotZ f v = t * v.getD pl 0 + ((List.range i).map fun k => ((-((ls.getD k []).getD pl 0) * t) % n) * v.getD (qs.getD k 0) 0).sum
theorem putOk {n : Int} {wide pl : Nat} {t : Int} {ls : List (List Int)} {qs : List Nat} (n0 : 0 < n) (hpl : pl < wide) (ht : 0 ≤ t ∧ t < n) (hp : Piv n wide ls qs) (hne : ∀ q ∈ qs, q ≠ pl) : ∀ i, i ≤ ls.length → PutOk n wide pl t ls qs i (putQ n pl (ls.take i) (qs.take i) ((List.replicate wide 0).set pl t))
  | 0, _ => by
    show PutOk n wide pl t ls qs 0 (putQ n pl (ls.take 0) (qs.take 0) ((List.replicate wide 0).set pl t))
    have e : putQ n pl (ls.take 0) (qs.take 0) ((List.replicate wide 0).set pl t) = (List.replicate wide 0).set pl t := rfl
    rw [e]
    refine ⟨⟨by simp, fun x hx => ?_⟩, by rw [set_at (by simpa using hpl), if_pos rfl], fun j q _ hq => ?_, fun v hv => ?_⟩
    · rcases List.mem_or_eq_of_mem_set hx with m | m
      · rw [(List.mem_replicate.mp m).2]
        omega
      · rw [m]
        exact ht
    · rw [set_at (by simpa using hpl), if_neg (hne q (List.mem_of_getElem? hq)), rep_at]
    · rw [dot_set (by simp [hv]) (by simpa using hpl), dot_nil, rep_at, Int.sub_zero, Int.zero_add]
      show _ = _ + 0
      rw [Int.add_zero]
  | i + 1, hi => by
    have e1 : ls[i]? = some (ls.getD i []) := getD_at (by omega)
    have e2 : qs[i]? = some (qs.getD i 0) := getD_at (by rw [hp.len]; omega)
    have ih := putOk (t := t) n0 hpl ht hp hne i (by omega)
    rw [putQ_snoc e1 e2]
    generalize putQ n pl (ls.take i) (qs.take i) ((List.replicate wide 0).set pl t) = f at ih
    have hq := hp.at' i _ _ e1 e2
    have hql : qs.getD i 0 < f.length := by rw [ih.rin.1]; exact hq.2.1
    have hx0 := Int.emod_nonneg (-((ls.getD i []).getD pl 0) * f.getD pl 0) (show n ≠ 0 by omega)
    have hx1 := Int.emod_lt_of_pos (-((ls.getD i []).getD pl 0) * f.getD pl 0) n0
    have hqpl := hne _ (List.mem_of_getElem? e2)
    have hlat := ih.later i _ (Nat.le_refl _) e2
    refine ⟨⟨by rw [List.length_set]; exact ih.rin.1, fun x hx => ?_⟩, by rw [set_at hql, if_neg (Ne.symm hqpl)]; exact ih.piv, fun j q hj hq' => ?_, fun v hv => ?_⟩
    · rcases List.mem_or_eq_of_mem_set hx with m | m
      · exact ih.rin.2 x m
      · rw [m]
        exact ⟨hx0, hx1⟩
    · have hne' : q ≠ qs.getD i 0 := fun z => by
        have hj1 : j < ls.length := by
          have := (List.getElem?_eq_some_iff.mp hq').1
          rw [hp.len] at this
          exact this
        have ej : ls[j]? = some (ls.getD j []) := getD_at hj1
        have a1 := (hp.at' j _ _ ej hq').2.2
        have a2 := hp.off j i _ _ ej e2 (by omega)
        rw [z, a2] at a1
        cases a1
      rw [set_at hql, if_neg hne']
      exact ih.later j q (by omega) hq'
    · rw [dot_set (by rw [ih.rin.1, hv]) hql, hlat, Int.sub_zero, ih.dot v hv, ih.piv, List.range_succ, List.map_append, List.sum_append]
      show _ = _ + (_ + (_ + 0))
      rw [Int.add_zero, Int.add_assoc]
/-- what a parting must be -/
structure PartOk (n : Int) (wide : Nat) (rs : List (List Int)) (row f : List Int) : Prop where
  rin : Rin n wide f
  one : dotZ f row % n = 1
  nil : ∀ r ∈ rs, dotZ f r % n = 0
theorem sum_zero' {f : Nat → Int} : ∀ xs : List Nat, (∀ k ∈ xs, f k = 0) → (xs.map f).sum = 0
  | [], _ => rfl
  | x :: xs, h => by
    rw [List.map_cons, List.sum_cons, h x List.mem_cons_self, sum_zero' xs fun k hk => h k (List.mem_cons_of_mem _ hk)]
    rfl
section
open LA
variable {n : Nat} [NeZero n]
theorem dot_red {wide : Nat} {f : List Int} : ∀ {ls : List (List Int)} {qs : List Nat} {v : List Int}, (∀ r ∈ ls, Rin n wide r ∧ Cg n (dotZ f r) 0) → Rin n wide v → Cg n (dotZ f (redQ n ls qs v)) (dotZ f v)
  | [], _, _, _, _ => .refl _ _
  | _ :: _, [], _, _, _ => .refl _ _
  | r :: ls, q :: qs, v, hl, h => by
    obtain ⟨h1, h2⟩ := hl r List.mem_cons_self
    have ih := dot_red (f := f) (ls := ls) (qs := qs) (v := iSub n v r (v.getD q 0)) (fun x hx => hl x (List.mem_cons_of_mem _ hx)) (iSub_in n_pos h.1 h1.1)
    refine ih.trans ((dot_sub (by rw [h.1, h1.1])).trans ?_)
    have h3 := (Cg.refl n (dotZ f v)).sub (h2.mul (v.getD q 0))
    rwa [Int.mul_zero, Int.sub_zero] at h3
theorem part_ok (hc : Clk n) {wide : Nat} {rs ls : List (List Int)} {qs : List Nat} {row : List Int} {pl : Nat} {t : Int} (hL : LadI n wide rs ls) (hrs : ∀ r ∈ rs, Rin n wide r) (hr : Rin n wide row) (hp : Piv n wide ls qs)
    (hf : firstI (redQ n ls qs row) = some pl) (ht : 0 ≤ t ∧ t < n) (hinv : ((redQ n ls qs row).getD pl 0 * t) % n = 1) : PartOk n wide rs row (putQ n pl ls qs ((List.replicate wide 0).set pl t)) := by
  have n0 : (0 : Int) < n := n_pos
  have hred := redQ_in (n := n) (ls := ls) (qs := qs) hL.inr hr
  obtain ⟨f1, f2, f3⟩ := firstI_lt hf
  have hplw : pl < wide := by rw [← hred.1]; exact f1
  have hz := redQ_zero hc hL.inr hr hp ls.length (Nat.le_refl _)
  rw [List.take_length, ← hp.len, List.take_length] at hz
  have hne : ∀ q ∈ qs, q ≠ pl := fun q hq z => by
    obtain ⟨j, hj⟩ := List.mem_iff_getElem?.mp hq
    have := hz j q (List.getElem?_eq_some_iff.mp hj).1 hj
    rw [z] at this
    exact f2 this
  have hput := putOk n0 hplw ht hp hne ls.length (Nat.le_refl _)
  rw [List.take_length, ← hp.len, List.take_length] at hput
  generalize putQ n pl ls qs ((List.replicate wide 0).set pl t) = f at hput
  have hsteps : ∀ r ∈ ls, Rin n wide r ∧ Cg n (dotZ f r) 0 := fun r hrl => by
    refine ⟨hL.inr r hrl, ?_⟩
    obtain ⟨m, hm⟩ := List.mem_iff_getElem?.mp hrl
    have hml := (List.getElem?_eq_some_iff.mp hm).1
    have hqm : qs[m]? = some (qs.getD m 0) := getD_at (by rw [hp.len]; exact hml)
    rw [hput.dot r (hL.inr r hrl).1, sum_one (i := m) (f := fun k => ((-((ls.getD k []).getD pl 0) * t) % n) * r.getD (qs.getD k 0) 0) qs.length fun k hk => ?_, if_pos (by rw [hp.len]; exact hml), getD_of hm, (hp.at' m _ _ hm hqm).2.2, Int.mul_one]
    · have h1 := (Cg.refl n (t * r.getD pl 0)).add (Cg.mod n (-(r.getD pl 0) * t))
      refine h1.trans (.of ?_)
      rw [Int.neg_mul, Int.mul_comm t]
      omega
    · show _ * r.getD (qs.getD k 0) 0 = 0
      by_cases hk2 : k < qs.length
      · rw [hp.off m k _ _ hm (getD_at hk2) (Ne.symm hk), Int.mul_zero]
      · have : qs.getD k 0 = 0 := by
          rw [List.getD_eq_getElem?_getD, List.getElem?_eq_none (by omega)]
          rfl
        have e : (ls.getD k []) = [] := by
          rw [List.getD_eq_getElem?_getD, List.getElem?_eq_none (by rw [← hp.len]; omega)]
          rfl
        rw [e]
        show ((-(0 : Int) * t) % n) * _ = 0
        rw [Int.neg_zero, Int.zero_mul, Int.zero_emod, Int.zero_mul]
  refine ⟨hput.rin, ?_, fun r hr' => ?_⟩
  · have h1 := dot_red (f := f) (ls := ls) (qs := qs) hsteps hr
    have h2 : dotZ f (redQ n ls qs row) = t * (redQ n ls qs row).getD pl 0 := by
      rw [hput.dot _ hred.1, sum_zero' _ fun k hk => ?_]
      · omega
      · rw [hz k _ (List.mem_range.mp hk) (getD_at (List.mem_range.mp hk)), Int.mul_zero]
    rw [h2] at h1
    rw [← Cg.iff.mp h1, Int.mul_comm]
    exact hinv
  · have h1 := dot_red (f := f) (ls := ls) (qs := qs) hsteps (hrs r hr')
    have hin : InS wide (rowsF n rs) (toF n r) := inS_mem (rowsF_wd fun x hx => (hrs x hx).1) (List.mem_map.mpr ⟨r, hr', rfl⟩)
    have hz0 := (redQ_iff hc hL hrs (hrs r hr') hp).mpr hin
    rw [dot_zero f _ (firstI_zero hz0)] at h1
    have := Cg.iff.mp h1
    rw [← this, Int.zero_emod]
end
end TK

namespace TK
open PySem PySem.Spec PyProof.Rows L2 TH
local macro_rules | `(tactic| walk_at "rd1") => `(tactic| first
  | (with_reducible refine TH.w_seq ?_)
  | (with_reducible refine TH.w_asg ?_)
  | (with_reducible refine TH.w_ret ?_)
  | (with_reducible refine TH.w_drop ?_)
  | (with_reducible refine TH.w_ifS ?_)
  | (with_reducible refine TH.w_next ?_)
  | ((with_reducible refine TH.w_var (v := ?vv) ?hv ?_); (case hv => rfl))
  | (with_reducible refine TH.w_c ?_)
  | ((with_reducible refine TH.w_gname (σ' := ?ss) ?hs ?_); (case hs => (dsimp only [List.set]; rfl)))
  | (with_reducible refine TH.w_op ?_)
  | (with_reducible refine TH.w_un ?_)
  | (with_reducible refine TH.w_chain ?_)
  | (with_reducible refine TH.w_I0 ?_)
  | ((with_reducible refine TH.w_I ?hm ?_); (case hm => first | (exact TH.CMul.l (by omega) (by omega)) | (exact TH.CMul.r (by omega) (by omega)) | (exact TH.CDiv.mk (by omega) (by omega)) | (show (0 : Int) < _; omega) | (exact TH.CPow.mk (by omega) (by omega) (by decide))))
  | (with_reducible refine TH.w_U ?_)
  | (with_reducible refine TH.w_eqI ?_)
  | (with_reducible refine TH.w_neI ?_)
  | (with_reducible refine TH.w_eqB ?_)
  | (with_reducible refine TH.w_isN ?_)
  | (with_reducible refine TH.w_nil ?_)
  | (with_reducible refine TH.w_cons ?_)
  | (with_reducible refine TH.w_test ?_)
  | (with_reducible refine TH.w_B ?_)
  | (with_reducible refine TH.w_bl ?_)
  | (with_reducible refine TH.w_and ?_)
  | (with_reducible refine TH.w_or ?_)
  | (with_reducible refine TH.w_not ?_)
  | (with_reducible refine TH.w_andV ?_)
  | (with_reducible refine TH.w_orV ?_)
  | (with_reducible refine TH.w_notV ?_)
  | (with_reducible refine TH.w_if ?_)
  | (with_reducible refine TH.w_parT ?_)
  | (with_reducible refine TH.w_par ?_)
  | (with_reducible refine TH.w_parT3 ?_)
  | (with_reducible refine TH.w_par3 ?_)
  | (with_reducible refine TH.w_cb ?_)
  | (with_reducible refine TH.w_call ?_)
  | ((with_reducible refine TH.w_aug (v := ?vv) ?hv ?_); (case hv => rfl))
  | (with_reducible refine TH.w_ip ?_)
  | (with_reducible refine TH.w_bm ?_)
  | (with_reducible refine TH.w_sl ?_)
  | (with_reducible refine TH.w_np ?_)
  | (with_reducible refine TH.w_pt ?_)
  | (with_reducible refine TH.w_pti ?_)
  | (with_reducible refine TH.w_gsub ?_)
  | (with_reducible refine TH.w_int ?_)
  | (with_reducible refine TH.w_tupT ?_)
  | (with_reducible refine TH.w_lstT ?_)
  | ((with_reducible show L2.rIxL _ _ _ _ _); (first | (refine TH.w_ixL (TH.sqL upd_same) rfl ?_) | (refine TH.w_ixL (TH.sqL (by assumption)) rfl ?_)))
  | ((with_reducible show L2.rSetL _ _ _ _ _); (first | (refine TH.w_set1 upd_same ?_) | (refine TH.w_set2 upd_same ?_) | (refine TH.w_set3 upd_same ?_) | (refine TH.w_set4 upd_same ?_) | (refine TH.w_set1 (by assumption) ?_) | (refine TH.w_set2 (by assumption) ?_) | (refine TH.w_set3 (by assumption) ?_) | (refine TH.w_set4 (by assumption) ?_)))
  | (with_reducible refine TH.w_lc ?_)
  | (with_reducible refine TH.w_dc ?_)
  | (with_reducible refine TH.w_itup ?_)
  | (with_reducible refine TH.w_ilist ?_)
  | (with_reducible refine TH.w_ienum ?_)
  | (with_reducible refine TH.w_izip ?_)
  | (with_reducible refine TH.w_irng1 ?_)
  | (with_reducible refine TH.w_irng2 ?_)
  | (with_reducible refine TH.w_for ?_)
  | (with_reducible refine TH.w_gcons ?_)
  | (with_reducible refine TH.w_gnil ?_)
  | (with_reducible refine TH.w_yes ?_)
  | (with_reducible refine TH.w_gtup2 upd_same ?_)
  | (with_reducible refine TH.w_gtup3 upd_same ?_)
  | (with_reducible refine TH.w_dput ?_)
  | (with_reducible refine TH.w_bm0 ?_)
  | (with_reducible refine TH.w_din ?_)
  | (with_reducible refine TH.w_dnotin ?_)
  | (with_reducible refine TH.w_dispK ?_)
  | (with_reducible refine TH.w_lock ?_)
  | (with_reducible refine TH.w_ikeys ?_)
  | (with_reducible refine TH.w_iitems ?_)
  | (with_reducible refine TH.w_dispT1 ?_)
  | (with_reducible refine TH.w_dnewT ?_)
  | (with_reducible refine TH.w_dnewK ?_)
  | (with_reducible refine TH.w_fld ?_)
  | (with_reducible refine TH.w_sfld ?_)
  | (with_reducible refine TH.w_meth ?_)
  | (with_reducible refine TH.w_make ?_)
  | (with_reducible refine TH.w_dget2 ?_)
  | (with_reducible refine TH.w_revL ?_)
  | (with_reducible refine TH.w_revT ?_)
  | (with_reducible refine TH.w_lstRg ?_)
  | (with_reducible refine TH.w_tupRg ?_)
  | (with_reducible refine TH.w_rg1 ?_)
  | (with_reducible refine TH.w_rg2 ?_)
  | (with_reducible refine TH.w_T ?_)
  | (with_reducible refine TH.w_F ?_))
local macro_rules | `(tactic| walk_at "rd") => `(tactic| repeat (first | walk_at "rd1" | (dsimp only [List.set, L2.wipe, List.map, TH.isInt, TH.isBool, TH.isTup, TH.isLst, TH.bo_f, TH.bo_t, TH.ba_f, TH.ba_t, TH.bn_t, TH.bn_f, List.append_nil, List.cons_append, List.nil_append])))

variable {P : Program} {w : World} {K : PySem.W.Frag} {mg : Str → Option Value} {base : Heap}
section
open LA
theorem RowsAt.len {H : Hp} {v : V} {rs : List (List Int)} (h : RowsAt K H v rs) : ∃ a xs, v = .ref a ∧ (SqL K H a xs ∨ SqT K H a xs) ∧ DpAll K H xs (rs.map row) ∧ xs.length = rs.length := by
  rcases h.at' with h | h
  · obtain ⟨a, xs, e, h1, h2⟩ := dp_lst h
    exact ⟨a, xs, e, .inl h1, h2, by rw [dpa_len h2, List.length_map]⟩
  · obtain ⟨a, xs, e, h1, h2⟩ := dp_tup h
    exact ⟨a, xs, e, .inr h1, h2, by rw [dpa_len h2, List.length_map]⟩
theorem made_ints {m : Nat} (f : Nat → Int) : made m (fun _ => true) (fun i => PyData.int (f i)) = ((List.range m).map f).map PyData.int := by
  rw [made_all, List.map_map]
  rfl
/-! mixture_of(p, rows, row) -/
def sp_mixture_of (K : PySem.W.Frag) : Sp := fun vs H Q _ => ∃ (n : Nat) (_ : NeZero n) (wide : Nat) (v u : V) (rs : List (List Int)) (r : List Int), vs = [.int (n : Nat), v, u] ∧ Clk n ∧ wide ≤ 1000 ∧ rs.length ≤ 200 ∧ RowsAt K H v rs ∧ (∀ r ∈ rs, Rin n wide r) ∧ Dp K H u (row r) ∧ Rin n wide r ∧
  (InS wide (rowsF n rs) (toF n r) → ∀ t cs H', Ex H H' → Dp K H' t (row cs) → MixOk n rs r cs → Q t H') ∧ (¬ InS wide (rowsF n rs) (toF n r) → ∀ H', Ex H H' → Q .non H')
theorem cfK_rng {n B : Int} {kvs : List (Key × V)} (h : WaysAt n B kvs) (hn : 0 < n) (k : Nat) : 0 ≤ cfK kvs k ∧ cfK kvs k < n := by
  obtain ⟨x, h1, h2⟩ := waysAt_get (k := Sum.inl (k : Int)) h hn
  rw [cfK_get h] at h1
  injection h1 with h1
  rw [h1]
  exact h2
theorem ok_mixture_of {C f : Addr} {fd : FuncData} (F : C8.Def K mg "mixture_of" s_mixture_of f fd) (b : Binds K fd ["p", "rows", "row"] []) (T : Txt mg) (TC : StC K C)
    (c_stairs_of : C8.Cal P w K mg base 4 "stairs_of" (sp_stairs_of K C) []) (c_Stairs_less : C8.Met P w K mg base 2 C "less" (sp_st_less K C) []) (c_first_place : C8.Cal P w K mg base 1 "first_place" (sp_first_place K) []) : C8.Cal P w K mg base 5 "mixture_of" (sp_mixture_of K) [] := by
  refine C8.cal0 F b .nil sc_mixture_of (fun vs H Q E h => ?_) (fun cdv A outer s H vs Q E hr h => ?_)
  · obtain ⟨n, _, wide, v, u, rs, r, rfl, _⟩ := h
    rfl
  · obtain ⟨n, inst, wide, v, u, rs, r, rfl, hc, hw, hl, hR, hrs, hu1, hr1, q1, q2⟩ := h
    have hu := hu_of hr
    have n2 := hc.two
    refine ⟨_, (pss_cons (ps_asg (C8.pe_mt c_Stairs_less hr (by first | decide | exact Nat.le_refl _) (C8.pe_c c_stairs_of hr (by first | decide | exact Nat.le_refl _) (by rfl) (pa_cons (pv 0) (pa_cons (pv 1) pa_nil))) (pa_cons (pv 2) pa_nil)) (TH.kpg_tup (K := K) (n := 2) rfl (pgs_cons (pg_name (i := 3) sc_mixture_of.nd rfl (Or.inl rfl) (Or.inr rfl)) (pgs_cons (pg_name (i := 4) sc_mixture_of.nd rfl (Or.inr rfl) (Or.inl rfl)) pgs_nil))))
      (pss_cons (ps_if (pt_cmpR op_notN (C8.pe_c c_first_place hr (by first | decide | exact Nat.le_refl _) (by rfl) (pa_cons (pv 3) pa_nil)) pe_non (nomark _)) (pss_one (ps_ret pe_non)) pss_nil)
      (pss_one (ps_ret (pe_callTy (TH.kcall_tuple (K := K)) (by rfl) T.b_tuple (by decide +kernel) (pa_cons (pe_lc (own := [("number", 5)]) (g := gName 5) (tt := tYes) rfl sc_mixture_of.nd (pi_range1 (by rfl) T.b_range (pa_cons (pe_callB (TH.kcall_len (K := K)) (by rfl) T.b_len (by decide +kernel) (pa_cons (pv 1) pa_nil)) pa_nil)) (blkOk_by (own := [("number", 5)]) (N := N_mixture_of) (sc := C8.fnScope s_mixture_of) (by decide +kernel)) (fun _ _ _ _ _ => (pg_name (i := 5) sc_mixture_of.nd rfl (Or.inl rfl) (Or.inr rfl))) (fun _ _ _ _ _ => pts_nil) (fun _ _ _ _ _ => (pe_dget2 hu (pv 4) (pv 5) pe_int ⟨rfl, rfl, rfl, rfl⟩))) pa_nil)))))), ?_⟩
    refine w_start (σ' := [some (.int n), some v, some u, none, none, none]) rfl ?_
    walk_at "rd"
    refine ⟨n, inst, wide, v, rs, rfl, hc, hw, hl, hR, hrs, fun s st tk us S ts H1 e1 hst hS hls => ?_⟩
    obtain ⟨⟨dx, hob⟩, _, _, _⟩ := id hst
    refine ⟨s, dx, _, rfl, hob, pf_no (by decide +kernel) (by decide +kernel) (by decide +kernel), ?_⟩
    walk_at "rd"
    have hniff := none_iff hrs hr1 hS
    have hli := lessI_in (n := n) (S := S) (fun b hb => (hS.inr b hb).1) hr1
    refine ⟨n, inst, wide, (rs.length : Nat), s, st, tk, rs, us, S, ts, u, r, rfl, hc, by omega, by omega, hw, hst, hS.inr, e1.dp hu1, hr1, fun t a d kvs H2 e2 ht ha hd hk hmx => ?_⟩
    generalize lessI n S r = lr at ha hmx hniff hli
    refine w_gtup2 ht ?_
    walk_at "rd"
    refine ⟨_, lr, rfl, ha, fun H3 e3 => ?_⟩
    have e12 := e1.trans e2
    have e13 := e12.trans e3
    cases hf : firstI lr with
    | some pl =>
      show _
      walk_at "rd"
      refine w_decN (fun _ => ?_) (fun h => by cases h)
      walk_at "rd"
      exact q2 (fun z => by rw [hniff.mpr z] at hf; cases hf) H3 e13
    | none =>
      show _
      walk_at "rd"
      refine w_decN (fun h => absurd rfl h) (fun _ => ?_)
      walk_at "rd"
      obtain ⟨va, xs, rfl, hxs, hda, hxl⟩ := RowsAt.len (hR.ex e13)
      refine ⟨va, xs, rfl, hxs, ?_⟩
      rw [hxl]
      refine w_isrng (by omega) (by omega) ?_
      intro Dl hD
      refine lc_data (K := K) walk_rng (fun _ => true) (fun i => .int (cfK kvs i)) (fun _ => rfl) (fun _ _ => trivial) hD (by omega) (fun i x H4 H5 hi e y R R0 k _ => ?_) (fun H4 ws e4 hws hdw => ?_)
      · obtain ⟨rfl, rfl⟩ := y
        walk_at "rd"
        refine ⟨rfl, ?_⟩
        walk_at "rd"
        have hd5 := e _ _ (e3 _ _ hd)
        refine ⟨d, rfl, .inl ⟨kvs, .inl hd5⟩, ?_⟩
        walk_at "rd"
        refine ⟨_, DGet.k (k := Sum.inl (i : Int)) hd5, ?_⟩
        rw [cfK_get hk]
        exact k rfl _ _ (Ex.refl _) (.int _)
      · rw [Int.toNat_natCast, made_ints] at hdw
        have eu := dpa_ints_inv hdw
        subst eu
        walk_at "rd"
        refine ⟨Dl, _, rfl, .inl ⟨sqL hws, fun l hl => ?_⟩⟩
        refine q1 (hniff.mp hf) _ ((List.range rs.length).map (cfK kvs)) _ (e13.trans (e4.trans (Ex.new hl))) (dp_row_of (sqT upd_same)) ⟨by simp, fun x hx => ?_, fun j => ?_⟩
        · obtain ⟨k, _, rfl⟩ := List.mem_map.mp hx
          exact cfK_rng hk (by omega) k
        · have h0 : lr.getD j 0 = 0 := firstI_zero hf j
          have := hmx j
          rw [h0, Int.sub_zero] at this
          refine this.trans (mix_eq fun k hk => .of ?_)
          rw [List.getD_eq_getElem?_getD, List.getElem?_map, List.getElem?_range hk]
          rfl
theorem hne_of {n : Nat} [NeZero n] (hc : Clk n) {wide : Nat} {rs ls : List (List Int)} {qs : List Nat} {r : List Int} {pl : Nat} (hL : LadI n wide rs ls) (hr : Rin n wide r) (hp : Piv n wide ls qs) (hf : firstI (redQ n ls qs r) = some pl) : ∀ q ∈ qs, q ≠ pl := fun q hq z => by
  obtain ⟨f1, f2, f3⟩ := firstI_lt hf
  have hz := redQ_zero hc hL.inr hr hp ls.length (Nat.le_refl _)
  rw [List.take_length, ← hp.len, List.take_length] at hz
  obtain ⟨j, hj⟩ := List.mem_iff_getElem?.mp hq
  have := hz j q (List.getElem?_eq_some_iff.mp hj).1 hj
  rw [z] at this
  exact f2 this
/-! parting_of(p, wide, rows, row) -/
def sp_parting_of (K : PySem.W.Frag) : Sp := fun vs H Q _ => ∃ (n : Nat) (_ : NeZero n) (wide : Nat) (v u : V) (rs : List (List Int)) (r : List Int), vs = [.int (n : Nat), .int (wide : Nat), v, u] ∧ Clk n ∧ wide ≤ 1000 ∧ rs.length ≤ 200 ∧ RowsAt K H v rs ∧ (∀ r ∈ rs, Rin n wide r) ∧ Dp K H u (row r) ∧ Rin n wide r ∧
  (¬ InS wide (rowsF n rs) (toF n r) → ∀ t f H', Ex H H' → Dp K H' t (row f) → PartOk n wide rs r f → Q t H') ∧ (InS wide (rowsF n rs) (toF n r) → ∀ H', Ex H H' → Q .non H')
theorem ok_parting_of {f : Addr} {fd : FuncData} (F : C8.Def K mg "parting_of" s_parting_of f fd) (b : Binds K fd ["p", "wide", "rows", "row"] []) (T : Txt mg)
    (c_ladder_of : C8.Cal P w K mg base 5 "ladder_of" (sp_ladder_of K) []) (c_without : C8.Cal P w K mg base 1 "without" (sp_without K) []) (c_first_place : C8.Cal P w K mg base 1 "first_place" (sp_first_place K) []) (c_inverse_of : C8.Cal P w K mg base 1 "inverse_of" (sp_inverse_of K) []) : C8.Cal P w K mg base 6 "parting_of" (sp_parting_of K) [] := by
  refine C8.cal0 F b .nil sc_parting_of (fun vs H Q E h => ?_) (fun cdv A outer s H vs Q E hr h => ?_)
  · obtain ⟨n, _, wide, v, u, rs, r, rfl, _⟩ := h
    rfl
  · obtain ⟨n, inst, wide, v, u, rs, r, rfl, hc, hw, hl, hR, hrs, hu1, hr1, q1, q2⟩ := h
    have n2 := hc.two
    have nm := hc.le
    refine ⟨_, (pss_cons (ps_set (i := 4) sc_parting_of.nd rfl (Or.inl rfl) (C8.pe_c c_ladder_of hr (by first | decide | exact Nat.le_refl _) (by rfl) (pa_cons (pv 0) (pa_cons (pv 2) pa_nil))))
      (pss_cons (ps_set (i := 5) sc_parting_of.nd rfl (Or.inl rfl) (pv 3))
      (pss_cons (ps_for PassesOwn.never rfl (TH.kpi_tup (K := K) (pv 4)) (pg_name (i := 6) sc_parting_of.nd rfl (Or.inl rfl) (Or.inr rfl)) (pss_one (ps_set (i := 5) sc_parting_of.nd rfl (Or.inl rfl) (C8.pe_c c_without hr (by first | decide | exact Nat.le_refl _) (by rfl) (pa_cons (pv 0) (pa_cons (pv 5) (pa_cons (pv 6) (pa_cons (pe_ix (TH.kix_tup (K := K)) (pv 5) (C8.pe_c c_first_place hr (by first | decide | exact Nat.le_refl _) (by rfl) (pa_cons (pv 6) pa_nil)) (fun _ _ => rfl)) pa_nil))))))))
      (pss_cons (ps_set (i := 7) sc_parting_of.nd rfl (Or.inl rfl) (C8.pe_c c_first_place hr (by first | decide | exact Nat.le_refl _) (by rfl) (pa_cons (pv 5) pa_nil)))
      (pss_cons (ps_if (pt_cmpR op_isN (pv 7) pe_non (nomark _)) (pss_one (ps_ret pe_non)) pss_nil)
      (pss_cons (ps_set (i := 8) sc_parting_of.nd rfl (Or.inl rfl) (pe_op op_rep (pe_lst (pa_cons pe_int pa_nil)) (pv 1)))
      (pss_cons (ps_asg (C8.pe_c c_inverse_of hr (by first | decide | exact Nat.le_refl _) (by rfl) (pa_cons (pv 0) (pa_cons (pe_ix (TH.kix_tup (K := K)) (pv 5) (pv 7) (fun _ _ => rfl)) pa_nil))) (pg_sub (pv 8) (pv 7) set_list))
      (pss_cons (ps_for PassesOwn.never rfl (TH.kpi_tup (K := K) (pv 4)) (pg_name (i := 6) sc_parting_of.nd rfl (Or.inl rfl) (Or.inr rfl)) (pss_one (ps_asg (pe_op op_mod (pe_op op_mul (pe_un un_neg (pe_ix (TH.kix_tup (K := K)) (pv 6) (pv 7) (fun _ _ => rfl))) (pe_ix (TH.kix_list (K := K)) (pv 8) (pv 7) (fun _ _ => rfl))) (pv 0)) (pg_sub (pv 8) (C8.pe_c c_first_place hr (by first | decide | exact Nat.le_refl _) (by rfl) (pa_cons (pv 6) pa_nil)) set_list))))
      (pss_one (ps_ret (pe_callTy (TH.kcall_tuple (K := K)) (by rfl) T.b_tuple (by decide +kernel) (pa_cons (pv 8) pa_nil)))))))))))), ?_⟩
    refine w_start (σ' := [some (.int n), some (.int wide), some v, some u, none, none, none, none, none]) rfl ?_
    walk_at "rd"
    refine ⟨n, inst, wide, v, rs, rfl, hc, hw, hl, hR, hrs, fun lu ls H1 e1 hlu hL => ?_⟩
    obtain ⟨qs, hp⟩ := hL.piv hc
    obtain ⟨la, lv, rfl, hla, hlv⟩ := dp_tup hlu
    have hlvl : lv.length = ls.length := by rw [dpa_len hlv, List.length_map]
    have hll := hL.len
    walk_at "rd"
    refine ⟨la, rfl, ⟨_, hla⟩, ?_⟩
    refine for_go walk_tup (fun i σ H' => Ex H1 H' ∧ ∃ (l : V) (y6 : Option V), σ = [some (.int n), some (.int wide), some v, some u, some (.ref la), some l, y6, none, none] ∧ Dp K H' l (row (redQ n (ls.take i) (qs.take i) r)))
      ⟨Ex.refl _, _, _, rfl, e1.dp hu1⟩ (fun i σ H' _ p => p.1.t hla) (fun i x σ H2 H2' hi p y => ?_) (fun σ H2 p => ?_)
    · obtain ⟨e, l, y6, rfl, hl1⟩ := p
      obtain ⟨rfl, hx⟩ := y
      obtain ⟨sr, hs1, hs2⟩ := rowsAt_get (e.dpa hlv) hx
      have hsin := hL.inr sr (List.mem_of_getElem? hs1)
      have hqi : qs[i]? = some (qs.getD i 0) := getD_at (by rw [hp.len]; exact (List.getElem?_eq_some_iff.mp hs1).1)
      obtain ⟨p1, p2, p3⟩ := hp.at' i _ _ hs1 hqi
      have hsn := redQ_snoc (n := n) (v := r) hs1 hqi
      have hin := redQ_in (n := n) (ls := ls.take i) (qs := qs.take i) (fun x hx => hL.inr x (List.mem_of_mem_take hx)) hr1
      generalize redQ n (ls.take i) (qs.take i) r = lr at hl1 hsn hin
      obtain ⟨lra, rfl, hlra⟩ := dp_row hl1
      walk_at "rd"
      refine ⟨_, sr, rfl, hs2, fun H3 e3 => ?_⟩
      rw [p1]
      have eo : optV (some (qs.getD i 0)) = .int ((qs.getD i 0 : Nat) : Int) := rfl
      rw [eo]
      have hv6 := rin_at hc hin (qs.getD i 0)
      have hinl := hin.1
      refine w_ixT (e3.t hlra) (atI_int (getD_at (i := qs.getD i 0) (d := 0) (by rw [hin.1]; exact p2))) ?_
      walk_at "rd"
      refine ⟨_, _, _, _, lr, sr, rfl, e3.dp hl1, e3.dp hs2, by omega, by omega, by omega, by omega, fun u' H4 e4 hu' => ?_⟩
      walk_at "rd"
      refine ⟨e.trans (e3.trans e4), u', _, rfl, ?_⟩
      rw [hsn]
      exact hu'
    · obtain ⟨e, l, y6, rfl, hl1⟩ := p
      rw [hlvl, List.take_length, ← hp.len, List.take_length] at hl1
      have hiff := redQ_iff hc hL hrs hr1 hp
      have hin := redQ_in (n := n) (ls := ls) (qs := qs) hL.inr hr1
      have hpart := fun (pl : Nat) (t : Int) => part_ok (pl := pl) (t := t) hc hL hrs hr1 hp
      have hneq := fun (pl : Nat) => hne_of (pl := pl) hc hL hr1 hp
      generalize redQ n ls qs r = lr at hl1 hiff hin hpart hneq
      have hinl := hin.1
      obtain ⟨lra, rfl, hlra⟩ := dp_row hl1
      walk_at "rd"
      refine ⟨_, lr, rfl, hl1, fun H3 e3 => ?_⟩
      have e13 := e1.trans (e.trans e3)
      cases hf : firstI lr with
      | none =>
        show _
        walk_at "rd"
        refine w_dec (fun _ => ?_) (fun h => absurd rfl h)
        walk_at "rd"
        exact q2 (hiff.mp hf) H3 e13
      | some pl =>
        obtain ⟨f1, f2, f3⟩ := firstI_lt hf
        have hns : ¬ InS wide (rowsF n rs) (toF n r) := fun z => by rw [hiff.mpr z] at hf; cases hf
        have eo : optV (some pl) = .int ((pl : Nat) : Int) := rfl
        rw [eo]
        have hv6 := rin_at hc hin pl
        have hplw : pl < wide := by omega
        walk_at "rd"
        refine w_dec (fun h => by cases h) (fun _ => ?_)
        walk_at "rd"
        refine w_dispT (by simp) fun zl hzl => ?_
        walk_at "rd"
        refine ⟨zl, wide, _, rfl, rfl, upd_same, by omega, by omega, small2 (by simp; omega), fun fl hfl => ?_⟩
        rw [Int.toNat_natCast, rep_one]
        have e4 : Ex H3 (upd (upd H3 zl (.lst [V.int 0])) fl (.lst (List.replicate wide (V.int 0)))) := (Ex.new hzl).trans (Ex.new hfl)
        have hfl0 : H3 fl = none := (Ex.new hzl).fresh hfl
        have u4 : upd (upd H3 zl (.lst [V.int 0])) fl (.lst (List.replicate wide (V.int 0))) fl = some (.lst ((List.replicate wide (0 : Int)).map V.int)) := by
          rw [upd_same, List.map_replicate]
        generalize upd (upd H3 zl (.lst [V.int 0])) fl (.lst (List.replicate wide (V.int 0))) = H4 at e4 u4 ⊢
        have e14 := e.trans (e3.trans e4)
        walk_at "rd"
        refine w_ixT ((e3.trans e4).t hlra) (atI_int (getD_at (i := pl) (d := 0) f1)) ?_
        walk_at "rd"
        have hcop : Int.gcd n (lr.getD pl 0) = 1 := by
          have := hc.cop (v := (lr.getD pl 0).toNat) (by omega) (by omega)
          have e : lr.getD pl 0 = (((lr.getD pl 0).toNat : Nat) : Int) := by omega
          rw [e]
          exact this
        refine ⟨_, _, rfl, by omega, by omega, by omega, hv6.2, hcop, fun tn H5 e5 t0 t1 htn => ?_⟩
        walk_at "rd"
        have hfl5 := e5 _ _ u4
        refine w_setN hfl5 (by simp; omega) ?_
        have hPart := hpart pl tn hf ⟨t0, t1⟩ htn
        have hput := fun i hi => putOk (i := i) (t := tn) (n := (n : Int)) (by omega) hplw ⟨t0, t1⟩ hp (hneq pl hf) hi
        have es : ((List.replicate wide (0 : Int)).map V.int).set pl (.int tn) = ((List.replicate wide (0 : Int)).set pl tn).map V.int := by rw [List.map_set]
        rw [es]
        have e16 : Ex H3 (upd H5 fl (.lst (((List.replicate wide (0 : Int)).set pl tn).map V.int))) := (e4.trans e5).mut hfl0
        have u6 : upd H5 fl (.lst (((List.replicate wide (0 : Int)).set pl tn).map V.int)) fl = some (.lst (((List.replicate wide (0 : Int)).set pl tn).map V.int)) := upd_same
        generalize upd H5 fl (.lst (((List.replicate wide (0 : Int)).set pl tn).map V.int)) = H6 at e16 u6 ⊢
        have ea := e.trans e3
        walk_at "rd"
        refine ⟨la, rfl, ⟨_, (ea.trans e16).t hla⟩, ?_⟩
        refine for_go walk_tup (fun i σ H' => Ex H3 H' ∧ H' fl = some (.lst ((putQ n pl (ls.take i) (qs.take i) ((List.replicate wide 0).set pl tn)).map V.int)) ∧ ∃ (y6 : Option V), σ = [some (.int n), some (.int wide), some v, some u, some (.ref la), some (.ref lra), y6, some (.int pl), some (.ref fl)])
          ⟨e16, u6, _, rfl⟩ (fun i σ H' _ p => (ea.trans p.1).t hla) (fun i x σ H7 H7' hi p y => ?_) (fun σ H7 p => ?_)
        · obtain ⟨e7, g7, y6, rfl⟩ := p
          obtain ⟨rfl, hx⟩ := y
          obtain ⟨sr, hs1, hs2⟩ := rowsAt_get ((ea.trans e7).dpa hlv) hx
          obtain ⟨sra, rfl, hsra⟩ := dp_row hs2
          have hil := (List.getElem?_eq_some_iff.mp hs1).1
          have hsin := hL.inr sr (List.mem_of_getElem? hs1)
          have hqi : qs[i]? = some (qs.getD i 0) := getD_at (by rw [hp.len]; exact hil)
          obtain ⟨p1, p2, p3⟩ := hp.at' i _ _ hs1 hqi
          have hsn := putQ_snoc (n := n) (pl := pl) (f := (List.replicate wide 0).set pl tn) hs1 hqi
          have hpo := hput i (by omega)
          generalize putQ n pl (ls.take i) (qs.take i) ((List.replicate wide 0).set pl tn) = ff at g7 hsn hpo
          have hfr := hpo.rin.1
          have hpv := hpo.piv
          have hv7 := rin_at hc hsin pl
          walk_at "rd"
          refine w_ixT hsra (atI_int (getD_at (i := pl) (d := 0) (by rw [hsin.1]; exact hplw))) ?_
          walk_at "rd"
          refine w_ixL (sqL g7) (atI_int (getD_at (i := pl) (d := 0) (by rw [hfr]; exact hplw))) ?_
          walk_at "rd"
          refine ⟨_, sr, rfl, hs2, fun H8 e8 => ?_⟩
          rw [p1]
          have eo : optV (some (qs.getD i 0)) = .int ((qs.getD i 0 : Nat) : Int) := rfl
          rw [eo]
          have g8 := e8 _ _ g7
          refine w_setN g8 (by rw [List.length_map, hfr]; exact p2) ?_
          have es : (ff.map V.int).set (qs.getD i 0) (.int ((-(sr.getD pl 0) * ff.getD pl 0) % n)) = (ff.set (qs.getD i 0) ((-(sr.getD pl 0) * ff.getD pl 0) % n)).map V.int := by rw [List.map_set]
          rw [es]
          refine ⟨(e7.trans e8).mut hfl0, ?_, _, rfl⟩
          rw [upd_same, hsn]
        · obtain ⟨e7, g7, y6, rfl⟩ := p
          rw [hlvl, List.take_length, ← hp.len, List.take_length] at g7
          walk_at "rd"
          refine ⟨fl, _, rfl, .inl ⟨sqL g7, fun l hl => ?_⟩⟩
          exact q1 hns _ _ _ (e13.trans (e7.trans (Ex.new hl))) (dp_row_of (sqT upd_same)) hPart
end
end TK

namespace TK
open PySem PySem.Spec PyProof.Rows L2 TH
/-! ### plain: determinants by taking rows off -/
def vec (r : List Int) : DT.Vec := fun j => r.getD j 0
def detL (M : List (List Int)) (cs : List Nat) : Int := DT.det (M.map vec) cs
def elimI (n : Int) (r : List Int) (c : Nat) (turn : Int) (x : List Int) : List Int := iSub n x r ((x.getD c 0 * turn) % n)
theorem cong_map {n : Int} {cs : List Nat} {f g : List Int → DT.Vec} : ∀ {M : List (List Int)}, (∀ x ∈ M, ∀ c ∈ cs, f x c % n = g x c % n) → DT.Cong n cs (M.map f) (M.map g)
  | [], _ => .nil
  | x :: M, h => .cons (h x List.mem_cons_self) (cong_map fun y hy => h y (List.mem_cons_of_mem _ hy))
theorem elim_det {n : Int} {r : List Int} {c : Nat} {turn : Int} {rest : List (List Int)} {cs : List Nat} (hl : ∀ x ∈ rest, x.length = r.length) (ht : Cg n (r.getD c 0 * turn) 1) :
    Cg n (detL (r :: rest) (c :: cs)) (r.getD c 0 * detL (rest.map (elimI n r c turn)) cs) := by
  have h1 := DT.det_adds (x := vec r) (f := vec) (g := fun x j => vec x j + (-((x.getD c 0 * turn) % n)) * vec r j) (k := fun x : List Int => -((x.getD c 0 * turn) % n)) (fun a j => rfl) rest [] [] (c :: cs)
  have h1 : DT.det (vec r :: rest.map (fun x j => vec x j + (-((x.getD c 0 * turn) % n)) * vec r j)) (c :: cs) = detL (r :: rest) (c :: cs) := h1
  rw [← h1]
  have h2 : DT.Cong n (c :: cs) (vec r :: rest.map (fun x j => vec x j + (-((x.getD c 0 * turn) % n)) * vec r j)) (vec r :: rest.map fun x => vec (elimI n r c turn x)) := by
    refine .cons (fun _ _ => rfl) (cong_map fun x hx j _ => ?_)
    show (x.getD j 0 + (-((x.getD c 0 * turn) % n)) * r.getD j 0) % n = (iSub n x r ((x.getD c 0 * turn) % n)).getD j 0 % n
    rw [iSub_at (hl x hx), Int.emod_emod_of_dvd _ (Int.dvd_refl n), Int.neg_mul]
    rfl
  refine (Cg.iff.mpr (DT.det_mod h2 (c :: cs) fun _ h => h)).trans (.of ?_)
  have h3 : (rest.map (elimI n r c turn)).map vec = rest.map fun x => vec (elimI n r c turn x) := by rw [List.map_map]; rfl
  unfold detL
  rw [h3]
  refine DT.det_tri (r := vec r) fun s hs => ?_
  obtain ⟨x, hx, rfl⟩ := List.mem_map.mp hs
  show (iSub n x r ((x.getD c 0 * turn) % n)).getD c 0 = 0
  rw [iSub_at (hl x hx)]
  have e1 := ((Cg.mod n (x.getD c 0 * turn)).mul (r.getD c 0)).trans (.of (show r.getD c 0 * (x.getD c 0 * turn) = x.getD c 0 * (r.getD c 0 * turn) from Int.mul_left_comm _ _ _))
  have e2 := e1.trans (ht.mul (x.getD c 0))
  rw [Int.mul_one, Int.mul_comm] at e2
  have e3 := (Cg.refl n (x.getD c 0)).sub e2
  rw [Int.sub_self] at e3
  rw [Cg.iff.mp e3, Int.zero_emod]
theorem swap_det {x y : List Int} {mid post : List (List Int)} {cs : List Nat} : detL (x :: (mid ++ y :: post)) cs = - detL (y :: (mid ++ x :: post)) cs := by
  have := DT.det_far (x := vec x) (y := vec y) [] (mid.map vec) (post.map vec) cs
  unfold detL
  rw [List.map_cons, List.map_append, List.map_cons, List.map_cons, List.map_append, List.map_cons]
  exact this
theorem nought_det {M : List (List Int)} {c : Nat} {cs : List Nat} (hc : c ∈ cs) (h : ∀ x ∈ M, x.getD c 0 = 0) : detL M cs = 0 := DT.det_zc _ _ hc fun v hv => by
  obtain ⟨x, hx, rfl⟩ := List.mem_map.mp hv
  exact h x hx
def colsF (m at' : Nat) : List Nat := (List.range m).drop at'
theorem cols_cons {m a : Nat} (h : a < m) : colsF m a = a :: colsF m (a + 1) := by
  unfold colsF
  rw [List.drop_eq_getElem_cons (by rw [List.length_range]; exact h), List.getElem_range]
theorem cols_end (m : Nat) : colsF m m = [] := by
  unfold colsF
  rw [List.drop_eq_nil_of_le (by rw [List.length_range]; exact Nat.le_refl _)]
theorem drop_at {α : Type} {xs : List α} {i : Nat} {x : α} (h : xs[i]? = some x) : xs.drop i = x :: xs.drop (i + 1) := by
  obtain ⟨h1, h2⟩ := List.getElem?_eq_some_iff.mp h
  rw [List.drop_eq_getElem_cons h1, h2]
/-- two rows change places -/
theorem drop_swap {xs : List (List Int)} {i k : Nat} {x y : List Int} (hi : xs[i]? = some x) (hk : xs[k]? = some y) (hik : i < k) : ∃ mid post, xs.drop i = x :: (mid ++ y :: post) ∧ ((xs.set i y).set k x).drop i = y :: (mid ++ x :: post) := by
  have il := (List.getElem?_eq_some_iff.mp hi).1
  have kl := (List.getElem?_eq_some_iff.mp hk).1
  refine ⟨(xs.drop (i + 1)).take (k - (i + 1)), xs.drop (k + 1), ?_, ?_⟩
  · rw [drop_at hi]
    have h1 : (xs.drop (i + 1)).drop (k - (i + 1)) = y :: xs.drop (k + 1) := by
      rw [List.drop_drop, show i + 1 + (k - (i + 1)) = k by omega, drop_at hk]
    rw [← h1, List.take_append_drop]
  · refine List.ext_getElem? fun j => ?_
    rw [List.getElem?_drop]
    cases j with
    | zero =>
      rw [Nat.add_zero, List.getElem?_set_ne (by omega), List.getElem?_set_self il]
      rfl
    | succ j =>
      rw [List.getElem?_cons_succ]
      by_cases h1 : j < k - (i + 1)
      · rw [List.getElem?_set_ne (by omega), List.getElem?_set_ne (by omega), List.getElem?_append_left (by rw [List.length_take, List.length_drop]; omega), List.getElem?_take, if_pos h1, List.getElem?_drop]
        congr 1
        omega
      · have hl : ((xs.drop (i + 1)).take (k - (i + 1))).length = k - (i + 1) := by
          rw [List.length_take, List.length_drop]
          omega
        rw [List.getElem?_append_right (by rw [hl]; omega), hl]
        by_cases h2 : j = k - (i + 1)
        · subst h2
          rw [show i + (k - (i + 1) + 1) = k by omega, List.getElem?_set_self (by rw [List.length_set]; exact kl), Nat.sub_self]
          rfl
        · rw [List.getElem?_set_ne (by omega), List.getElem?_set_ne (by omega)]
          obtain ⟨e, he⟩ : ∃ e, j - (k - (i + 1)) = e + 1 := ⟨j - (k - (i + 1)) - 1, by omega⟩
          rw [he, List.getElem?_cons_succ, List.getElem?_drop]
          congr 1
          omega
/-- the rows from a + 1 on, the first j of them taken off -/
def elimTo (n : Int) (r : List Int) (a : Nat) (turn : Int) (j : Nat) (xs : List (List Int)) : List (List Int) := xs.mapIdx fun i x => if a < i ∧ i < a + 1 + j then elimI n r a turn x else x
theorem elimTo_at {n : Int} {r : List Int} {a : Nat} {turn : Int} {j : Nat} {xs : List (List Int)} (i : Nat) : (elimTo n r a turn j xs)[i]? = (xs[i]?).map fun x => if a < i ∧ i < a + 1 + j then elimI n r a turn x else x := by
  unfold elimTo
  rw [List.getElem?_mapIdx]
theorem elimTo_len {n : Int} {r : List Int} {a : Nat} {turn : Int} {j : Nat} {xs : List (List Int)} : (elimTo n r a turn j xs).length = xs.length := by
  unfold elimTo
  rw [List.length_mapIdx]
theorem elimTo_zero {n : Int} {r : List Int} {a : Nat} {turn : Int} {xs : List (List Int)} : elimTo n r a turn 0 xs = xs := by
  refine List.ext_getElem? fun i => ?_
  rw [elimTo_at]
  cases xs[i]? with
  | none => rfl
  | some x =>
    show some (if a < i ∧ i < a + 1 + 0 then _ else x) = some x
    rw [if_neg (by omega)]
theorem elimTo_set {n : Int} {r : List Int} {a : Nat} {turn : Int} {j : Nat} {xs : List (List Int)} {x : List Int} (h : xs[a + 1 + j]? = some x) : (elimTo n r a turn j xs).set (a + 1 + j) (elimI n r a turn x) = elimTo n r a turn (j + 1) xs := by
  refine List.ext_getElem? fun i => ?_
  have hl := (List.getElem?_eq_some_iff.mp h).1
  by_cases e : i = a + 1 + j
  · subst e
    rw [List.getElem?_set_self (by rw [elimTo_len]; exact hl), elimTo_at, h]
    show _ = some (if _ then _ else _)
    rw [if_pos (by omega)]
  · rw [List.getElem?_set_ne (Ne.symm e), elimTo_at, elimTo_at]
    cases xs[i]? with
    | none => rfl
    | some y =>
      show some (if _ then _ else _) = some (if _ then _ else _)
      by_cases c : a < i ∧ i < a + 1 + j
      · rw [if_pos c, if_pos (by omega)]
      · rw [if_neg c, if_neg (by omega)]
theorem elimTo_end {n : Int} {r : List Int} {a : Nat} {turn : Int} {xs : List (List Int)} : (elimTo n r a turn (xs.length - (a + 1)) xs).drop (a + 1) = (xs.drop (a + 1)).map (elimI n r a turn) := by
  refine List.ext_getElem? fun i => ?_
  rw [List.getElem?_drop, elimTo_at, List.getElem?_map, List.getElem?_drop]
  cases e : xs[a + 1 + i]? with
  | none => rfl
  | some y =>
    have := (List.getElem?_eq_some_iff.mp e).1
    show some (if _ then _ else _) = some _
    rw [if_pos (by omega)]
theorem elimTo_in {n : Int} (n0 : 0 < n) {m : Nat} {r : List Int} {a : Nat} {turn : Int} {j : Nat} {xs : List (List Int)} (hr : Rin n m r) (h : ∀ x ∈ xs, Rin n m x) : ∀ x ∈ elimTo n r a turn j xs, Rin n m x := fun x hx => by
  obtain ⟨i, hi⟩ := List.mem_iff_getElem?.mp hx
  rw [elimTo_at] at hi
  cases e : xs[i]? with
  | none => rw [e] at hi; cases hi
  | some y =>
    rw [e] at hi
    have hy := h y (List.mem_of_getElem? e)
    have hi : some (if a < i ∧ i < a + 1 + j then elimI n r a turn y else y) = some x := hi
    have hi := Option.some.inj hi
    rw [← hi]
    split
    · exact iSub_in n0 hy.1 hr.1
    · exact hy
/-- the found number and the rows that are left, from place a on -/
structure DtAt (n : Int) (m a : Nat) (rows left : List (List Int)) (found : Int) : Prop where
  len : left.length = m
  rin : ∀ x ∈ left, Rin n m x
  rng : 0 ≤ found ∧ found < n
  det : Cg n (detL rows (List.range m)) (found * detL (left.drop a) (colsF m a))
theorem DtAt.none {n : Int} {m a : Nat} {rows left : List (List Int)} {found : Int} (h : DtAt n m a rows left found) (ha : a < m) (hz : ∀ k x, a ≤ k → left[k]? = some x → x.getD a 0 = 0) : Cg n (detL rows (List.range m)) 0 := by
  have := h.det
  rw [cols_cons ha, nought_det List.mem_cons_self fun x hx => by
    obtain ⟨i, hi⟩ := List.mem_iff_getElem?.mp hx
    rw [List.getElem?_drop] at hi
    exact hz _ x (by omega) hi, Int.mul_zero] at this
  exact this
theorem DtAt.swap {n : Int} (n0 : 0 < n) {m a k : Nat} {rows left : List (List Int)} {found : Int} {x y : List Int} (h : DtAt n m a rows left found) (ha : left[a]? = some x) (hk : left[k]? = some y) (hak : a < k) : DtAt n m a rows ((left.set a y).set k x) ((-found) % n) := by
  obtain ⟨mid, post, e1, e2⟩ := drop_swap ha hk hak
  refine ⟨by rw [List.length_set, List.length_set]; exact h.len, fun z hz => ?_, ⟨Int.emod_nonneg _ (by omega), Int.emod_lt_of_pos _ n0⟩, ?_⟩
  · rcases List.mem_or_eq_of_mem_set hz with m1 | m1
    · rcases List.mem_or_eq_of_mem_set m1 with m2 | m2
      · exact h.rin z m2
      · rw [m2]
        exact h.rin y (List.mem_of_getElem? hk)
    · rw [m1]
      exact h.rin x (List.mem_of_getElem? ha)
  · have hd := h.det
    rw [e1, swap_det] at hd
    rw [e2]
    refine hd.trans ?_
    have := (Cg.mod n (-found)).mul (detL (y :: (mid ++ x :: post)) (colsF m a))
    rw [Int.mul_comm, Int.mul_comm _ (-found)] at this
    refine Cg.trans (.of ?_) this.symm
    rw [Int.mul_neg, Int.neg_mul]
theorem DtAt.step {n : Int} (n0 : 0 < n) {m a : Nat} {rows left : List (List Int)} {found turn : Int} {r : List Int} (h : DtAt n m a rows left found) (ha : left[a]? = some r) (ht : Cg n (r.getD a 0 * turn) 1) : DtAt n m (a + 1) rows (elimTo n r a turn (m - (a + 1)) left) ((found * r.getD a 0) % n) := by
  have hr := h.rin r (List.mem_of_getElem? ha)
  have hal : a < m := by rw [← h.len]; exact (List.getElem?_eq_some_iff.mp ha).1
  refine ⟨by rw [elimTo_len]; exact h.len, elimTo_in n0 hr h.rin, ⟨Int.emod_nonneg _ (by omega), Int.emod_lt_of_pos _ n0⟩, ?_⟩
  have hd := h.det
  rw [drop_at ha, cols_cons hal] at hd
  have he := elim_det (n := n) (r := r) (c := a) (turn := turn) (rest := left.drop (a + 1)) (cs := colsF m (a + 1)) (fun x hx => by rw [(h.rin x (List.mem_of_mem_drop hx)).1, hr.1]) ht
  have e2 : (elimTo n r a turn (m - (a + 1)) left).drop (a + 1) = (left.drop (a + 1)).map (elimI n r a turn) := by
    rw [← h.len]
    exact elimTo_end
  rw [e2]
  refine (hd.trans (he.mul found)).trans ?_
  have := (Cg.mod n (found * r.getD a 0)).mul (detL ((left.drop (a + 1)).map (elimI n r a turn)) (colsF m (a + 1)))
  rw [Int.mul_comm, Int.mul_comm _ (found * r.getD a 0)] at this
  refine Cg.trans (.of ?_) this.symm
  rw [Int.mul_assoc]
theorem DtAt.done {n : Int} {m : Nat} {rows left : List (List Int)} {found : Int} (h : DtAt n m m rows left found) : Cg n (detL rows (List.range m)) found := by
  have := h.det
  rw [cols_end, List.drop_eq_nil_of_le (by rw [h.len]; exact Nat.le_refl _)] at this
  have e : detL [] [] = 1 := rfl
  rw [e, Int.mul_one] at this
  exact this
theorem DtAt.start {n : Int} (n1 : 1 < n) {m : Nat} {rows : List (List Int)} (hl : rows.length = m) (h : ∀ x ∈ rows, Rin n m x) : DtAt n m 0 rows rows (1 % n) := by
  refine ⟨hl, h, ⟨Int.emod_nonneg _ (by omega), Int.emod_lt_of_pos _ (by omega)⟩, ?_⟩
  rw [Int.emod_eq_of_lt (by omega) n1, Int.one_mul]
  exact .refl _ _
end TK

namespace TK
open PySem PySem.Spec PyProof.Rows L2 TH
local macro_rules | `(tactic| walk_at "rd1") => `(tactic| first
  | (with_reducible refine TH.w_seq ?_)
  | (with_reducible refine TH.w_asg ?_)
  | (with_reducible refine TH.w_ret ?_)
  | (with_reducible refine TH.w_drop ?_)
  | (with_reducible refine TH.w_ifS ?_)
  | (with_reducible refine TH.w_next ?_)
  | ((with_reducible refine TH.w_var (v := ?vv) ?hv ?_); (case hv => rfl))
  | (with_reducible refine TH.w_c ?_)
  | ((with_reducible refine TH.w_gname (σ' := ?ss) ?hs ?_); (case hs => (dsimp only [List.set]; rfl)))
  | (with_reducible refine TH.w_op ?_)
  | (with_reducible refine TH.w_un ?_)
  | (with_reducible refine TH.w_chain ?_)
  | (with_reducible refine TH.w_I0 ?_)
  | ((with_reducible refine TH.w_I ?hm ?_); (case hm => first | (exact TH.CMul.l (by omega) (by omega)) | (exact TH.CMul.r (by omega) (by omega)) | (exact TH.CDiv.mk (by omega) (by omega)) | (show (0 : Int) < _; omega) | (exact TH.CPow.mk (by omega) (by omega) (by decide))))
  | (with_reducible refine TH.w_U ?_)
  | (with_reducible refine TH.w_eqI ?_)
  | (with_reducible refine TH.w_neI ?_)
  | (with_reducible refine TH.w_eqB ?_)
  | (with_reducible refine TH.w_isN ?_)
  | (with_reducible refine TH.w_nil ?_)
  | (with_reducible refine TH.w_cons ?_)
  | (with_reducible refine TH.w_test ?_)
  | (with_reducible refine TH.w_B ?_)
  | (with_reducible refine TH.w_bl ?_)
  | (with_reducible refine TH.w_and ?_)
  | (with_reducible refine TH.w_or ?_)
  | (with_reducible refine TH.w_not ?_)
  | (with_reducible refine TH.w_andV ?_)
  | (with_reducible refine TH.w_orV ?_)
  | (with_reducible refine TH.w_notV ?_)
  | (with_reducible refine TH.w_if ?_)
  | (with_reducible refine TH.w_parT ?_)
  | (with_reducible refine TH.w_par ?_)
  | (with_reducible refine TH.w_parT3 ?_)
  | (with_reducible refine TH.w_par3 ?_)
  | (with_reducible refine TH.w_cb ?_)
  | (with_reducible refine TH.w_call ?_)
  | ((with_reducible refine TH.w_aug (v := ?vv) ?hv ?_); (case hv => rfl))
  | (with_reducible refine TH.w_ip ?_)
  | (with_reducible refine TH.w_bm ?_)
  | (with_reducible refine TH.w_sl ?_)
  | (with_reducible refine TH.w_np ?_)
  | (with_reducible refine TH.w_pt ?_)
  | (with_reducible refine TH.w_pti ?_)
  | (with_reducible refine TH.w_gsub ?_)
  | (with_reducible refine TH.w_int ?_)
  | (with_reducible refine TH.w_tupT ?_)
  | (with_reducible refine TH.w_lstT ?_)
  | ((with_reducible show L2.rIxL _ _ _ _ _); (first | (refine TH.w_ixL (TH.sqL upd_same) rfl ?_) | (refine TH.w_ixL (TH.sqL (by assumption)) rfl ?_)))
  | ((with_reducible show L2.rSetL _ _ _ _ _); (first | (refine TH.w_set1 upd_same ?_) | (refine TH.w_set2 upd_same ?_) | (refine TH.w_set3 upd_same ?_) | (refine TH.w_set4 upd_same ?_) | (refine TH.w_set1 (by assumption) ?_) | (refine TH.w_set2 (by assumption) ?_) | (refine TH.w_set3 (by assumption) ?_) | (refine TH.w_set4 (by assumption) ?_)))
  | (with_reducible refine TH.w_lc ?_)
  | (with_reducible refine TH.w_dc ?_)
  | (with_reducible refine TH.w_itup ?_)
  | (with_reducible refine TH.w_ilist ?_)
  | (with_reducible refine TH.w_ienum ?_)
  | (with_reducible refine TH.w_izip ?_)
  | (with_reducible refine TH.w_irng1 ?_)
  | (with_reducible refine TH.w_irng2 ?_)
  | (with_reducible refine TH.w_for ?_)
  | (with_reducible refine TH.w_gcons ?_)
  | (with_reducible refine TH.w_gnil ?_)
  | (with_reducible refine TH.w_yes ?_)
  | (with_reducible refine TH.w_gtup2 upd_same ?_)
  | (with_reducible refine TH.w_gtup3 upd_same ?_)
  | (with_reducible refine TH.w_dput ?_)
  | (with_reducible refine TH.w_bm0 ?_)
  | (with_reducible refine TH.w_din ?_)
  | (with_reducible refine TH.w_dnotin ?_)
  | (with_reducible refine TH.w_dispK ?_)
  | (with_reducible refine TH.w_lock ?_)
  | (with_reducible refine TH.w_ikeys ?_)
  | (with_reducible refine TH.w_iitems ?_)
  | (with_reducible refine TH.w_dispT1 ?_)
  | (with_reducible refine TH.w_dnewT ?_)
  | (with_reducible refine TH.w_dnewK ?_)
  | (with_reducible refine TH.w_fld ?_)
  | (with_reducible refine TH.w_sfld ?_)
  | (with_reducible refine TH.w_meth ?_)
  | (with_reducible refine TH.w_make ?_)
  | (with_reducible refine TH.w_dget2 ?_)
  | (with_reducible refine TH.w_revL ?_)
  | (with_reducible refine TH.w_revT ?_)
  | (with_reducible refine TH.w_lstRg ?_)
  | (with_reducible refine TH.w_tupRg ?_)
  | (with_reducible refine TH.w_rg1 ?_)
  | (with_reducible refine TH.w_rg2 ?_)
  | (with_reducible refine TH.w_T ?_)
  | (with_reducible refine TH.w_F ?_))
local macro_rules | `(tactic| walk_at "rd") => `(tactic| repeat (first | walk_at "rd1" | (dsimp only [List.set, L2.wipe, List.map, TH.isInt, TH.isBool, TH.isTup, TH.isLst, TH.bo_f, TH.bo_t, TH.ba_f, TH.ba_t, TH.bn_t, TH.bn_f, List.append_nil, List.cons_append, List.nil_append])))

variable {P : Program} {w : World} {K : PySem.W.Frag} {mg : Str → Option Value} {base : Heap}
/-! without(p, row, other, value), of lists -/
def sp_withoutL (K : PySem.W.Frag) : Sp := fun vs H Q _ => ∃ (p c : Int) (v u : V) (ns ms : List Int), vs = [.int p, v, u, .int c] ∧ Dp K H v (rowL ns) ∧ Dp K H u (rowL ms) ∧ 0 < p ∧ -1000000 ≤ c ∧ c ≤ 1000000 ∧ ns.length ≤ 1000000 ∧ ∀ u H', Ex H H' → Dp K H' u (row (iSub p ns ms c)) → Q u H'
theorem ok_withoutL {f : Addr} {fd : FuncData} (F : C8.Def K mg "without" s_without f fd) (b : Binds K fd ["p", "row", "other", "value"] []) (T : Txt mg) : C8.Cal P w K mg base 1 "without" (sp_withoutL K) [] := by
  refine C8.cal0 F b .nil sc_without (fun vs H Q E h => ?_) (fun cdv A outer s H vs Q E hr h => ?_)
  · obtain ⟨p, c, v, u, ns, ms, rfl, _⟩ := h
    rfl
  · obtain ⟨p, c, v, u, ns, ms, rfl, hd, hd2, p0, c0, c1, hl, q⟩ := h
    obtain ⟨a, rfl, ha⟩ := dp_rowL hd
    obtain ⟨b, rfl, hb⟩ := dp_rowL hd2
    refine ⟨_, (pss_one (ps_ret (pe_callTy (TH.kcall_tuple (K := K)) (by rfl) T.b_tuple (by decide +kernel) (pa_cons (pe_lc (own := [("first", 4), ("second", 5)]) (g := gTup K 2 (gCons (gName 4) (gCons (gName 5) gNil))) (tt := tYes) rfl sc_without.nd (TH.kpi_zip (K := K) (by rfl) T.b_zip (pa_cons (pv 1) (pa_cons (pv 2) pa_nil))) (blkOk_by (own := [("first", 4), ("second", 5)]) (N := N_without) (sc := C8.fnScope s_without) (by decide +kernel)) (fun _ _ _ _ _ => (TH.kpg_tup (K := K) (n := 2) rfl (pgs_cons (pg_name (i := 4) sc_without.nd rfl (Or.inl rfl) (Or.inr rfl)) (pgs_cons (pg_name (i := 5) sc_without.nd rfl (Or.inl rfl) (Or.inr rfl)) pgs_nil)))) (fun _ _ _ _ _ => pts_nil) (fun _ _ _ _ _ => (pe_op op_mod (pe_op op_sub (pv 4) (pe_op op_mul (pv 3) (pv 5))) (pv 0)))) pa_nil)))), ?_⟩
    refine w_start (σ' := [some (.int p), some (.ref a), some (.ref b), some (.int c), none, none]) rfl ?_
    walk_at "rd"
    refine ⟨a, b, _, _, rfl, .inl ⟨ha, hb, fun Dl hD => ?_⟩⟩
    refine lc_data (K := K) (walk_zip rfl) (fun _ => true) (fun i => .int ((ns.getD i 0 - c * ms.getD i 0) % p)) (fun _ => rfl) (fun H' e => ⟨e.l ha, e.l hb⟩) hD (by simp; omega) (fun i x H' H'' hi e y R R0 k _ => ?_) (fun H' ws e hw hda => ?_)
    · obtain ⟨t, x1, x2, rfl, ht, rfl, h1, h2⟩ := y
      obtain ⟨n, hn, rfl⟩ := ints_at h1
      obtain ⟨m, hm, rfl⟩ := ints_at h2
      walk_at "rd"
      refine ⟨rfl, ?_⟩
      walk_at "rd"
      refine k rfl _ _ (Ex.new ht) ?_
      rw [getD_of hn, getD_of hm]
      exact .int _
    · walk_at "rd"
      refine ⟨Dl, ws, rfl, .inl ⟨sqL hw, fun l hl => ?_⟩⟩
      refine q _ _ (e.trans (Ex.new hl)) ?_
      rw [made_all, List.length_map, List.length_map, range_zip 0 0 (fun x y => PyData.int ((x - c * y) % p))] at hda
      refine .tup (sqT upd_same) ((Ex.new hl).dpa ?_)
      unfold iSub
      rw [List.map_zipWith]
      exact hda
theorem filter_first {f : Nat → Bool} {m : Nat} {k0 : Nat} {ks : List Nat} (h : (List.range m).filter f = k0 :: ks) : k0 < m ∧ f k0 = true := by
  have hm : k0 ∈ (List.range m).filter f := by rw [h]; exact List.mem_cons_self
  obtain ⟨h1, h2⟩ := List.mem_filter.mp hm
  exact ⟨List.mem_range.mp h1, h2⟩
theorem filter_nil {f : Nat → Bool} {m : Nat} (h : (List.range m).filter f = []) : ∀ k, k < m → f k = false := fun k hk => by
  have := List.filter_eq_nil_iff.mp h k (List.mem_range.mpr hk)
  simpa using this
theorem dpa_setL {H : Hp} {vs : List V} {rs : List (List Int)} {i : Nat} {v : V} {r : List Int} (hv : Dp K H v (rowL r)) (h : DpAll K H vs (rs.map rowL)) : DpAll K H (vs.set i v) ((rs.set i r).map rowL) := by
  rw [List.map_set]
  exact dpa_set hv i h
theorem refs_set {ws : List V} {i : Nat} {a : Addr} (h : AllRef ws) : AllRef (ws.set i (.ref a)) := fun x hx => by
  rcases List.mem_or_eq_of_mem_set hx with m | m
  · exact h x m
  · exact ⟨a, m⟩
section
open LA
/-! determinant_of(p, rows) -/
def sp_determinant_of (K : PySem.W.Frag) : Sp := fun vs H Q _ => ∃ (n : Nat) (_ : NeZero n) (v : V) (rs : List (List Int)), vs = [.int (n : Nat), v] ∧ Clk n ∧ rs.length ≤ 200 ∧ RowsAt K H v rs ∧ (∀ r ∈ rs, Rin n rs.length r) ∧
  ∀ (d : Int) (H' : Hp), Ex H H' → 0 ≤ d → d < n → Cg n (detL rs (List.range rs.length)) d → Q (.int d) H'
theorem ok_determinant_of {f : Addr} {fd : FuncData} (F : C8.Def K mg "determinant_of" s_determinant_of f fd) (b : Binds K fd ["p", "rows"] []) (T : Txt mg)
    (c_without : C8.Cal P w K mg base 1 "without" (sp_withoutL K) []) (c_inverse_of : C8.Cal P w K mg base 1 "inverse_of" (sp_inverse_of K) []) : C8.Cal P w K mg base 2 "determinant_of" (sp_determinant_of K) [] := by
  refine C8.cal0 F b .nil sc_determinant_of (fun vs H Q E h => ?_) (fun cdv A outer s H vs Q E hr h => ?_)
  · obtain ⟨n, _, v, rs, rfl, _⟩ := h
    rfl
  · obtain ⟨n, inst, v, rs, rfl, hc, hl, hR, hrs, q⟩ := h
    have n2 := hc.two
    have nm := hc.le
    have n0 : (0 : Int) < n := by omega
    obtain ⟨va, xs, rfl, hxs, hda, hxl⟩ := RowsAt.len hR
    generalize hm : rs.length = m at hl hrs q hxl
    refine ⟨_, (pss_cons (ps_set (i := 2) sc_determinant_of.nd rfl (Or.inr rfl) (pe_lc (own := [("row", 8)]) (g := gName 8) (tt := tYes) rfl sc_determinant_of.nd (TH.kpi_seq (K := K) (pv 1)) (blkOk_by (own := [("row", 8)]) (N := N_determinant_of) (sc := C8.fnScope s_determinant_of) (by decide +kernel)) (fun _ _ _ _ _ => (pg_name (i := 8) sc_determinant_of.nd rfl (Or.inl rfl) (Or.inr rfl))) (fun _ _ _ _ _ => pts_nil) (fun _ _ _ _ _ => (pe_callTy (TH.kcall_list (K := K)) (by rfl) T.b_list (by decide +kernel) (pa_cons (pv 8) pa_nil)))))
      (pss_cons (ps_set (i := 3) sc_determinant_of.nd rfl (Or.inl rfl) (pe_op op_mod pe_int (pv 0)))
      (pss_cons (ps_for PassesOwn.never rfl (pi_range1 (by rfl) T.b_range (pa_cons (pe_callB (TH.kcall_len (K := K)) (by rfl) T.b_len (by decide +kernel) (pa_cons (pv 2) pa_nil)) pa_nil)) (pg_name (i := 4) sc_determinant_of.nd rfl (Or.inr rfl) (Or.inl rfl)) (pss_cons (ps_setLc (i := 5) (own := [("other", 7)]) (g := gName 7) rfl sc_determinant_of.nd rfl rfl (sw_true rfl rfl rfl (by decide +kernel)) (pi_range2 (by rfl) T.b_range (pa_cons (pv 4) (pa_cons (pe_callB (TH.kcall_len (K := K)) (by rfl) T.b_len (by decide +kernel) (pa_cons (pv 2) pa_nil)) pa_nil))) (blkOk_by (own := [("other", 7)]) (N := N_determinant_of) (sc := C8.fnScope s_determinant_of) (by decide +kernel)) (fun _ _ _ _ _ => (pg_name (i := 7) sc_determinant_of.nd rfl (Or.inl rfl) (Or.inr rfl))) (fun _ _ _ _ _ => (pts_one (pt_cmpR op_ne (pe_ix (TH.kix_list (K := K)) (pe_ix (TH.kix_list (K := K)) (pv 2) (pv 7) (fun _ _ => rfl)) (pv 4) (fun _ _ => rfl)) pe_int (nomark _)))) (fun _ _ _ _ _ => (pv 7)))
      (pss_cons (ps_if (pt_cmpR op_eq (pe_callB (TH.kcall_len (K := K)) (by rfl) T.b_len (by decide +kernel) (pa_cons (pv 5) pa_nil)) pe_int (nomark _)) (pss_one (ps_ret pe_int)) pss_nil)
      (C8.pss_cut (ps_if (pt_cmpR op_ne (pe_ix (TH.kix_list (K := K)) (pv 5) pe_int (fun _ _ => rfl)) (pv 4) (nomark _)) (pss_cons (ps_asg (pe_tup (pa_cons (pe_ix (TH.kix_list (K := K)) (pv 2) (pe_ix (TH.kix_list (K := K)) (pv 5) pe_int (fun _ _ => rfl)) (fun _ _ => rfl)) (pa_cons (pe_ix (TH.kix_list (K := K)) (pv 2) (pv 4) (fun _ _ => rfl)) pa_nil))) (TH.kpg_tup (K := K) (n := 2) rfl (pgs_cons (pg_sub (pv 2) (pv 4) set_list) (pgs_cons (pg_sub (pv 2) (pe_ix (TH.kix_list (K := K)) (pv 5) pe_int (fun _ _ => rfl)) set_list) pgs_nil))))
      (pss_one (ps_set (i := 3) sc_determinant_of.nd rfl (Or.inl rfl) (pe_op op_mod (pe_un un_neg (pv 3)) (pv 0))))) pss_nil)
      (pss_cons (ps_set (i := 3) sc_determinant_of.nd rfl (Or.inl rfl) (pe_op op_mod (pe_op op_mul (pv 3) (pe_ix (TH.kix_list (K := K)) (pe_ix (TH.kix_list (K := K)) (pv 2) (pv 4) (fun _ _ => rfl)) (pv 4) (fun _ _ => rfl))) (pv 0)))
      (pss_cons (ps_set (i := 6) sc_determinant_of.nd rfl (Or.inl rfl) (C8.pe_c c_inverse_of hr (by first | decide | exact Nat.le_refl _) (by rfl) (pa_cons (pv 0) (pa_cons (pe_ix (TH.kix_list (K := K)) (pe_ix (TH.kix_list (K := K)) (pv 2) (pv 4) (fun _ _ => rfl)) (pv 4) (fun _ _ => rfl)) pa_nil))))
      (pss_one (ps_for PassesOwn.never rfl (pi_range2 (by rfl) T.b_range (pa_cons (pe_op op_add (pv 4) pe_int) (pa_cons (pe_callB (TH.kcall_len (K := K)) (by rfl) T.b_len (by decide +kernel) (pa_cons (pv 2) pa_nil)) pa_nil))) (pg_name (i := 7) sc_determinant_of.nd rfl (Or.inl rfl) (Or.inr rfl)) (pss_one (ps_asg (pe_callTy (TH.kcall_list (K := K)) (by rfl) T.b_list (by decide +kernel) (pa_cons (C8.pe_c c_without hr (by first | decide | exact Nat.le_refl _) (by rfl) (pa_cons (pv 0) (pa_cons (pe_ix (TH.kix_list (K := K)) (pv 2) (pv 7) (fun _ _ => rfl)) (pa_cons (pe_ix (TH.kix_list (K := K)) (pv 2) (pv 4) (fun _ _ => rfl)) (pa_cons (pe_op op_mod (pe_op op_mul (pe_ix (TH.kix_list (K := K)) (pe_ix (TH.kix_list (K := K)) (pv 2) (pv 7) (fun _ _ => rfl)) (pv 4) (fun _ _ => rfl)) (pv 6)) (pv 0)) pa_nil))))) pa_nil)) (pg_sub (pv 2) (pv 7) set_list)))))))))))
      (pss_one (ps_ret (pv 3)))))), ?_⟩
    refine w_start (σ' := [some (.int n), some (.ref va), none, none, none, none, none, none, none]) rfl ?_
    walk_at "rd"
    refine w_iseq ?_
    walk_at "rd"
    obtain ⟨J, G, hsi, hJ, hG⟩ := seq_it hxs
    refine ⟨va, J, rfl, hsi, fun Dl hD => ?_⟩
    refine lc_rowX (K := K) hJ (fun _ => true) (fun i => rs.getD i []) hG hD (by omega) (fun i x H' H'' ws hi e hDl hrf y R R0 k _ => ?_) (fun H1 lv e1 hlv hrf hdl => ?_)
    · obtain ⟨rfl, hx⟩ := y
      obtain ⟨r, hr1, hr2⟩ := rowsAt_get (e.dpa hda) hx
      obtain ⟨ra, rfl, hra⟩ := dp_row hr2
      walk_at "rd"
      refine ⟨rfl, ?_⟩
      walk_at "rd"
      refine ⟨ra, _, rfl, .inr hra, fun l hl => ?_⟩
      refine k rfl _ _ (Ex.new hl) fun o => ?_
      rw [getD_of hr1]
      refine dp_rowL_of (sqL ?_)
      rw [upd_ne (fun z => by rw [z, hDl] at hl; cases hl)]
      exact upd_same
    rw [madeR_all, hxl] at hdl
    have eid : (List.range m).map (fun i => rs.getD i []) = rs := by
      have := range_map [] (fun x : List Int => x) rs
      rw [hm] at this
      rwa [List.map_id'] at this
    rw [eid] at hdl
    have hlvl : lv.length = m := by rw [dpa_len hdl, List.length_map, hm]
    have hD0 : H Dl = none := hD
    walk_at "rd"
    refine ⟨Dl, _, rfl, .inl (sqL hlv), ?_⟩
    rw [hlvl]
    refine w_isrng (by omega) (by omega) ?_
    refine for_go walk_rng (fun i σ H' => Ex H H' ∧ ∃ (lv : List V) (left : List (List Int)) (found : Int) (y4 y5 y6 y7 : Option V), σ = [some (.int n), some (.ref va), some (.ref Dl), some (.int found), y4, y5, y6, y7, none] ∧ H' Dl = some (.lst lv) ∧ AllRef lv ∧ DpAll K H' lv (left.map rowL) ∧ DtAt n m i rs left found)
      ⟨e1, lv, rs, _, _, _, _, _, rfl, hlv, hrf, hdl, DtAt.start (by omega) hm hrs⟩ (fun _ _ _ _ _ => trivial) (fun i x σ H2 H2' hi pp y => ?_) (fun σ H2 pp => ?_)
    · obtain ⟨e2, lv, left, found, y4, y5, y6, y7, rfl, g1, g2, g3, dt⟩ := pp
      obtain ⟨rfl, rfl⟩ := y
      rw [Int.toNat_natCast] at hi
      have hll := dt.len
      have hlvl : lv.length = m := by rw [dpa_len g3, List.length_map, hll]
      have hnn : ∀ r ∈ left, r ≠ [] := fun r hr z => by
        have := (dt.rin r hr).1
        rw [z] at this
        simp at this
        omega
      walk_at "rd"
      refine ⟨Dl, _, rfl, .inl (sqL g1), ?_⟩
      rw [hlvl]
      refine ⟨_, _, rfl, by omega, fun D2 hD2 => ?_⟩
      have eN : ((m : Int) - (i : Nat)).toNat = m - i := by omega
      rw [eN]
      refine lc_data (K := K) walk_range (fun k => decide ((left.getD (i + k) []).getD i 0 ≠ 0)) (fun k => .int ((i + k : Nat) : Int)) (fun _ => rfl) (fun _ _ => trivial) hD2 (by omega) (fun k x H3 H4 hk e y R R0 kk kn => ?_) (fun H3 sv e3 hsv hds => ?_)
      · obtain ⟨rfl, rfl⟩ := y
        have elk : left[i + k]? = some (left.getD (i + k) []) := getD_at (by omega)
        obtain ⟨v0, hv0, hd0⟩ := dpa_getD (i := i + k) (d := rowL (left.getD (i + k) [])) (e.dpa g3) (by rw [List.getElem?_map, elk]; rfl)
        obtain ⟨ra, rfl, hra⟩ := dp_rowL hd0
        have hrin := dt.rin _ (List.mem_of_getElem? elk)
        walk_at "rd"
        refine ⟨rfl, ?_⟩
        walk_at "rd"
        have ek : ((i : Nat) : Int) + ((k : Nat) : Int) = ((i + k : Nat) : Int) := by omega
        rw [ek]
        refine w_ixL (sqL (e _ _ g1)) (atI_at hv0) ?_
        walk_at "rd"
        refine w_ixL hra (atI_int (getD_at (i := i) (d := 0) (by rw [hrin.1]; exact hi))) ?_
        walk_at "rd"
        refine w_decN (fun hz => ?_) (fun hz => ?_)
        · walk_at "rd"
          exact kk (decide_eq_true hz) _ _ (Ex.refl _) (.int _)
        · exact kn (decide_eq_false fun z => z hz) _ (Ex.refl _)
      have hds' : DpAll K H3 sv ((((List.range (m - i)).filter fun k => decide ((left.getD (i + k) []).getD i 0 ≠ 0)).map fun k => ((i + k : Nat) : Int)).map PyData.int) := by
        rw [List.map_map]
        exact hds
      have es := dpa_ints_inv hds'
      have e23 := e2.trans e3
      have g13 := e3 _ _ g1
      have g33 := e3.dpa g3
      walk_at "rd"
      refine ⟨D2, _, rfl, .inl (sqL hsv), ?_⟩
      rw [es, List.length_map, List.length_map]
      cases ef : (List.range (m - i)).filter fun k => decide ((left.getD (i + k) []).getD i 0 ≠ 0) with
      | nil =>
        walk_at "rd"
        refine w_dec (fun _ => ?_) (fun h => absurd rfl h)
        walk_at "rd"
        refine q 0 _ e23 (Int.le_refl _) n0 (dt.none hi fun k x hk hx => ?_)
        have := filter_nil ef (k - i) (by have := (List.getElem?_eq_some_iff.mp hx).1; omega)
        have := of_decide_eq_false this
        rw [show i + (k - i) = k by omega, getD_of hx] at this
        exact Decidable.byContradiction fun z => this z
      | cons k0 ks =>
        obtain ⟨hk0, hkt⟩ := filter_first ef
        have hkt := of_decide_eq_true hkt
        have hsv' : H3 D2 = some (.lst (V.int ((i + k0 : Nat) : Int) :: (ks.map fun k => ((i + k : Nat) : Int)).map V.int)) := by
          rw [hsv, es, ef]
          rfl
        walk_at "rd"
        refine w_dec (fun h => absurd h (by rw [List.length_cons]; omega)) (fun _ => ?_)
        walk_at "rd"
        refine ⟨fun σ' H'' => Ex H H'' ∧ ∃ (lv : List V) (left : List (List Int)) (found : Int) (y5 y7 : Option V), σ' = [some (.int n), some (.ref va), some (.ref Dl), some (.int found), some (.int i), y5, y6, y7, none] ∧ H'' Dl = some (.lst lv) ∧ AllRef lv ∧ DpAll K H'' lv (left.map rowL) ∧ DtAt n m i rs left found ∧ (left.getD i []).getD i 0 ≠ 0, ?_, ?_⟩
        · walk_at "rd"
          refine w_ixL (sqL hsv') (atI_at (j := 0) rfl) ?_
          walk_at "rd"
          refine w_decN (fun hne => ?_) (fun heq => ?_)
          · have hk1 : 0 < k0 := by omega
            have eA : left[i]? = some (left.getD i []) := getD_at (by omega)
            have eB : left[i + k0]? = some (left.getD (i + k0) []) := getD_at (by omega)
            obtain ⟨vA, hvA, hdA⟩ := dpa_getD (i := i) (d := rowL (left.getD i [])) g33 (by rw [List.getElem?_map, eA]; rfl)
            obtain ⟨vB, hvB, hdB⟩ := dpa_getD (i := i + k0) (d := rowL (left.getD (i + k0) [])) g33 (by rw [List.getElem?_map, eB]; rfl)
            obtain ⟨aA, rfl, _⟩ := dp_rowL hdA
            obtain ⟨aB, rfl, _⟩ := dp_rowL hdB
            have hDD : D2 ≠ Dl := fun z => by rw [z, g1] at hD2; cases hD2
            walk_at "rd"
            refine w_ixL (sqL hsv') (atI_at (j := 0) rfl) ?_
            walk_at "rd"
            refine w_ixL (sqL g13) (atI_at hvB) ?_
            walk_at "rd"
            refine w_ixL (sqL g13) (atI_at hvA) ?_
            walk_at "rd"
            refine w_dispT (by simp) fun tp htp => ?_
            have e5 : Ex H3 (upd H3 tp (.tup [.ref aB, .ref aA])) := Ex.new htp
            have u5 : upd H3 tp (.tup [.ref aB, .ref aA]) tp = some (.tup [.ref aB, .ref aA]) := upd_same
            generalize upd H3 tp (.tup [.ref aB, .ref aA]) = H5 at e5 u5 ⊢
            have g15 := e5 _ _ g13
            have g35 := e5.dpa g33
            have hsv5 := e5 _ _ hsv'
            refine w_gtup2 u5 ?_
            walk_at "rd"
            refine w_setN g15 (by omega) ?_
            walk_at "rd"
            refine w_ixL (sqL (by rw [upd_ne hDD]; exact hsv5)) (atI_at (j := 0) rfl) ?_
            refine w_setN upd_same (by rw [List.length_set]; omega) ?_
            rw [upd_upd]
            walk_at "rd"
            have aw := dpa_away (K := K) g15 g2 (.lst ((lv.set i (.ref aB)).set (i + k0) (.ref aA))) hnn g35
            obtain ⟨wA, hwA, hdA'⟩ := dpa_getD (i := i) (d := rowL (left.getD i [])) aw (by rw [List.getElem?_map, eA]; rfl)
            obtain ⟨wB, hwB, hdB'⟩ := dpa_getD (i := i + k0) (d := rowL (left.getD (i + k0) [])) aw (by rw [List.getElem?_map, eB]; rfl)
            rw [hvA] at hwA
            cases hwA
            rw [hvB] at hwB
            cases hwB
            refine ⟨(e23.trans e5).mut hD0, _, (left.set i (left.getD (i + k0) [])).set (i + k0) (left.getD i []), _, _, _, rfl, upd_same, refs_set (refs_set g2), dpa_setL hdA' (dpa_setL hdB' aw), dt.swap n0 eA eB (by omega), ?_⟩
            have e9 : ((left.set i (left.getD (i + k0) [])).set (i + k0) (left.getD i []))[i]? = some (left.getD (i + k0) []) := by
              rw [List.getElem?_set_ne (by omega), List.getElem?_set_self (by omega)]
            rw [getD_of e9]
            exact hkt
          · have hk00 : k0 = 0 := by omega
            subst hk00
            walk_at "rd"
            exact ⟨e23, lv, left, found, _, _, rfl, g13, g2, g33, dt, hkt⟩
        · rintro σ' H4 ⟨e4, lv, left, found, y5, y7, rfl, g1, g2, g3, dt, hnz⟩
          have hll := dt.len
          have hlvl : lv.length = m := by rw [dpa_len g3, List.length_map, hll]
          have eA : left[i]? = some (left.getD i []) := getD_at (by omega)
          generalize hrr : left.getD i [] = r at eA hnz
          have hrin := dt.rin r (List.mem_of_getElem? eA)
          have hv6 := rin_at hc hrin i
          obtain ⟨vA, hvA, hdA⟩ := dpa_getD (i := i) (d := rowL r) g3 (by rw [List.getElem?_map, eA]; rfl)
          obtain ⟨aA, rfl, haA⟩ := dp_rowL hdA
          have hfr := dt.rng
          walk_at "rd"
          refine w_ixL (sqL g1) (atI_at hvA) ?_
          walk_at "rd"
          refine w_ixL haA (atI_int (getD_at (i := i) (d := 0) (by rw [hrin.1]; exact hi))) ?_
          walk_at "rd"
          refine w_ixL (sqL g1) (atI_at hvA) ?_
          walk_at "rd"
          refine w_ixL haA (atI_int (getD_at (i := i) (d := 0) (by rw [hrin.1]; exact hi))) ?_
          walk_at "rd"
          have hcop : Int.gcd n (r.getD i 0) = 1 := by
            have := hc.cop (v := (r.getD i 0).toNat) (by omega) (by omega)
            have e : r.getD i 0 = (((r.getD i 0).toNat : Nat) : Int) := by omega
            rw [e]
            exact this
          refine ⟨_, _, rfl, by omega, by omega, by omega, hv6.2, hcop, fun tn H5 e5 t0 t1 htn => ?_⟩
          have htc : Cg n (r.getD i 0 * tn) 1 := Cg.iff.mpr (by rw [htn, Int.emod_eq_of_lt (by omega) (by omega)])
          walk_at "rd"
          refine ⟨Dl, _, rfl, .inl (sqL (e5 _ _ g1)), ?_⟩
          rw [hlvl]
          refine ⟨_, _, rfl, by omega, ?_⟩
          have eN : ((m : Int) - (((i : Nat) : Int) + 1)).toNat = m - (i + 1) := by omega
          rw [eN]
          have e45 := e4.trans e5
          refine for_go walk_range (fun j σ H' => Ex H H' ∧ ∃ (lv : List V) (y7 : Option V), σ = [some (.int n), some (.ref va), some (.ref Dl), some (.int ((found * r.getD i 0) % n)), some (.int i), y5, some (.int tn), y7, none] ∧ H' Dl = some (.lst lv) ∧ AllRef lv ∧ DpAll K H' lv ((elimTo n r i tn j left).map rowL))
            ⟨e45, lv, _, rfl, e5 _ _ g1, g2, by rw [elimTo_zero]; exact e5.dpa g3⟩ (fun _ _ _ _ _ => trivial) (fun j x σ H6 H6' hj pp y => ?_) (fun σ H6 pp => ?_)
          · obtain ⟨e6, lv, y7, rfl, k1, k2, k3⟩ := pp
            obtain ⟨rfl, rfl⟩ := y
            have hjm : i + 1 + j < m := by omega
            have eB : left[i + 1 + j]? = some (left.getD (i + 1 + j) []) := getD_at (by omega)
            generalize left.getD (i + 1 + j) [] = xr at eB
            have hxin := dt.rin xr (List.mem_of_getElem? eB)
            have hx6 := rin_at hc hxin i
            have hel := elimTo_len (n := n) (r := r) (a := i) (turn := tn) (j := j) (xs := left)
            have hein := elimTo_in (n := n) (r := r) (a := i) (turn := tn) (j := j) n0 hrin dt.rin
            have hset := elimTo_set (n := n) (r := r) (a := i) (turn := tn) (j := j) eB
            have heA : (elimTo n r i tn j left)[i]? = some r := by
              rw [elimTo_at, eA]
              show some (if _ then _ else _) = _
              rw [if_neg (by omega)]
            have heB : (elimTo n r i tn j left)[i + 1 + j]? = some xr := by
              rw [elimTo_at, eB]
              show some (if _ then _ else _) = _
              rw [if_neg (by omega)]
            generalize elimTo n r i tn j left = E at k3 hel hein hset heA heB
            have hnnE : ∀ r ∈ E, r ≠ [] := fun r hr z => by
              have := (hein r hr).1
              rw [z] at this
              simp at this
              omega
            have hlv : lv.length = m := by rw [dpa_len k3, List.length_map, hel, hll]
            obtain ⟨vA, hvA, hdA⟩ := dpa_getD (i := i) (d := rowL r) k3 (by rw [List.getElem?_map, heA]; rfl)
            obtain ⟨vB, hvB, hdB⟩ := dpa_getD (i := i + 1 + j) (d := rowL xr) k3 (by rw [List.getElem?_map, heB]; rfl)
            obtain ⟨aB, rfl, haB⟩ := dp_rowL hdB
            have eix : ((i : Nat) : Int) + 1 + ((j : Nat) : Int) = ((i + 1 + j : Nat) : Int) := by omega
            walk_at "rd"
            rw [eix]
            refine w_ixL (sqL k1) (atI_at hvB) ?_
            walk_at "rd"
            refine w_ixL (sqL k1) (atI_at hvA) ?_
            walk_at "rd"
            refine w_ixL (sqL k1) (atI_at hvB) ?_
            walk_at "rd"
            refine w_ixL haB (atI_int (getD_at (i := i) (d := 0) (by rw [hxin.1]; exact hi))) ?_
            walk_at "rd"
            have c0 := Int.emod_nonneg (xr.getD i 0 * tn) (show (n : Int) ≠ 0 by omega)
            have c1 := Int.emod_lt_of_pos (xr.getD i 0 * tn) n0
            have hxl := hxin.1
            refine ⟨_, _, _, _, xr, r, rfl, hdB, hdA, by omega, by omega, by omega, by omega, fun u7 H7 e7 hu7 => ?_⟩
            obtain ⟨ua, rfl, hua⟩ := dp_row hu7
            walk_at "rd"
            refine ⟨ua, _, rfl, .inr hua, fun l hl => ?_⟩
            have e8 : Ex H7 (upd H7 l (.lst ((iSub n xr r ((xr.getD i 0 * tn) % n)).map V.int))) := Ex.new hl
            have u8 : upd H7 l (.lst ((iSub n xr r ((xr.getD i 0 * tn) % n)).map V.int)) l = some (.lst ((iSub n xr r ((xr.getD i 0 * tn) % n)).map V.int)) := upd_same
            have hlD : l ≠ Dl := fun z => by rw [z, e7 _ _ k1] at hl; cases hl
            generalize upd H7 l (.lst ((iSub n xr r ((xr.getD i 0 * tn) % n)).map V.int)) = H8 at e8 u8 ⊢
            have e78 := e7.trans e8
            have k18 := e78 _ _ k1
            have k38 := e78.dpa k3
            walk_at "rd"
            refine w_setN k18 (by omega) ?_
            walk_at "rd"
            have aw := dpa_away (K := K) k18 k2 (.lst (lv.set (i + 1 + j) (.ref l))) hnnE k38
            have hnew : Dp K (upd H8 Dl (.lst (lv.set (i + 1 + j) (.ref l)))) (.ref l) (rowL (elimI n r i tn xr)) := dp_rowL_of (sqL (by rw [upd_ne hlD]; exact u8))
            refine ⟨(e6.trans e78).mut hD0, _, _, rfl, upd_same, refs_set k2, ?_⟩
            rw [← hset]
            exact dpa_setL hnew aw
          · obtain ⟨e6, lv, y7, rfl, k1, k2, k3⟩ := pp
            exact ⟨e6, lv, _, _, _, _, _, _, rfl, k1, k2, k3, dt.step n0 eA htc⟩
    · obtain ⟨e2, lv, left, found, y4, y5, y6, y7, rfl, g1, g2, g3, dt⟩ := pp
      rw [Int.toNat_natCast] at dt
      walk_at "rd"
      exact q _ _ e2 dt.rng.1 dt.rng.2 dt.done
end
end TK

namespace TK
open PySem PySem.Spec PyProof.Rows L2 TH
local macro_rules | `(tactic| walk_at "rd1") => `(tactic| first
  | (with_reducible refine TH.w_seq ?_)
  | (with_reducible refine TH.w_asg ?_)
  | (with_reducible refine TH.w_ret ?_)
  | (with_reducible refine TH.w_drop ?_)
  | (with_reducible refine TH.w_ifS ?_)
  | (with_reducible refine TH.w_next ?_)
  | ((with_reducible refine TH.w_var (v := ?vv) ?hv ?_); (case hv => rfl))
  | (with_reducible refine TH.w_c ?_)
  | ((with_reducible refine TH.w_gname (σ' := ?ss) ?hs ?_); (case hs => (dsimp only [List.set]; rfl)))
  | (with_reducible refine TH.w_op ?_)
  | (with_reducible refine TH.w_un ?_)
  | (with_reducible refine TH.w_chain ?_)
  | (with_reducible refine TH.w_I0 ?_)
  | ((with_reducible refine TH.w_I ?hm ?_); (case hm => first | (exact TH.CMul.l (by omega) (by omega)) | (exact TH.CMul.r (by omega) (by omega)) | (exact TH.CDiv.mk (by omega) (by omega)) | (show (0 : Int) < _; omega) | (exact TH.CPow.mk (by omega) (by omega) (by decide))))
  | (with_reducible refine TH.w_U ?_)
  | (with_reducible refine TH.w_eqI ?_)
  | (with_reducible refine TH.w_neI ?_)
  | (with_reducible refine TH.w_eqB ?_)
  | (with_reducible refine TH.w_isN ?_)
  | (with_reducible refine TH.w_nil ?_)
  | (with_reducible refine TH.w_cons ?_)
  | (with_reducible refine TH.w_test ?_)
  | (with_reducible refine TH.w_B ?_)
  | (with_reducible refine TH.w_bl ?_)
  | (with_reducible refine TH.w_and ?_)
  | (with_reducible refine TH.w_or ?_)
  | (with_reducible refine TH.w_not ?_)
  | (with_reducible refine TH.w_andV ?_)
  | (with_reducible refine TH.w_orV ?_)
  | (with_reducible refine TH.w_notV ?_)
  | (with_reducible refine TH.w_if ?_)
  | (with_reducible refine TH.w_parT ?_)
  | (with_reducible refine TH.w_par ?_)
  | (with_reducible refine TH.w_parT3 ?_)
  | (with_reducible refine TH.w_par3 ?_)
  | (with_reducible refine TH.w_cb ?_)
  | (with_reducible refine TH.w_call ?_)
  | ((with_reducible refine TH.w_aug (v := ?vv) ?hv ?_); (case hv => rfl))
  | (with_reducible refine TH.w_ip ?_)
  | (with_reducible refine TH.w_bm ?_)
  | (with_reducible refine TH.w_sl ?_)
  | (with_reducible refine TH.w_np ?_)
  | (with_reducible refine TH.w_pt ?_)
  | (with_reducible refine TH.w_pti ?_)
  | (with_reducible refine TH.w_gsub ?_)
  | (with_reducible refine TH.w_int ?_)
  | (with_reducible refine TH.w_tupT ?_)
  | (with_reducible refine TH.w_lstT ?_)
  | ((with_reducible show L2.rIxL _ _ _ _ _); (first | (refine TH.w_ixL (TH.sqL upd_same) rfl ?_) | (refine TH.w_ixL (TH.sqL (by assumption)) rfl ?_)))
  | ((with_reducible show L2.rSetL _ _ _ _ _); (first | (refine TH.w_set1 upd_same ?_) | (refine TH.w_set2 upd_same ?_) | (refine TH.w_set3 upd_same ?_) | (refine TH.w_set4 upd_same ?_) | (refine TH.w_set1 (by assumption) ?_) | (refine TH.w_set2 (by assumption) ?_) | (refine TH.w_set3 (by assumption) ?_) | (refine TH.w_set4 (by assumption) ?_)))
  | (with_reducible refine TH.w_lc ?_)
  | (with_reducible refine TH.w_dc ?_)
  | (with_reducible refine TH.w_itup ?_)
  | (with_reducible refine TH.w_ilist ?_)
  | (with_reducible refine TH.w_ienum ?_)
  | (with_reducible refine TH.w_izip ?_)
  | (with_reducible refine TH.w_irng1 ?_)
  | (with_reducible refine TH.w_irng2 ?_)
  | (with_reducible refine TH.w_for ?_)
  | (with_reducible refine TH.w_gcons ?_)
  | (with_reducible refine TH.w_gnil ?_)
  | (with_reducible refine TH.w_yes ?_)
  | (with_reducible refine TH.w_gtup2 upd_same ?_)
  | (with_reducible refine TH.w_gtup3 upd_same ?_)
  | (with_reducible refine TH.w_dput ?_)
  | (with_reducible refine TH.w_bm0 ?_)
  | (with_reducible refine TH.w_din ?_)
  | (with_reducible refine TH.w_dnotin ?_)
  | (with_reducible refine TH.w_dispK ?_)
  | (with_reducible refine TH.w_lock ?_)
  | (with_reducible refine TH.w_ikeys ?_)
  | (with_reducible refine TH.w_iitems ?_)
  | (with_reducible refine TH.w_dispT1 ?_)
  | (with_reducible refine TH.w_dnewT ?_)
  | (with_reducible refine TH.w_dnewK ?_)
  | (with_reducible refine TH.w_fld ?_)
  | (with_reducible refine TH.w_sfld ?_)
  | (with_reducible refine TH.w_meth ?_)
  | (with_reducible refine TH.w_make ?_)
  | (with_reducible refine TH.w_dget2 ?_)
  | (with_reducible refine TH.w_revL ?_)
  | (with_reducible refine TH.w_revT ?_)
  | (with_reducible refine TH.w_lstRg ?_)
  | (with_reducible refine TH.w_tupRg ?_)
  | (with_reducible refine TH.w_rg1 ?_)
  | (with_reducible refine TH.w_rg2 ?_)
  | (with_reducible refine TH.w_T ?_)
  | (with_reducible refine TH.w_F ?_))
local macro_rules | `(tactic| walk_at "rd") => `(tactic| repeat (first | walk_at "rd1" | (dsimp only [List.set, L2.wipe, List.map, TH.isInt, TH.isBool, TH.isTup, TH.isLst, TH.bo_f, TH.bo_t, TH.ba_f, TH.ba_t, TH.bn_t, TH.bn_f, List.append_nil, List.cons_append, List.nil_append])))

variable {P : Program} {w : World} {K : PySem.W.Frag} {mg : Str → Option Value} {base : Heap}
section
open LA
/-! square_of(p, rows) -/
def sp_square_of (K : PySem.W.Frag) : Sp := fun vs H Q _ => ∃ (n : Nat) (_ : NeZero n) (wide : Nat) (v : V) (rs : List (List Int)), vs = [.int (n : Nat), v] ∧ Clk n ∧ wide ≤ 1000 ∧ rs.length ≤ 200 ∧ RowsAt K H v rs ∧ (∀ r ∈ rs, Rin n wide r) ∧
  ∀ u ts ls qs H', Ex H H' → Dp K H' u (.tuple [row (nz ts), row (nz qs)]) → Least n wide rs rs.length ts → LadI n wide rs ls → Piv n wide ls qs → Q u H'
theorem piv_first {n : Int} {wide : Nat} {ls : List (List Int)} {qs : List Nat} (hp : Piv n wide ls qs) {i : Nat} {r : List Int} (h : ls[i]? = some r) : firstI r = some (qs.getD i 0) := (hp.at' i r _ h (getD_at (by rw [hp.len]; exact (List.getElem?_eq_some_iff.mp h).1))).1
theorem ok_square_of {C f : Addr} {fd : FuncData} (F : C8.Def K mg "square_of" s_square_of f fd) (b : Binds K fd ["p", "rows"] []) (T : Txt mg) (TC : StC K C)
    (c_stairs_of : C8.Cal P w K mg base 4 "stairs_of" (sp_stairs_of K C) []) (c_ladder_of : C8.Cal P w K mg base 5 "ladder_of" (sp_ladder_of K) []) (c_first_place : C8.Cal P w K mg base 1 "first_place" (sp_first_place K) []) : C8.Cal P w K mg base 6 "square_of" (sp_square_of K) [] := by
  refine C8.cal0 F b .nil sc_square_of (fun vs H Q E h => ?_) (fun cdv A outer s H vs Q E hr h => ?_)
  · obtain ⟨n, _, wide, v, rs, rfl, _⟩ := h
    rfl
  · obtain ⟨n, inst, wide, v, rs, rfl, hc, hw, hl, hR, hrs, q⟩ := h
    refine ⟨_, (pss_one (ps_ret (pe_tup (pa_cons (pe_callTy (TH.kcall_tuple (K := K)) (by rfl) T.b_tuple (by decide +kernel) (pa_cons (TH.kpe_fld (K := K) (C8.pe_c c_stairs_of hr (by first | decide | exact Nat.le_refl _) (by rfl) (pa_cons (pv 0) (pa_cons (pv 1) pa_nil))) rfl) pa_nil)) (pa_cons (pe_callTy (TH.kcall_tuple (K := K)) (by rfl) T.b_tuple (by decide +kernel) (pa_cons (pe_lc (own := [("step", 2)]) (g := gName 2) (tt := tYes) rfl sc_square_of.nd (TH.kpi_tup (K := K) (C8.pe_c c_ladder_of hr (by first | decide | exact Nat.le_refl _) (by rfl) (pa_cons (pv 0) (pa_cons (pv 1) pa_nil)))) (blkOk_by (own := [("step", 2)]) (N := N_square_of) (sc := C8.fnScope s_square_of) (by decide +kernel)) (fun _ _ _ _ _ => (pg_name (i := 2) sc_square_of.nd rfl (Or.inl rfl) (Or.inr rfl))) (fun _ _ _ _ _ => pts_nil) (fun _ _ _ _ _ => (C8.pe_c c_first_place hr (by first | decide | exact Nat.le_refl _) (by rfl) (pa_cons (pv 2) pa_nil)))) pa_nil)) pa_nil))))), ?_⟩
    refine w_start (σ' := [some (.int n), some v, none]) rfl ?_
    walk_at "rd"
    refine ⟨n, inst, wide, v, rs, rfl, hc, hw, hl, hR, hrs, fun s st tk us S ts H1 e1 hst hS hls => ?_⟩
    obtain ⟨⟨dx, hob⟩, _, ⟨htk, htl⟩, _⟩ := id hst
    refine ⟨s, C, dx, _, _, rfl, hob, TC.cl, TC.nT, pf_taken, ?_⟩
    walk_at "rd"
    refine ⟨tk, _, rfl, .inl ⟨sqL htk, fun ta hta => ?_⟩⟩
    have e2 : Ex H1 (upd H1 ta (.tup ((nz ts).map V.int))) := Ex.new hta
    have u2 : upd H1 ta (.tup ((nz ts).map V.int)) ta = some (.tup ((nz ts).map V.int)) := upd_same
    generalize upd H1 ta (.tup ((nz ts).map V.int)) = H2 at e2 u2 ⊢
    have e12 := e1.trans e2
    walk_at "rd"
    refine ⟨n, inst, wide, v, rs, rfl, hc, hw, hl, hR.ex e12, hrs, fun lu ls H3 e3 hlu hL => ?_⟩
    obtain ⟨qs, hp⟩ := hL.piv hc
    obtain ⟨la, lv, rfl, hla, hlv⟩ := dp_tup hlu
    have hlvl : lv.length = ls.length := by rw [dpa_len hlv, List.length_map]
    have hll := hL.len
    refine ⟨la, rfl, ⟨_, hla⟩, fun Dl hD => ?_⟩
    refine lc_data (K := K) walk_tup (fun _ => true) (fun i => .int ((qs.getD i 0 : Nat) : Int)) (fun _ => rfl) (fun H' e => e.t hla) hD (by omega) (fun i x H4 H5 hi e y R R0 k _ => ?_) (fun H4 ws e4 hws hdw => ?_)
    · obtain ⟨rfl, hx⟩ := y
      obtain ⟨sr, hs1, hs2⟩ := rowsAt_get (e.dpa hlv) hx
      walk_at "rd"
      refine ⟨rfl, ?_⟩
      walk_at "rd"
      refine ⟨_, sr, rfl, hs2, fun H6 e6 => ?_⟩
      rw [piv_first hp hs1]
      exact k rfl _ _ e6 (.int _)
    · rw [made_ints, hlvl, ← hp.len, range_map 0 (fun x : Nat => (x : Int))] at hdw
      have eu := dpa_ints_inv hdw
      subst eu
      walk_at "rd"
      refine ⟨Dl, _, rfl, .inl ⟨sqL hws, fun qa hqa => ?_⟩⟩
      have e5 : Ex H4 (upd H4 qa (.tup ((qs.map fun x : Nat => (x : Int)).map V.int))) := Ex.new hqa
      have u5 : upd H4 qa (.tup ((qs.map fun x : Nat => (x : Int)).map V.int)) qa = some (.tup ((nz qs).map V.int)) := upd_same
      generalize upd H4 qa (.tup ((qs.map fun x : Nat => (x : Int)).map V.int)) = H5 at e5 u5 ⊢
      have e35 := e3.trans (e4.trans e5)
      walk_at "rd"
      refine w_dispT (by simp) fun pa hpa => ?_
      refine q _ ts ls qs _ (e12.trans (e35.trans (Ex.new hpa))) ?_ hls hL hp
      exact .tup (sqT upd_same) (.cons (dp_row_of ((Ex.new hpa).t (e35.t (sqT u2)))) (.cons (dp_row_of ((Ex.new hpa).t (sqT u5))) .nil))
/-! check_row, what is right; mixture, parting, square, determinant -/
def sp_check_row (K : PySem.W.Frag) : Sp := fun vs H Q _ => ∃ (p : Int) (wide : Nat) (v : V) (r : List Int), vs = [.int p, .int (wide : Nat), v] ∧ Dp K H v (row r) ∧ Rin p wide r ∧ wide ≤ 1000 ∧ ∀ H', Ex H H' → Q .non H'
theorem ok_check_row {f : Addr} {fd : FuncData} (F : C8.Def K mg "check_row" s_check_row f fd) (b : Binds K fd ["p", "wide", "thing"] []) (T : Txt mg)
    (c_is_row : C8.Cal P w K mg base 3 "is_row" (sp_is_row K) []) : C8.Cal P w K mg base 4 "check_row" (sp_check_row K) [] := by
  refine C8.cal0 F b .nil sc_check_row (fun vs H Q E h => ?_) (fun cdv A outer s H vs Q E hr h => ?_)
  · obtain ⟨p, wide, v, r, rfl, _⟩ := h
    rfl
  · obtain ⟨p, wide, v, r, rfl, hv, hrr, hw, q⟩ := h
    have hrl := hrr.1
    refine ⟨_, (pss_one (ps_if (pt_not (pt_val (C8.pe_c c_is_row hr (by first | decide | exact Nat.le_refl _) (by rfl) (pa_cons (pv 0) (pa_cons (pv 1) (pa_cons (pv 2) pa_nil)))))) (pss_one ps_never) pss_nil)), ?_⟩
    refine w_start (σ' := [some (.int p), some (.int wide), some v]) rfl ?_
    walk_at "rd"
    refine ⟨_, _, _, _, rfl, hv, fun ds hds => ?_, fun H1 e1 => ?_⟩
    · cases hds
      rw [List.length_map]
      omega
    · rw [isRowD_row hrr]
      walk_at "rd"
      exact q H1 e1
def sp_mixture (K : PySem.W.Frag) : Sp := fun vs H Q _ => ∃ (n : Nat) (_ : NeZero n) (wide : Nat) (v u : V) (rs : List (List Int)) (r : List Int), vs = [.int (n : Nat), .int (wide : Nat), v, u] ∧ clockB (.int n) = true ∧ wide ≤ 200 ∧ rs.length ≤ 200 ∧ RowsAt K H v rs ∧ (∀ r ∈ rs, Rin n wide r) ∧ Dp K H u (row r) ∧ Rin n wide r ∧
  (InS wide (rowsF n rs) (toF n r) → ∀ t cs H', Ex H H' → Dp K H' t (row cs) → MixOk n rs r cs → Q t H') ∧ (¬ InS wide (rowsF n rs) (toF n r) → ∀ H', Ex H H' → Q .non H')
theorem ok_mixture {f : Addr} {fd : FuncData} (F : C8.Def K mg "mixture" s_mixture f fd) (b : Binds K fd ["p", "wide", "rows", "row"] []) (T : Txt mg)
    (c_check_rows : C8.Cal P w K mg base 5 "check_rows" (sp_check_rows K) []) (c_check_row : C8.Cal P w K mg base 4 "check_row" (sp_check_row K) []) (c_mixture_of : C8.Cal P w K mg base 5 "mixture_of" (sp_mixture_of K) []) : C8.Cal P w K mg base 6 "mixture" (sp_mixture K) [] := by
  refine C8.cal0 F b .nil sc_mixture (fun vs H Q E h => ?_) (fun cdv A outer s H vs Q E hr h => ?_)
  · obtain ⟨n, _, wide, v, u, rs, r, rfl, _⟩ := h
    rfl
  · obtain ⟨n, inst, wide, v, u, rs, r, rfl, hk, hw, hl, hR, hrs, hu, hr1, q1, q2⟩ := h
    refine ⟨_, (pss_cons (ps_expr (C8.pe_c c_check_rows hr (by first | decide | exact Nat.le_refl _) (by rfl) (pa_cons (pv 0) (pa_cons (pv 1) (pa_cons (pv 2) pa_nil)))))
      (pss_cons (ps_expr (C8.pe_c c_check_row hr (by first | decide | exact Nat.le_refl _) (by rfl) (pa_cons (pv 0) (pa_cons (pv 1) (pa_cons (pv 3) pa_nil)))))
      (pss_one (ps_ret (C8.pe_c c_mixture_of hr (by first | decide | exact Nat.le_refl _) (by rfl) (pa_cons (pv 0) (pa_cons (pv 2) (pa_cons (pv 3) pa_nil)))))))), ?_⟩
    refine w_start (σ' := [some (.int n), some (.int wide), some v, some u]) rfl ?_
    walk_at "rd"
    refine ⟨_, wide, v, rs, rfl, hk, hw, hR, hl, hrs, fun H1 e1 => ?_⟩
    walk_at "rd"
    refine ⟨_, wide, u, r, rfl, e1.dp hu, hr1, by omega, fun H2 e2 => ?_⟩
    have e12 := e1.trans e2
    walk_at "rd"
    exact ⟨n, inst, wide, v, u, rs, r, rfl, clk_of hk, by omega, hl, hR.ex e12, hrs, e12.dp hu, hr1, fun h t cs H' e => q1 h t cs H' (e12.trans e), fun h H' e => q2 h H' (e12.trans e)⟩
def sp_parting (K : PySem.W.Frag) : Sp := fun vs H Q _ => ∃ (n : Nat) (_ : NeZero n) (wide : Nat) (v u : V) (rs : List (List Int)) (r : List Int), vs = [.int (n : Nat), .int (wide : Nat), v, u] ∧ clockB (.int n) = true ∧ wide ≤ 200 ∧ rs.length ≤ 200 ∧ RowsAt K H v rs ∧ (∀ r ∈ rs, Rin n wide r) ∧ Dp K H u (row r) ∧ Rin n wide r ∧
  (¬ InS wide (rowsF n rs) (toF n r) → ∀ t f H', Ex H H' → Dp K H' t (row f) → PartOk n wide rs r f → Q t H') ∧ (InS wide (rowsF n rs) (toF n r) → ∀ H', Ex H H' → Q .non H')
theorem ok_parting {f : Addr} {fd : FuncData} (F : C8.Def K mg "parting" s_parting f fd) (b : Binds K fd ["p", "wide", "rows", "row"] []) (T : Txt mg)
    (c_check_rows : C8.Cal P w K mg base 5 "check_rows" (sp_check_rows K) []) (c_check_row : C8.Cal P w K mg base 4 "check_row" (sp_check_row K) []) (c_parting_of : C8.Cal P w K mg base 6 "parting_of" (sp_parting_of K) []) : C8.Cal P w K mg base 7 "parting" (sp_parting K) [] := by
  refine C8.cal0 F b .nil sc_parting (fun vs H Q E h => ?_) (fun cdv A outer s H vs Q E hr h => ?_)
  · obtain ⟨n, _, wide, v, u, rs, r, rfl, _⟩ := h
    rfl
  · obtain ⟨n, inst, wide, v, u, rs, r, rfl, hk, hw, hl, hR, hrs, hu, hr1, q1, q2⟩ := h
    refine ⟨_, (pss_cons (ps_expr (C8.pe_c c_check_rows hr (by first | decide | exact Nat.le_refl _) (by rfl) (pa_cons (pv 0) (pa_cons (pv 1) (pa_cons (pv 2) pa_nil)))))
      (pss_cons (ps_expr (C8.pe_c c_check_row hr (by first | decide | exact Nat.le_refl _) (by rfl) (pa_cons (pv 0) (pa_cons (pv 1) (pa_cons (pv 3) pa_nil)))))
      (pss_one (ps_ret (C8.pe_c c_parting_of hr (by first | decide | exact Nat.le_refl _) (by rfl) (pa_cons (pv 0) (pa_cons (pv 1) (pa_cons (pv 2) (pa_cons (pv 3) pa_nil))))))))), ?_⟩
    refine w_start (σ' := [some (.int n), some (.int wide), some v, some u]) rfl ?_
    walk_at "rd"
    refine ⟨_, wide, v, rs, rfl, hk, hw, hR, hl, hrs, fun H1 e1 => ?_⟩
    walk_at "rd"
    refine ⟨_, wide, u, r, rfl, e1.dp hu, hr1, by omega, fun H2 e2 => ?_⟩
    have e12 := e1.trans e2
    walk_at "rd"
    exact ⟨n, inst, wide, v, u, rs, r, rfl, clk_of hk, by omega, hl, hR.ex e12, hrs, e12.dp hu, hr1, fun h t cs H' e => q1 h t cs H' (e12.trans e), fun h H' e => q2 h H' (e12.trans e)⟩
def sp_square (K : PySem.W.Frag) : Sp := fun vs H Q _ => ∃ (n : Nat) (_ : NeZero n) (wide : Nat) (v : V) (rs : List (List Int)), vs = [.int (n : Nat), .int (wide : Nat), v] ∧ clockB (.int n) = true ∧ wide ≤ 200 ∧ rs.length ≤ 200 ∧ RowsAt K H v rs ∧ (∀ r ∈ rs, Rin n wide r) ∧
  ∀ u ts ls qs H', Ex H H' → Dp K H' u (.tuple [row (nz ts), row (nz qs)]) → Least n wide rs rs.length ts → LadI n wide rs ls → Piv n wide ls qs → Q u H'
theorem ok_square {f : Addr} {fd : FuncData} (F : C8.Def K mg "square" s_square f fd) (b : Binds K fd ["p", "wide", "rows"] []) (T : Txt mg)
    (c_check_rows : C8.Cal P w K mg base 5 "check_rows" (sp_check_rows K) []) (c_square_of : C8.Cal P w K mg base 6 "square_of" (sp_square_of K) []) : C8.Cal P w K mg base 7 "square" (sp_square K) [] := by
  refine C8.cal0 F b .nil sc_square (fun vs H Q E h => ?_) (fun cdv A outer s H vs Q E hr h => ?_)
  · obtain ⟨n, _, wide, v, rs, rfl, _⟩ := h
    rfl
  · obtain ⟨n, inst, wide, v, rs, rfl, hk, hw, hl, hR, hrs, q⟩ := h
    refine ⟨_, (pss_cons (ps_expr (C8.pe_c c_check_rows hr (by first | decide | exact Nat.le_refl _) (by rfl) (pa_cons (pv 0) (pa_cons (pv 1) (pa_cons (pv 2) pa_nil)))))
      (pss_one (ps_ret (C8.pe_c c_square_of hr (by first | decide | exact Nat.le_refl _) (by rfl) (pa_cons (pv 0) (pa_cons (pv 2) pa_nil)))))), ?_⟩
    refine w_start (σ' := [some (.int n), some (.int wide), some v]) rfl ?_
    walk_at "rd"
    refine ⟨_, wide, v, rs, rfl, hk, hw, hR, hl, hrs, fun H1 e1 => ?_⟩
    walk_at "rd"
    exact ⟨n, inst, wide, v, rs, rfl, clk_of hk, by omega, hl, hR.ex e1, hrs, fun u ts ls qs H' e => q u ts ls qs H' (e1.trans e)⟩
def sp_determinant (K : PySem.W.Frag) : Sp := fun vs H Q _ => ∃ (n : Nat) (_ : NeZero n) (v : V) (rs : List (List Int)), vs = [.int (n : Nat), v] ∧ clockB (.int n) = true ∧ rs.length ≤ 60 ∧ RowsAt K H v rs ∧ (∀ r ∈ rs, Rin n rs.length r) ∧
  ∀ (d : Int) (H' : Hp), Ex H H' → 0 ≤ d → d < n → Cg n (detL rs (List.range rs.length)) d → Q (.int d) H'
theorem ok_determinant {f : Addr} {fd : FuncData} (F : C8.Def K mg "determinant" s_determinant f fd) (b : Binds K fd ["p", "rows"] []) (T : Txt mg)
    (c_check_clock : C8.Cal P w K mg base 4 "check_clock" (sp_check_clock K) []) (c_is_listed : C8.Cal P w K mg base 1 "is_listed" (sp_is_listed K) []) (c_is_row : C8.Cal P w K mg base 3 "is_row" (sp_is_row K) []) (c_determinant_of : C8.Cal P w K mg base 2 "determinant_of" (sp_determinant_of K) []) : C8.Cal P w K mg base 5 "determinant" (sp_determinant K) [] := by
  refine C8.cal0 F b .nil sc_determinant (fun vs H Q E h => ?_) (fun cdv A outer s H vs Q E hr h => ?_)
  · obtain ⟨n, _, v, rs, rfl, _⟩ := h
    rfl
  · obtain ⟨n, inst, v, rs, rfl, hk, hl, hR, hrs, q⟩ := h
    refine ⟨_, (pss_cons (ps_expr (C8.pe_c c_check_clock hr (by first | decide | exact Nat.le_refl _) (by rfl) (pa_cons (pv 0) pa_nil)))
      (pss_cons (ps_if (PW.pt (pw_or (pt_not (pt_val (C8.pe_c c_is_listed hr (by first | decide | exact Nat.le_refl _) (by rfl) (pa_cons (pv 1) pa_nil)))) (pw_or1 (pt_cmpR op_gt (pe_callB (TH.kcall_len (K := K)) (by rfl) T.b_len (by decide +kernel) (pa_cons (pv 1) pa_nil)) (C8.pe_gc (by rfl) T.g_MOST_SQUARE) (nomark _))))) (pss_one ps_never) pss_nil)
      (pss_cons (ps_for PassesOwn.never rfl (TH.kpi_enum (K := K) (by rfl) T.b_enumerate (pa_cons (pv 1) pa_nil)) (TH.kpg_tup (K := K) (n := 2) rfl (pgs_cons (pg_name (i := 2) sc_determinant.nd rfl (Or.inl rfl) (Or.inr rfl)) (pgs_cons (pg_name (i := 3) sc_determinant.nd rfl (Or.inl rfl) (Or.inr rfl)) pgs_nil))) (pss_one (ps_if (pt_not (pt_val (C8.pe_c c_is_row hr (by first | decide | exact Nat.le_refl _) (by rfl) (pa_cons (pv 0) (pa_cons (pe_callB (TH.kcall_len (K := K)) (by rfl) T.b_len (by decide +kernel) (pa_cons (pv 1) pa_nil)) (pa_cons (pv 3) pa_nil)))))) (pss_one ps_never) pss_nil)))
      (pss_one (ps_ret (C8.pe_c c_determinant_of hr (by first | decide | exact Nat.le_refl _) (by rfl) (pa_cons (pv 0) (pa_cons (pv 1) pa_nil)))))))), ?_⟩
    refine w_start (σ' := [some (.int n), some v, none, none]) rfl ?_
    walk_at "rd"
    refine ⟨_, _, rfl, .int _, hk, ?_⟩
    walk_at "rd"
    obtain ⟨d, hd, hlt⟩ : ∃ d, Dp K H v d ∧ (isLst d || isTup d) = true := by
      rcases hR.at' with h | h
      · exact ⟨_, h, rfl⟩
      · exact ⟨_, h, rfl⟩
    refine ⟨v, d, rfl, hd, fun H1 e1 => ?_⟩
    rw [hlt]
    obtain ⟨va, xs, rfl, hxs, hda, hxl⟩ := RowsAt.len (hR.ex e1)
    walk_at "rd"
    refine ⟨va, xs, rfl, hxs, ?_⟩
    walk_at "rd"
    rw [decide_eq_false (by omega)]
    walk_at "rd"
    refine ⟨va, xs, rfl, ?_⟩
    rcases hxs with hxs | hxs
    · refine .inl ⟨hxs, ?_⟩
      refine for_go walk_enum (fun i σ H' => Ex H1 H' ∧ ∃ y z, σ = [some (.int n), some (.ref va), y, z]) ⟨.refl _, _, _, rfl⟩ (fun i σ H' _ p => p.1.l hxs) (fun i x σ H' H'' hi p y => ?_) (fun σ H' p => ?_)
      · obtain ⟨e, y1, z1, rfl⟩ := p
        obtain ⟨t, x1, x2, rfl, ht, rfl, h1, h2⟩ := y
        cases h1
        obtain ⟨r, hr1, hr2⟩ := rowsAt_get hda h2
        have hrin' := hrs r (List.mem_of_getElem? hr1)
        have hrl := hrin'.1
        refine w_gtup2 upd_same ?_
        walk_at "rd"
        have e3 : Ex H1 (upd H' t (.tup [.int i, x2])) := e.trans (Ex.new ht)
        refine ⟨va, xs, rfl, .inl (e3.l hxs), ?_⟩
        rw [hxl]
        walk_at "rd"
        refine ⟨_, _, _, _, rfl, e3.dp hr2, fun ds hds => ?_, fun H3 e4 => ?_⟩
        · cases hds
          rw [List.length_map, hrl]
          omega
        · rw [isRowD_row hrin']
          walk_at "rd"
          exact ⟨e3.trans e4, _, _, rfl⟩
      · obtain ⟨e, y1, z1, rfl⟩ := p
        walk_at "rd"
        exact ⟨n, inst, .ref va, rs, rfl, clk_of hk, by omega, hR.ex (e1.trans e), hrs, fun d H' e' => q d H' ((e1.trans e).trans e')⟩
    · refine .inr ⟨hxs, ?_⟩
      refine for_go walk_enumT (fun i σ H' => Ex H1 H' ∧ ∃ y z, σ = [some (.int n), some (.ref va), y, z]) ⟨.refl _, _, _, rfl⟩ (fun i σ H' _ p => p.1.t hxs) (fun i x σ H' H'' hi p y => ?_) (fun σ H' p => ?_)
      · obtain ⟨e, y1, z1, rfl⟩ := p
        obtain ⟨t, x1, x2, rfl, ht, rfl, h1, h2⟩ := y
        cases h1
        obtain ⟨r, hr1, hr2⟩ := rowsAt_get hda h2
        have hrin' := hrs r (List.mem_of_getElem? hr1)
        have hrl := hrin'.1
        refine w_gtup2 upd_same ?_
        walk_at "rd"
        have e3 : Ex H1 (upd H' t (.tup [.int i, x2])) := e.trans (Ex.new ht)
        refine ⟨va, xs, rfl, .inr (e3.t hxs), ?_⟩
        rw [hxl]
        walk_at "rd"
        refine ⟨_, _, _, _, rfl, e3.dp hr2, fun ds hds => ?_, fun H3 e4 => ?_⟩
        · cases hds
          rw [List.length_map, hrl]
          omega
        · rw [isRowD_row hrin']
          walk_at "rd"
          exact ⟨e3.trans e4, _, _, rfl⟩
      · obtain ⟨e, y1, z1, rfl⟩ := p
        walk_at "rd"
        exact ⟨n, inst, .ref va, rs, rfl, clk_of hk, by omega, hR.ex (e1.trans e), hrs, fun d H' e' => q d H' ((e1.trans e).trans e')⟩
end
end TK

namespace TK
open PySem PySem.Spec PyProof.Rows L2 TH
local macro_rules | `(tactic| walk_at "rd1") => `(tactic| first
  | (with_reducible refine TH.w_seq ?_)
  | (with_reducible refine TH.w_asg ?_)
  | (with_reducible refine TH.w_ret ?_)
  | (with_reducible refine TH.w_drop ?_)
  | (with_reducible refine TH.w_ifS ?_)
  | (with_reducible refine TH.w_next ?_)
  | ((with_reducible refine TH.w_var (v := ?vv) ?hv ?_); (case hv => rfl))
  | (with_reducible refine TH.w_c ?_)
  | ((with_reducible refine TH.w_gname (σ' := ?ss) ?hs ?_); (case hs => (dsimp only [List.set]; rfl)))
  | (with_reducible refine TH.w_op ?_)
  | (with_reducible refine TH.w_un ?_)
  | (with_reducible refine TH.w_chain ?_)
  | (with_reducible refine TH.w_I0 ?_)
  | ((with_reducible refine TH.w_I ?hm ?_); (case hm => first | (exact TH.CMul.l (by omega) (by omega)) | (exact TH.CMul.r (by omega) (by omega)) | (exact TH.CDiv.mk (by omega) (by omega)) | (show (0 : Int) < _; omega) | (exact TH.CPow.mk (by omega) (by omega) (by decide))))
  | (with_reducible refine TH.w_U ?_)
  | (with_reducible refine TH.w_eqI ?_)
  | (with_reducible refine TH.w_neI ?_)
  | (with_reducible refine TH.w_eqB ?_)
  | (with_reducible refine TH.w_isN ?_)
  | (with_reducible refine TH.w_nil ?_)
  | (with_reducible refine TH.w_cons ?_)
  | (with_reducible refine TH.w_test ?_)
  | (with_reducible refine TH.w_B ?_)
  | (with_reducible refine TH.w_bl ?_)
  | (with_reducible refine TH.w_and ?_)
  | (with_reducible refine TH.w_or ?_)
  | (with_reducible refine TH.w_not ?_)
  | (with_reducible refine TH.w_andV ?_)
  | (with_reducible refine TH.w_orV ?_)
  | (with_reducible refine TH.w_notV ?_)
  | (with_reducible refine TH.w_if ?_)
  | (with_reducible refine TH.w_parT ?_)
  | (with_reducible refine TH.w_par ?_)
  | (with_reducible refine TH.w_parT3 ?_)
  | (with_reducible refine TH.w_par3 ?_)
  | (with_reducible refine TH.w_cb ?_)
  | (with_reducible refine TH.w_call ?_)
  | ((with_reducible refine TH.w_aug (v := ?vv) ?hv ?_); (case hv => rfl))
  | (with_reducible refine TH.w_ip ?_)
  | (with_reducible refine TH.w_bm ?_)
  | (with_reducible refine TH.w_sl ?_)
  | (with_reducible refine TH.w_np ?_)
  | (with_reducible refine TH.w_pt ?_)
  | (with_reducible refine TH.w_pti ?_)
  | (with_reducible refine TH.w_gsub ?_)
  | (with_reducible refine TH.w_int ?_)
  | (with_reducible refine TH.w_tupT ?_)
  | (with_reducible refine TH.w_lstT ?_)
  | ((with_reducible show L2.rIxL _ _ _ _ _); (first | (refine TH.w_ixL (TH.sqL upd_same) rfl ?_) | (refine TH.w_ixL (TH.sqL (by assumption)) rfl ?_)))
  | ((with_reducible show L2.rSetL _ _ _ _ _); (first | (refine TH.w_set1 upd_same ?_) | (refine TH.w_set2 upd_same ?_) | (refine TH.w_set3 upd_same ?_) | (refine TH.w_set4 upd_same ?_) | (refine TH.w_set1 (by assumption) ?_) | (refine TH.w_set2 (by assumption) ?_) | (refine TH.w_set3 (by assumption) ?_) | (refine TH.w_set4 (by assumption) ?_)))
  | (with_reducible refine TH.w_lc ?_)
  | (with_reducible refine TH.w_dc ?_)
  | (with_reducible refine TH.w_itup ?_)
  | (with_reducible refine TH.w_ilist ?_)
  | (with_reducible refine TH.w_ienum ?_)
  | (with_reducible refine TH.w_izip ?_)
  | (with_reducible refine TH.w_irng1 ?_)
  | (with_reducible refine TH.w_irng2 ?_)
  | (with_reducible refine TH.w_for ?_)
  | (with_reducible refine TH.w_gcons ?_)
  | (with_reducible refine TH.w_gnil ?_)
  | (with_reducible refine TH.w_yes ?_)
  | (with_reducible refine TH.w_gtup2 upd_same ?_)
  | (with_reducible refine TH.w_gtup3 upd_same ?_)
  | (with_reducible refine TH.w_dput ?_)
  | (with_reducible refine TH.w_bm0 ?_)
  | (with_reducible refine TH.w_din ?_)
  | (with_reducible refine TH.w_dnotin ?_)
  | (with_reducible refine TH.w_dispK ?_)
  | (with_reducible refine TH.w_lock ?_)
  | (with_reducible refine TH.w_ikeys ?_)
  | (with_reducible refine TH.w_iitems ?_)
  | (with_reducible refine TH.w_dispT1 ?_)
  | (with_reducible refine TH.w_dnewT ?_)
  | (with_reducible refine TH.w_dnewK ?_)
  | (with_reducible refine TH.w_fld ?_)
  | (with_reducible refine TH.w_sfld ?_)
  | (with_reducible refine TH.w_meth ?_)
  | (with_reducible refine TH.w_make ?_)
  | (with_reducible refine TH.w_dget2 ?_)
  | (with_reducible refine TH.w_revL ?_)
  | (with_reducible refine TH.w_revT ?_)
  | (with_reducible refine TH.w_lstRg ?_)
  | (with_reducible refine TH.w_tupRg ?_)
  | (with_reducible refine TH.w_rg1 ?_)
  | (with_reducible refine TH.w_rg2 ?_)
  | (with_reducible refine TH.w_T ?_)
  | (with_reducible refine TH.w_F ?_))
local macro_rules | `(tactic| walk_at "rd") => `(tactic| repeat (first | walk_at "rd1" | (dsimp only [List.set, L2.wipe, List.map, TH.isInt, TH.isBool, TH.isTup, TH.isLst, TH.bo_f, TH.bo_t, TH.ba_f, TH.ba_t, TH.bn_t, TH.bn_f, List.append_nil, List.cons_append, List.nil_append])))

section
open LA
variable {n : Nat} [NeZero n]
/-! ### plain: ranks -/
theorem took_ex (hc : Clk n) {wide : Nat} {rs : List (List Int)} {S : List (Nat × List Int)} {r : List Int} (hr : Rin n wide r) (h : StI n wide rs S) : ∃ S', Took n r S S' := by
  cases hf : firstI (lessI n S r) with
  | none => exact ⟨S, .inl ⟨hf, rfl⟩⟩
  | some q =>
    obtain ⟨f1, f2, f3⟩ := firstI_lt hf
    have hli := lessI_in (n := n) (S := S) (fun b hb => (h.inr b hb).1) hr
    have hv := rin_at hc hli q
    have hne : cF n ((lessI n S r).getD q 0) ≠ 0 := fun z => f2 (cF_val0 hc hv z)
    obtain ⟨b, hb⟩ := fin_inv hc _ hne
    obtain ⟨t, _, _, rfl⟩ := cF_all b
    exact ⟨_, .inr ⟨q, t, hf, hb, rfl⟩⟩
theorem stI_ex (hc : Clk n) {wide : Nat} {rs : List (List Int)} (hrs : ∀ r ∈ rs, Rin n wide r) : ∃ S, StI n wide rs S := by
  have : ∀ i, i ≤ rs.length → ∃ S, StI n wide (rs.take i) S := fun i => by
    induction i with
    | zero => exact fun _ => ⟨[], stI_nil⟩
    | succ i ih =>
      intro hi
      obtain ⟨S, hS⟩ := ih (by omega)
      have e1 : rs[i]? = some (rs.getD i []) := getD_at (by omega)
      have hr := hrs _ (List.mem_of_getElem? e1)
      obtain ⟨S', hT⟩ := took_ex hc hr hS
      refine ⟨S', ?_⟩
      rw [List.take_add_one, e1]
      exact stI_took hc (fun x hx => hrs x (List.mem_of_mem_take hx)) hr hS hT
  have := this rs.length (Nat.le_refl _)
  rwa [List.take_length] at this
/-- the rank of rows -/
def RkI (n : Nat) [NeZero n] (wide : Nat) (rs : List (List Int)) (k : Nat) : Prop := ∃ S, StI n wide rs S ∧ S.length = k
theorem ladI_rk (hc : Clk n) {wide : Nat} {rs ls : List (List Int)} (h : LadI n wide rs ls) (hrs : ∀ r ∈ rs, Rin n wide r) : RkI n wide rs ls.length := by
  obtain ⟨S, hS⟩ := stI_ex hc hrs
  obtain ⟨h1, h2⟩ := finI_ok hS
  refine ⟨S, hS, ?_⟩
  rw [ladI_one hc h h1 (.refl _)]
  exact h2.symm
theorem rk_one (hc : Clk n) {wide : Nat} {rs rs' : List (List Int)} {k l : Nat} (h : RkI n wide rs k) (h' : RkI n wide rs' l) (e : Eqv wide (rowsF n rs) (rowsF n rs')) : k = l := by
  obtain ⟨S, h1, rfl⟩ := h
  obtain ⟨S', h2, rfl⟩ := h'
  obtain ⟨a1, a2⟩ := finI_ok h1
  obtain ⟨b1, b2⟩ := finI_ok h2
  rw [← a2, ← b2, ladI_one hc a1 b1 e]
theorem rowsF_snoc {rs : List (List Int)} {r : List Int} : rowsF n (rs ++ [r]) = rowsF n rs ++ [toF n r] := by
  unfold rowsF
  rw [List.map_append]
  rfl
theorem eqv_in {wide : Nat} {rs : List (List Int)} {r : List Int} (hrs : ∀ x ∈ rs, Rin n wide x) (hr : Rin n wide r) (h : InS wide (rowsF n rs) (toF n r)) : Eqv wide (rowsF n rs) (rowsF n (rs ++ [r])) := by
  have hA := rowsF_wd (n := n) fun x hx => (hrs x hx).1
  have hl : (toF n r).length = wide := by rw [toF_len, hr.1]
  rw [rowsF_snoc]
  refine Eqv.of hA (wd_snoc hA hl) (fun x hx => inS_mem (wd_snoc hA hl) (List.mem_append_left _ hx)) fun x hx => ?_
  rcases List.mem_append.mp hx with m | m
  · exact inS_mem hA m
  · rw [List.mem_singleton.mp m]
    exact h
theorem eqv_snoc {wide : Nat} {rs ss : List (List Int)} {r : List Int} (hrs : ∀ x ∈ rs, Rin n wide x) (hss : ∀ x ∈ ss, Rin n wide x) (hr : Rin n wide r) (e : Eqv wide (rowsF n rs) (rowsF n ss)) : Eqv wide (rowsF n (rs ++ [r])) (rowsF n (ss ++ [r])) := by
  have hA := rowsF_wd (n := n) fun x hx => (hrs x hx).1
  have hB := rowsF_wd (n := n) fun x hx => (hss x hx).1
  have hl : (toF n r).length = wide := by rw [toF_len, hr.1]
  rw [rowsF_snoc, rowsF_snoc]
  refine Eqv.of (wd_snoc hA hl) (wd_snoc hB hl) (fun x hx => ?_) fun x hx => ?_
  · rcases List.mem_append.mp hx with m | m
    · exact inS_mono hB (wd_snoc hB hl) (hA x m) (fun y hy => List.mem_append_left _ hy) ((e x (hA x m)).mp (inS_mem hA m))
    · exact inS_mem (wd_snoc hB hl) (List.mem_append_right _ m)
  · rcases List.mem_append.mp hx with m | m
    · exact inS_mono hA (wd_snoc hA hl) (hB x m) (fun y hy => List.mem_append_left _ hy) ((e x (hB x m)).mpr (inS_mem hB m))
    · exact inS_mem (wd_snoc hA hl) (List.mem_append_right _ m)
/-- one row more -/
theorem rk_snoc (hc : Clk n) {wide : Nat} {rs : List (List Int)} {r : List Int} {k : Nat} (hrs : ∀ x ∈ rs, Rin n wide x) (hr : Rin n wide r) (h : RkI n wide rs k) : (InS wide (rowsF n rs) (toF n r) → RkI n wide (rs ++ [r]) k) ∧ (¬ InS wide (rowsF n rs) (toF n r) → RkI n wide (rs ++ [r]) (k + 1)) := by
  obtain ⟨S, hS, rfl⟩ := h
  obtain ⟨S', hT⟩ := took_ex hc hr hS
  have hn := none_iff hrs hr hS
  have hS' := stI_took hc hrs hr hS hT
  rcases hT with ⟨hf, rfl⟩ | ⟨q, t, hf, _, rfl⟩
  · exact ⟨fun _ => ⟨S', hS', rfl⟩, fun z => absurd (hn.mp hf) z⟩
  · refine ⟨fun z => ?_, fun _ => ⟨_, hS', by simp⟩⟩
    rw [hn.mpr z] at hf
    cases hf
theorem rk_le {wide : Nat} {rs : List (List Int)} {k : Nat} (h : RkI n wide rs k) : k ≤ rs.length := by
  obtain ⟨S, hS, rfl⟩ := h
  exact hS.len
end
variable {P : Program} {w : World} {K : PySem.W.Frag} {mg : Str → Option Value} {base : Heap}
section
open LA
theorem eq_row {H : Hp} {Q : VK} {x y : V} {r : List Int} (hx : Dp K H x (row r)) (hy : Dp K H y (row r)) (q : Q (.bl true) H) : rEqD K x y H Q := by
  have hl : PyData.canLay0 (row r) = true := lay_ints r
  have hd : (row r).depth ≤ 64 := by
    show PyData.depthAll (r.map .int) + 1 ≤ 64
    rw [PySem.W.depth_ints]
    omega
  have hs : SeqAt.shaped (row r) = true := by
    unfold SeqAt.shaped
    rw [hl, decide_eq_true hd]
    rfl
  refine ⟨_, _, hx, hy, hs, hs, ?_⟩
  rw [SeqAt.eqv_refl _ hl]
  exact q
/-! _law_dot(p, row, other) -/
def sp_law_dot (K : PySem.W.Frag) : Sp := fun vs H Q _ => ∃ (p : Int) (u v : V) (f r : List Int), vs = [.int p, u, v] ∧ 0 < p ∧ Dp K H u (row f) ∧ Dp K H v (row r) ∧ f.length = r.length ∧ r.length ≤ 1000 ∧ (∀ x ∈ f, 0 ≤ x ∧ x ≤ 1000000) ∧ ∀ H', Ex H H' → Q (.int (dotZ f r % p)) H'
theorem dot_zip : ∀ f r : List Int, (List.zipWith (fun x y : Int => x * y) f r).sum = dotZ f r
  | [], r => by cases r <;> rfl
  | x :: f, [] => rfl
  | x :: f, y :: r => by
    rw [List.zipWith_cons_cons, List.sum_cons, dot_zip f r]
    rfl
theorem ok_law_dot {f : Addr} {fd : FuncData} (F : C8.Def K mg "_law_dot" s_law_dot f fd) (b : Binds K fd ["p", "row", "other"] []) (T : Txt mg) : C8.Cal P w K mg base 1 "_law_dot" (sp_law_dot K) [] := by
  refine C8.cal0 F b .nil sc_law_dot (fun vs H Q E h => ?_) (fun cdv A outer s H vs Q E hr h => ?_)
  · obtain ⟨p, u, v, f, r, rfl, _⟩ := h
    rfl
  · obtain ⟨p, u, v, f, r, rfl, p0, hu, hv, hl, hr1, hf, q⟩ := h
    obtain ⟨ua, rfl, hua⟩ := dp_row hu
    obtain ⟨va, rfl, hva⟩ := dp_row hv
    refine ⟨_, (pss_one (ps_ret (pe_op op_mod (pe_callTy call_int1 (by rfl) T.b_int (by decide +kernel) (pa_cons (pe_callB (TH.kcr_sum (K := K) rfl) (by rfl) T.b_sum (by decide +kernel) (pa_cons (pe_lc (own := [("one", 3), ("two", 4)]) (g := gTup K 2 (gCons (gName 3) (gCons (gName 4) gNil))) (tt := tYes) rfl sc_law_dot.nd (TH.kpi_zip (K := K) (by rfl) T.b_zip (pa_cons (pv 1) (pa_cons (pv 2) pa_nil))) (blkOk_by (own := [("one", 3), ("two", 4)]) (N := N_law_dot) (sc := C8.fnScope s_law_dot) (by decide +kernel)) (fun _ _ _ _ _ => (TH.kpg_tup (K := K) (n := 2) rfl (pgs_cons (pg_name (i := 3) sc_law_dot.nd rfl (Or.inl rfl) (Or.inr rfl)) (pgs_cons (pg_name (i := 4) sc_law_dot.nd rfl (Or.inl rfl) (Or.inr rfl)) pgs_nil)))) (fun _ _ _ _ _ => pts_nil) (fun _ _ _ _ _ => (pe_op op_mul (pv 3) (pv 4)))) pa_nil)) pa_nil)) (pv 0)))), ?_⟩
    refine w_start (σ' := [some (.int p), some (.ref ua), some (.ref va), none, none]) rfl ?_
    walk_at "rd"
    refine ⟨ua, va, _, _, rfl, .inr ⟨hua, hva, fun Dl hD => ?_⟩⟩
    refine lc_data (K := K) (walk_zipT rfl) (fun _ => true) (fun i => .int (f.getD i 0 * r.getD i 0)) (fun _ => rfl) (fun H' e => ⟨e.t hua, e.t hva⟩) hD (by simp; omega) (fun i x H' H'' hi e y R R0 k _ => ?_) (fun H' ws e hw hda => ?_)
    · obtain ⟨t, x1, x2, rfl, ht, rfl, h1, h2⟩ := y
      obtain ⟨a, ha, rfl⟩ := ints_at h1
      obtain ⟨c, hc, rfl⟩ := ints_at h2
      have hab := hf a (List.mem_of_getElem? ha)
      walk_at "rd"
      refine ⟨rfl, ?_⟩
      walk_at "rd"
      refine k rfl _ _ (Ex.new ht) ?_
      rw [getD_of ha, getD_of hc]
      exact .int _
    · rw [made_all, List.length_map, List.length_map, range_zip 0 0 (fun x y => PyData.int (x * y))] at hda
      have e1 : List.zipWith (fun x y : Int => PyData.int (x * y)) f r = (List.zipWith (fun x y : Int => x * y) f r).map PyData.int := by
        rw [List.map_zipWith]
      rw [e1] at hda
      have eu := dpa_ints_inv hda
      subst eu
      walk_at "rd"
      refine ⟨Dl, _, rfl, sqL hw, ?_⟩
      walk_at "rd"
      rw [dot_zip]
      exact q H' e
/-! _law_rank(p, rows) -/
def sp_law_rank (K : PySem.W.Frag) : Sp := fun vs H Q _ => ∃ (n : Nat) (_ : NeZero n) (wide : Nat) (a : Addr) (xs : List V) (rs : List (List Int)), vs = [.int (n : Nat), .ref a] ∧ Clk n ∧ SqL K H a xs ∧ DpAll K H xs (rs.map row) ∧ wide ≤ 1000 ∧ rs.length ≤ 1000 ∧ (∀ r ∈ rs, Rin n wide r) ∧
  ∀ (k : Nat) H', Ex H H' → RkI n wide rs k → Q (.int (k : Nat)) H'
theorem ok_law_rank {f : Addr} {fd : FuncData} (F : C8.Def K mg "_law_rank" s_law_rank f fd) (b : Binds K fd ["p", "rows"] []) (T : Txt mg)
    (c_law_ladder : C8.Cal P w K mg base 2 "_law_ladder" (sp_law_ladder K) []) : C8.Cal P w K mg base 3 "_law_rank" (sp_law_rank K) [] := by
  refine C8.cal0 F b .nil sc_law_rank (fun vs H Q E h => ?_) (fun cdv A outer s H vs Q E hr h => ?_)
  · obtain ⟨n, _, wide, a, xs, rs, rfl, _⟩ := h
    rfl
  · obtain ⟨n, inst, wide, a, xs, rs, rfl, hc, ha, hda, hw, hl, hrs, q⟩ := h
    have hxl : xs.length = rs.length := by rw [dpa_len hda, List.length_map]
    refine ⟨_, (pss_one (ps_ret (pe_ifExp (pt_cmpR op_gt (pe_callB (TH.kcall_len (K := K)) (by rfl) T.b_len (by decide +kernel) (pa_cons (pv 1) pa_nil)) pe_int (nomark _)) (pe_callB (TH.kcall_len (K := K)) (by rfl) T.b_len (by decide +kernel) (pa_cons (C8.pe_c c_law_ladder hr (by first | decide | exact Nat.le_refl _) (by rfl) (pa_cons (pv 0) (pa_cons (pe_callB (TH.kcall_len (K := K)) (by rfl) T.b_len (by decide +kernel) (pa_cons (pe_ix (TH.kix_list (K := K)) (pv 1) pe_int (fun _ _ => rfl)) pa_nil)) (pa_cons (pv 1) pa_nil)))) pa_nil)) pe_int))), ?_⟩
    refine w_start (σ' := [some (.int n), some (.ref a)]) rfl ?_
    walk_at "rd"
    refine ⟨a, xs, rfl, .inl ha, ?_⟩
    walk_at "rd"
    refine w_dec (fun hpos => ?_) (fun hpos => ?_)
    · have e1 : rs[0]? = some (rs.getD 0 []) := getD_at (by omega)
      obtain ⟨v0, hv0, hd0⟩ := dpa_getD (i := 0) (d := row (rs.getD 0 [])) hda (by rw [List.getElem?_map, e1]; rfl)
      obtain ⟨ra, rfl, hra⟩ := dp_row hd0
      have hr0 := hrs _ (List.mem_of_getElem? e1)
      walk_at "rd"
      refine w_ixL ha (atI_at (j := 0) hv0) ?_
      walk_at "rd"
      refine ⟨ra, _, rfl, .inr hra, ?_⟩
      rw [List.length_map, hr0.1]
      walk_at "rd"
      refine ⟨n, inst, wide, a, xs, rs, rfl, hc, ha, hda, hw, hl, hrs, fun u H1 ls e1 hu hL => ?_⟩
      obtain ⟨la, lv, rfl, hla, hlv⟩ := dp_tup hu
      have hlvl : lv.length = ls.length := by rw [dpa_len hlv, List.length_map]
      walk_at "rd"
      refine ⟨la, lv, rfl, .inr hla, ?_⟩
      rw [hlvl]
      exact q _ H1 e1 (ladI_rk hc hL hrs)
    · have hn : rs = [] := List.length_eq_zero_iff.mp (by omega)
      subst hn
      walk_at "rd"
      exact q 0 H (Ex.refl _) ⟨[], stI_nil, rfl⟩
/-! _law_is_row(p, wide, thing), what is right -/
def sp_law_is_row (K : PySem.W.Frag) : Sp := fun vs H Q _ => ∃ (p : Int) (wide : Nat) (v : V) (r : List Int), vs = [.int p, .int (wide : Nat), v] ∧ Dp K H v (row r) ∧ Rin p wide r ∧ wide ≤ 1000 ∧ ∀ H', Ex H H' → Q (.bl true) H'
theorem w_allT {H : Hp} {Q : VK} {Dl : Addr} {ws : List V} {m : Nat} (hw : H Dl = some (.lst ws)) (hd : DpAll K H ws ((List.range m).map fun _ => PyData.bool true)) (q : Q (.bl true) H) : rAll K [.ref Dl] H Q := by
  have e : (List.range m).map (fun _ => PyData.bool true) = (List.replicate m true).map PyData.bool := by
    rw [List.map_replicate, List.map_const', List.length_range]
  rw [e] at hd
  have eu := dpa_bools_inv hd
  subst eu
  refine ⟨Dl, _, rfl, sqL hw, ?_⟩
  have : (List.replicate m true).all id = true := by simp
  rw [this]
  exact q
theorem ok_law_is_row {f : Addr} {fd : FuncData} (F : C8.Def K mg "_law_is_row" s_law_is_row f fd) (b : Binds K fd ["p", "wide", "thing"] []) (T : Txt mg)
    (c_law_int : C8.Cal P w K mg base 1 "_law_int" (sp_law_int K) []) : C8.Cal P w K mg base 2 "_law_is_row" (sp_law_is_row K) [] := by
  refine C8.cal0 F b .nil sc_law_is_row (fun vs H Q E h => ?_) (fun cdv A outer s H vs Q E hr h => ?_)
  · obtain ⟨p, wide, v, r, rfl, _⟩ := h
    rfl
  · obtain ⟨p, wide, v, r, rfl, hv, hrr, hw, q⟩ := h
    obtain ⟨a, rfl, ha⟩ := dp_row hv
    have hrl := hrr.1
    refine ⟨_, (pss_one (ps_ret (pe_and (pe_callB (TH.kcall_isi (K := K)) (by rfl) T.b_isinstance (by decide +kernel) (pa_cons (pv 2) (pa_cons (pe_bltn (v := .ty "tuple") (by rfl) T.b_tuple (by decide +kernel) rfl) pa_nil))) (pe_and (pe_cmpR op_eq (pe_callB (TH.kcall_len (K := K)) (by rfl) T.b_len (by decide +kernel) (pa_cons (pv 2) pa_nil)) (pv 1) (nomark _)) (pe_one (pe_callB (TH.kcr_all (K := K) rfl) (by rfl) T.b_all (by decide +kernel) (pa_cons (pe_lc (own := [("one", 3)]) (g := gName 3) (tt := tYes) rfl sc_law_is_row.nd (TH.kpi_tup (K := K) (pv 2)) (blkOk_by (own := [("one", 3)]) (N := N_law_is_row) (sc := C8.fnScope s_law_is_row) (by decide +kernel)) (fun _ _ _ _ _ => (pg_name (i := 3) sc_law_is_row.nd rfl (Or.inl rfl) (Or.inr rfl))) (fun _ _ _ _ _ => pts_nil) (fun _ _ _ _ _ => (C8.pe_c c_law_int hr (by first | decide | exact Nat.le_refl _) (by rfl) (pa_cons (pv 3) (pa_cons pe_int (pa_cons (pe_op op_sub (pv 0) pe_int) pa_nil)))))) pa_nil))))))), ?_⟩
    refine w_start (σ' := [some (.int p), some (.int wide), some (.ref a), none]) rfl ?_
    walk_at "rd"
    refine w_isTup hv ?_
    have e0 : isTup (row r) = true := rfl
    rw [e0]
    walk_at "rd"
    refine ⟨a, _, rfl, .inr ha, ?_⟩
    rw [List.length_map, hrl]
    walk_at "rd"
    rw [decide_eq_true rfl]
    walk_at "rd"
    refine ⟨a, rfl, ⟨_, ha⟩, fun Dl hD => ?_⟩
    refine lc_data (K := K) walk_tup (fun _ => true) (fun i => .bool true) (fun _ => rfl) (fun H' e => e.t ha) hD (by rw [List.length_map]; omega) (fun i x H' H'' hi e y R R0 k _ => ?_) (fun H1 ws e1 hws hda => ?_)
    · obtain ⟨rfl, hx⟩ := y
      obtain ⟨z, hz, rfl⟩ := ints_at hx
      have := hrr.2 z (List.mem_of_getElem? hz)
      walk_at "rd"
      refine ⟨rfl, ?_⟩
      walk_at "rd"
      refine ⟨_, _, _, _, rfl, .int _, ?_⟩
      rw [inR_int, decide_eq_true (by omega), decide_eq_true (by omega)]
      exact k rfl _ _ (Ex.refl _) (.bl true)
    · rw [made_all] at hda
      walk_at "rd"
      refine w_allT hws hda ?_
      exact q H1 e1
end
end TK

namespace TK
open PySem PySem.Spec PyProof.Rows L2 TH
local macro_rules | `(tactic| walk_at "rd1") => `(tactic| first
  | (with_reducible refine TH.w_seq ?_)
  | (with_reducible refine TH.w_asg ?_)
  | (with_reducible refine TH.w_ret ?_)
  | (with_reducible refine TH.w_drop ?_)
  | (with_reducible refine TH.w_ifS ?_)
  | (with_reducible refine TH.w_next ?_)
  | ((with_reducible refine TH.w_var (v := ?vv) ?hv ?_); (case hv => rfl))
  | (with_reducible refine TH.w_c ?_)
  | ((with_reducible refine TH.w_gname (σ' := ?ss) ?hs ?_); (case hs => (dsimp only [List.set]; rfl)))
  | (with_reducible refine TH.w_op ?_)
  | (with_reducible refine TH.w_un ?_)
  | (with_reducible refine TH.w_chain ?_)
  | (with_reducible refine TH.w_I0 ?_)
  | ((with_reducible refine TH.w_I ?hm ?_); (case hm => first | (exact TH.CMul.l (by omega) (by omega)) | (exact TH.CMul.r (by omega) (by omega)) | (exact TH.CDiv.mk (by omega) (by omega)) | (show (0 : Int) < _; omega) | (exact TH.CPow.mk (by omega) (by omega) (by decide))))
  | (with_reducible refine TH.w_U ?_)
  | (with_reducible refine TH.w_eqI ?_)
  | (with_reducible refine TH.w_neI ?_)
  | (with_reducible refine TH.w_eqB ?_)
  | (with_reducible refine TH.w_isN ?_)
  | (with_reducible refine TH.w_nil ?_)
  | (with_reducible refine TH.w_cons ?_)
  | (with_reducible refine TH.w_test ?_)
  | (with_reducible refine TH.w_B ?_)
  | (with_reducible refine TH.w_bl ?_)
  | (with_reducible refine TH.w_and ?_)
  | (with_reducible refine TH.w_or ?_)
  | (with_reducible refine TH.w_not ?_)
  | (with_reducible refine TH.w_andV ?_)
  | (with_reducible refine TH.w_orV ?_)
  | (with_reducible refine TH.w_notV ?_)
  | (with_reducible refine TH.w_if ?_)
  | (with_reducible refine TH.w_parT ?_)
  | (with_reducible refine TH.w_par ?_)
  | (with_reducible refine TH.w_parT3 ?_)
  | (with_reducible refine TH.w_par3 ?_)
  | (with_reducible refine TH.w_cb ?_)
  | (with_reducible refine TH.w_call ?_)
  | ((with_reducible refine TH.w_aug (v := ?vv) ?hv ?_); (case hv => rfl))
  | (with_reducible refine TH.w_ip ?_)
  | (with_reducible refine TH.w_bm ?_)
  | (with_reducible refine TH.w_sl ?_)
  | (with_reducible refine TH.w_np ?_)
  | (with_reducible refine TH.w_pt ?_)
  | (with_reducible refine TH.w_pti ?_)
  | (with_reducible refine TH.w_gsub ?_)
  | (with_reducible refine TH.w_int ?_)
  | (with_reducible refine TH.w_tupT ?_)
  | (with_reducible refine TH.w_lstT ?_)
  | ((with_reducible show L2.rIxL _ _ _ _ _); (first | (refine TH.w_ixL (TH.sqL upd_same) rfl ?_) | (refine TH.w_ixL (TH.sqL (by assumption)) rfl ?_)))
  | ((with_reducible show L2.rSetL _ _ _ _ _); (first | (refine TH.w_set1 upd_same ?_) | (refine TH.w_set2 upd_same ?_) | (refine TH.w_set3 upd_same ?_) | (refine TH.w_set4 upd_same ?_) | (refine TH.w_set1 (by assumption) ?_) | (refine TH.w_set2 (by assumption) ?_) | (refine TH.w_set3 (by assumption) ?_) | (refine TH.w_set4 (by assumption) ?_)))
  | (with_reducible refine TH.w_lc ?_)
  | (with_reducible refine TH.w_dc ?_)
  | (with_reducible refine TH.w_itup ?_)
  | (with_reducible refine TH.w_ilist ?_)
  | (with_reducible refine TH.w_ienum ?_)
  | (with_reducible refine TH.w_izip ?_)
  | (with_reducible refine TH.w_irng1 ?_)
  | (with_reducible refine TH.w_irng2 ?_)
  | (with_reducible refine TH.w_for ?_)
  | (with_reducible refine TH.w_gcons ?_)
  | (with_reducible refine TH.w_gnil ?_)
  | (with_reducible refine TH.w_yes ?_)
  | (with_reducible refine TH.w_gtup2 upd_same ?_)
  | (with_reducible refine TH.w_gtup3 upd_same ?_)
  | (with_reducible refine TH.w_dput ?_)
  | (with_reducible refine TH.w_bm0 ?_)
  | (with_reducible refine TH.w_din ?_)
  | (with_reducible refine TH.w_dnotin ?_)
  | (with_reducible refine TH.w_dispK ?_)
  | (with_reducible refine TH.w_lock ?_)
  | (with_reducible refine TH.w_ikeys ?_)
  | (with_reducible refine TH.w_iitems ?_)
  | (with_reducible refine TH.w_dispT1 ?_)
  | (with_reducible refine TH.w_dnewT ?_)
  | (with_reducible refine TH.w_dnewK ?_)
  | (with_reducible refine TH.w_fld ?_)
  | (with_reducible refine TH.w_sfld ?_)
  | (with_reducible refine TH.w_meth ?_)
  | (with_reducible refine TH.w_make ?_)
  | (with_reducible refine TH.w_dget2 ?_)
  | (with_reducible refine TH.w_revL ?_)
  | (with_reducible refine TH.w_revT ?_)
  | (with_reducible refine TH.w_lstRg ?_)
  | (with_reducible refine TH.w_tupRg ?_)
  | (with_reducible refine TH.w_rg1 ?_)
  | (with_reducible refine TH.w_rg2 ?_)
  | (with_reducible refine TH.w_T ?_)
  | (with_reducible refine TH.w_F ?_))
local macro_rules | `(tactic| walk_at "rd") => `(tactic| repeat (first | walk_at "rd1" | (dsimp only [List.set, L2.wipe, List.map, TH.isInt, TH.isBool, TH.isTup, TH.isLst, TH.bo_f, TH.bo_t, TH.ba_f, TH.ba_t, TH.bn_t, TH.bn_f, List.append_nil, List.cons_append, List.nil_append])))

variable {P : Program} {w : World} {K : PySem.W.Frag} {mg : Str → Option Value} {base : Heap}
section
open LA
/-! _law_product(p, one, other) -/
def prodI (n : Int) (rs ss : List (List Int)) : List (List Int) := rs.map fun r => sumI n (List.replicate ss.length 0) ss r
theorem prodI_in {n : Int} (n0 : 0 < n) {rs ss : List (List Int)} (h : ∀ s ∈ ss, Rin n ss.length s) : ∀ x ∈ prodI n rs ss, Rin n ss.length x := fun x hx => by
  obtain ⟨r, _, rfl⟩ := List.mem_map.mp hx
  exact sumI_in n0 ⟨by simp, fun x hx => by rw [(List.mem_replicate.mp hx).2]; omega⟩ h
def sp_law_product (K : PySem.W.Frag) : Sp := fun vs H Q _ => ∃ (p : Int) (a b : Addr) (xs ys : List V) (rs ss : List (List Int)), vs = [.int p, .ref a, .ref b] ∧ 0 < p ∧ SqL K H a xs ∧ DpAll K H xs (rs.map row) ∧ SqL K H b ys ∧ DpAll K H ys (ss.map row) ∧ rs.length ≤ 1000 ∧ ss.length ≤ 1000 ∧
  (∀ r ∈ rs, ∀ x ∈ r, 0 ≤ x ∧ x ≤ 1000000) ∧ (∀ s ∈ ss, s.length = ss.length) ∧ ∀ l us H', Ex H H' → H l = none → H' l = some (.lst us) → DpAll K H' us ((prodI p rs ss).map row) → Q (.ref l) H'
theorem ok_law_product {f : Addr} {fd : FuncData} (F : C8.Def K mg "_law_product" s_law_product f fd) (b : Binds K fd ["p", "one", "other"] []) (T : Txt mg)
    (c_law_summed : C8.Cal P w K mg base 2 "_law_summed" (sp_summedM K) []) : C8.Cal P w K mg base 3 "_law_product" (sp_law_product K) [] := by
  refine C8.cal0 F b .nil sc_law_product (fun vs H Q E h => ?_) (fun cdv A outer s H vs Q E hr h => ?_)
  · obtain ⟨p, a, b, xs, ys, rs, ss, rfl, _⟩ := h
    rfl
  · obtain ⟨p, a, b, xs, ys, rs, ss, rfl, p0, ha, hda, hb, hdb, hl1, hl2, hrs, hss, q⟩ := h
    have hxl : xs.length = rs.length := by rw [dpa_len hda, List.length_map]
    have hyl : ys.length = ss.length := by rw [dpa_len hdb, List.length_map]
    refine ⟨_, (pss_one (ps_ret (pe_lc (own := [("row", 3)]) (g := gName 3) (tt := tYes) rfl sc_law_product.nd (TH.kpi_list (K := K) (pv 1)) (blkOk_by (own := [("row", 3)]) (N := N_law_product) (sc := C8.fnScope s_law_product) (by decide +kernel)) (fun _ _ _ _ _ => (pg_name (i := 3) sc_law_product.nd rfl (Or.inl rfl) (Or.inr rfl))) (fun _ _ _ _ _ => pts_nil) (fun _ _ _ _ _ => (C8.pe_c c_law_summed hr (by first | decide | exact Nat.le_refl _) (by rfl) (pa_cons (pv 0) (pa_cons (pe_callB (TH.kcall_len (K := K)) (by rfl) T.b_len (by decide +kernel) (pa_cons (pv 2) pa_nil)) (pa_cons (pv 2) (pa_cons (pv 3) pa_nil))))))))), ?_⟩
    refine w_start (σ' := [some (.int p), some (.ref a), some (.ref b), none]) rfl ?_
    walk_at "rd"
    refine ⟨a, rfl, ⟨_, ha⟩, fun Dl hD => ?_⟩
    refine lc_data (K := K) walk_list (fun _ => true) (fun i => row (sumI p (List.replicate ss.length 0) ss (rs.getD i []))) (fun _ => imm_row _) (fun H' e => e.l ha) hD (by omega) (fun i x H' H'' hi e y R R0 k _ => ?_) (fun H1 ws e1 hws hdw => ?_)
    · obtain ⟨rfl, hx⟩ := y
      obtain ⟨r, hr1, hr2⟩ := rowsAt_get (e.dpa hda) hx
      obtain ⟨ra, rfl, hra⟩ := dp_row hr2
      walk_at "rd"
      refine ⟨rfl, ?_⟩
      walk_at "rd"
      refine ⟨b, ys, rfl, .inl (e.l hb), ?_⟩
      rw [hyl]
      walk_at "rd"
      refine ⟨p, ss.length, b, ra, ys, ss, r, rfl, e.l hb, e.dpa hdb, .inr hra, p0, by omega, by omega, hss, hrs r (List.mem_of_getElem? hr1), fun u H3 e3 hu => ?_⟩
      refine k rfl _ _ e3 ?_
      rw [getD_of hr1]
      exact hu
    · rw [made_all, hxl, range_map [] (fun r : List Int => row (sumI p (List.replicate ss.length 0) ss r))] at hdw
      have ec : rs.map (fun r : List Int => row (sumI p (List.replicate ss.length 0) ss r)) = (prodI p rs ss).map row := by
        unfold prodI
        rw [List.map_map]
        rfl
      rw [ec] at hdw
      exact q Dl ws H1 e1 hD hws hdw
/-! _law_is_mixture, _law_is_parting, what is right -/
def sp_law_is_mixture (K : PySem.W.Frag) : Sp := fun vs H Q _ => ∃ (n : Nat) (_ : NeZero n) (wide : Nat) (a : Addr) (xs : List V) (rs : List (List Int)) (u t : V) (r cs : List Int), vs = [.int (n : Nat), .int (wide : Nat), .ref a, u, t] ∧ Clk n ∧ wide ≤ 1000 ∧ rs.length ≤ 1000 ∧ SqL K H a xs ∧ DpAll K H xs (rs.map row) ∧
  (∀ x ∈ rs, Rin n wide x) ∧ Dp K H u (row r) ∧ Rin n wide r ∧ Dp K H t (row cs) ∧ MixOk n rs r cs ∧ ∀ H', Ex H H' → Q (.bl true) H'
theorem ok_law_is_mixture {f : Addr} {fd : FuncData} (F : C8.Def K mg "_law_is_mixture" s_law_is_mixture f fd) (b : Binds K fd ["p", "wide", "rows", "row", "told"] []) (T : Txt mg)
    (c_law_is_row : C8.Cal P w K mg base 2 "_law_is_row" (sp_law_is_row K) []) (c_law_summed : C8.Cal P w K mg base 2 "_law_summed" (sp_summedM K) []) : C8.Cal P w K mg base 3 "_law_is_mixture" (sp_law_is_mixture K) [] := by
  refine C8.cal0 F b .nil sc_law_is_mixture (fun vs H Q E h => ?_) (fun cdv A outer s H vs Q E hr h => ?_)
  · obtain ⟨n, _, wide, a, xs, rs, u, t, r, cs, rfl, _⟩ := h
    rfl
  · obtain ⟨n, inst, wide, a, xs, rs, u, t, r, cs, rfl, hc, hw, hl, ha, hda, hrs, hu, hr1, ht, hm, q⟩ := h
    have hu64 := hu64_of hr
    have n2 := hc.two
    have nm := hc.le
    have hxl : xs.length = rs.length := by rw [dpa_len hda, List.length_map]
    obtain ⟨ta, rfl, hta⟩ := dp_row ht
    refine ⟨_, (pss_one (ps_ret (pe_and (C8.pe_c c_law_is_row hr (by first | decide | exact Nat.le_refl _) (by rfl) (pa_cons (pv 0) (pa_cons (pe_callB (TH.kcall_len (K := K)) (by rfl) T.b_len (by decide +kernel) (pa_cons (pv 2) pa_nil)) (pa_cons (pv 4) pa_nil)))) (pe_one (pe_cmpR (TH.kop_eqD (K := K) hu64) (C8.pe_c c_law_summed hr (by first | decide | exact Nat.le_refl _) (by rfl) (pa_cons (pv 0) (pa_cons (pv 1) (pa_cons (pv 2) (pa_cons (pv 4) pa_nil))))) (pv 3) (nomark _)))))), ?_⟩
    refine w_start (σ' := [some (.int n), some (.int wide), some (.ref a), some u, some (.ref ta)]) rfl ?_
    walk_at "rd"
    refine ⟨a, xs, rfl, .inl ha, ?_⟩
    rw [hxl]
    walk_at "rd"
    refine ⟨_, rs.length, .ref ta, cs, rfl, ht, ⟨hm.len, hm.rng⟩, by omega, fun H1 e1 => ?_⟩
    walk_at "rd"
    refine ⟨_, wide, a, ta, xs, rs, cs, rfl, e1.l ha, e1.dpa hda, .inr (e1.t hta), by omega, by omega, by omega, fun x hx => (hrs x hx).1, fun x hx => by have := hm.rng x hx; omega, fun v H2 e2 hv => ?_⟩
    rw [hm.summed (by omega) hr1 hrs] at hv
    walk_at "rd"
    refine eq_row hv ((e1.trans e2).dp hu) ?_
    exact q H2 (e1.trans e2)
def sp_law_is_parting (K : PySem.W.Frag) : Sp := fun vs H Q _ => ∃ (n : Nat) (_ : NeZero n) (wide : Nat) (a : Addr) (xs : List V) (rs : List (List Int)) (u t : V) (r f : List Int), vs = [.int (n : Nat), .int (wide : Nat), .ref a, u, t] ∧ Clk n ∧ wide ≤ 1000 ∧ rs.length ≤ 1000 ∧ SqL K H a xs ∧ DpAll K H xs (rs.map row) ∧
  (∀ x ∈ rs, Rin n wide x) ∧ Dp K H u (row r) ∧ Rin n wide r ∧ Dp K H t (row f) ∧ PartOk n wide rs r f ∧ ∀ H', Ex H H' → Q (.bl true) H'
theorem w_anyF {H : Hp} {Q : VK} {Dl : Addr} {ws : List V} {m : Nat} (hw : H Dl = some (.lst ws)) (hd : DpAll K H ws ((List.range m).map fun _ => PyData.bool false)) (q : Q (.bl false) H) : rAny K [.ref Dl] H Q := by
  have e : (List.range m).map (fun _ => PyData.bool false) = (List.replicate m false).map PyData.bool := by
    rw [List.map_replicate, List.map_const', List.length_range]
  rw [e] at hd
  have eu := dpa_bools_inv hd
  subst eu
  refine ⟨Dl, _, rfl, sqL hw, ?_⟩
  have : (List.replicate m false).any id = false := by simp
  rw [this]
  exact q
theorem ok_law_is_parting {f : Addr} {fd : FuncData} (F : C8.Def K mg "_law_is_parting" s_law_is_parting f fd) (b : Binds K fd ["p", "wide", "rows", "row", "told"] []) (T : Txt mg)
    (c_law_is_row : C8.Cal P w K mg base 2 "_law_is_row" (sp_law_is_row K) []) (c_law_dot : C8.Cal P w K mg base 1 "_law_dot" (sp_law_dot K) []) : C8.Cal P w K mg base 3 "_law_is_parting" (sp_law_is_parting K) [] := by
  refine C8.cal0 F b .nil sc_law_is_parting (fun vs H Q E h => ?_) (fun cdv A outer s H vs Q E hr h => ?_)
  · obtain ⟨n, _, wide, a, xs, rs, u, t, r, f, rfl, _⟩ := h
    rfl
  · obtain ⟨n, inst, wide, a, xs, rs, u, t, r, f, rfl, hc, hw, hl, ha, hda, hrs, hu, hr1, ht, hp, q⟩ := h
    have n2 := hc.two
    have nm := hc.le
    have hxl : xs.length = rs.length := by rw [dpa_len hda, List.length_map]
    have hfl := hp.rin.1
    have hrl := hr1.1
    refine ⟨_, (pss_cons (ps_if (pt_not (pt_val (C8.pe_c c_law_is_row hr (by first | decide | exact Nat.le_refl _) (by rfl) (pa_cons (pv 0) (pa_cons (pv 1) (pa_cons (pv 4) pa_nil)))))) (pss_one (ps_ret pe_bl)) pss_nil)
      (pss_one (ps_ret (pe_and (pe_cmpR op_eq (C8.pe_c c_law_dot hr (by first | decide | exact Nat.le_refl _) (by rfl) (pa_cons (pv 0) (pa_cons (pv 4) (pa_cons (pv 3) pa_nil)))) pe_int (nomark _)) (pe_one (pe_not (pe_callB (TH.kcr_any (K := K) rfl) (by rfl) T.b_any (by decide +kernel) (pa_cons (pe_lc (own := [("one", 5)]) (g := gName 5) (tt := tYes) rfl sc_law_is_parting.nd (TH.kpi_list (K := K) (pv 2)) (blkOk_by (own := [("one", 5)]) (N := N_law_is_parting) (sc := C8.fnScope s_law_is_parting) (by decide +kernel)) (fun _ _ _ _ _ => (pg_name (i := 5) sc_law_is_parting.nd rfl (Or.inl rfl) (Or.inr rfl))) (fun _ _ _ _ _ => pts_nil) (fun _ _ _ _ _ => (pe_cmpR op_ne (C8.pe_c c_law_dot hr (by first | decide | exact Nat.le_refl _) (by rfl) (pa_cons (pv 0) (pa_cons (pv 4) (pa_cons (pv 5) pa_nil)))) pe_int (nomark _)))) pa_nil)))))))), ?_⟩
    refine w_start (σ' := [some (.int n), some (.int wide), some (.ref a), some u, some t, none]) rfl ?_
    walk_at "rd"
    refine ⟨_, wide, t, f, rfl, ht, hp.rin, by omega, fun H1 e1 => ?_⟩
    walk_at "rd"
    refine ⟨_, t, u, f, r, rfl, by omega, e1.dp ht, e1.dp hu, by omega, by omega, fun x hx => by have := hp.rin.2 x hx; omega, fun H2 e2 => ?_⟩
    have e12 := e1.trans e2
    rw [hp.one]
    walk_at "rd"
    rw [decide_eq_true rfl]
    walk_at "rd"
    refine ⟨a, rfl, ⟨_, e12.l ha⟩, fun Dl hD => ?_⟩
    refine lc_data (K := K) walk_list (fun _ => true) (fun i => .bool false) (fun _ => rfl) (fun H' e => (e12.trans e).l ha) hD (by omega) (fun i x H' H'' hi e y R R0 k _ => ?_) (fun H3 ws e3 hws hdw => ?_)
    · obtain ⟨rfl, hx⟩ := y
      obtain ⟨z, hz1, hz2⟩ := rowsAt_get ((e12.trans e).dpa hda) hx
      have hzr := hrs z (List.mem_of_getElem? hz1)
      have hzl := hzr.1
      walk_at "rd"
      refine ⟨rfl, ?_⟩
      walk_at "rd"
      refine ⟨_, t, x, f, z, rfl, by omega, (e12.trans e).dp ht, hz2, by omega, by omega, fun x hx => by have := hp.rin.2 x hx; omega, fun H4 e4 => ?_⟩
      rw [hp.nil z (List.mem_of_getElem? hz1)]
      walk_at "rd"
      exact k rfl _ _ e4 (.bl false)
    · rw [made_all] at hdw
      walk_at "rd"
      refine w_anyF hws hdw ?_
      walk_at "rd"
      exact q H3 (e12.trans e3)
/-! _law_least_rows(p, wide, rows) -/
def sp_law_least_rows (K : PySem.W.Frag) : Sp := fun vs H Q _ => ∃ (n : Nat) (_ : NeZero n) (wide : Nat) (a : Addr) (xs : List V) (rs : List (List Int)), vs = [.int (n : Nat), .int (wide : Nat), .ref a] ∧ Clk n ∧ SqL K H a xs ∧ DpAll K H xs (rs.map row) ∧ wide ≤ 1000 ∧ rs.length ≤ 900 ∧ (∀ r ∈ rs, Rin n wide r) ∧
  ∀ u ts H', Ex H H' → Dp K H' u (row (nz ts)) → Least n wide rs rs.length ts → Q u H'
/-- what has been found -/
structure LeastI (n : Nat) [NeZero n] (wide : Nat) (rs : List (List Int)) (i : Nat) (ts : List Nat) (some' : List (List Int)) : Prop where
  least : Least n wide rs i ts
  inr : ∀ r ∈ some', Rin n wide r
  eqv : Eqv wide (rowsF n some') (rowsF n (rs.take i))
  rk : RkI n wide some' some'.length
  len : some'.length ≤ i
theorem LeastI.step {n : Nat} [NeZero n] (hc : Clk n) {wide i : Nat} {rs some' : List (List Int)} {ts : List Nat} {r : List Int} {k : Nat} (h : LeastI n wide rs i ts some') (hrs : ∀ x ∈ rs, Rin n wide x) (hr : rs[i]? = some r) (hk : RkI n wide (some' ++ [r]) k) :
    (k > some'.length → LeastI n wide rs (i + 1) (ts ++ [i]) (some' ++ [r])) ∧ (¬ k > some'.length → LeastI n wide rs (i + 1) ts some') := by
  have hrr := hrs r (List.mem_of_getElem? hr)
  have hT : ∀ x ∈ rs.take i, Rin n wide x := fun x hx => hrs x (List.mem_of_mem_take hx)
  have hl : (toF n r).length = wide := by rw [toF_len, hrr.1]
  have et : rs.take (i + 1) = rs.take i ++ [r] := by
    rw [List.take_add_one, hr]
    rfl
  obtain ⟨s1, s2⟩ := rk_snoc hc h.inr hrr h.rk
  have hin := h.eqv (toF n r) hl
  by_cases hi : InS wide (rowsF n some') (toF n r)
  · have e1 := rk_one hc hk (s1 hi) (.refl _)
    refine ⟨fun z => by omega, fun _ => ⟨h.least.skip hr (hin.mp hi), h.inr, ?_, h.rk, by have := h.len; omega⟩⟩
    rw [et]
    exact h.eqv.trans (eqv_in hT hrr (hin.mp hi))
  · have e1 := rk_one hc hk (s2 hi) (.refl _)
    refine ⟨fun _ => ⟨h.least.more hr fun z => hi (hin.mpr z), fun x hx => ?_, ?_, ?_, ?_⟩, fun z => by omega⟩
    · rcases List.mem_append.mp hx with m | m
      · exact h.inr x m
      · rw [List.mem_singleton.mp m]
        exact hrr
    · rw [et]
      exact eqv_snoc h.inr hT hrr h.eqv
    · rw [List.length_append]
      exact s2 hi
    · rw [List.length_append]
      have := h.len
      show some'.length + 1 ≤ i + 1
      omega
theorem ok_law_least_rows {f : Addr} {fd : FuncData} (F : C8.Def K mg "_law_least_rows" s_law_least_rows f fd) (b : Binds K fd ["p", "wide", "rows"] []) (T : Txt mg)
    (c_law_rank : C8.Cal P w K mg base 3 "_law_rank" (sp_law_rank K) []) : C8.Cal P w K mg base 4 "_law_least_rows" (sp_law_least_rows K) [] := by
  refine C8.cal0 F b .nil sc_law_least_rows (fun vs H Q E h => ?_) (fun cdv A outer s H vs Q E hr h => ?_)
  · obtain ⟨n, _, wide, a, xs, rs, rfl, _⟩ := h
    rfl
  · obtain ⟨n, inst, wide, a, xs, rs, rfl, hc, ha, hda, hw, hl, hrs, q⟩ := h
    have hxl : xs.length = rs.length := by rw [dpa_len hda, List.length_map]
    refine ⟨_, (pss_cons (ps_par (i := 3) (j := 4) rfl sc_law_least_rows.nd rfl rfl (by decide) rfl rfl (pa_cons (pe_lst pa_nil) (pa_cons (pe_lst pa_nil) pa_nil)) (by rfl))
      (pss_cons (ps_for PassesOwn.never rfl (TH.kpi_enum (K := K) (by rfl) T.b_enumerate (pa_cons (pv 2) pa_nil)) (TH.kpg_tup (K := K) (n := 2) rfl (pgs_cons (pg_name (i := 5) sc_law_least_rows.nd rfl (Or.inl rfl) (Or.inr rfl)) (pgs_cons (pg_name (i := 6) sc_law_least_rows.nd rfl (Or.inl rfl) (Or.inr rfl)) pgs_nil))) (pss_one (ps_if (pt_cmpR op_gt (C8.pe_c c_law_rank hr (by first | decide | exact Nat.le_refl _) (by rfl) (pa_cons (pv 0) (pa_cons (pe_op op_cat (pv 4) (pe_lst (pa_cons (pv 6) pa_nil))) pa_nil))) (pe_callB (TH.kcall_len (K := K)) (by rfl) T.b_len (by decide +kernel) (pa_cons (pv 4) pa_nil)) (nomark _)) (pss_cons (ps_expr (TH.kpe_bm (K := K) PySem.F.plainAttrs_list PySem.F.slot_list_append PySem.F.type_list_append mt_append (pv 3) (pa_cons (pv 5) pa_nil)))
      (pss_one (ps_expr (TH.kpe_bm (K := K) PySem.F.plainAttrs_list PySem.F.slot_list_append PySem.F.type_list_append mt_append (pv 4) (pa_cons (pv 6) pa_nil))))) pss_nil)))
      (pss_one (ps_ret (pe_callTy (TH.kcall_tuple (K := K)) (by rfl) T.b_tuple (by decide +kernel) (pa_cons (pv 3) pa_nil)))))), ?_⟩
    refine w_start (σ' := [some (.int n), some (.int wide), some (.ref a), none, none, none, none]) rfl ?_
    walk_at "rd"
    refine w_dispT (by simp) fun fl hfl => ?_
    walk_at "rd"
    refine w_dispT (by simp) fun sl hsl => ?_
    have hfs : fl ≠ sl := fun z => by rw [← z, upd_same] at hsl; cases hsl
    have e0 : Ex H (upd (upd H fl (.lst [])) sl (.lst [])) := (Ex.new hfl).trans (Ex.new hsl)
    have hsl0 : H sl = none := (Ex.new hfl).fresh hsl
    have u1 : upd (upd H fl (.lst [])) sl (.lst []) fl = some (.lst []) := (Ex.new hsl) _ _ upd_same
    have u2 : upd (upd H fl (.lst [])) sl (.lst []) sl = some (.lst []) := upd_same
    generalize upd (upd H fl (.lst [])) sl (.lst []) = H0 at e0 u1 u2 ⊢
    walk_at "rd"
    refine ⟨a, xs, rfl, .inl ⟨e0.l ha, ?_⟩⟩
    refine for_go walk_enum (fun i σ H' => Ex H H' ∧ ∃ (ts : List Nat) (sv : List V) (ss : List (List Int)) (y5 y6 : Option V), σ = [some (.int n), some (.int wide), some (.ref a), some (.ref fl), some (.ref sl), y5, y6] ∧ H' fl = some (.lst ((nz ts).map V.int)) ∧ H' sl = some (.lst sv) ∧ DpAll K H' sv (ss.map row) ∧ LeastI n wide rs i ts ss ∧ ts.length ≤ i)
      ⟨e0, [], [], [], _, _, rfl, u1, u2, .nil, ⟨.nil, fun x hx => (nomatch hx), .refl _, ⟨[], stI_nil, rfl⟩, Nat.le_refl _⟩, Nat.le_refl _⟩ (fun i σ H' _ p => p.1.l ha) (fun i x σ H1 H1' hi p y => ?_) (fun σ H1 p => ?_)
    · obtain ⟨e1, ts, sv, ss, y5, y6, rfl, g1, g2, g3, g4, g5⟩ := p
      obtain ⟨t, x1, x2, rfl, ht, rfl, k1, k2⟩ := y
      cases k1
      obtain ⟨r, hr1, hr2⟩ := rowsAt_get hda k2
      have hsvl : sv.length = ss.length := by rw [dpa_len g3, List.length_map]
      have hssl := g4.len
      have e2 : Ex H1 (upd H1 t (.tup [.int i, x2])) := Ex.new ht
      refine w_gtup2 upd_same ?_
      generalize upd H1 t (.tup [.int i, x2]) = H2 at e2 ⊢
      have e02 := e1.trans e2
      have hr2' := e02.dp hr2
      walk_at "rd"
      refine w_dispT (by simp) fun l1 hl1 => ?_
      have e3 : Ex H2 (upd H2 l1 (.lst [x2])) := Ex.new hl1
      have u3 : upd H2 l1 (.lst [x2]) l1 = some (.lst [x2]) := upd_same
      generalize upd H2 l1 (.lst [x2]) = H3 at e3 u3 ⊢
      have e23 := e2.trans e3
      refine ⟨sl, l1, _, _, rfl, rfl, e23 _ _ g2, u3, small2 (by simp; omega), fun l2 hl2 => ?_⟩
      have e4 : Ex H3 (upd H3 l2 (.lst (sv ++ [x2]))) := Ex.new hl2
      have u4 : upd H3 l2 (.lst (sv ++ [x2])) l2 = some (.lst (sv ++ [x2])) := upd_same
      generalize upd H3 l2 (.lst (sv ++ [x2])) = H4 at e4 u4 ⊢
      have e24 := e23.trans e4
      have hd4 : DpAll K H4 (sv ++ [x2]) ((ss ++ [r]).map row) := by
        rw [List.map_append]
        exact dpa_snoc (e24.dpa g3) ((e3.trans e4).dp hr2')
      have hrr := hrs r (List.mem_of_getElem? hr1)
      walk_at "rd"
      refine ⟨n, inst, wide, l2, _, ss ++ [r], rfl, hc, sqL u4, hd4, hw, by rw [List.length_append, List.length_singleton]; omega, fun x hx => ?_, fun k H5 e5 hk => ?_⟩
      · rcases List.mem_append.mp hx with m | m
        · exact g4.inr x m
        · rw [List.mem_singleton.mp m]
          exact hrr
      · have e25 := e24.trans e5
        obtain ⟨st1, st2⟩ := g4.step hc hrs hr1 hk
        walk_at "rd"
        refine ⟨sl, _, rfl, .inl (sqL (e25 _ _ g2)), ?_⟩
        rw [hsvl]
        walk_at "rd"
        refine w_dec (fun hgt => ?_) (fun hle => ?_)
        · walk_at "rd"
          have g15 := e25 _ _ g1
          refine ⟨tyL g15, ?_⟩
          walk_at "rd"
          refine w_app g15 (by rw [List.length_map, nz_len']; omega) ?_
          walk_at "rd"
          have g25 : upd H5 fl (.lst ((nz ts).map V.int ++ [.int i])) sl = some (.lst sv) := by rw [upd_ne (Ne.symm hfs)]; exact e25 _ _ g2
          refine ⟨tyL g25, ?_⟩
          walk_at "rd"
          refine w_app g25 (by omega) ?_
          walk_at "rd"
          have tx : Tx H5 (upd (upd H5 fl (.lst ((nz ts).map V.int ++ [.int i]))) sl (.lst (sv ++ [x2]))) := (Tx.updL g15).trans (Tx.updL g25)
          refine ⟨((e1.trans e25).mut hfl).mut hsl0, ts ++ [i], sv ++ [x2], ss ++ [r], _, _, rfl, ?_, upd_same, ?_, st1 (by omega), by rw [List.length_append, List.length_singleton]; omega⟩
          · rw [upd_ne hfs, upd_same]
            unfold nz
            rw [List.map_append, List.map_append]
            rfl
          · exact tx.dpa (imm_rows _) (e5.dpa hd4)
        · walk_at "rd"
          exact ⟨e1.trans e25, ts, sv, ss, _, _, rfl, e25 _ _ g1, e25 _ _ g2, e25.dpa g3, st2 (by omega), by omega⟩
    · obtain ⟨e1, ts, sv, ss, y5, y6, rfl, g1, g2, g3, g4, g5⟩ := p
      walk_at "rd"
      refine ⟨fl, _, rfl, .inl ⟨sqL g1, fun l hl => ?_⟩⟩
      refine q _ ts _ (e1.trans (Ex.new hl)) (dp_row_of (sqT upd_same)) ?_
      rw [← hxl]
      exact g4.least
end
end TK

namespace TK
open PySem PySem.Spec PyProof.Rows L2 TH
local macro_rules | `(tactic| walk_at "rd1") => `(tactic| first
  | (with_reducible refine TH.w_seq ?_)
  | (with_reducible refine TH.w_asg ?_)
  | (with_reducible refine TH.w_ret ?_)
  | (with_reducible refine TH.w_drop ?_)
  | (with_reducible refine TH.w_ifS ?_)
  | (with_reducible refine TH.w_next ?_)
  | ((with_reducible refine TH.w_var (v := ?vv) ?hv ?_); (case hv => rfl))
  | (with_reducible refine TH.w_c ?_)
  | ((with_reducible refine TH.w_gname (σ' := ?ss) ?hs ?_); (case hs => (dsimp only [List.set]; rfl)))
  | (with_reducible refine TH.w_op ?_)
  | (with_reducible refine TH.w_un ?_)
  | (with_reducible refine TH.w_chain ?_)
  | (with_reducible refine TH.w_I0 ?_)
  | ((with_reducible refine TH.w_I ?hm ?_); (case hm => first | (exact TH.CMul.l (by omega) (by omega)) | (exact TH.CMul.r (by omega) (by omega)) | (exact TH.CDiv.mk (by omega) (by omega)) | (show (0 : Int) < _; omega) | (exact TH.CPow.mk (by omega) (by omega) (by decide))))
  | (with_reducible refine TH.w_U ?_)
  | (with_reducible refine TH.w_eqI ?_)
  | (with_reducible refine TH.w_neI ?_)
  | (with_reducible refine TH.w_eqB ?_)
  | (with_reducible refine TH.w_isN ?_)
  | (with_reducible refine TH.w_nil ?_)
  | (with_reducible refine TH.w_cons ?_)
  | (with_reducible refine TH.w_test ?_)
  | (with_reducible refine TH.w_B ?_)
  | (with_reducible refine TH.w_bl ?_)
  | (with_reducible refine TH.w_and ?_)
  | (with_reducible refine TH.w_or ?_)
  | (with_reducible refine TH.w_not ?_)
  | (with_reducible refine TH.w_andV ?_)
  | (with_reducible refine TH.w_orV ?_)
  | (with_reducible refine TH.w_notV ?_)
  | (with_reducible refine TH.w_if ?_)
  | (with_reducible refine TH.w_parT ?_)
  | (with_reducible refine TH.w_par ?_)
  | (with_reducible refine TH.w_parT3 ?_)
  | (with_reducible refine TH.w_par3 ?_)
  | (with_reducible refine TH.w_cb ?_)
  | (with_reducible refine TH.w_call ?_)
  | ((with_reducible refine TH.w_aug (v := ?vv) ?hv ?_); (case hv => rfl))
  | (with_reducible refine TH.w_ip ?_)
  | (with_reducible refine TH.w_bm ?_)
  | (with_reducible refine TH.w_sl ?_)
  | (with_reducible refine TH.w_np ?_)
  | (with_reducible refine TH.w_pt ?_)
  | (with_reducible refine TH.w_pti ?_)
  | (with_reducible refine TH.w_gsub ?_)
  | (with_reducible refine TH.w_int ?_)
  | (with_reducible refine TH.w_tupT ?_)
  | (with_reducible refine TH.w_lstT ?_)
  | ((with_reducible show L2.rIxL _ _ _ _ _); (first | (refine TH.w_ixL (TH.sqL upd_same) rfl ?_) | (refine TH.w_ixL (TH.sqL (by assumption)) rfl ?_)))
  | ((with_reducible show L2.rSetL _ _ _ _ _); (first | (refine TH.w_set1 upd_same ?_) | (refine TH.w_set2 upd_same ?_) | (refine TH.w_set3 upd_same ?_) | (refine TH.w_set4 upd_same ?_) | (refine TH.w_set1 (by assumption) ?_) | (refine TH.w_set2 (by assumption) ?_) | (refine TH.w_set3 (by assumption) ?_) | (refine TH.w_set4 (by assumption) ?_)))
  | (with_reducible refine TH.w_lc ?_)
  | (with_reducible refine TH.w_dc ?_)
  | (with_reducible refine TH.w_itup ?_)
  | (with_reducible refine TH.w_ilist ?_)
  | (with_reducible refine TH.w_ienum ?_)
  | (with_reducible refine TH.w_izip ?_)
  | (with_reducible refine TH.w_irng1 ?_)
  | (with_reducible refine TH.w_irng2 ?_)
  | (with_reducible refine TH.w_for ?_)
  | (with_reducible refine TH.w_gcons ?_)
  | (with_reducible refine TH.w_gnil ?_)
  | (with_reducible refine TH.w_yes ?_)
  | (with_reducible refine TH.w_gtup2 upd_same ?_)
  | (with_reducible refine TH.w_gtup3 upd_same ?_)
  | (with_reducible refine TH.w_dput ?_)
  | (with_reducible refine TH.w_bm0 ?_)
  | (with_reducible refine TH.w_din ?_)
  | (with_reducible refine TH.w_dnotin ?_)
  | (with_reducible refine TH.w_dispK ?_)
  | (with_reducible refine TH.w_lock ?_)
  | (with_reducible refine TH.w_ikeys ?_)
  | (with_reducible refine TH.w_iitems ?_)
  | (with_reducible refine TH.w_dispT1 ?_)
  | (with_reducible refine TH.w_dnewT ?_)
  | (with_reducible refine TH.w_dnewK ?_)
  | (with_reducible refine TH.w_fld ?_)
  | (with_reducible refine TH.w_sfld ?_)
  | (with_reducible refine TH.w_meth ?_)
  | (with_reducible refine TH.w_make ?_)
  | (with_reducible refine TH.w_dget2 ?_)
  | (with_reducible refine TH.w_revL ?_)
  | (with_reducible refine TH.w_revT ?_)
  | (with_reducible refine TH.w_lstRg ?_)
  | (with_reducible refine TH.w_tupRg ?_)
  | (with_reducible refine TH.w_rg1 ?_)
  | (with_reducible refine TH.w_rg2 ?_)
  | (with_reducible refine TH.w_T ?_)
  | (with_reducible refine TH.w_F ?_))
local macro_rules | `(tactic| walk_at "rd") => `(tactic| repeat (first | walk_at "rd1" | (dsimp only [List.set, L2.wipe, List.map, TH.isInt, TH.isBool, TH.isTup, TH.isLst, TH.bo_f, TH.bo_t, TH.ba_f, TH.ba_t, TH.bn_t, TH.bn_f, List.append_nil, List.cons_append, List.nil_append])))

/-! ### plain: the determinant along the first row -/
def skip (k j : Nat) : Nat := if j < k then j else j + 1
theorem S_comp {R : DT.Vec} {g : Nat → Nat} : ∀ (ix : List Nat) (F F' : List Nat → Int), (∀ x, F x = F' (x.map g)) → DT.S (fun j => R (g j)) F ix = DT.S R F' (ix.map g)
  | [], _, _, _ => rfl
  | c :: ix, F, F', h => by
    show R (g c) * F ix - DT.S _ (fun x => F (c :: x)) ix = R (g c) * F' (ix.map g) - DT.S R (fun x => F' (g c :: x)) (ix.map g)
    rw [h ix, S_comp ix (fun x => F (c :: x)) (fun x => F' (g c :: x)) fun x => h (c :: x)]
theorem det_comp {g : Nat → Nat} : ∀ (M : List DT.Vec) (ix : List Nat), DT.det (M.map fun R j => R (g j)) ix = DT.det M (ix.map g)
  | [], [] => rfl
  | [], _ :: _ => rfl
  | R :: M, ix => S_comp ix _ _ fun x => det_comp M x
theorem range_skip {m k : Nat} (hk : k ≤ m) : (List.range m).map (skip k) = (List.range (m + 1)).eraseIdx k := by
  refine List.ext_getElem? fun i => ?_
  rw [List.getElem?_map, List.getElem?_eraseIdx]
  by_cases hi : i < m
  · rw [List.getElem?_range hi]
    show some (skip k i) = _
    unfold skip
    split
    · rw [List.getElem?_range (by omega)]
    · rw [List.getElem?_range (by omega)]
  · rw [List.getElem?_eq_none (by rw [List.length_range]; omega)]
    split
    · omega
    · rw [List.getElem?_eq_none (by rw [List.length_range]; omega)]
      rfl
theorem vec_erase (x : List Int) (k j : Nat) : vec (x.eraseIdx k) j = vec x (skip k j) := by
  unfold vec skip
  rw [List.getD_eq_getElem?_getD, List.getD_eq_getElem?_getD, List.getElem?_eraseIdx]
  split <;> rfl
def lapT (r : List Int) (rs : List (List Int)) (m k : Nat) : Int := (-1) ^ k * (r.getD k 0 * detL (rs.map fun x => x.eraseIdx k) (List.range m))
theorem det_lap {r : List Int} {rs : List (List Int)} {m : Nat} : detL (r :: rs) (List.range (m + 1)) = ((List.range (m + 1)).map (lapT r rs m)).sum := by
  show DT.S (vec r) (DT.det (rs.map vec)) (List.range (m + 1)) = _
  rw [DT.S_places, List.length_range]
  congr 1
  refine List.map_congr_left fun k hk => ?_
  have hk := List.mem_range.mp hk
  unfold lapT
  have e1 : (List.range (m + 1)).getD k 0 = k := by
    rw [List.getD_eq_getElem?_getD, List.getElem?_range hk]
    rfl
  rw [e1, ← range_skip (by omega), ← det_comp]
  have e2 : (rs.map vec).map (fun R j => R (skip k j)) = (rs.map fun x => x.eraseIdx k).map vec := by
    rw [List.map_map, List.map_map]
    refine List.map_congr_left fun x _ => ?_
    funext j
    exact (vec_erase x k j).symm
  rw [e2]
  rfl
theorem pow_sign : ∀ k : Nat, (-1 : Int) ^ k = 1 ∨ (-1 : Int) ^ k = -1
  | 0 => .inl rfl
  | k + 1 => by
    rw [Int.pow_succ]
    rcases pow_sign k with h | h <;> rw [h]
    · exact .inr rfl
    · exact .inl rfl
theorem erase_cut {xs : List Int} {k : Nat} : xs.take k ++ xs.drop (k + 1) = xs.eraseIdx k := (List.eraseIdx_eq_take_drop_succ xs k).symm
theorem rin_erase {n : Int} {m k : Nat} {x : List Int} (h : Rin n (m + 1) x) (hk : k ≤ m) : Rin n m (x.eraseIdx k) := ⟨by rw [List.length_eraseIdx, if_pos (by rw [h.1]; omega), h.1]; rfl, fun y hy => h.2 y (List.mem_of_mem_eraseIdx hy)⟩
variable {P : Program} {w : World} {K : PySem.W.Frag} {mg : Str → Option Value} {base : Heap}
theorem w_cutT {H : Hp} {Q : VK} {a : Addr} {xs : List V} {k : Nat} (h : SqT K H a xs) (hk : k ≤ xs.length) (q : ∀ b H', Ex H H' → SqT K H' b (xs.take k) → Q (.ref b) H') : rSlA K (.ref a) none (some (k : Int)) H Q := by
  refine ⟨a, xs, rfl, h, fun hw => ?_, fun hw p hp => ?_⟩
  · rw [HT.sIx_nat] at hw
    have e : k = xs.length := by omega
    refine q a H (Ex.refl _) ?_
    rw [e, List.take_length]
    exact h
  · have e : cutV xs none (some (k : Int)) = xs.take k := by
      unfold cutV
      rw [HT.sIx_nat, HT.sIx_none, List.drop_zero]
      have : min k xs.length - 0 = k := by omega
      rw [this]
    rw [e]
    exact q p _ (Ex.new hp) (sqT upd_same)
theorem w_catRow {H : Hp} {Q : VK} {v u : V} {ns ms : List Int} (hv : Dp K H v (row ns)) (hu : Dp K H u (row ms)) (hz : ns.length + ms.length ≤ 1000000) (q : ∀ r H', Ex H H' → Dp K H' r (row (ns ++ ms)) → Q r H') : rCatA K v u H Q := by
  obtain ⟨a, rfl, ha⟩ := dp_row hv
  obtain ⟨b, rfl, hb⟩ := dp_row hu
  refine ⟨a, b, _, _, rfl, rfl, ha, hb, by rw [List.length_map, List.length_map]; exact small2 hz, fun h => ?_, fun h1 h2 => ?_, fun h1 h2 p hp => ?_⟩
  · have : ns = [] := by simpa using h
    subst this
    exact q _ H (Ex.refl _) hu
  · have : ms = [] := by simpa using h2
    subst this
    rw [List.append_nil] at q
    exact q _ H (Ex.refl _) hv
  · refine q _ _ (Ex.new hp) (dp_row_of ?_)
    rw [List.map_append]
    exact sqT upd_same
theorem w_cutD {H : Hp} {Q : VK} {a : Addr} {xs : List V} {k : Nat} (h : SqT K H a xs) (hk : k ≤ xs.length) (q : ∀ b H', Ex H H' → SqT K H' b (xs.drop k) → Q (.ref b) H') : rSlA K (.ref a) (some (k : Int)) none H Q := by
  refine ⟨a, xs, rfl, h, fun hw => ?_, fun hw p hp => ?_⟩
  · rw [HT.sIx_nat] at hw
    refine q a H (Ex.refl _) ?_
    by_cases hx : xs = []
    · rw [hx] at h ⊢
      rw [List.drop_nil]
      exact h
    · have : k = 0 := by
        have := List.length_pos_iff.mpr hx
        omega
      rw [this, List.drop_zero]
      exact h
  · have e : cutV xs (some (k : Int)) none = xs.drop k := by
      unfold cutV
      rw [HT.sIx_nat, HT.sIx_none, Nat.min_eq_left hk, List.take_of_length_le (by rw [List.length_drop]; exact Nat.le_refl _)]
    rw [e]
    exact q p _ (Ex.new hp) (sqT upd_same)
section
open LA
/-! _law_det(p, rows): along the first row -/
def sp_law_det (s : Nat) (K : PySem.W.Frag) : Sp := fun vs H Q _ => ∃ (n : Nat) (_ : NeZero n) (a : Addr) (xs : List V) (rs : List (List Int)), vs = [.int (n : Nat), .ref a] ∧ Clk n ∧ SqL K H a xs ∧ DpAll K H xs (rs.map row) ∧ rs.length < s ∧ rs.length ≤ 1000 ∧ (∀ r ∈ rs, Rin n rs.length r) ∧
  ∀ (d : Int) H', Ex H H' → 0 ≤ d → d < n → Cg n (detL rs (List.range rs.length)) d → Q (.int d) H'
theorem ok_law_det_no {f : Addr} {fd : FuncData} (F : C8.Def K mg "_law_det" s_law_det f fd) (b : Binds K fd ["p", "rows"] []) : C8.Cal P w K mg base 1 "_law_det" (sp_law_det 0 K) [] := by
  refine C8.cal0 F b .nil sc_law_det (fun vs H Q E h => ?_) (fun cdv A outer s H vs Q E hr h => ?_)
  · obtain ⟨n, _, a, xs, rs, rfl, _⟩ := h
    rfl
  · obtain ⟨n, inst, a, xs, rs, rfl, hc, ha, hda, hl, _⟩ := h
    omega
theorem ok_law_detS {s k : Nat} {f : Addr} {fd : FuncData} (F : C8.Def K mg "_law_det" s_law_det f fd) (b : Binds K fd ["p", "rows"] []) (T : Txt mg)
    (c_law_det : C8.Cal P w K mg base k "_law_det" (sp_law_det s K) []) : C8.Cal P w K mg base (k + 1) "_law_det" (sp_law_det (s + 1) K) [] := by
  refine C8.cal0 F b .nil sc_law_det (fun vs H Q E h => ?_) (fun cdv A outer sh H vs Q E hr h => ?_)
  · obtain ⟨n, _, a, xs, rs, rfl, _⟩ := h
    rfl
  · obtain ⟨n, inst, a, xs, rs, rfl, hc, ha, hda, hls, hl, hrs, q⟩ := h
    have n2 := hc.two
    have nm := hc.le
    have hxl : xs.length = rs.length := by rw [dpa_len hda, List.length_map]
    refine ⟨_, (pss_cons (ps_if (pt_cmpR op_eq (pe_callB (TH.kcall_len (K := K)) (by rfl) T.b_len (by decide +kernel) (pa_cons (pv 1) pa_nil)) pe_int (nomark _)) (pss_one (ps_ret pe_int)) pss_nil)
      (pss_cons (ps_asg (pe_tup (pa_cons pe_int (pa_cons pe_int pa_nil))) (TH.kpg_tup (K := K) (n := 2) rfl (pgs_cons (pg_name (i := 3) sc_law_det.nd rfl (Or.inl rfl) (Or.inr rfl)) (pgs_cons (pg_name (i := 4) sc_law_det.nd rfl (Or.inl rfl) (Or.inr rfl)) pgs_nil))))
      (pss_cons (ps_for PassesOwn.never rfl (pi_range1 (by rfl) T.b_range (pa_cons (pe_callB (TH.kcall_len (K := K)) (by rfl) T.b_len (by decide +kernel) (pa_cons (pv 1) pa_nil)) pa_nil)) (pg_name (i := 2) sc_law_det.nd rfl (Or.inr rfl) (Or.inl rfl)) (pss_cons (ps_setLc (i := 5) (own := [("row", 6)]) (g := gName 6) (tt := tYes) rfl sc_law_det.nd rfl rfl (sw_true rfl rfl rfl (by decide +kernel)) (TH.kpi_list (K := K) (pe_slice (TH.ksl_list (K := K)) (pv 1) (po_some pe_int) po_none)) (blkOk_by (own := [("row", 6)]) (N := N_law_det) (sc := C8.fnScope s_law_det) (by decide +kernel)) (fun _ _ _ _ _ => (pg_name (i := 6) sc_law_det.nd rfl (Or.inl rfl) (Or.inr rfl))) (fun _ _ _ _ _ => pts_nil) (fun _ _ _ _ _ => (pe_op (TH.kop_catA (K := K)) (pe_slice (TH.ksl_tup (K := K)) (pv 6) po_none (po_some (pv 2))) (pe_slice (TH.ksl_tup (K := K)) (pv 6) (po_some (pe_op op_add (pv 2) pe_int)) po_none))))
      (pss_cons (ps_set (i := 3) sc_law_det.nd rfl (Or.inl rfl) (pe_op op_add (pv 3) (pe_op op_mul (pe_op op_mul (pv 4) (pe_ix (TH.kix_tup (K := K)) (pe_ix (TH.kix_list (K := K)) (pv 1) pe_int (fun _ _ => rfl)) (pv 2) (fun _ _ => rfl))) (C8.pe_c c_law_det hr (by first | decide | exact Nat.le_refl _) (by rfl) (pa_cons (pv 0) (pa_cons (pv 5) pa_nil))))))
      (pss_one (ps_set (i := 4) sc_law_det.nd rfl (Or.inl rfl) (pe_un un_neg (pv 4)))))))
      (pss_one (ps_ret (pe_op op_mod (pe_callTy call_int1 (by rfl) T.b_int (by decide +kernel) (pa_cons (pv 3) pa_nil)) (pv 0))))))), ?_⟩
    refine w_start (σ' := [some (.int n), some (.ref a), none, none, none, none, none]) rfl ?_
    walk_at "rd"
    refine ⟨a, xs, rfl, .inl ha, ?_⟩
    rw [hxl]
    walk_at "rd"
    refine w_dec (fun h0 => ?_) (fun h0 => ?_)
    · have hn : rs = [] := List.length_eq_zero_iff.mp (by omega)
      subst hn
      walk_at "rd"
      exact q 1 H (Ex.refl _) (by omega) (by omega) (.refl _ _)
    · obtain ⟨r, rs', rfl⟩ : ∃ r rs', rs = r :: rs' := by
        cases rs with
        | nil => exact absurd rfl h0
        | cons r rs' => exact ⟨r, rs', rfl⟩
      generalize hm : rs'.length = m at *
      have hml : (r :: rs').length = m + 1 := by rw [List.length_cons, hm]
      rw [hml] at hrs hl hls hxl
      have hr0 := hrs r List.mem_cons_self
      walk_at "rd"
      refine w_dispT (by simp) fun tp htp => ?_
      refine w_gtup2 upd_same ?_
      have e0 : Ex H (upd H tp (.tup [V.int 0, V.int 1])) := Ex.new htp
      generalize upd H tp (.tup [V.int 0, V.int 1]) = H0 at e0 ⊢
      walk_at "rd"
      refine ⟨a, xs, rfl, .inl (e0.l ha), ?_⟩
      rw [hxl]
      refine w_isrng (by omega) (by omega) ?_
      refine for_go walk_rng (fun i σ H' => Ex H H' ∧ ∃ (fo : Int) (y2 y5 y6 : Option V), σ = [some (.int n), some (.ref a), y2, some (.int fo), some (.int ((-1) ^ i)), y5, none] ∧ Cg n (((List.range i).map (lapT r rs' m)).sum) fo)
        ⟨e0, 0, _, _, none, rfl, .refl _ _⟩ (fun _ _ _ _ _ => trivial) (fun i x σ H1 H1' hi pp y => ?_) (fun σ H1 pp => ?_)
      · obtain ⟨e1, fo, y2, y5, y6, rfl, hfo⟩ := pp
        obtain ⟨rfl, rfl⟩ := y
        rw [Int.toNat_natCast] at hi
        have hsg := pow_sign i
        walk_at "rd"
        refine ⟨a, xs, rfl, e1.l ha, fun p1 hp1 => ?_⟩
        have ecut : cutV xs (some 1) none = xs.drop 1 := by
          unfold cutV
          rw [show HT.sIx xs.length 0 (some 1) = 1 by rw [show (1 : Int) = ((1 : Nat) : Int) from rfl, HT.sIx_nat]; omega, HT.sIx_none, List.take_of_length_le (by rw [List.length_drop]; exact Nat.le_refl _)]
        rw [ecut]
        have e2 : Ex H1' (upd H1' p1 (.lst (xs.drop 1))) := Ex.new hp1
        have u2 : upd H1' p1 (.lst (xs.drop 1)) p1 = some (.lst (xs.drop 1)) := upd_same
        generalize upd H1' p1 (.lst (xs.drop 1)) = H2 at e2 u2 ⊢
        have e02 := e1.trans e2
        have hd2 : DpAll K H2 (xs.drop 1) (rs'.map row) := by
          have := e02.dpa hda
          cases this with
          | cons h1 h2 => exact h2
        have hdl : (xs.drop 1).length = m := by rw [List.length_drop, hxl]; rfl
        refine ⟨p1, rfl, ⟨_, sqL u2⟩, fun Dl hD => ?_⟩
        refine lc_data (K := K) walk_list (fun _ => true) (fun j => row ((rs'.getD j []).eraseIdx i)) (fun _ => imm_row _) (fun H' e => sqL (e _ _ u2)) hD (by omega) (fun j x H3 H4 hj e y R R0 k _ => ?_) (fun H3 ws e3 hws hdw => ?_)
        · obtain ⟨rfl, hx⟩ := y
          obtain ⟨z, hz1, hz2⟩ := rowsAt_get (e.dpa hd2) hx
          have hzr := hrs z (List.mem_cons_of_mem _ (List.mem_of_getElem? hz1))
          have hzl := hzr.1
          obtain ⟨za, rfl, hza⟩ := dp_row hz2
          walk_at "rd"
          refine ⟨rfl, ?_⟩
          walk_at "rd"
          refine w_cutT hza (by rw [List.length_map]; omega) fun c1 H5 e5 hc1 => ?_
          walk_at "rd"
          have ei : ((i : Nat) : Int) + 1 = ((i + 1 : Nat) : Int) := by omega
          rw [ei]
          refine w_cutD (e5.t hza) (by rw [List.length_map]; omega) fun c2 H6 e6 hc2 => ?_
          rw [← List.map_take] at hc1
          rw [← List.map_drop] at hc2
          refine w_catRow (dp_row_of (e6.t hc1)) (dp_row_of hc2) (by rw [List.length_take, List.length_drop]; omega) fun v H7 e7 hv => ?_
          refine k rfl _ _ (e5.trans (e6.trans e7)) ?_
          rw [getD_of hz1, ← erase_cut]
          exact hv
        · rw [made_all, hdl, ← hm, range_map [] (fun z : List Int => row (z.eraseIdx i))] at hdw
          have ec : rs'.map (fun z : List Int => row (z.eraseIdx i)) = (rs'.map fun z => z.eraseIdx i).map row := by
            rw [List.map_map]
            rfl
          rw [ec] at hdw
          have e03 := e02.trans e3
          obtain ⟨v0, hv0, hd0⟩ := dpa_getD (i := 0) (d := row r) (e03.dpa hda) rfl
          obtain ⟨ra, rfl, hra⟩ := dp_row hd0
          walk_at "rd"
          refine w_ixL (e03.l ha) (atI_at (j := 0) hv0) ?_
          walk_at "rd"
          have hrv := rin_at hc hr0 i
          refine w_ixT hra (atI_int (getD_at (i := i) (d := 0) (by rw [hr0.1]; exact hi))) ?_
          refine w_I (CMul.l (by omega) (by omega)) ?_
          walk_at "rd"
          refine ⟨n, inst, Dl, ws, rs'.map fun z => z.eraseIdx i, rfl, hc, sqL hws, hdw, by rw [List.length_map]; omega, by rw [List.length_map]; omega, fun z hz => ?_, fun d H4 e4 d0 d1 hdd => ?_⟩
          · obtain ⟨z0, hz0, rfl⟩ := List.mem_map.mp hz
            rw [List.length_map, hm]
            exact rin_erase (hrs z0 (List.mem_cons_of_mem _ hz0)) (by omega)
          · rw [List.length_map, hm] at hdd
            refine w_I (CMul.r (by omega) (by omega)) ?_
            walk_at "rd"
            refine ⟨e03.trans e4, _, _, _, none, by rw [show (-1 : Int) ^ (i + 1) = - ((-1) ^ i) by rw [Int.pow_succ]; omega], ?_⟩
            rw [List.range_succ, List.map_append, List.sum_append]
            refine hfo.add ?_
            show Cg n (lapT r rs' m i + 0) _
            rw [Int.add_zero]
            unfold lapT
            have := hdd.mul ((-1) ^ i * r.getD i 0)
            rw [Int.mul_assoc] at this
            exact this
      · obtain ⟨e1, fo, y2, y5, y6, rfl, hfo⟩ := pp
        rw [Int.toNat_natCast, ← det_lap] at hfo
        walk_at "rd"
        refine q _ H1 e1 (Int.emod_nonneg _ (by omega)) (Int.emod_lt_of_pos _ (by omega)) ?_
        rw [hml]
        exact hfo.trans (Cg.mod _ _).symm
end
end TK

namespace TK
open PySem PySem.Spec PyProof.Rows L2 TH
/-! ### plain: products, triangles, exchanges -/
theorem cg_uniq {n x d e : Int} (hd : 0 ≤ d ∧ d < n) (he : 0 ≤ e ∧ e < n) (h1 : Cg n x d) (h2 : Cg n x e) : d = e := by
  have := Cg.iff.mp (h1.symm.trans h2)
  rwa [Int.emod_eq_of_lt hd.1 hd.2, Int.emod_eq_of_lt he.1 he.2] at this
theorem lin_sum {B : Nat → DT.Vec} {a : DT.Vec} {j : Nat} : ∀ cs : List Nat, DT.lin B a cs j = (cs.map fun k => a k * B k j).sum
  | [] => rfl
  | c :: cs => by
    show a c * B c j + DT.lin B a cs j = _
    rw [lin_sum cs]
    rfl
theorem prod_det {n : Int} {m : Nat} {rs ss : List (List Int)} (h1 : rs.length = m) (h2 : ss.length = m) (hr : ∀ r ∈ rs, r.length = m) (hs : ∀ s ∈ ss, s.length = m) : Cg n (detL (prodI n rs ss) (List.range m)) (detL rs (List.range m) * detL ss (List.range m)) := by
  have hc : DT.Cong n (List.range m) ((prodI n rs ss).map vec) ((rs.map vec).map fun a => DT.lin (fun k => vec (ss.getD k [])) a (List.range m)) := by
    unfold prodI
    rw [List.map_map, List.map_map]
    refine cong_map fun r hr' j _ => ?_
    refine Cg.iff.mp ?_
    show Cg n ((sumI n (List.replicate ss.length 0) ss r).getD j 0) (DT.lin (fun k => vec (ss.getD k [])) (vec r) (List.range m) j)
    rw [lin_sum, h2]
    refine (sumI_cg (wide := m) (by simp) hs (by rw [hr r hr', h2])).trans (.of ?_)
    rw [rep_at, Int.zero_add]
    unfold mixZ
    rw [h2]
    rfl
  have e1 := Cg.iff.mpr (DT.det_mod hc (List.range m) fun _ h => h)
  have e2 := DT.det_prod (B := fun k => vec (ss.getD k [])) (as := rs.map vec) (cs := List.range m) (cols := List.range m) (by rw [List.length_map, List.length_range, h1])
  rw [e2] at e1
  have e3 : (List.range m).map (fun k => vec (ss.getD k [])) = ss.map vec := by
    rw [← h2]
    exact range_map [] vec ss
  rw [e3] at e1
  exact e1
def diagP : Nat → List (List Int) → Int
  | _, [] => 1
  | a, r :: us => r.getD a 0 * diagP (a + 1) us
theorem diagP_snoc : ∀ (us : List (List Int)) (a : Nat) (r : List Int), diagP a (us ++ [r]) = diagP a us * r.getD (a + us.length) 0
  | [], a, r => by
    show r.getD a 0 * 1 = 1 * r.getD a 0
    omega
  | u :: us, a, r => by
    show u.getD a 0 * diagP (a + 1) (us ++ [r]) = u.getD a 0 * diagP (a + 1) us * r.getD (a + (us.length + 1)) 0
    rw [diagP_snoc us, Int.mul_assoc, show a + 1 + us.length = a + (us.length + 1) by omega]
theorem upper_det {m : Nat} : ∀ (us : List (List Int)) (a : Nat), a + us.length = m → (∀ k r, us[k]? = some r → ∀ j, j < a + k → r.getD j 0 = 0) → detL us (colsF m a) = diagP a us
  | [], a, h, _ => by
    have : a = m := by simpa using h
    rw [this, cols_end]
    rfl
  | r :: us, a, h, hz => by
    have h' : a + (us.length + 1) = m := h
    rw [cols_cons (m := m) (a := a) (by omega)]
    have ih := upper_det (m := m) us (a + 1) (by omega) fun k x hx j hj => hz (k + 1) x (by simpa using hx) j (by omega)
    have := DT.det_tri (r := vec r) (rs := us.map vec) (c := a) (cs := colsF m (a + 1)) fun s hs => by
      obtain ⟨x, hx, rfl⟩ := List.mem_map.mp hs
      obtain ⟨k, hk⟩ := List.mem_iff_getElem?.mp hx
      exact hz (k + 1) x (by simpa using hk) a (by omega)
    show DT.det (vec r :: us.map vec) (a :: colsF m (a + 1)) = r.getD a 0 * diagP (a + 1) us
    rw [this]
    show r.getD a 0 * detL us (colsF m (a + 1)) = _
    rw [ih]
theorem lower_det {m : Nat} : ∀ (us : List (List Int)) (a : Nat), a + us.length = m → (∀ k r, us[k]? = some r → r.getD (a + k) 0 = 1 ∧ ∀ j, a + k < j → r.getD j 0 = 0) → detL us (colsF m a) = 1
  | [], a, h, _ => by
    have : a = m := by simpa using h
    rw [this, cols_end]
    rfl
  | r :: us, a, h, hz => by
    have h' : a + (us.length + 1) = m := h
    rw [cols_cons (m := m) (a := a) (by omega)]
    have ih := lower_det (m := m) us (a + 1) (by omega) fun k x hx => by
      have := hz (k + 1) x (by simpa using hx)
      rw [show a + (k + 1) = a + 1 + k by omega] at this
      exact this
    obtain ⟨h1, h2⟩ := hz 0 r rfl
    have := DT.det_low (r := vec r) (rs := us.map vec) (c := a) (cs := colsF m (a + 1)) fun x hx => by
      refine h2 x ?_
      unfold colsF at hx
      obtain ⟨i, hi⟩ := List.mem_iff_getElem?.mp hx
      rw [List.getElem?_drop] at hi
      have hl := (List.getElem?_eq_some_iff.mp hi).1
      rw [List.length_range] at hl
      rw [List.getElem?_range hl] at hi
      cases hi
      omega
    show DT.det (vec r :: us.map vec) (a :: colsF m (a + 1)) = 1
    rw [this]
    show r.getD (a + 0) 0 * detL us (colsF m (a + 1)) = 1
    rw [ih, h1]
    rfl
theorem exch_det {xs : List (List Int)} {i k : Nat} {x y : List Int} {cs : List Nat} (hi : xs[i]? = some x) (hk : xs[k]? = some y) (hik : i < k) : detL ((xs.set i y).set k x) cs = - detL xs cs := by
  obtain ⟨mid, post, e1, e2⟩ := drop_swap hi hk hik
  have t1 : xs = xs.take i ++ x :: (mid ++ y :: post) := by rw [← e1, List.take_append_drop]
  have t2 : (xs.set i y).set k x = xs.take i ++ y :: (mid ++ x :: post) := by
    rw [← e2]
    have : xs.take i = ((xs.set i y).set k x).take i := by
      refine List.ext_getElem? fun j => ?_
      rw [List.getElem?_take, List.getElem?_take]
      split
      · rw [List.getElem?_set_ne (by omega), List.getElem?_set_ne (by omega)]
      · rfl
    rw [this, List.take_append_drop]
  have h := DT.det_far (x := vec y) (y := vec x) ((xs.take i).map vec) (mid.map vec) (post.map vec) cs
  have a1 : detL ((xs.set i y).set k x) cs = DT.det ((xs.take i).map vec ++ vec y :: (mid.map vec ++ vec x :: post.map vec)) cs := by
    unfold detL
    rw [t2, List.map_append, List.map_cons, List.map_append, List.map_cons]
  have a2 : detL xs cs = DT.det ((xs.take i).map vec ++ vec x :: (mid.map vec ++ vec y :: post.map vec)) cs := by
    unfold detL
    conv => lhs; rw [t1]
    rw [List.map_append, List.map_cons, List.map_append, List.map_cons]
  rw [a1, a2, h]
/-- an exchange of two rows, one after the other written -/
theorem exch_any {xs : List (List Int)} {i k : Nat} {x y : List Int} {cs : List Nat} (hi : xs[i]? = some x) (hk : xs[k]? = some y) : detL ((xs.set i y).set k x) cs = if i = k then detL xs cs else - detL xs cs := by
  by_cases e : i = k
  · subst e
    rw [hi] at hk
    cases hk
    rw [if_pos rfl, List.set_set]
    congr 1
    refine List.ext_getElem? fun j => ?_
    by_cases hj : i = j
    · subst hj
      rw [List.getElem?_set_self (List.getElem?_eq_some_iff.mp hi).1, hi]
    · rw [List.getElem?_set_ne hj]
  · rw [if_neg e]
    rcases Nat.lt_or_gt_of_ne e with h | h
    · exact exch_det hi hk h
    · rw [List.set_comm _ _ e]
      exact exch_det hk hi h
/-- the triangles as they grow -/
structure UpLo (n : Int) (m i : Nat) (us ls : List (List Int)) (fo : Int) : Prop where
  ul : us.length = i
  ll : ls.length = i
  ur : ∀ r ∈ us, Rin n m r
  lr : ∀ r ∈ ls, Rin n m r
  uz : ∀ (k : Nat) (r : List Int), us[k]? = some r → ∀ j, j < 0 + k → r.getD j 0 = 0
  lz : ∀ (k : Nat) (r : List Int), ls[k]? = some r → r.getD (0 + k) 0 = 1 ∧ ∀ j, 0 + k < j → r.getD j 0 = 0
  frn : 0 ≤ fo ∧ fo < n
  dg : Cg n (diagP 0 us) fo
theorem cat3_at {as bs : List Int} {v : Int} (j : Nat) : (as ++ v :: bs).getD j 0 = if j < as.length then as.getD j 0 else if j = as.length then v else bs.getD (j - as.length - 1) 0 := by
  rw [List.getD_eq_getElem?_getD]
  by_cases h : j < as.length
  · rw [if_pos h, List.getElem?_append_left h, ← List.getD_eq_getElem?_getD]
  · rw [if_neg h, List.getElem?_append_right (by omega)]
    by_cases h2 : j = as.length
    · rw [if_pos h2, h2, Nat.sub_self]
      rfl
    · rw [if_neg h2]
      obtain ⟨e, he⟩ : ∃ e, j - as.length = e + 1 := ⟨j - as.length - 1, by omega⟩
      rw [he, List.getElem?_cons_succ, ← List.getD_eq_getElem?_getD]
      rfl
theorem UpLo.step {n : Int} (n1 : 1 < n) {m i : Nat} {us ls : List (List Int)} {fo v : Int} {ds es : List Int} (h : UpLo n m i us ls fo) (hi : i < m) (hv : 0 ≤ v ∧ v < n) (hd : ds.length = m - i - 1) (hd2 : ∀ x ∈ ds, 0 ≤ x ∧ x < n) (he : es.length = i) (he2 : ∀ x ∈ es, 0 ≤ x ∧ x < n) :
    UpLo n m (i + 1) (us ++ [List.replicate i 0 ++ v :: ds]) (ls ++ [es ++ 1 :: List.replicate (m - i - 1) 0]) ((fo * v) % n) := by
  have rep : ∀ (k : Nat), ∀ x ∈ List.replicate k (0 : Int), 0 ≤ x ∧ x < n := fun k x hx => by
    rw [(List.mem_replicate.mp hx).2]
    omega
  have snoc : ∀ {xs : List (List Int)} {y r : List Int} {k : Nat}, (xs ++ [y])[k]? = some r → xs[k]? = some r ∨ (k = xs.length ∧ r = y) := fun {xs y r k} hk => by
    by_cases hl : k < xs.length
    · rw [List.getElem?_append_left hl] at hk
      exact .inl hk
    · rw [List.getElem?_append_right (by omega)] at hk
      have h0 : k - xs.length = 0 := by
        have := (List.getElem?_eq_some_iff.mp hk).1
        rw [List.length_singleton] at this
        omega
      rw [h0] at hk
      cases hk
      exact .inr ⟨by omega, rfl⟩
  refine ⟨by rw [List.length_append, h.ul]; rfl, by rw [List.length_append, h.ll]; rfl, fun r hr => ?_, fun r hr => ?_, fun k r hk j hj => ?_, fun k r hk => ?_, ⟨Int.emod_nonneg _ (by omega), Int.emod_lt_of_pos _ (by omega)⟩, ?_⟩
  · rcases List.mem_append.mp hr with m1 | m1
    · exact h.ur r m1
    · rw [List.mem_singleton.mp m1]
      refine ⟨by rw [List.length_append, List.length_replicate, List.length_cons, hd]; omega, fun x hx => ?_⟩
      rcases List.mem_append.mp hx with m2 | m2
      · exact rep _ x m2
      · rcases List.mem_cons.mp m2 with e | m3
        · rw [e]; exact hv
        · exact hd2 x m3
  · rcases List.mem_append.mp hr with m1 | m1
    · exact h.lr r m1
    · rw [List.mem_singleton.mp m1]
      refine ⟨by rw [List.length_append, List.length_cons, List.length_replicate, he]; omega, fun x hx => ?_⟩
      rcases List.mem_append.mp hx with m2 | m2
      · exact he2 x m2
      · rcases List.mem_cons.mp m2 with e | m3
        · rw [e]; omega
        · exact rep _ x m3
  · rcases snoc hk with h1 | ⟨h1, h2⟩
    · exact h.uz k r h1 j hj
    · rw [h2, cat3_at, List.length_replicate, if_pos (by rw [h.ul] at h1; omega), rep_at]
  · rcases snoc hk with h1 | ⟨h1, h2⟩
    · exact h.lz k r h1
    · rw [h.ll] at h1
      refine ⟨?_, fun j hj => ?_⟩
      · rw [h2, cat3_at, he, if_neg (by omega), if_pos (by omega)]
      · rw [h2, cat3_at, he, if_neg (by omega), if_neg (by omega), rep_at]
  · rw [diagP_snoc, h.ul, cat3_at, List.length_replicate, if_neg (by omega), if_pos (by omega)]
    have := h.dg.mul v
    rw [Int.mul_comm, Int.mul_comm v fo] at this
    exact this.trans (Cg.mod n (fo * v)).symm
theorem UpLo.done {n : Int} {m : Nat} {us ls : List (List Int)} {fo : Int} (h : UpLo n m m us ls fo) : Cg n (detL (prodI n ls us) (List.range m)) fo := by
  have hp := prod_det (n := n) h.ll h.ul (fun r hr => (h.lr r hr).1) fun r hr => (h.ur r hr).1
  have e0 : colsF m 0 = List.range m := List.drop_zero
  have u := upper_det (m := m) us 0 (by rw [h.ul]; omega) h.uz
  have l := lower_det (m := m) ls 0 (by rw [h.ll]; omega) h.lz
  rw [e0] at u l
  rw [u, l, Int.one_mul] at hp
  exact hp.trans h.dg
end TK

namespace TK
open PySem PySem.Spec PyProof.Rows L2 TH
local macro_rules | `(tactic| walk_at "rd1") => `(tactic| first
  | (with_reducible refine TH.w_seq ?_)
  | (with_reducible refine TH.w_asg ?_)
  | (with_reducible refine TH.w_ret ?_)
  | (with_reducible refine TH.w_drop ?_)
  | (with_reducible refine TH.w_ifS ?_)
  | (with_reducible refine TH.w_next ?_)
  | ((with_reducible refine TH.w_var (v := ?vv) ?hv ?_); (case hv => rfl))
  | (with_reducible refine TH.w_c ?_)
  | ((with_reducible refine TH.w_gname (σ' := ?ss) ?hs ?_); (case hs => (dsimp only [List.set]; rfl)))
  | (with_reducible refine TH.w_op ?_)
  | (with_reducible refine TH.w_un ?_)
  | (with_reducible refine TH.w_chain ?_)
  | (with_reducible refine TH.w_I0 ?_)
  | ((with_reducible refine TH.w_I ?hm ?_); (case hm => first | (exact TH.CMul.l (by omega) (by omega)) | (exact TH.CMul.r (by omega) (by omega)) | (exact TH.CDiv.mk (by omega) (by omega)) | (show (0 : Int) < _; omega) | (exact TH.CPow.mk (by omega) (by omega) (by decide))))
  | (with_reducible refine TH.w_U ?_)
  | (with_reducible refine TH.w_eqI ?_)
  | (with_reducible refine TH.w_neI ?_)
  | (with_reducible refine TH.w_eqB ?_)
  | (with_reducible refine TH.w_isN ?_)
  | (with_reducible refine TH.w_nil ?_)
  | (with_reducible refine TH.w_cons ?_)
  | (with_reducible refine TH.w_test ?_)
  | (with_reducible refine TH.w_B ?_)
  | (with_reducible refine TH.w_bl ?_)
  | (with_reducible refine TH.w_and ?_)
  | (with_reducible refine TH.w_or ?_)
  | (with_reducible refine TH.w_not ?_)
  | (with_reducible refine TH.w_andV ?_)
  | (with_reducible refine TH.w_orV ?_)
  | (with_reducible refine TH.w_notV ?_)
  | (with_reducible refine TH.w_if ?_)
  | (with_reducible refine TH.w_parT ?_)
  | (with_reducible refine TH.w_par ?_)
  | (with_reducible refine TH.w_parT3 ?_)
  | (with_reducible refine TH.w_par3 ?_)
  | (with_reducible refine TH.w_cb ?_)
  | (with_reducible refine TH.w_call ?_)
  | ((with_reducible refine TH.w_aug (v := ?vv) ?hv ?_); (case hv => rfl))
  | (with_reducible refine TH.w_ip ?_)
  | (with_reducible refine TH.w_bm ?_)
  | (with_reducible refine TH.w_sl ?_)
  | (with_reducible refine TH.w_np ?_)
  | (with_reducible refine TH.w_pt ?_)
  | (with_reducible refine TH.w_pti ?_)
  | (with_reducible refine TH.w_gsub ?_)
  | (with_reducible refine TH.w_int ?_)
  | (with_reducible refine TH.w_tupT ?_)
  | (with_reducible refine TH.w_lstT ?_)
  | ((with_reducible show L2.rIxL _ _ _ _ _); (first | (refine TH.w_ixL (TH.sqL upd_same) rfl ?_) | (refine TH.w_ixL (TH.sqL (by assumption)) rfl ?_)))
  | ((with_reducible show L2.rSetL _ _ _ _ _); (first | (refine TH.w_set1 upd_same ?_) | (refine TH.w_set2 upd_same ?_) | (refine TH.w_set3 upd_same ?_) | (refine TH.w_set4 upd_same ?_) | (refine TH.w_set1 (by assumption) ?_) | (refine TH.w_set2 (by assumption) ?_) | (refine TH.w_set3 (by assumption) ?_) | (refine TH.w_set4 (by assumption) ?_)))
  | (with_reducible refine TH.w_lc ?_)
  | (with_reducible refine TH.w_dc ?_)
  | (with_reducible refine TH.w_itup ?_)
  | (with_reducible refine TH.w_ilist ?_)
  | (with_reducible refine TH.w_ienum ?_)
  | (with_reducible refine TH.w_izip ?_)
  | (with_reducible refine TH.w_irng1 ?_)
  | (with_reducible refine TH.w_irng2 ?_)
  | (with_reducible refine TH.w_for ?_)
  | (with_reducible refine TH.w_gcons ?_)
  | (with_reducible refine TH.w_gnil ?_)
  | (with_reducible refine TH.w_yes ?_)
  | (with_reducible refine TH.w_gtup2 upd_same ?_)
  | (with_reducible refine TH.w_gtup3 upd_same ?_)
  | (with_reducible refine TH.w_dput ?_)
  | (with_reducible refine TH.w_bm0 ?_)
  | (with_reducible refine TH.w_din ?_)
  | (with_reducible refine TH.w_dnotin ?_)
  | (with_reducible refine TH.w_dispK ?_)
  | (with_reducible refine TH.w_lock ?_)
  | (with_reducible refine TH.w_ikeys ?_)
  | (with_reducible refine TH.w_iitems ?_)
  | (with_reducible refine TH.w_dispT1 ?_)
  | (with_reducible refine TH.w_dnewT ?_)
  | (with_reducible refine TH.w_dnewK ?_)
  | (with_reducible refine TH.w_fld ?_)
  | (with_reducible refine TH.w_sfld ?_)
  | (with_reducible refine TH.w_meth ?_)
  | (with_reducible refine TH.w_make ?_)
  | (with_reducible refine TH.w_dget2 ?_)
  | (with_reducible refine TH.w_revL ?_)
  | (with_reducible refine TH.w_revT ?_)
  | (with_reducible refine TH.w_lstRg ?_)
  | (with_reducible refine TH.w_tupRg ?_)
  | (with_reducible refine TH.w_rg1 ?_)
  | (with_reducible refine TH.w_rg2 ?_)
  | (with_reducible refine TH.w_T ?_)
  | (with_reducible refine TH.w_F ?_))
local macro_rules | `(tactic| walk_at "rd") => `(tactic| repeat (first | walk_at "rd1" | (dsimp only [List.set, L2.wipe, List.map, TH.isInt, TH.isBool, TH.isTup, TH.isLst, TH.bo_f, TH.bo_t, TH.ba_f, TH.ba_t, TH.bn_t, TH.bn_f, List.append_nil, List.cons_append, List.nil_append])))

variable {P : Program} {w : World} {K : PySem.W.Frag} {mg : Str → Option Value} {base : Heap}
theorem nat_lt {r : Int} {n : Nat} (h0 : 0 ≤ r) (h1 : r < (n : Int)) : ∃ m : Nat, r = m ∧ m < n := ⟨r.toNat, by omega, by omega⟩
theorem ints_of {lo hi : Int} : ∀ {ds : List D}, (∀ (i : Nat) (d : D), ds[i]? = some d → ∃ x : Int, d = .int x ∧ lo ≤ x ∧ x < hi) → ∃ ns : List Int, ds = ns.map PyData.int ∧ ∀ x ∈ ns, lo ≤ x ∧ x < hi
  | [], _ => ⟨[], rfl, fun x hx => nomatch hx⟩
  | d :: ds, h => by
    obtain ⟨x, rfl, hx⟩ := h 0 d rfl
    obtain ⟨ns, rfl, hns⟩ := ints_of (ds := ds) fun i d hd => h (i + 1) d (by simpa using hd)
    refine ⟨x :: ns, rfl, fun y hy => ?_⟩
    rcases List.mem_cons.mp hy with e | m
    · rw [e]; exact hx
    · exact hns y m
section
open LA
/-! _law_dets_right(hand) -/
def sp_dets (K : PySem.W.Frag) : Sp := fun vs H Q _ => ∃ (v : V), vs = [v] ∧ HandAt H v ∧ ∀ H', Ex H H' → Q (.bl true) H'
theorem ok_law_dets_right {f : Addr} {fd : FuncData} (F : C8.Def K mg "_law_dets_right" s_law_dets_right f fd) (b : Binds K fd ["hand"] []) (T : Txt mg)
    (c_law_clock : C8.Cal P w K mg base 3 "_law_clock" (sp_clock K) []) (c_law_draw : C8.Cal P w K mg base 1 "_law_draw" (sp_draw K) []) (c_law_any : C8.Cal P w K mg base 2 "_law_any" (sp_any K) []) (c_law_some_rows : C8.Cal P w K mg base 4 "_law_some_rows" (sp_some_rows K) [])
    (c_law_det : C8.Cal P w K mg base 6 "_law_det" (sp_law_det 5 K) []) (c_determinant : C8.Cal P w K mg base 5 "determinant" (sp_determinant K) []) (c_law_is : C8.Cal P w K mg base 4 "_law_is" (sp_is 2 K) []) (c_law_product : C8.Cal P w K mg base 3 "_law_product" (sp_law_product K) []) : C8.Cal P w K mg base 7 "_law_dets_right" (sp_dets K) [] := by
  refine C8.cal0 F b .nil sc_law_dets_right (fun vs H Q E h => ?_) (fun cdv A outer s H vs Q E hr h => ?_)
  · obtain ⟨v, rfl, _⟩ := h
    rfl
  · obtain ⟨v, rfl, hv, q⟩ := h
    have hu64 := hu64_of hr
    refine ⟨_, (pss_cons (ps_asg (pe_tup (pa_cons (C8.pe_c c_law_clock hr (by first | decide | exact Nat.le_refl _) (by rfl) (pa_cons (pv 0) pa_nil)) (pa_cons (C8.pe_c c_law_draw hr (by first | decide | exact Nat.le_refl _) (by rfl) (pa_cons (pv 0) (pa_cons pe_int pa_nil))) pa_nil))) (TH.kpg_tup (K := K) (n := 2) rfl (pgs_cons (pg_name (i := 5) sc_law_dets_right.nd rfl (Or.inr rfl) (Or.inl rfl)) (pgs_cons (pg_name (i := 6) sc_law_dets_right.nd rfl (Or.inl rfl) (Or.inr rfl)) pgs_nil))))
      (pss_cons (ps_par (i := 7) (j := 8) rfl sc_law_dets_right.nd rfl rfl (by decide) rfl rfl (pa_cons (C8.pe_c c_law_some_rows hr (by first | decide | exact Nat.le_refl _) (by rfl) (pa_cons (pv 0) (pa_cons (pv 5) (pa_cons (pv 6) (pa_cons (pv 6) pa_nil))))) (pa_cons (C8.pe_c c_law_some_rows hr (by first | decide | exact Nat.le_refl _) (by rfl) (pa_cons (pv 0) (pa_cons (pv 5) (pa_cons (pv 6) (pa_cons (pv 6) pa_nil))))) pa_nil)) (by rfl))
      (pss_cons (ps_par (i := 9) (j := 10) rfl sc_law_dets_right.nd rfl rfl (by decide) rfl rfl (pa_cons (pe_lst (pa_cons (C8.pe_c c_law_det hr (by first | decide | exact Nat.le_refl _) (by rfl) (pa_cons (pv 5) (pa_cons (pv 7) pa_nil))) (pa_cons (C8.pe_c c_law_det hr (by first | decide | exact Nat.le_refl _) (by rfl) (pa_cons (pv 5) (pa_cons (pv 8) pa_nil))) pa_nil))) (pa_cons (pe_callTy (TH.kcall_list (K := K)) (by rfl) T.b_list (by decide +kernel) (pa_cons (pv 7) pa_nil)) pa_nil)) (by rfl))
      (pss_cons (ps_set (i := 1) sc_law_dets_right.nd rfl (Or.inl rfl) (pe_lst (pa_cons (C8.pe_c c_determinant hr (by first | decide | exact Nat.le_refl _) (by rfl) (pa_cons (pv 5) (pa_cons (pv 7) pa_nil))) (pa_cons (C8.pe_c c_determinant hr (by first | decide | exact Nat.le_refl _) (by rfl) (pa_cons (pv 5) (pa_cons (pe_callTy (TH.kcall_tuple (K := K)) (by rfl) T.b_tuple (by decide +kernel) (pa_cons (pv 8) pa_nil)) pa_nil))) pa_nil))))
      (pss_cons (ps_if (PW.pt (pw_or (pt_not (pt_val (C8.pe_c c_law_is hr (by first | decide | exact Nat.le_refl _) (by rfl) (pa_cons (pv 1) (pa_cons (pv 9) pa_nil))))) (pw_or1 (pt_cmpR (TH.kop_neD (K := K) hu64) (pv 7) (pv 10) (nomark _))))) (pss_one (ps_ret pe_bl)) pss_nil)
      (pss_cons (ps_if (pt_cmpR op_ne (C8.pe_c c_determinant hr (by first | decide | exact Nat.le_refl _) (by rfl) (pa_cons (pv 5) (pa_cons (C8.pe_c c_law_product hr (by first | decide | exact Nat.le_refl _) (by rfl) (pa_cons (pv 5) (pa_cons (pv 7) (pa_cons (pv 8) pa_nil)))) pa_nil))) (pe_op op_mod (pe_callTy call_int1 (by rfl) T.b_int (by decide +kernel) (pa_cons (pe_op op_mul (pe_ix (TH.kix_list (K := K)) (pv 1) pe_int (fun _ _ => rfl)) (pe_ix (TH.kix_list (K := K)) (pv 1) pe_int (fun _ _ => rfl))) pa_nil)) (pv 5)) (nomark _)) (pss_one (ps_ret pe_bl)) pss_nil)
      (pss_cons (ps_par (i := 2) (j := 11) rfl sc_law_dets_right.nd rfl rfl (by decide) rfl rfl (pa_cons (pe_op op_add pe_int (C8.pe_c c_law_draw hr (by first | decide | exact Nat.le_refl _) (by rfl) (pa_cons (pv 0) (pa_cons pe_int pa_nil)))) (pa_cons pe_int pa_nil)) (by rfl))
      (C8.pss_cut (ps_set (i := 2) sc_law_dets_right.nd rfl (Or.inl rfl) (pe_ifExp (pt_cmpR op_eq (C8.pe_c c_law_draw hr (by first | decide | exact Nat.le_refl _) (by rfl) (pa_cons (pv 0) (pa_cons pe_int pa_nil))) pe_int (nomark _)) (pe_op op_add pe_int (C8.pe_c c_law_draw hr (by first | decide | exact Nat.le_refl _) (by rfl) (pa_cons (pv 0) (pa_cons pe_int pa_nil)))) (pv 2)))
      (pss_cons (ps_par (i := 4) (j := 12) rfl sc_law_dets_right.nd rfl rfl (by decide) rfl rfl (pa_cons (pe_lst pa_nil) (pa_cons (pe_lst pa_nil) pa_nil)) (by rfl))
      (pss_cons (ps_for PassesOwn.never rfl (pi_range1 (by rfl) T.b_range (pa_cons (pv 2) pa_nil)) (pg_name (i := 3) sc_law_dets_right.nd rfl (Or.inl rfl) (Or.inr rfl)) (pss_cons (ps_set (i := 13) sc_law_dets_right.nd rfl (Or.inl rfl) (C8.pe_c c_law_any hr (by first | decide | exact Nat.le_refl _) (by rfl) (pa_cons (pv 0) (pa_cons (pe_lst (pa_cons pe_int (pa_cons (pe_op op_sub (pv 5) pe_int) (pa_cons (C8.pe_c c_law_draw hr (by first | decide | exact Nat.le_refl _) (by rfl) (pa_cons (pv 0) (pa_cons (pv 5) pa_nil))) pa_nil)))) pa_nil))))
      (pss_cons (ps_set (i := 11) sc_law_dets_right.nd rfl (Or.inl rfl) (pe_op op_mod (pe_callTy call_int1 (by rfl) T.b_int (by decide +kernel) (pa_cons (pe_op op_mul (pv 11) (pv 13)) pa_nil)) (pv 5)))
      (pss_cons (ps_expr (TH.kpe_bm (K := K) PySem.F.plainAttrs_list PySem.F.slot_list_append PySem.F.type_list_append mt_append (pv 4) (pa_cons (pe_op (TH.kop_catA (K := K)) (pe_op (TH.kop_catA (K := K)) (pe_op (TH.kop_repA (K := K)) (pe_tup (pa_cons pe_int pa_nil)) (pv 3)) (pe_tup (pa_cons (pv 13) pa_nil))) (pe_callTy (TH.kcall_tuple (K := K)) (by rfl) T.b_tuple (by decide +kernel) (pa_cons (pe_lc (own := [("place", 15)]) (g := gName 15) (tt := tYes) rfl sc_law_dets_right.nd (pi_range1 (by rfl) T.b_range (pa_cons (pe_op op_sub (pe_op op_sub (pv 2) (pv 3)) pe_int) pa_nil)) (blkOk_by (own := [("place", 15)]) (N := N_law_dets_right) (sc := C8.fnScope s_law_dets_right) (by decide +kernel)) (fun _ _ _ _ _ => (pg_name (i := 15) sc_law_dets_right.nd rfl (Or.inl rfl) (Or.inr rfl))) (fun _ _ _ _ _ => pts_nil) (fun _ _ _ _ _ => (C8.pe_c c_law_draw hr (by first | decide | exact Nat.le_refl _) (by rfl) (pa_cons (pv 0) (pa_cons (pv 5) pa_nil))))) pa_nil))) pa_nil)))
      (pss_one (ps_expr (TH.kpe_bm (K := K) PySem.F.plainAttrs_list PySem.F.slot_list_append PySem.F.type_list_append mt_append (pv 12) (pa_cons (pe_op (TH.kop_catA (K := K)) (pe_op (TH.kop_catA (K := K)) (pe_callTy (TH.kcall_tuple (K := K)) (by rfl) T.b_tuple (by decide +kernel) (pa_cons (pe_lc (own := [("place", 15)]) (g := gName 15) (tt := tYes) rfl sc_law_dets_right.nd (pi_range1 (by rfl) T.b_range (pa_cons (pv 3) pa_nil)) (blkOk_by (own := [("place", 15)]) (N := N_law_dets_right) (sc := C8.fnScope s_law_dets_right) (by decide +kernel)) (fun _ _ _ _ _ => (pg_name (i := 15) sc_law_dets_right.nd rfl (Or.inl rfl) (Or.inr rfl))) (fun _ _ _ _ _ => pts_nil) (fun _ _ _ _ _ => (C8.pe_c c_law_draw hr (by first | decide | exact Nat.le_refl _) (by rfl) (pa_cons (pv 0) (pa_cons (pv 5) pa_nil))))) pa_nil)) (pe_tup (pa_cons pe_int pa_nil))) (pe_op (TH.kop_repA (K := K)) (pe_tup (pa_cons pe_int pa_nil)) (pe_op op_sub (pe_op op_sub (pv 2) (pv 3)) pe_int))) pa_nil))))))))
      (pss_cons (ps_set (i := 4) sc_law_dets_right.nd rfl (Or.inl rfl) (C8.pe_c c_law_product hr (by first | decide | exact Nat.le_refl _) (by rfl) (pa_cons (pv 5) (pa_cons (pv 12) (pa_cons (pv 4) pa_nil)))))
      (pss_cons (ps_if (pt_cmpR op_ne (C8.pe_c c_determinant hr (by first | decide | exact Nat.le_refl _) (by rfl) (pa_cons (pv 5) (pa_cons (pv 4) pa_nil))) (pv 11) (nomark _)) (pss_one (ps_ret pe_bl)) pss_nil)
      (pss_cons (ps_par (i := 3) (j := 14) rfl sc_law_dets_right.nd rfl rfl (by decide) rfl rfl (pa_cons (C8.pe_c c_law_draw hr (by first | decide | exact Nat.le_refl _) (by rfl) (pa_cons (pv 0) (pa_cons (pv 2) pa_nil))) (pa_cons (C8.pe_c c_law_draw hr (by first | decide | exact Nat.le_refl _) (by rfl) (pa_cons (pv 0) (pa_cons (pv 2) pa_nil))) pa_nil)) (by rfl))
      (pss_cons (ps_asg (pe_tup (pa_cons (pe_ix (TH.kix_list (K := K)) (pv 4) (pv 14) (fun _ _ => rfl)) (pa_cons (pe_ix (TH.kix_list (K := K)) (pv 4) (pv 3) (fun _ _ => rfl)) pa_nil))) (TH.kpg_tup (K := K) (n := 2) rfl (pgs_cons (pg_sub (pv 4) (pv 3) set_list) (pgs_cons (pg_sub (pv 4) (pv 14) set_list) pgs_nil))))
      (pss_one (ps_ret (pe_cmpR op_eq (C8.pe_c c_determinant hr (by first | decide | exact Nat.le_refl _) (by rfl) (pa_cons (pv 5) (pa_cons (pe_callTy (TH.kcall_tuple (K := K)) (by rfl) T.b_tuple (by decide +kernel) (pa_cons (pv 4) pa_nil)) pa_nil))) (pe_ifExp (pt_cmpR op_eq (pv 3) (pv 14) (nomark _)) (pv 11) (pe_op op_mod (pe_callTy call_int1 (by rfl) T.b_int (by decide +kernel) (pa_cons (pe_un un_neg (pv 11)) pa_nil)) (pv 5))) (nomark _)))))))))))))))))), ?_⟩
    refine w_start (σ' := [some v, none, none, none, none, none, none, none, none, none, none, none, none, none, none, none]) rfl ?_
    walk_at "rd"
    refine ⟨v, rfl, hv, fun p0 H1 e1 hpc => ?_⟩
    obtain ⟨n, rfl, hck, nm⟩ := clock_ok hpc
    have hc := clk_of hck
    have n2 := hc.two
    haveI : NeZero n := hc.ne
    walk_at "rd"
    refine ⟨v, _, rfl, hv.ex e1, by omega, by omega, fun r r0 r1 => ?_⟩
    obtain ⟨wd, rfl, hwd⟩ := nat_lt (n := 5) r0 r1
    walk_at "rd"
    refine w_dispT (by simp) fun tp htp => ?_
    have e2 : Ex H1 (upd H1 tp (.tup [V.int n, V.int wd])) := Ex.new htp
    have u2 : upd H1 tp (.tup [V.int n, V.int wd]) tp = some (.tup [V.int n, V.int wd]) := upd_same
    generalize upd H1 tp (.tup [V.int n, V.int wd]) = H2 at e2 u2 ⊢
    have e12 := e1.trans e2
    refine w_gtup2 u2 ?_
    walk_at "rd"
    refine ⟨v, _, wd, wd, rfl, hv.ex e12, by omega, by omega, by omega, by omega, fun la H3 lx rs e3 hla hda hrl hrs => ?_⟩
    walk_at "rd"
    refine ⟨v, _, wd, wd, rfl, hv.ex (e12.trans e3), by omega, by omega, by omega, by omega, fun lb H4 ly ss e4 hlb hdb hsl hss => ?_⟩
    have hla4 := e4 _ _ hla
    have hda4 := e4.dpa hda
    have hlxl : lx.length = wd := by rw [dpa_len hda, List.length_map, hrl]
    have hlyl : ly.length = wd := by rw [dpa_len hdb, List.length_map, hsl]
    have e14 := e12.trans (e3.trans e4)
    walk_at "rd"
    refine ⟨n, inferInstance, la, lx, rs, rfl, hc, sqL hla4, hda4, by omega, by omega, fun r hr => by rw [hrl]; exact hrs r hr, fun d1 H5 e5 d10 d11 hd1 => ?_⟩
    walk_at "rd"
    refine ⟨n, inferInstance, lb, ly, ss, rfl, hc, sqL (e5 _ _ hlb), e5.dpa hdb, by omega, by omega, fun r hr => by rw [hsl]; exact hss r hr, fun d2 H6 e6 d20 d21 hd2 => ?_⟩
    rw [hrl] at hd1
    rw [hsl] at hd2
    have e56 := e5.trans e6
    walk_at "rd"
    refine w_dispT (by simp) fun dl hdl => ?_
    have e7 : Ex H6 (upd H6 dl (.lst [V.int d1, V.int d2])) := Ex.new hdl
    have u7 : upd H6 dl (.lst [V.int d1, V.int d2]) dl = some (.lst [V.int d1, V.int d2]) := upd_same
    generalize upd H6 dl (.lst [V.int d1, V.int d2]) = H7 at e7 u7 ⊢
    have e47 := e56.trans e7
    walk_at "rd"
    refine ⟨la, lx, rfl, .inl (sqL (e47 _ _ hla4)), fun kl hkl => ?_⟩
    have e8 : Ex H7 (upd H7 kl (.lst lx)) := Ex.new hkl
    have u8 : upd H7 kl (.lst lx) kl = some (.lst lx) := upd_same
    generalize upd H7 kl (.lst lx) = H8 at e8 u8 ⊢
    have e48 := e47.trans e8
    have hRone : ∀ H', Ex H4 H' → RowsAt K H' (.ref la) rs := fun H' e => ⟨.inl (.lst (sqL (e _ _ hla4)) (e.dpa hda4))⟩
    walk_at "rd"
    refine ⟨n, inferInstance, .ref la, rs, rfl, hck, by omega, hRone _ e48, fun r hr => by rw [hrl]; exact hrs r hr, fun t1 H9 e9 t10 t11 ht1 => ?_⟩
    rw [hrl] at ht1
    have et1 := cg_uniq ⟨t10, t11⟩ ⟨d10, d11⟩ ht1 hd1
    subst et1
    have e49 := e48.trans e9
    walk_at "rd"
    refine ⟨lb, ly, rfl, .inl ⟨sqL (e49 _ _ hlb), fun tb htb => ?_⟩⟩
    have e10 : Ex H9 (upd H9 tb (.tup ly)) := Ex.new htb
    have u10 : upd H9 tb (.tup ly) tb = some (.tup ly) := upd_same
    generalize upd H9 tb (.tup ly) = H10 at e10 u10 ⊢
    have e410 := e49.trans e10
    walk_at "rd"
    refine ⟨n, inferInstance, .ref tb, ss, rfl, hck, by omega, ⟨.inr (.tup (sqT u10) (e410.dpa hdb))⟩, fun r hr => by rw [hsl]; exact hss r hr, fun t2 H11 e11 t20 t21 ht2 => ?_⟩
    rw [hsl] at ht2
    have et2 := cg_uniq ⟨t20, t21⟩ ⟨d20, d21⟩ ht2 hd2
    subst et2
    have e411 := e410.trans e11
    walk_at "rd"
    refine w_dispT (by simp) fun tl htl => ?_
    have e12' : Ex H11 (upd H11 tl (.lst [V.int t1, V.int t2])) := Ex.new htl
    have u12 : upd H11 tl (.lst [V.int t1, V.int t2]) tl = some (.lst [V.int t1, V.int t2]) := upd_same
    generalize upd H11 tl (.lst [V.int t1, V.int t2]) = H12 at e12' u12 ⊢
    have e412 := e411.trans e12'
    have hdl12 : H12 dl = some (.lst [V.int t1, V.int t2]) := e12' _ _ (e11 _ _ (e10 _ _ (e9 _ _ (e8 _ _ u7))))
    have two : ∀ {a : Addr}, H12 a = some (.lst [V.int t1, V.int t2]) → Dp K H12 (.ref a) (PyData.list [PyData.int t1, PyData.int t2]) := fun h => .lst (sqL h) (.cons (.int _) (.cons (.int _) .nil))
    walk_at "rd"
    refine ⟨.ref tl, .ref dl, PyData.list [PyData.int t1, PyData.int t2], rfl, two u12, two hdl12, .inr ⟨_, .inr rfl, by simp, fun x hx => ?_⟩, fun H13 e13 => ?_⟩
    · rcases List.mem_cons.mp hx with e | e
      · rw [e]; exact .inl (.inr (.inr ⟨_, rfl⟩))
      · rw [List.mem_singleton.mp e]; exact .inl (.inr (.inr ⟨_, rfl⟩))
    have e413 := e412.trans e13
    walk_at "rd"
    refine ne_list (.lst (sqL (e413 _ _ hla4)) (e413.dpa hda4)) (.lst (sqL ?_) (e413.dpa hda4)) (rows_are rs) ?_
    · exact e13 _ _ (e12' _ _ (e11 _ _ (e10 _ _ (e9 _ _ u8))))
    walk_at "rd"
    refine ⟨_, la, lb, lx, ly, rs, ss, rfl, by omega, sqL (e413 _ _ hla4), e413.dpa hda4, sqL (e413 _ _ hlb), e413.dpa hdb, by omega, by omega, fun r hr x hx => by have := (hrs r hr).2 x hx; omega, fun s hs => by rw [hsl]; exact (hss s hs).1, fun pl pv H14 e14' hpl0 hpl hdp => ?_⟩
    have hpi := prodI_in (n := (n : Int)) (rs := rs) (ss := ss) (by omega) fun s hs => by rw [hsl]; exact hss s hs
    have hplen : (prodI n rs ss).length = wd := by unfold prodI; rw [List.length_map, hrl]
    walk_at "rd"
    refine ⟨n, inferInstance, .ref pl, prodI n rs ss, rfl, hck, by omega, ⟨.inl (.lst (sqL hpl) hdp)⟩, fun r hr => by rw [hplen, ← hsl]; exact hpi r hr, fun t3 H15 e15 t30 t31 ht3 => ?_⟩
    have hprod := prod_det (n := n) (m := wd) hrl hsl (fun r hr => (hrs r hr).1) fun r hr => (hss r hr).1
    have e415 := e413.trans (e14'.trans e15)
    have hmulc : Cg n (detL rs (List.range wd) * detL ss (List.range wd)) (t1 * t2) := by
      have a1 := hd1.mul (detL ss (List.range wd))
      have a2 := hd2.mul t1
      rw [Int.mul_comm, Int.mul_comm (detL ss (List.range wd)) t1] at a1
      exact a1.trans a2
    have et3 : t3 = (t1 * t2) % n := by
      rw [hplen] at ht3
      exact cg_uniq ⟨t30, t31⟩ ⟨Int.emod_nonneg _ (by omega), Int.emod_lt_of_pos _ (by omega)⟩ ht3 ((hprod.trans hmulc).trans (Cg.mod _ _).symm)
    have htl15 : H15 tl = some (.lst [V.int t1, V.int t2]) := e15 _ _ (e14' _ _ (e13 _ _ u12))
    walk_at "rd"
    refine w_decN (fun h => absurd et3 h) (fun _ => ?_)
    have eS : Ex H H15 := e14.trans e415
    walk_at "rd"
    refine ⟨v, _, rfl, hv.ex eS, by omega, by omega, fun r r0 r1 => ?_⟩
    obtain ⟨m0, rfl, hm0⟩ := nat_lt (n := 12) r0 r1
    walk_at "rd"
    refine ⟨fun σ' H' => H' = H15 ∧ ∃ (m : Nat) (y1 y7 y8 y9 y10 : Option V), 1 ≤ m ∧ m ≤ 60 ∧ σ' = [some v, y1, some (.int m), none, none, some (.int n), some (.int wd), y7, y8, y9, y10, some (.int 1), none, none, none, none], ?_, ?_⟩
    · walk_at "rd"
      refine ⟨v, _, rfl, hv.ex eS, by omega, by omega, fun r r0 r1 => ?_⟩
      walk_at "rd"
      refine w_dec (fun _ => ?_) (fun _ => ?_)
      · walk_at "rd"
        refine ⟨v, _, rfl, hv.ex eS, by omega, by omega, fun r r0 r1 => ?_⟩
        obtain ⟨m1, rfl, hm1⟩ := nat_lt (n := 48) r0 r1
        walk_at "rd"
        exact ⟨rfl, 13 + m1, _, _, _, _, _, by omega, by omega, by rw [show ((13 + m1 : Nat) : Int) = 13 + (m1 : Nat) by omega]⟩
      · walk_at "rd"
        exact ⟨rfl, 1 + m0, _, _, _, _, _, by omega, by omega, by rw [show ((1 + m0 : Nat) : Int) = 1 + (m0 : Nat) by omega]⟩
    rintro σ' H' ⟨rfl, m, y1, y7, y8, y9, y10, hm1, hm2, rfl⟩
    walk_at "rd"
    refine w_dispT (by simp) fun rl hrl' => ?_
    walk_at "rd"
    refine w_dispT (by simp) fun bl hbl => ?_
    have hrb : rl ≠ bl := fun z => by rw [← z, upd_same] at hbl; cases hbl
    have e16 : Ex H' (upd (upd H' rl (.lst [])) bl (.lst [])) := (Ex.new hrl').trans (Ex.new hbl)
    have hrl0 : H rl = none := eS.fresh hrl'
    have hbl0 : H bl = none := (eS.trans (Ex.new hrl')).fresh hbl
    have u16 : upd (upd H' rl (.lst [])) bl (.lst []) rl = some (.lst []) := (Ex.new hbl) _ _ upd_same
    have v16 : upd (upd H' rl (.lst [])) bl (.lst []) bl = some (.lst []) := upd_same
    generalize upd (upd H' rl (.lst [])) bl (.lst []) = H16 at e16 u16 v16 ⊢
    have eT := eS.trans e16
    walk_at "rd"
    refine w_isrng (by omega) (by omega) ?_
    refine for_go walk_rng (fun i σ H' => Ex H H' ∧ ∃ (fo : Int) (rv bv : List V) (us ls : List (List Int)) (y3 y13 : Option V), σ = [some v, y1, some (.int m), y3, some (.ref rl), some (.int n), some (.int wd), y7, y8, y9, y10, some (.int fo), some (.ref bl), y13, none, none] ∧ H' rl = some (.lst rv) ∧ H' bl = some (.lst bv) ∧ DpAll K H' rv (us.map row) ∧ DpAll K H' bv (ls.map row) ∧ UpLo n m i us ls fo)
      ⟨eT, 1, [], [], [], [], _, _, rfl, u16, v16, .nil, .nil, ⟨rfl, rfl, fun r h => (nomatch h), fun r h => (nomatch h), fun k r h => by simp at h, fun k r h => by simp at h, ⟨by omega, by omega⟩, .refl _ _⟩⟩ (fun _ _ _ _ _ => trivial) (fun i x σ H17 H17' hi pp y => ?_) (fun σ H17 pp => ?_)
    · obtain ⟨e17, fo, rv, bv, us, ls, y3, y13, rfl, g1, g2, g3, g4, ul⟩ := pp
      obtain ⟨rfl, rfl⟩ := y
      rw [Int.toNat_natCast] at hi
      have hfo := ul.frn
      have hrvl : rv.length = i := by rw [dpa_len g3, List.length_map, ul.ul]
      have hbvl : bv.length = i := by rw [dpa_len g4, List.length_map, ul.ll]
      walk_at "rd"
      refine ⟨v, _, rfl, hv.ex e17, by omega, by omega, fun r r0 r1 => ?_⟩
      walk_at "rd"
      refine w_dispT (by simp) fun al hal => ?_
      have e18 : Ex H17' (upd H17' al (.lst [V.int 1, V.int (n - 1), V.int r])) := Ex.new hal
      refine ⟨v, al, _, rfl, hv.ex (e17.trans e18), sqL upd_same, by simp, by simp, fun x hx => ?_⟩
      obtain ⟨vv, hvv, rfl⟩ : ∃ vv : Int, (0 ≤ vv ∧ vv < n) ∧ x = .int vv := by
        simp only [List.mem_cons, List.not_mem_nil, or_false] at hx
        rcases hx with rfl | rfl | rfl
        · exact ⟨_, by omega, rfl⟩
        · exact ⟨_, by omega, rfl⟩
        · exact ⟨_, by omega, rfl⟩
      generalize upd H17' al (.lst [V.int 1, V.int (n - 1), V.int r]) = H18 at e18 ⊢
      have e018 := e17.trans e18
      walk_at "rd"
      refine ⟨tyL (e18 _ _ g1), ?_⟩
      walk_at "rd"
      refine w_dispT (by simp) fun z1 hz1 => ?_
      walk_at "rd"
      refine w_rep0 upd_same (by omega) fun za H19 e19 hza => ?_
      have e19 := (Ex.new (o := .tup [V.int 0]) hz1).trans e19
      walk_at "rd"
      refine w_dispT (by simp) fun z2 hz2 => ?_
      have e20 : Ex H19 (upd H19 z2 (.tup [V.int vv])) := Ex.new hz2
      refine w_catRow (ms := [vv]) (e20.dp hza) (dp_row_of (sqT upd_same)) (by simp; omega) fun za2 H21 e21 hza2 => ?_
      have e1821 := e19.trans (e20.trans e21)
      have e021 := e018.trans e1821
      clear hza e19 e20 e21
      walk_at "rd"
      have eN : ((m : Int) - (i : Nat) - 1) = ((m - i - 1 : Nat) : Int) := by omega
      rw [eN]
      refine w_isrng (by omega) (by omega) ?_
      intro Dl hD
      refine lc_some (K := K) walk_rng (fun _ d => ∃ x : Int, d = .int x ∧ 0 ≤ x ∧ x < n) (fun _ d h => by obtain ⟨x, rfl, _⟩ := h; rfl) (fun _ _ => trivial) hD (by omega) (fun j x H22 H23 hj e y R k => ?_) (fun H22 ws ds e22 hws hdl hφ hda => ?_)
      · obtain ⟨rfl, rfl⟩ := y
        walk_at "rd"
        refine ⟨rfl, ?_⟩
        walk_at "rd"
        refine ⟨v, _, rfl, hv.ex (e021.trans e), by omega, by omega, fun r r0 r1 => ?_⟩
        exact k _ (.int r) _ (Ex.refl _) ⟨r, rfl, r0, r1⟩ (.int _)
      obtain ⟨dn, rfl, hdn⟩ := ints_of hφ
      have eu := dpa_ints_inv hda
      subst eu
      rw [List.length_map, Int.toNat_natCast] at hdl
      walk_at "rd"
      refine ⟨Dl, _, rfl, .inl ⟨sqL hws, fun dt hdt => ?_⟩⟩
      have e23 : Ex H22 (upd H22 dt (.tup (dn.map V.int))) := Ex.new hdt
      have u23 : upd H22 dt (.tup (dn.map V.int)) dt = some (.tup (dn.map V.int)) := upd_same
      generalize upd H22 dt (.tup (dn.map V.int)) = H23 at e23 u23 ⊢
      refine w_catRow ((e22.trans e23).dp hza2) (dp_row_of (sqT u23)) (by simp; omega) fun za3 H24 e24 hza3 => ?_
      have e1824 := e1821.trans (e22.trans (e23.trans e24))
      clear hza2 hws u23 e22 e23 e24 hda
      have g14 := e1824 _ _ (e18 _ _ g1)
      walk_at "rd"
      refine w_app g14 (by omega) ?_
      have eu1 : (List.replicate i (0 : Int) ++ [vv]) ++ dn = List.replicate i 0 ++ vv :: dn := by rw [List.append_assoc]; rfl
      rw [eu1] at hza3
      have tx : Tx H24 (upd H24 rl (.lst (rv ++ [za3]))) := Tx.updL g14
      have hd24 : DpAll K (upd H24 rl (.lst (rv ++ [za3]))) (rv ++ [za3]) ((us ++ [List.replicate i 0 ++ vv :: dn]).map row) := by
        rw [List.map_append]
        exact dpa_snoc (tx.dpa (imm_rows us) ((e18.trans e1824).dpa g3)) (tx.dp (imm_row _) hza3)
      have hb24 : upd H24 rl (.lst (rv ++ [za3])) bl = some (.lst bv) := by rw [upd_ne (Ne.symm hrb)]; exact e1824 _ _ (e18 _ _ g2)
      have hdb24 : DpAll K (upd H24 rl (.lst (rv ++ [za3]))) bv (ls.map row) := tx.dpa (imm_rows ls) ((e18.trans e1824).dpa g4)
      have eX24 : Ex H (upd H24 rl (.lst (rv ++ [za3]))) := (e018.trans e1824).mut hrl0
      have hr24 : upd H24 rl (.lst (rv ++ [za3])) rl = some (.lst (rv ++ [za3])) := upd_same
      generalize upd H24 rl (.lst (rv ++ [za3])) = H25 at hd24 hb24 hdb24 eX24 hr24 ⊢
      generalize hrv' : rv ++ [za3] = rv' at hd24 hr24
      clear tx g14 hza3 e1824
      walk_at "rd"
      refine ⟨tyL hb24, ?_⟩
      walk_at "rd"
      refine w_isrng (by omega) (by omega) ?_
      intro D2 hD2
      refine lc_some (K := K) walk_rng (fun _ d => ∃ x : Int, d = .int x ∧ 0 ≤ x ∧ x < n) (fun _ d h => by obtain ⟨x, rfl, _⟩ := h; rfl) (fun _ _ => trivial) hD2 (by omega) (fun j x H26 H27 hj e y R k => ?_) (fun H26 ws2 ds2 e26 hws2 hdl2 hφ2 hda2 => ?_)
      · obtain ⟨rfl, rfl⟩ := y
        walk_at "rd"
        refine ⟨rfl, ?_⟩
        walk_at "rd"
        refine ⟨v, _, rfl, hv.ex (eX24.trans e), by omega, by omega, fun r r0 r1 => ?_⟩
        exact k _ (.int r) _ (Ex.refl _) ⟨r, rfl, r0, r1⟩ (.int _)
      obtain ⟨en, rfl, hen⟩ := ints_of hφ2
      have eu2 := dpa_ints_inv hda2
      subst eu2
      rw [List.length_map, Int.toNat_natCast] at hdl2
      walk_at "rd"
      refine ⟨D2, _, rfl, .inl ⟨sqL hws2, fun et het => ?_⟩⟩
      have e27 : Ex H26 (upd H26 et (.tup (en.map V.int))) := Ex.new het
      have u27 : upd H26 et (.tup (en.map V.int)) et = some (.tup (en.map V.int)) := upd_same
      generalize upd H26 et (.tup (en.map V.int)) = H27 at e27 u27 ⊢
      walk_at "rd"
      refine w_dispT (by simp) fun o1 ho1 => ?_
      have e28 : Ex H27 (upd H27 o1 (.tup [V.int 1])) := Ex.new ho1
      refine w_catRow (ms := [1]) (e28.dp (dp_row_of (sqT u27))) (dp_row_of (sqT upd_same)) (by simp; omega) fun oa H29 e29 hoa => ?_
      have e2629 := e27.trans (e28.trans e29)
      clear e28 e29
      walk_at "rd"
      refine w_dispT (by simp) fun z3 hz3 => ?_
      walk_at "rd"
      rw [eN]
      refine w_rep0 upd_same (by omega) fun zb H30 e30 hzb => ?_
      have e30 := (Ex.new (o := .tup [V.int 0]) hz3).trans e30
      refine w_catRow (e30.dp hoa) hzb (by simp; omega) fun ob H31 e31 hob => ?_
      have e2531 := e26.trans (e2629.trans (e30.trans e31))
      clear hoa hzb e30 e31
      have g31 := e2531 _ _ hb24
      walk_at "rd"
      refine w_app g31 (by omega) ?_
      walk_at "rd"
      have ev1 : (en ++ [1]) ++ List.replicate (m - i - 1) (0 : Int) = en ++ 1 :: List.replicate (m - i - 1) 0 := by rw [List.append_assoc]; rfl
      rw [ev1] at hob
      have tx : Tx H31 (upd H31 bl (.lst (bv ++ [ob]))) := Tx.updL g31
      refine ⟨(eX24.trans e2531).mut hbl0, _, rv', bv ++ [ob], us ++ [List.replicate i 0 ++ vv :: dn], ls ++ [en ++ 1 :: List.replicate (m - i - 1) 0], _, _, rfl, by rw [upd_ne hrb]; exact e2531 _ _ hr24, upd_same, tx.dpa (imm_rows _) (e2531.dpa hd24), ?_, ul.step (by omega) hi hvv hdl hdn hdl2 hen⟩
      rw [List.map_append]
      exact dpa_snoc (tx.dpa (imm_rows ls) (e2531.dpa hdb24)) (tx.dp (imm_row _) hob)
    · obtain ⟨e17, fo, rv, bv, us, ls, y3, y13, rfl, g1, g2, g3, g4, ul⟩ := pp
      rw [Int.toNat_natCast] at ul
      have hfo := ul.frn
      have hdone := ul.done
      have hU := ul.ul
      have hL := ul.ll
      walk_at "rd"
      refine ⟨_, bl, rl, bv, rv, ls, us, rfl, by omega, sqL g2, g4, sqL g1, g3, by omega, by omega, fun r hr x hx => by have := (ul.lr r hr).2 x hx; omega, fun s hs => by rw [hU]; exact (ul.ur s hs).1, fun pl pv H18 e18 hpl0 hpl hdp => ?_⟩
      have hpi := prodI_in (n := (n : Int)) (rs := ls) (ss := us) (by omega) fun s hs => by rw [hU]; exact ul.ur s hs
      have hplen : (prodI n ls us).length = m := by unfold prodI; rw [List.length_map, hL]
      rw [hU] at hpi
      have hpl00 : H pl = none := e17.fresh hpl0
      generalize prodI n ls us = pr at hpi hplen hdp hdone
      have hpvl : pv.length = m := by rw [dpa_len hdp, List.length_map, hplen]
      walk_at "rd"
      refine ⟨n, inferInstance, .ref pl, pr, rfl, hck, by omega, ⟨.inl (.lst (sqL hpl) hdp)⟩, fun r hr => by rw [hplen]; exact hpi r hr, fun t3 H19 e19 t30 t31 ht3 => ?_⟩
      rw [hplen] at ht3
      have et3 := cg_uniq ⟨t30, t31⟩ hfo ht3 hdone
      subst et3
      have e1819 := e18.trans e19
      have eU := e17.trans e1819
      walk_at "rd"
      refine w_decN (fun h => absurd rfl h) (fun _ => ?_)
      walk_at "rd"
      refine ⟨v, _, rfl, hv.ex eU, by omega, by omega, fun r r0 r1 => ?_⟩
      obtain ⟨ia, rfl, hia⟩ := nat_lt (n := m) r0 r1
      walk_at "rd"
      refine ⟨v, _, rfl, hv.ex eU, by omega, by omega, fun r r0 r1 => ?_⟩
      obtain ⟨ib, rfl, hib⟩ := nat_lt (n := m) r0 r1
      have eA : pr[ia]? = some (pr.getD ia []) := getD_at (by omega)
      have eB : pr[ib]? = some (pr.getD ib []) := getD_at (by omega)
      have hpl19 := e19 _ _ hpl
      have hd19 := e19.dpa hdp
      obtain ⟨vA, hvA, hdA⟩ := dpa_getD (i := ia) (d := row (pr.getD ia [])) hd19 (by rw [List.getElem?_map, eA]; rfl)
      obtain ⟨vB, hvB, hdB⟩ := dpa_getD (i := ib) (d := row (pr.getD ib [])) hd19 (by rw [List.getElem?_map, eB]; rfl)
      walk_at "rd"
      refine w_ixL (sqL hpl19) (atI_at hvB) ?_
      walk_at "rd"
      refine w_ixL (sqL hpl19) (atI_at hvA) ?_
      walk_at "rd"
      refine w_dispT (by simp) fun tq htq => ?_
      have e20 : Ex H19 (upd H19 tq (.tup [vB, vA])) := Ex.new htq
      have u20 : upd H19 tq (.tup [vB, vA]) tq = some (.tup [vB, vA]) := upd_same
      generalize upd H19 tq (.tup [vB, vA]) = H20 at e20 u20 ⊢
      have hpl20 := e20 _ _ hpl19
      refine w_gtup2 u20 ?_
      walk_at "rd"
      refine w_setN hpl20 (by omega) ?_
      walk_at "rd"
      refine w_setN upd_same (by rw [List.length_set]; omega) ?_
      rw [upd_upd]
      have tx : Tx H20 (upd H20 pl (.lst ((pv.set ia vB).set ib vA))) := Tx.updL hpl20
      have hd21 : DpAll K (upd H20 pl (.lst ((pv.set ia vB).set ib vA))) ((pv.set ia vB).set ib vA) (((pr.set ia (pr.getD ib [])).set ib (pr.getD ia [])).map row) := by
        rw [List.map_set, List.map_set]
        exact dpa_set (tx.dp (imm_row _) (e20.dp hdA)) _ (dpa_set (tx.dp (imm_row _) (e20.dp hdB)) _ (tx.dpa (imm_rows _) (e20.dpa hd19)))
      have eV : Ex H (upd H20 pl (.lst ((pv.set ia vB).set ib vA))) := (eU.trans e20).mut hpl00
      have u21 : upd H20 pl (.lst ((pv.set ia vB).set ib vA)) pl = some (.lst ((pv.set ia vB).set ib vA)) := upd_same
      generalize upd H20 pl (.lst ((pv.set ia vB).set ib vA)) = H21 at hd21 eV u21 ⊢
      walk_at "rd"
      refine ⟨pl, _, rfl, .inl ⟨sqL u21, fun tz htz => ?_⟩⟩
      have e22 : Ex H21 (upd H21 tz (.tup ((pv.set ia vB).set ib vA))) := Ex.new htz
      have u22 : upd H21 tz (.tup ((pv.set ia vB).set ib vA)) tz = some (.tup ((pv.set ia vB).set ib vA)) := upd_same
      generalize upd H21 tz (.tup ((pv.set ia vB).set ib vA)) = H22 at e22 u22 ⊢
      have hql : ((pr.set ia (pr.getD ib [])).set ib (pr.getD ia [])).length = m := by rw [List.length_set, List.length_set]; exact hplen
      have hqr : ∀ r ∈ (pr.set ia (pr.getD ib [])).set ib (pr.getD ia []), Rin n m r := fun r hr => by
        rcases List.mem_or_eq_of_mem_set hr with m1 | m1
        · rcases List.mem_or_eq_of_mem_set m1 with m2 | m2
          · exact hpi r m2
          · rw [m2]; exact hpi _ (List.mem_of_getElem? eB)
        · rw [m1]; exact hpi _ (List.mem_of_getElem? eA)
      have hex := exch_any (cs := List.range m) eA eB
      walk_at "rd"
      refine ⟨n, inferInstance, .ref tz, _, rfl, hck, by rw [hql]; omega, ⟨.inr (.tup (sqT u22) (e22.dpa hd21))⟩, fun r hr => by rw [hql]; exact hqr r hr, fun t4 H23 e23 t40 t41 ht4 => ?_⟩
      rw [hql, hex] at ht4
      walk_at "rd"
      refine w_dec (fun h => ?_) (fun h => ?_)
      · have : ia = ib := by omega
        rw [if_pos this] at ht4
        have e4 := cg_uniq ⟨t40, t41⟩ hfo ht4 hdone
        walk_at "rd"
        rw [decide_eq_true e4]
        exact q _ (eV.trans (e22.trans e23))
      · have : ¬ ia = ib := by omega
        rw [if_neg this] at ht4
        have h5 : Cg n (- detL pr (List.range m)) ((-t3) % n) := by
          have := (Cg.refl n 0).sub hdone
          rw [Int.zero_sub, Int.zero_sub] at this
          exact this.trans (Cg.mod _ _).symm
        have e4 := cg_uniq ⟨t40, t41⟩ ⟨Int.emod_nonneg _ (by omega), Int.emod_lt_of_pos _ (by omega)⟩ ht4 h5
        walk_at "rd"
        rw [decide_eq_true e4]
        exact q _ (eV.trans (e22.trans e23))
end
end TK

namespace TK
open PySem PySem.Spec PyProof.Rows L2 TH
local macro_rules | `(tactic| walk_at "rd1") => `(tactic| first
  | (with_reducible refine TH.w_seq ?_)
  | (with_reducible refine TH.w_asg ?_)
  | (with_reducible refine TH.w_ret ?_)
  | (with_reducible refine TH.w_drop ?_)
  | (with_reducible refine TH.w_ifS ?_)
  | (with_reducible refine TH.w_next ?_)
  | ((with_reducible refine TH.w_var (v := ?vv) ?hv ?_); (case hv => rfl))
  | (with_reducible refine TH.w_c ?_)
  | ((with_reducible refine TH.w_gname (σ' := ?ss) ?hs ?_); (case hs => (dsimp only [List.set]; rfl)))
  | (with_reducible refine TH.w_op ?_)
  | (with_reducible refine TH.w_un ?_)
  | (with_reducible refine TH.w_chain ?_)
  | (with_reducible refine TH.w_I0 ?_)
  | ((with_reducible refine TH.w_I ?hm ?_); (case hm => first | (exact TH.CMul.l (by omega) (by omega)) | (exact TH.CMul.r (by omega) (by omega)) | (exact TH.CDiv.mk (by omega) (by omega)) | (show (0 : Int) < _; omega) | (exact TH.CPow.mk (by omega) (by omega) (by decide))))
  | (with_reducible refine TH.w_U ?_)
  | (with_reducible refine TH.w_eqI ?_)
  | (with_reducible refine TH.w_neI ?_)
  | (with_reducible refine TH.w_eqB ?_)
  | (with_reducible refine TH.w_isN ?_)
  | (with_reducible refine TH.w_nil ?_)
  | (with_reducible refine TH.w_cons ?_)
  | (with_reducible refine TH.w_test ?_)
  | (with_reducible refine TH.w_B ?_)
  | (with_reducible refine TH.w_bl ?_)
  | (with_reducible refine TH.w_and ?_)
  | (with_reducible refine TH.w_or ?_)
  | (with_reducible refine TH.w_not ?_)
  | (with_reducible refine TH.w_andV ?_)
  | (with_reducible refine TH.w_orV ?_)
  | (with_reducible refine TH.w_notV ?_)
  | (with_reducible refine TH.w_if ?_)
  | (with_reducible refine TH.w_parT ?_)
  | (with_reducible refine TH.w_par ?_)
  | (with_reducible refine TH.w_parT3 ?_)
  | (with_reducible refine TH.w_par3 ?_)
  | (with_reducible refine TH.w_cb ?_)
  | (with_reducible refine TH.w_call ?_)
  | ((with_reducible refine TH.w_aug (v := ?vv) ?hv ?_); (case hv => rfl))
  | (with_reducible refine TH.w_ip ?_)
  | (with_reducible refine TH.w_bm ?_)
  | (with_reducible refine TH.w_sl ?_)
  | (with_reducible refine TH.w_np ?_)
  | (with_reducible refine TH.w_pt ?_)
  | (with_reducible refine TH.w_pti ?_)
  | (with_reducible refine TH.w_gsub ?_)
  | (with_reducible refine TH.w_int ?_)
  | (with_reducible refine TH.w_tupT ?_)
  | (with_reducible refine TH.w_lstT ?_)
  | ((with_reducible show L2.rIxL _ _ _ _ _); (first | (refine TH.w_ixL (TH.sqL upd_same) rfl ?_) | (refine TH.w_ixL (TH.sqL (by assumption)) rfl ?_)))
  | ((with_reducible show L2.rSetL _ _ _ _ _); (first | (refine TH.w_set1 upd_same ?_) | (refine TH.w_set2 upd_same ?_) | (refine TH.w_set3 upd_same ?_) | (refine TH.w_set4 upd_same ?_) | (refine TH.w_set1 (by assumption) ?_) | (refine TH.w_set2 (by assumption) ?_) | (refine TH.w_set3 (by assumption) ?_) | (refine TH.w_set4 (by assumption) ?_)))
  | (with_reducible refine TH.w_lc ?_)
  | (with_reducible refine TH.w_dc ?_)
  | (with_reducible refine TH.w_itup ?_)
  | (with_reducible refine TH.w_ilist ?_)
  | (with_reducible refine TH.w_ienum ?_)
  | (with_reducible refine TH.w_izip ?_)
  | (with_reducible refine TH.w_irng1 ?_)
  | (with_reducible refine TH.w_irng2 ?_)
  | (with_reducible refine TH.w_for ?_)
  | (with_reducible refine TH.w_gcons ?_)
  | (with_reducible refine TH.w_gnil ?_)
  | (with_reducible refine TH.w_yes ?_)
  | (with_reducible refine TH.w_gtup2 upd_same ?_)
  | (with_reducible refine TH.w_gtup3 upd_same ?_)
  | (with_reducible refine TH.w_dput ?_)
  | (with_reducible refine TH.w_bm0 ?_)
  | (with_reducible refine TH.w_din ?_)
  | (with_reducible refine TH.w_dnotin ?_)
  | (with_reducible refine TH.w_dispK ?_)
  | (with_reducible refine TH.w_lock ?_)
  | (with_reducible refine TH.w_ikeys ?_)
  | (with_reducible refine TH.w_iitems ?_)
  | (with_reducible refine TH.w_dispT1 ?_)
  | (with_reducible refine TH.w_dnewT ?_)
  | (with_reducible refine TH.w_dnewK ?_)
  | (with_reducible refine TH.w_fld ?_)
  | (with_reducible refine TH.w_sfld ?_)
  | (with_reducible refine TH.w_meth ?_)
  | (with_reducible refine TH.w_make ?_)
  | (with_reducible refine TH.w_dget2 ?_)
  | (with_reducible refine TH.w_revL ?_)
  | (with_reducible refine TH.w_revT ?_)
  | (with_reducible refine TH.w_lstRg ?_)
  | (with_reducible refine TH.w_tupRg ?_)
  | (with_reducible refine TH.w_rg1 ?_)
  | (with_reducible refine TH.w_rg2 ?_)
  | (with_reducible refine TH.w_T ?_)
  | (with_reducible refine TH.w_F ?_))
local macro_rules | `(tactic| walk_at "rd") => `(tactic| repeat (first | walk_at "rd1" | (dsimp only [List.set, L2.wipe, List.map, TH.isInt, TH.isBool, TH.isTup, TH.isLst, TH.bo_f, TH.bo_t, TH.ba_f, TH.ba_t, TH.bn_t, TH.bn_f, List.append_nil, List.cons_append, List.nil_append])))

section
open LA
variable {n : Nat} [NeZero n]
/-! ### plain: the square's determinant is not 0 -/
def pick (rs : List (List Int)) (ts : List Nat) : List (List Int) := ts.map fun t => rs.getD t []
theorem least_in {wide : Nat} {rs : List (List Int)} {i : Nat} {ts : List Nat} (h : Least n wide rs i ts) : ∀ t ∈ ts, t < i ∧ t < rs.length := by
  induction h with
  | nil => exact fun t ht => nomatch ht
  | skip h e m ih => exact fun t ht => ⟨by have := (ih t ht).1; omega, (ih t ht).2⟩
  | @more i r ts h e m ih =>
    intro t ht
    rcases List.mem_append.mp ht with m1 | m1
    · exact ⟨by have := (ih t m1).1; omega, (ih t m1).2⟩
    · rw [List.mem_singleton.mp m1]
      exact ⟨by omega, (List.getElem?_eq_some_iff.mp e).1⟩
theorem pick_in {wide : Nat} {rs : List (List Int)} {i : Nat} {ts : List Nat} (h : Least n wide rs i ts) (hrs : ∀ r ∈ rs, Rin n wide r) : ∀ x ∈ pick rs ts, Rin n wide x := fun x hx => by
  obtain ⟨t, ht, rfl⟩ := List.mem_map.mp hx
  exact hrs _ (List.mem_of_getElem? (getD_at (least_in h t ht).2))
theorem least_rk (hc : Clk n) {wide : Nat} {rs : List (List Int)} (hrs : ∀ r ∈ rs, Rin n wide r) {i : Nat} {ts : List Nat} (h : Least n wide rs i ts) : Eqv wide (rowsF n (pick rs ts)) (rowsF n (rs.take i)) ∧ RkI n wide (pick rs ts) ts.length := by
  have key : ∀ i ts, Least n wide rs i ts → Eqv wide (rowsF n (pick rs ts)) (rowsF n (rs.take i)) ∧ RkI n wide (pick rs ts) ts.length := fun i ts h => by
    induction h with
    | nil => exact ⟨.refl _, [], stI_nil, rfl⟩
    | @skip i r ts h e m ih =>
      refine ⟨?_, ih.2⟩
      rw [List.take_add_one, e]
      exact ih.1.trans (eqv_in (fun x hx => hrs x (List.mem_of_mem_take hx)) (hrs r (List.mem_of_getElem? e)) m)
    | @more i r ts h e m ih =>
      have hr := hrs r (List.mem_of_getElem? e)
      have hl : (toF n r).length = wide := by rw [toF_len, hr.1]
      have ep : pick rs (ts ++ [i]) = pick rs ts ++ [r] := by
        unfold pick
        rw [List.map_append]
        show _ ++ [rs.getD i []] = _
        rw [getD_of e]
      have hp := pick_in h hrs
      rw [ep, List.take_add_one, e]
      refine ⟨eqv_snoc hp (fun x hx => hrs x (List.mem_of_mem_take hx)) hr ih.1, ?_⟩
      rw [List.length_append]
      exact (rk_snoc hc hp hr ih.2).2 fun z => m ((ih.1 _ hl).mp z)
  exact key i ts h
theorem inS_mix : ∀ {R : List (List Int)} {wide : Nat} {r : List Int}, (∀ x ∈ R, Rin n wide x) → Rin n wide r → InS wide (rowsF n R) (toF n r) → ∃ c : Nat → Int, ∀ j, Cg n (r.getD j 0) (mixZ c R j)
  | [], wide, r, _, hr, h => by
    refine ⟨fun _ => 0, fun j => ?_⟩
    have h : toF n r = zero wide := h
    rw [← toF_zero] at h
    have e := toF_inj hr ⟨List.length_replicate, fun x hx => by
      rw [(List.mem_replicate.mp hx).2]
      exact ⟨Int.le_refl _, n_pos⟩⟩ h
    rw [e, rep_at]
    exact .refl _ _
  | r0 :: R, wide, r, hR, hr, ⟨c0, h⟩ => by
    have h0 := hR r0 List.mem_cons_self
    obtain ⟨x, _, _, rfl⟩ := cF_all c0
    rw [← toF_sub] at h
    obtain ⟨c, hcj⟩ := inS_mix (fun y hy => hR y (List.mem_cons_of_mem _ hy)) (iSub_in n_pos hr.1 h0.1) h
    refine ⟨fun k => if k = 0 then x else c (k - 1), fun j => ?_⟩
    have h1 := hcj j
    rw [iSub_at (by rw [hr.1, h0.1])] at h1
    rw [mixZ_cons]
    have h2 := ((Cg.mod n (r.getD j 0 - x * r0.getD j 0)).symm.trans h1).add (.refl n (x * r0.getD j 0))
    refine Cg.trans (.of (by omega)) (h2.trans (.of ?_))
    show mixZ c R j + x * r0.getD j 0 = x * r0.getD j 0 + mixZ c R j
    omega
theorem piv_nodup {wide : Nat} {ls : List (List Int)} {qs : List Nat} (hp : Piv n wide ls qs) : qs.Nodup ∧ ∀ q ∈ qs, q < wide := by
  constructor
  · rw [List.nodup_iff_pairwise_ne, List.pairwise_iff_getElem]
    intro i j hi hj hij z
    have e1 : qs[i]? = some qs[i] := List.getElem?_eq_getElem hi
    have e2 : qs[j]? = some qs[j] := List.getElem?_eq_getElem hj
    have hil : i < ls.length := by rw [← hp.len]; exact hi
    have el : ls[i]? = some ls[i] := List.getElem?_eq_getElem hil
    have a1 := (hp.at' i _ _ el e1).2.2
    have a2 := hp.off i j _ _ el e2 (by omega)
    rw [z, a2] at a1
    cases a1
  · intro q hq
    obtain ⟨i, hi⟩ := List.mem_iff_getElem?.mp hq
    have hil : i < ls.length := by rw [← hp.len]; exact (List.getElem?_eq_some_iff.mp hi).1
    exact (hp.at' i _ _ (List.getElem?_eq_getElem hil) hi).2.1
def subM (rs : List (List Int)) (ts qs : List Nat) : List (List Int) := ts.map fun t => qs.map fun q => (rs.getD t []).getD q 0
theorem map_at {α β : Type} {f : α → β} {xs : List α} {i : Nat} {d : α} {e : β} (h : i < xs.length) : (xs.map f).getD i e = f (xs.getD i d) := by
  rw [List.getD_eq_getElem?_getD, List.getElem?_map, List.getElem?_eq_getElem h, List.getD_eq_getElem?_getD, List.getElem?_eq_getElem h]
  rfl
theorem square_len (hc : Clk n) {wide : Nat} {rs ls : List (List Int)} {ts qs : List Nat} (hrs : ∀ r ∈ rs, Rin n wide r) (h : Least n wide rs rs.length ts) (hL : LadI n wide rs ls) (hp : Piv n wide ls qs) : ts.length = qs.length := by
  obtain ⟨h1, h2⟩ := least_rk hc hrs h
  rw [List.take_length] at h1
  rw [hp.len]
  exact rk_one hc h2 (ladI_rk hc hL hrs) h1
theorem square_det (hc : Clk n) {wide : Nat} {rs ls : List (List Int)} {ts qs : List Nat} (hrs : ∀ r ∈ rs, Rin n wide r) (h : Least n wide rs rs.length ts) (hL : LadI n wide rs ls) (hp : Piv n wide ls qs) : ¬ Cg n (detL (subM rs ts qs) (List.range ts.length)) 0 := by
  intro hz
  have n2 := hc.two
  have hlen := square_len hc hrs h hL hp
  obtain ⟨h1, h2⟩ := least_rk hc hrs h
  rw [List.take_length] at h1
  have hR := pick_in h hrs
  have hex : ∀ r ∈ ls, ∃ c : Nat → Int, ∀ j, Cg n (r.getD j 0) (mixZ c (pick rs ts) j) := fun r hr => by
    have hrr := hL.inr r hr
    refine inS_mix hR hrr ?_
    have hl : (toF n r).length = wide := by rw [toF_len, hrr.1]
    refine (h1 _ hl).mpr ((hL.eqv _ hl).mp ?_)
    exact inS_mem (rowsF_wd fun x hx => (hL.inr x hx).1) (List.mem_map.mpr ⟨r, hr, rfl⟩)
  let f : List Int → DT.Vec := fun r => Classical.epsilon fun c : Nat → Int => ∀ j, Cg n (r.getD j 0) (mixZ c (pick rs ts) j)
  have hf : ∀ r ∈ ls, ∀ j, Cg n (r.getD j 0) (mixZ (f r) (pick rs ts) j) := fun r hr => Classical.epsilon_spec (hex r hr)
  have hpl : (pick rs ts).length = ts.length := by unfold pick; rw [List.length_map]
  generalize hk : ts.length = k at hlen hz hpl
  have hM : (subM rs ts qs).length = k := by unfold subM; rw [List.length_map, hk]
  have hcong : DT.Cong n (List.range k) ((ls.map fun r => qs.map fun q => r.getD q 0).map vec) ((ls.map f).map fun a => DT.lin (fun t => vec ((subM rs ts qs).getD t [])) a (List.range k)) := by
    rw [List.map_map, List.map_map]
    refine cong_map fun r hr j hj => Cg.iff.mp ?_
    have hj := List.mem_range.mp hj
    show Cg n ((qs.map fun q => r.getD q 0).getD j 0) (DT.lin (fun t => vec ((subM rs ts qs).getD t [])) (f r) (List.range k) j)
    rw [lin_sum, map_at (d := 0) (by omega)]
    refine (hf r hr (qs.getD j 0)).trans (.of ?_)
    unfold mixZ
    rw [hpl]
    congr 1
    refine List.map_congr_left fun t ht => ?_
    have ht := List.mem_range.mp ht
    congr 1
    show _ = ((subM rs ts qs).getD t []).getD j 0
    unfold subM pick
    rw [map_at (d := 0) (by omega), map_at (d := 0) (by omega), map_at (d := 0) (by omega)]
  have e1 := Cg.iff.mpr (DT.det_mod hcong (List.range k) fun _ h => h)
  have e2 := DT.det_prod (B := fun t => vec ((subM rs ts qs).getD t [])) (as := ls.map f) (cs := List.range k) (cols := List.range k) (by rw [List.length_map, List.length_range, ← hp.len, hlen])
  rw [e2] at e1
  have e3 : (List.range k).map (fun t => vec ((subM rs ts qs).getD t [])) = (subM rs ts qs).map vec := by
    rw [← hM]
    exact range_map [] vec (subM rs ts qs)
  rw [e3] at e1
  have e4 := lower_det (m := k) (ls.map fun r => qs.map fun q => r.getD q 0) 0 (by rw [List.length_map, ← hp.len, ← hlen]; omega) fun i r hi => by
    rw [List.getElem?_map] at hi
    cases el : ls[i]? with
    | none => rw [el] at hi; cases hi
    | some r0 =>
      rw [el] at hi
      have hi : some (qs.map fun q => r0.getD q 0) = some r := hi
      have hi := Option.some.inj hi
      have hil := (List.getElem?_eq_some_iff.mp el).1
      rw [← hi, Nat.zero_add]
      refine ⟨?_, fun j hj => ?_⟩
      · rw [map_at (d := 0) (by rw [hp.len]; exact hil)]
        exact (hp.at' i _ _ el (getD_at (by rw [hp.len]; exact hil))).2.2
      · by_cases hjq : j < qs.length
        · rw [map_at (d := 0) hjq]
          exact hp.off i j _ _ el (getD_at hjq) (by omega)
        · rw [List.getD_eq_getElem?_getD, List.getElem?_eq_none (by rw [List.length_map]; omega)]
          rfl
  have e0 : colsF k 0 = List.range k := List.drop_zero
  rw [e0] at e4
  have e5 : Cg n 1 (DT.det (ls.map f) (List.range k) * detL (subM rs ts qs) (List.range k)) := by
    rw [← e4]
    exact e1
  have e6 := e5.trans (hz.mul _)
  rw [Int.mul_zero] at e6
  have := Cg.iff.mp e6
  rw [Int.emod_eq_of_lt (by omega) (by omega), Int.zero_emod] at this
  cases this
end
variable {P : Program} {w : World} {K : PySem.W.Frag} {mg : Str → Option Value} {base : Heap}
theorem w_cutTg {H : Hp} {Q : VK} {a : Addr} {xs : List V} {k : Nat} (h : SqT K H a xs) (q : ∀ b H', Ex H H' → SqT K H' b (xs.take k) → Q (.ref b) H') : rSlA K (.ref a) none (some (k : Int)) H Q := by
  refine ⟨a, xs, rfl, h, fun hw => ?_, fun hw p hp => ?_⟩
  · rw [HT.sIx_nat] at hw
    refine q a H (Ex.refl _) ?_
    rw [List.take_of_length_le (by omega)]
    exact h
  · have e : cutV xs none (some (k : Int)) = xs.take k := by
      unfold cutV
      rw [HT.sIx_nat, HT.sIx_none, List.drop_zero, Nat.sub_zero]
      by_cases hk : k ≤ xs.length
      · rw [Nat.min_eq_left hk]
      · rw [Nat.min_eq_right (by omega), List.take_length, List.take_of_length_le (by omega)]
    rw [e]
    exact q p _ (Ex.new hp) (sqT upd_same)
theorem w_cutL1 {H : Hp} {Q : VK} {a : Addr} {xs : List V} (h : SqT K H a xs) (q : ∀ b H', Ex H H' → SqT K H' b (xs.take (xs.length - 1)) → Q (.ref b) H') : rSlA K (.ref a) none (some (-1)) H Q := by
  have es : HT.sIx xs.length xs.length (some (-1)) = xs.length - 1 := by
    unfold HT.sIx
    simp
    try omega
  refine ⟨a, xs, rfl, h, fun hw => ?_, fun hw p hp => ?_⟩
  · rw [es] at hw
    refine q a H (Ex.refl _) ?_
    rw [List.take_of_length_le (by omega)]
    exact h
  · have e : cutV xs none (some (-1)) = xs.take (xs.length - 1) := by
      unfold cutV
      rw [es, HT.sIx_none, List.drop_zero, Nat.sub_zero]
    rw [e]
    exact q p _ (Ex.new hp) (sqT upd_same)
theorem rin_push {n : Int} {wide : Nat} {r : List Int} (h : Rin n wide r) : Rin n wide (r.take 1 ++ r.take (r.length - 1)) := by
  refine ⟨by rw [List.length_append, List.length_take, List.length_take, h.1]; omega, fun x hx => ?_⟩
  rcases List.mem_append.mp hx with m | m
  · exact h.2 x (List.mem_of_mem_take m)
  · exact h.2 x (List.mem_of_mem_take m)
end TK

namespace TK
open PySem PySem.Spec PyProof.Rows L2 TH
local macro_rules | `(tactic| walk_at "rd1") => `(tactic| first
  | (with_reducible refine TH.w_seq ?_)
  | (with_reducible refine TH.w_asg ?_)
  | (with_reducible refine TH.w_ret ?_)
  | (with_reducible refine TH.w_drop ?_)
  | (with_reducible refine TH.w_ifS ?_)
  | (with_reducible refine TH.w_next ?_)
  | ((with_reducible refine TH.w_var (v := ?vv) ?hv ?_); (case hv => rfl))
  | (with_reducible refine TH.w_c ?_)
  | ((with_reducible refine TH.w_gname (σ' := ?ss) ?hs ?_); (case hs => (dsimp only [List.set]; rfl)))
  | (with_reducible refine TH.w_op ?_)
  | (with_reducible refine TH.w_un ?_)
  | (with_reducible refine TH.w_chain ?_)
  | (with_reducible refine TH.w_I0 ?_)
  | ((with_reducible refine TH.w_I ?hm ?_); (case hm => first | (exact TH.CMul.l (by omega) (by omega)) | (exact TH.CMul.r (by omega) (by omega)) | (exact TH.CDiv.mk (by omega) (by omega)) | (show (0 : Int) < _; omega) | (exact TH.CPow.mk (by omega) (by omega) (by decide))))
  | (with_reducible refine TH.w_U ?_)
  | (with_reducible refine TH.w_eqI ?_)
  | (with_reducible refine TH.w_neI ?_)
  | (with_reducible refine TH.w_eqB ?_)
  | (with_reducible refine TH.w_isN ?_)
  | (with_reducible refine TH.w_nil ?_)
  | (with_reducible refine TH.w_cons ?_)
  | (with_reducible refine TH.w_test ?_)
  | (with_reducible refine TH.w_B ?_)
  | (with_reducible refine TH.w_bl ?_)
  | (with_reducible refine TH.w_and ?_)
  | (with_reducible refine TH.w_or ?_)
  | (with_reducible refine TH.w_not ?_)
  | (with_reducible refine TH.w_andV ?_)
  | (with_reducible refine TH.w_orV ?_)
  | (with_reducible refine TH.w_notV ?_)
  | (with_reducible refine TH.w_if ?_)
  | (with_reducible refine TH.w_parT ?_)
  | (with_reducible refine TH.w_par ?_)
  | (with_reducible refine TH.w_parT3 ?_)
  | (with_reducible refine TH.w_par3 ?_)
  | (with_reducible refine TH.w_cb ?_)
  | (with_reducible refine TH.w_call ?_)
  | ((with_reducible refine TH.w_aug (v := ?vv) ?hv ?_); (case hv => rfl))
  | (with_reducible refine TH.w_ip ?_)
  | (with_reducible refine TH.w_bm ?_)
  | (with_reducible refine TH.w_sl ?_)
  | (with_reducible refine TH.w_np ?_)
  | (with_reducible refine TH.w_pt ?_)
  | (with_reducible refine TH.w_pti ?_)
  | (with_reducible refine TH.w_gsub ?_)
  | (with_reducible refine TH.w_int ?_)
  | (with_reducible refine TH.w_tupT ?_)
  | (with_reducible refine TH.w_lstT ?_)
  | ((with_reducible show L2.rIxL _ _ _ _ _); (first | (refine TH.w_ixL (TH.sqL upd_same) rfl ?_) | (refine TH.w_ixL (TH.sqL (by assumption)) rfl ?_)))
  | ((with_reducible show L2.rSetL _ _ _ _ _); (first | (refine TH.w_set1 upd_same ?_) | (refine TH.w_set2 upd_same ?_) | (refine TH.w_set3 upd_same ?_) | (refine TH.w_set4 upd_same ?_) | (refine TH.w_set1 (by assumption) ?_) | (refine TH.w_set2 (by assumption) ?_) | (refine TH.w_set3 (by assumption) ?_) | (refine TH.w_set4 (by assumption) ?_)))
  | (with_reducible refine TH.w_lc ?_)
  | (with_reducible refine TH.w_dc ?_)
  | (with_reducible refine TH.w_itup ?_)
  | (with_reducible refine TH.w_ilist ?_)
  | (with_reducible refine TH.w_ienum ?_)
  | (with_reducible refine TH.w_izip ?_)
  | (with_reducible refine TH.w_irng1 ?_)
  | (with_reducible refine TH.w_irng2 ?_)
  | (with_reducible refine TH.w_for ?_)
  | (with_reducible refine TH.w_gcons ?_)
  | (with_reducible refine TH.w_gnil ?_)
  | (with_reducible refine TH.w_yes ?_)
  | (with_reducible refine TH.w_gtup2 upd_same ?_)
  | (with_reducible refine TH.w_gtup3 upd_same ?_)
  | (with_reducible refine TH.w_dput ?_)
  | (with_reducible refine TH.w_bm0 ?_)
  | (with_reducible refine TH.w_din ?_)
  | (with_reducible refine TH.w_dnotin ?_)
  | (with_reducible refine TH.w_dispK ?_)
  | (with_reducible refine TH.w_lock ?_)
  | (with_reducible refine TH.w_ikeys ?_)
  | (with_reducible refine TH.w_iitems ?_)
  | (with_reducible refine TH.w_dispT1 ?_)
  | (with_reducible refine TH.w_dnewT ?_)
  | (with_reducible refine TH.w_dnewK ?_)
  | (with_reducible refine TH.w_fld ?_)
  | (with_reducible refine TH.w_sfld ?_)
  | (with_reducible refine TH.w_meth ?_)
  | (with_reducible refine TH.w_make ?_)
  | (with_reducible refine TH.w_dget2 ?_)
  | (with_reducible refine TH.w_revL ?_)
  | (with_reducible refine TH.w_revT ?_)
  | (with_reducible refine TH.w_lstRg ?_)
  | (with_reducible refine TH.w_tupRg ?_)
  | (with_reducible refine TH.w_rg1 ?_)
  | (with_reducible refine TH.w_rg2 ?_)
  | (with_reducible refine TH.w_T ?_)
  | (with_reducible refine TH.w_F ?_))
local macro_rules | `(tactic| walk_at "rd") => `(tactic| repeat (first | walk_at "rd1" | (dsimp only [List.set, L2.wipe, List.map, TH.isInt, TH.isBool, TH.isTup, TH.isLst, TH.bo_f, TH.bo_t, TH.ba_f, TH.ba_t, TH.bn_t, TH.bn_f, List.append_nil, List.cons_append, List.nil_append])))

variable {P : Program} {w : World} {K : PySem.W.Frag} {mg : Str → Option Value} {base : Heap}
/-! the law -/
def sp_law (K : PySem.W.Frag) : Sp := fun vs H Q _ => ∃ (a : Addr) (ns : List Int), vs = [.ref a] ∧ SqL K H a (ns.map V.int) ∧ ns.length ≤ 1000000 ∧ ∀ H', Q (.bl true) H'
theorem head_filter {p : Nat → Bool} : ∀ {n q : Nat}, q < n → p q = true → (∀ j, j < q → p j = false) → ∃ t, (List.range n).filter p = q :: t
  | 0, q, h, _, _ => absurd h (Nat.not_lt_zero q)
  | n + 1, q, h, h1, h2 => by
    rw [List.range_succ, List.filter_append]
    by_cases hq : q < n
    · obtain ⟨t, e⟩ := head_filter (n := n) hq h1 h2
      exact ⟨t ++ List.filter p [n], by rw [e]; rfl⟩
    · have e : q = n := by omega
      subst e
      have e1 : (List.range q).filter p = [] := List.filter_eq_nil_iff.mpr fun j hj => by rw [h2 j (List.mem_range.mp hj)]; simp
      exact ⟨[], by rw [e1, List.filter_cons, if_pos h1]; rfl⟩
theorem made_head {wd : Nat} {r : List Int} {q : Nat} (h : firstI r = some q) (hl : r.length = wd) : ∃ ds, made wd (fun i => decide (r.getD i 0 ≠ 0)) (fun i => PyData.int (i : Nat)) = PyData.int (q : Nat) :: ds := by
  unfold firstI at h
  rw [List.findIdx?_eq_some_iff_getElem] at h
  obtain ⟨hq, h1, h2⟩ := h
  obtain ⟨t, e⟩ := head_filter (p := fun i => decide (r.getD i 0 ≠ 0)) (n := wd) (q := q) (by omega) (by
    show decide (r.getD q 0 ≠ 0) = true
    rw [List.getD_eq_getElem?_getD, List.getElem?_eq_getElem hq]
    exact h1) fun j hj => by
      have := h2 j hj
      show decide (r.getD j 0 ≠ 0) = false
      rw [List.getD_eq_getElem?_getD, List.getElem?_eq_getElem (by omega)]
      simpa using this
  exact ⟨t.map fun i => PyData.int (i : Nat), by unfold made; rw [e]; rfl⟩
open LA in
theorem least_len {n : Nat} [NeZero n] {wide : Nat} {rs : List (List Int)} {i : Nat} {ts : List Nat} (h : Least n wide rs i ts) : ts.length ≤ i := by
  induction h with
  | nil => exact Nat.le_refl _
  | skip h e m ih => omega
  | more h e m ih => rw [List.length_append]; exact Nat.succ_le_succ ih
open LA in
theorem ok_law {f : Addr} {fd : FuncData} (F : C8.Def K mg "law" s_law f fd) (b : Binds K fd ["script"] []) (T : Txt mg)
    (c_law_hand : C8.Cal P w K mg base 1 "_law_hand" (sp_hand K) []) (c_law_any : C8.Cal P w K mg base 2 "_law_any" (sp_any K) []) (c_law_draw : C8.Cal P w K mg base 1 "_law_draw" (sp_draw K) []) (c_law_is : C8.Cal P w K mg base 4 "_law_is" (sp_is 2 K) [])
    (c_law_clock : C8.Cal P w K mg base 3 "_law_clock" (sp_clock K) []) (c_law_some_rows : C8.Cal P w K mg base 4 "_law_some_rows" (sp_some_rows K) []) (c_law_some_row : C8.Cal P w K mg base 3 "_law_some_row" (sp_some_row K) []) (c_law_summed : C8.Cal P w K mg base 2 "_law_summed" (sp_summedM K) [])
    (c_mixture : C8.Cal P w K mg base 6 "mixture" (sp_mixture K) []) (c_parting : C8.Cal P w K mg base 7 "parting" (sp_parting K) []) (c_law_rank : C8.Cal P w K mg base 3 "_law_rank" (sp_law_rank K) []) (c_law_is_mixture : C8.Cal P w K mg base 3 "_law_is_mixture" (sp_law_is_mixture K) []) (c_law_is_parting : C8.Cal P w K mg base 3 "_law_is_parting" (sp_law_is_parting K) [])
    (c_law_ladder : C8.Cal P w K mg base 2 "_law_ladder" (sp_law_ladder K) []) (c_law_least_rows : C8.Cal P w K mg base 4 "_law_least_rows" (sp_law_least_rows K) []) (c_square : C8.Cal P w K mg base 7 "square" (sp_square K) [])
    (c_determinant : C8.Cal P w K mg base 5 "determinant" (sp_determinant K) []) (c_law_dets_right : C8.Cal P w K mg base 7 "_law_dets_right" (sp_dets K) []) : FnOk P w K mg base C8.CX0 8 f fd ["script"] (sp_law K) := by
  refine C8.fn0 F.fn sc_law (fun vs H Q E h => ?_) (fun cdv A outer s H vs Q E hr h => ?_)
  · obtain ⟨a, ns, rfl, _⟩ := h
    rfl
  · obtain ⟨a, ns, rfl, ha, hl, q⟩ := h
    have hu64 := hu64_of hr
    refine ⟨_, (pss_cons (ps_set (i := 1) sc_law.nd rfl (Or.inr rfl) (C8.pe_c c_law_hand hr (by first | decide | exact Nat.le_refl _) (by rfl) (pa_cons (pv 0) pa_nil)))
      (pss_cons (ps_for PassesOwn.never rfl (pi_range1 (by rfl) T.b_range (pa_cons pe_int pa_nil)) (pg_name (i := 2) sc_law.nd rfl (Or.inl rfl) (Or.inr rfl)) (pss_cons (ps_asg (pe_tup (pa_cons (C8.pe_c c_law_clock hr (by first | decide | exact Nat.le_refl _) (by rfl) (pa_cons (pv 1) pa_nil)) (pa_cons (C8.pe_c c_law_draw hr (by first | decide | exact Nat.le_refl _) (by rfl) (pa_cons (pv 1) (pa_cons pe_int pa_nil))) pa_nil))) (TH.kpg_tup (K := K) (n := 2) rfl (pgs_cons (pg_name (i := 8) sc_law.nd rfl (Or.inr rfl) (Or.inl rfl)) (pgs_cons (pg_name (i := 9) sc_law.nd rfl (Or.inr rfl) (Or.inl rfl)) pgs_nil))))
      (pss_cons (ps_set (i := 3) sc_law.nd rfl (Or.inl rfl) (C8.pe_c c_law_draw hr (by first | decide | exact Nat.le_refl _) (by rfl) (pa_cons (pv 1) (pa_cons pe_int pa_nil))))
      (C8.pss_cut (ps_if (pt_cmpR op_eq (C8.pe_c c_law_draw hr (by first | decide | exact Nat.le_refl _) (by rfl) (pa_cons (pv 1) (pa_cons pe_int pa_nil))) pe_int (nomark _)) (pss_one (ps_asg (C8.pe_c c_law_any hr (by first | decide | exact Nat.le_refl _) (by rfl) (pa_cons (pv 1) (pa_cons (pe_lst (pa_cons (pe_tup (pa_cons pe_int (pa_cons pe_int pa_nil))) (pa_cons (pe_tup (pa_cons pe_int (pa_cons pe_int pa_nil))) (pa_cons (pe_tup (pa_cons pe_int (pa_cons pe_int pa_nil))) (pa_cons (pe_tup (pa_cons pe_int (pa_cons pe_int pa_nil))) (pa_cons (pe_tup (pa_cons pe_int (pa_cons pe_int pa_nil))) pa_nil)))))) pa_nil))) (TH.kpg_tup (K := K) (n := 2) rfl (pgs_cons (pg_name (i := 9) sc_law.nd rfl (Or.inr rfl) (Or.inl rfl)) (pgs_cons (pg_name (i := 3) sc_law.nd rfl (Or.inl rfl) (Or.inr rfl)) pgs_nil))))) pss_nil)
      (pss_cons (ps_set (i := 4) sc_law.nd rfl (Or.inr rfl) (C8.pe_c c_law_some_rows hr (by first | decide | exact Nat.le_refl _) (by rfl) (pa_cons (pv 1) (pa_cons (pv 8) (pa_cons (pv 9) (pa_cons (pv 3) pa_nil))))))
      (pss_cons (ps_for PassesOwn.never rfl (pi_range1 (by rfl) T.b_range (pa_cons pe_int pa_nil)) (pg_name (i := 5) sc_law.nd rfl (Or.inl rfl) (Or.inr rfl)) (pss_cons (ps_set (i := 10) sc_law.nd rfl (Or.inl rfl) (C8.pe_c c_law_summed hr (by first | decide | exact Nat.le_refl _) (by rfl) (pa_cons (pv 8) (pa_cons (pv 9) (pa_cons (pv 4) (pa_cons (pe_lc (own := [("one", 15)]) (g := gName 15) (tt := tYes) rfl sc_law.nd (TH.kpi_list (K := K) (pv 4)) (blkOk_by (own := [("one", 15)]) (N := N_law) (sc := C8.fnScope s_law) (by decide +kernel)) (fun _ _ _ _ _ => (pg_name (i := 15) sc_law.nd rfl (Or.inl rfl) (Or.inr rfl))) (fun _ _ _ _ _ => pts_nil) (fun _ _ _ _ _ => (C8.pe_c c_law_draw hr (by first | decide | exact Nat.le_refl _) (by rfl) (pa_cons (pv 1) (pa_cons (pv 8) pa_nil))))) pa_nil))))))
      (C8.pss_cut (ps_if (pt_cmpR op_gt (pv 5) pe_int (nomark _)) (pss_one (ps_set (i := 10) sc_law.nd rfl (Or.inl rfl) (C8.pe_c c_law_any hr (by first | decide | exact Nat.le_refl _) (by rfl) (pa_cons (pv 1) (pa_cons (pe_lst (pa_cons (pv 10) (pa_cons (C8.pe_c c_law_some_row hr (by first | decide | exact Nat.le_refl _) (by rfl) (pa_cons (pv 1) (pa_cons (pv 8) (pa_cons (pv 9) (pa_cons (pe_lst pa_nil) pa_nil))))) (pa_cons (pe_op (TH.kop_catA (K := K)) (pe_slice (TH.ksl_tup (K := K)) (pv 10) po_none (po_some pe_int)) (pe_slice (TH.ksl_tup (K := K)) (pv 10) po_none (po_some (pe_un un_neg pe_int)))) pa_nil)))) pa_nil))))) pss_nil)
      (pss_cons (ps_set (i := 11) sc_law.nd rfl (Or.inl rfl) (C8.pe_c c_law_any hr (by first | decide | exact Nat.le_refl _) (by rfl) (pa_cons (pv 1) (pa_cons (pe_lst (pa_cons (pe_callTy (TH.kcall_list (K := K)) (by rfl) T.b_list (by decide +kernel) (pa_cons (pv 4) pa_nil)) (pa_cons (pe_callTy (TH.kcall_tuple (K := K)) (by rfl) T.b_tuple (by decide +kernel) (pa_cons (pv 4) pa_nil)) pa_nil))) pa_nil))))
      (pss_cons (ps_asg (pe_tup (pa_cons (C8.pe_c c_mixture hr (by first | decide | exact Nat.le_refl _) (by rfl) (pa_cons (pv 8) (pa_cons (pv 9) (pa_cons (pv 11) (pa_cons (pv 10) pa_nil))))) (pa_cons (C8.pe_c c_parting hr (by first | decide | exact Nat.le_refl _) (by rfl) (pa_cons (pv 8) (pa_cons (pv 9) (pa_cons (pv 11) (pa_cons (pv 10) pa_nil))))) pa_nil))) (TH.kpg_tup (K := K) (n := 2) rfl (pgs_cons (pg_name (i := 7) sc_law.nd rfl (Or.inr rfl) (Or.inl rfl)) (pgs_cons (pg_name (i := 14) sc_law.nd rfl (Or.inl rfl) (Or.inr rfl)) pgs_nil))))
      (pss_cons (ps_if (pt_cmpR (TH.kop_neD (K := K) hu64) (pe_callTy (TH.kcall_list (K := K)) (by rfl) T.b_list (by decide +kernel) (pa_cons (pv 11) pa_nil)) (pv 4) (nomark _)) (pss_one (ps_ret pe_bl)) pss_nil)
      (pss_one (ps_if (pt_cmpR op_eq (C8.pe_c c_law_rank hr (by first | decide | exact Nat.le_refl _) (by rfl) (pa_cons (pv 8) (pa_cons (pe_op op_cat (pv 4) (pe_lst (pa_cons (pv 10) pa_nil))) pa_nil))) (C8.pe_c c_law_rank hr (by first | decide | exact Nat.le_refl _) (by rfl) (pa_cons (pv 8) (pa_cons (pv 4) pa_nil))) (nomark _)) (pss_one (ps_if (PW.pt (pw_or (pt_cmpR op_notN (pv 14) pe_non (nomark _)) (pw_or (pt_cmpR op_isN (pv 7) pe_non (nomark _)) (pw_or1 (pt_not (pt_val (C8.pe_c c_law_is_mixture hr (by first | decide | exact Nat.le_refl _) (by rfl) (pa_cons (pv 8) (pa_cons (pv 9) (pa_cons (pv 4) (pa_cons (pv 10) (pa_cons (pv 7) pa_nil)))))))))))) (pss_one (ps_ret pe_bl)) pss_nil)) (pss_one (ps_if (PW.pt (pw_or (pt_cmpR op_notN (pv 7) pe_non (nomark _)) (pw_or (pt_cmpR op_isN (pv 14) pe_non (nomark _)) (pw_or1 (pt_not (pt_val (C8.pe_c c_law_is_parting hr (by first | decide | exact Nat.le_refl _) (by rfl) (pa_cons (pv 8) (pa_cons (pv 9) (pa_cons (pv 4) (pa_cons (pv 10) (pa_cons (pv 14) pa_nil)))))))))))) (pss_one (ps_ret pe_bl)) pss_nil))))))))))
      (pss_cons (ps_setLc (i := 6) (own := [("row", 10)]) (g := gName 10) (tt := tYes) rfl sc_law.nd rfl rfl (sw_true rfl rfl rfl (by decide +kernel)) (TH.kpi_tup (K := K) (C8.pe_c c_law_ladder hr (by first | decide | exact Nat.le_refl _) (by rfl) (pa_cons (pv 8) (pa_cons (pv 9) (pa_cons (pv 4) pa_nil))))) (blkOk_by (own := [("row", 10)]) (N := N_law) (sc := C8.fnScope s_law) (by decide +kernel)) (fun _ _ _ _ _ => (pg_name (i := 10) sc_law.nd rfl (Or.inr rfl) (Or.inl rfl))) (fun _ _ _ _ _ => pts_nil) (fun _ _ _ _ _ => (pe_ix (TH.kix_list (K := K)) (pe_lc (own := [("at", 16)]) (g := gName 16) rfl sc_law.nd (pi_range1 (by rfl) T.b_range (pa_cons (pv 9) pa_nil)) (TH.blkOk_blk (own := [("at", 16)]) (N := N_law) rfl (by decide +kernel)) (fun _ _ _ _ _ => (pg_name (i := 16) sc_law.nd rfl (Or.inl rfl) (Or.inr rfl))) (fun _ _ _ _ _ => (pts_one (pt_cmpR op_ne (pe_ix (TH.kix_tup (K := K)) (pv 10) (pv 16) (fun _ _ => rfl)) pe_int (nomark _)))) (fun _ _ _ _ _ => (pv 16))) pe_int (fun _ _ => rfl))))
      (pss_cons (ps_par (i := 12) (j := 13) rfl sc_law.nd rfl rfl (by decide) rfl rfl (pa_cons (pe_tup (pa_cons (C8.pe_c c_law_least_rows hr (by first | decide | exact Nat.le_refl _) (by rfl) (pa_cons (pv 8) (pa_cons (pv 9) (pa_cons (pv 4) pa_nil)))) (pa_cons (pe_callTy (TH.kcall_tuple (K := K)) (by rfl) T.b_tuple (by decide +kernel) (pa_cons (pv 6) pa_nil)) pa_nil))) (pa_cons (pe_callTy (TH.kcall_list (K := K)) (by rfl) T.b_list (by decide +kernel) (pa_cons (pv 4) pa_nil)) pa_nil)) (by rfl))
      (pss_cons (ps_set (i := 7) sc_law.nd rfl (Or.inr rfl) (C8.pe_c c_square hr (by first | decide | exact Nat.le_refl _) (by rfl) (pa_cons (pv 8) (pa_cons (pv 9) (pa_cons (pv 4) pa_nil)))))
      (pss_cons (ps_if (PW.pt (pw_or (pt_not (pt_val (C8.pe_c c_law_is hr (by first | decide | exact Nat.le_refl _) (by rfl) (pa_cons (pv 7) (pa_cons (pv 12) pa_nil))))) (pw_or1 (pt_cmpR (TH.kop_neD (K := K) hu64) (pv 4) (pv 13) (nomark _))))) (pss_one (ps_ret pe_bl)) pss_nil)
      (pss_cons (ps_if (pt_cmpR op_eq (C8.pe_c c_determinant hr (by first | decide | exact Nat.le_refl _) (by rfl) (pa_cons (pv 8) (pa_cons (pe_lc (own := [("at", 16)]) (g := gName 16) (tt := tYes) rfl sc_law.nd (TH.kpi_tup (K := K) (pe_ix (TH.kix_tup (K := K)) (pv 7) pe_int (fun _ _ => rfl))) (blkOk_by (own := [("at", 16)]) (N := N_law) (sc := C8.fnScope s_law) (by decide +kernel)) (fun _ _ _ _ _ => (pg_name (i := 16) sc_law.nd rfl (Or.inr rfl) (Or.inl rfl))) (fun _ _ _ _ _ => pts_nil) (fun _ _ _ _ _ => (pe_callTy (TH.kcall_tuple (K := K)) (by rfl) T.b_tuple (by decide +kernel) (pa_cons (pe_lc (own := [("place", 17)]) (g := gName 17) (tt := tYes) rfl sc_law.nd (TH.kpi_tup (K := K) (pe_ix (TH.kix_tup (K := K)) (pv 7) pe_int (fun _ _ => rfl))) (TH.blkOk_blk (own := [("place", 17)]) (N := N_law) rfl (by decide +kernel)) (fun _ _ _ _ _ => (pg_name (i := 17) sc_law.nd rfl (Or.inl rfl) (Or.inr rfl))) (fun _ _ _ _ _ => pts_nil) (fun _ _ _ _ _ => (pe_ix (TH.kix_tup (K := K)) (pe_ix (TH.kix_list (K := K)) (pv 4) (pv 16) (fun _ _ => rfl)) (pv 17) (fun _ _ => rfl)))) pa_nil)))) pa_nil))) pe_int (nomark _)) (pss_one (ps_ret pe_bl)) pss_nil)
      (pss_one (ps_if (pt_not (pt_val (C8.pe_c c_law_dets_right hr (by first | decide | exact Nat.le_refl _) (by rfl) (pa_cons (pv 1) pa_nil)))) (pss_one (ps_ret pe_bl)) pss_nil)))))))))))))
      (pss_one (ps_ret pe_bl)))), ?_⟩
    refine w_start (σ' := [some (.ref a), none, none, none, none, none, none, none, none, none, none, none, none, none, none, none, none, none]) rfl ?_
    walk_at "rd"
    refine ⟨a, ns, rfl, ha, hl, fun hv H1 e1 hh => ?_⟩
    walk_at "rd"
    refine w_isrng (by omega) (by omega) ?_
    refine for_go walk_rng (fun i σ H4 => Ex H1 H4 ∧ ∃ y2 y3 y4 y5 y6 y7 y8 y9 y10 y11 y12 y13 y14 y15 y16 y17, σ = [some (.ref a), some hv, y2, y3, y4, y5, y6, y7, y8, y9, y10, y11, y12, y13, y14, y15, y16, y17]) ⟨Ex.refl _, _, _, _, _, _, _, _, _, _, _, _, _, _, _, _, _, rfl⟩ (fun _ _ _ _ _ => trivial) (fun i x σ H4 H5 hi p y => ?_) (fun σ H4 p => ?_)
    rotate_left
    · obtain ⟨e4, y2, y3, y4, y5, y6, y7, y8, y9, y10, y11, y12, y13, y14, y15, y16, y17, rfl⟩ := p
      walk_at "rd"
      exact q _
    obtain ⟨e4, y2, y3, y4, y5, y6, y7, y8, y9, y10, y11, y12, y13, y14, y15, y16, y17, rfl⟩ := p
    obtain ⟨rfl, rfl⟩ := y
    have hh5 := hh.ex e4
    walk_at "rd"
    refine ⟨hv, rfl, hh5, fun p H6 e6 hp => ?_⟩
    obtain ⟨n, rfl, hck, hnm⟩ := clock_ok hp
    have hc := clk_of hck
    have inst : NeZero n := hc.ne
    have n2 := hc.two
    have hh6 := hh5.ex e6
    walk_at "rd"
    refine ⟨hv, _, rfl, hh6, by omega, by omega, fun r r0 r1 => ?_⟩
    obtain ⟨w0, rfl, hw0⟩ := nat_lt (n := 8) r0 r1
    walk_at "rd"
    refine w_dispT (by simp) fun tp htp => ?_
    have e7 : Ex H6 (upd H6 tp (.tup [V.int n, V.int w0])) := Ex.new htp
    have u7 : upd H6 tp (.tup [V.int n, V.int w0]) tp = some (.tup [V.int n, V.int w0]) := upd_same
    generalize upd H6 tp (.tup [V.int n, V.int w0]) = H7 at e7 u7 ⊢
    have hh7 := hh6.ex e7
    refine w_gtup2 u7 ?_
    walk_at "rd"
    refine ⟨hv, _, rfl, hh7, by omega, by omega, fun r r0 r1 => ?_⟩
    obtain ⟨m0, rfl, hm0⟩ := nat_lt (n := 8) r0 r1
    walk_at "rd"
    refine ⟨fun σ' H8 => Ex H7 H8 ∧ ∃ (wd my : Nat), wd ≤ 200 ∧ my ≤ 200 ∧ (wd ≤ 60 ∨ my ≤ 60) ∧ σ' = [some (.ref a), some hv, some (.int i), some (.int my), y4, y5, y6, y7, some (.int n), some (.int wd), y10, y11, y12, y13, y14, y15, y16, y17], ?_, ?_⟩
    · walk_at "rd"
      refine ⟨hv, _, rfl, hh7, by omega, by omega, fun r _ _ => ?_⟩
      walk_at "rd"
      refine w_dec (fun _ => ?_) (fun _ => ?_)
      · walk_at "rd"
        refine w_dispT (by simp) fun t1 g1 => ?_
        have k1 := Ex.new (o := .tup [V.int 200, V.int 2]) g1
        have u1 : upd H7 t1 (.tup [V.int 200, V.int 2]) t1 = some (.tup [V.int 200, V.int 2]) := upd_same
        generalize upd H7 t1 (.tup [V.int 200, V.int 2]) = G1 at k1 u1 ⊢
        walk_at "rd"
        refine w_dispT (by simp) fun t2 g2 => ?_
        have k2 := Ex.new (o := .tup [V.int 2, V.int 200]) g2
        have u2 : upd G1 t2 (.tup [V.int 2, V.int 200]) t2 = some (.tup [V.int 2, V.int 200]) := upd_same
        generalize upd G1 t2 (.tup [V.int 2, V.int 200]) = G2 at k2 u2 ⊢
        walk_at "rd"
        refine w_dispT (by simp) fun t3 g3 => ?_
        have k3 := Ex.new (o := .tup [V.int 200, V.int 0]) g3
        have u3 : upd G2 t3 (.tup [V.int 200, V.int 0]) t3 = some (.tup [V.int 200, V.int 0]) := upd_same
        generalize upd G2 t3 (.tup [V.int 200, V.int 0]) = G3 at k3 u3 ⊢
        walk_at "rd"
        refine w_dispT (by simp) fun t4 g4 => ?_
        have k4 := Ex.new (o := .tup [V.int 0, V.int 200]) g4
        have u4 : upd G3 t4 (.tup [V.int 0, V.int 200]) t4 = some (.tup [V.int 0, V.int 200]) := upd_same
        generalize upd G3 t4 (.tup [V.int 0, V.int 200]) = G4 at k4 u4 ⊢
        walk_at "rd"
        refine w_dispT (by simp) fun t5 g5 => ?_
        have k5 := Ex.new (o := .tup [V.int 200, V.int 1]) g5
        have u5 : upd G4 t5 (.tup [V.int 200, V.int 1]) t5 = some (.tup [V.int 200, V.int 1]) := upd_same
        generalize upd G4 t5 (.tup [V.int 200, V.int 1]) = G5 at k5 u5 ⊢
        walk_at "rd"
        refine w_dispT (by simp) fun l3 g6 => ?_
        have k6 := Ex.new (o := .lst [V.ref t1, V.ref t2, V.ref t3, V.ref t4, V.ref t5]) g6
        have kk : Ex H7 (upd G5 l3 (.lst [V.ref t1, V.ref t2, V.ref t3, V.ref t4, V.ref t5])) := k1.trans (k2.trans (k3.trans (k4.trans (k5.trans k6))))
        refine ⟨hv, l3, _, rfl, hh7.ex kk, sqL upd_same, by simp, by simp, fun x hx => ?_⟩
        have hx' : ∃ (t : Addr) (wd my : Nat), x = .ref t ∧ upd G5 l3 (.lst [V.ref t1, V.ref t2, V.ref t3, V.ref t4, V.ref t5]) t = some (.tup [.int wd, .int my]) ∧ wd ≤ 200 ∧ my ≤ 200 ∧ (wd ≤ 60 ∨ my ≤ 60) := by
          simp only [List.mem_cons, List.not_mem_nil, or_false] at hx
          rcases hx with rfl | rfl | rfl | rfl | rfl
          · exact ⟨t1, 200, 2, rfl, k6 _ _ (k5 _ _ (k4 _ _ (k3 _ _ (k2 _ _ u1)))), by omega, by omega, by omega⟩
          · exact ⟨t2, 2, 200, rfl, k6 _ _ (k5 _ _ (k4 _ _ (k3 _ _ u2))), by omega, by omega, by omega⟩
          · exact ⟨t3, 200, 0, rfl, k6 _ _ (k5 _ _ (k4 _ _ u3)), by omega, by omega, by omega⟩
          · exact ⟨t4, 0, 200, rfl, k6 _ _ (k5 _ _ u4), by omega, by omega, by omega⟩
          · exact ⟨t5, 200, 1, rfl, k6 _ _ u5, by omega, by omega, by omega⟩
        obtain ⟨t, wd', my', rfl, ht, b1, b2, b3⟩ := hx'
        refine w_gtup2 ht ?_
        walk_at "rd"
        exact ⟨kk, wd', my', b1, b2, b3, rfl⟩
      · walk_at "rd"
        exact ⟨Ex.refl _, w0, m0, by omega, by omega, by omega, rfl⟩
    rintro σ' H8 ⟨e8, wd, my, hwd, hmy, hsm, rfl⟩
    have hh8 := hh7.ex e8
    walk_at "rd"
    refine ⟨hv, n, wd, my, rfl, hh8, by omega, by omega, by omega, by omega, fun la H9 xs rs e9 hla hda hlen hrin => ?_⟩
    have hh9 := hh8.ex e9
    have hxl : xs.length = rs.length := by rw [dpa_len hda, List.length_map]
    have hrsl : rs.length ≤ 200 := by omega
    have hrslen : ∀ r ∈ rs, r.length = wd := fun r hr => (hrin r hr).1
    have eS : Ex H1 H9 := e4.trans (e6.trans (e7.trans (e8.trans e9)))
    clear e4 e6 e7 e8 e9 u7 hh5 hh6 hh7 hh8 htp
    walk_at "rd"
    refine w_isrng (by omega) (by omega) ?_
    refine for_go walk_rng (fun j σ H' => Ex H9 H' ∧ ∃ z5 z7 z10 z11 z14 z15 z16 z17, σ = [some (.ref a), some hv, some (.int i), some (.int my), some (.ref la), z5, y6, z7, some (.int n), some (.int wd), z10, z11, y12, y13, z14, z15, z16, z17]) ⟨Ex.refl _, _, _, _, _, _, _, _, _, rfl⟩ (fun _ _ _ _ _ => trivial) (fun j x σ H10 H11 hj p y => ?_) (fun σ H10 p => ?_)
    · obtain ⟨e10, z5, z7, z10, z11, z14, z15, z16, z17, rfl⟩ := p
      obtain ⟨rfl, rfl⟩ := y
      have hh10 := hh9.ex e10
      walk_at "rd"
      refine ⟨la, rfl, ⟨_, e10.l (sqL hla)⟩, fun Dl hD => ?_⟩
      refine lc_some (K := K) walk_list (fun _ d => ∃ x : Int, d = .int x ∧ 0 ≤ x ∧ x < n) (fun _ d h => by obtain ⟨x, rfl, _⟩ := h; rfl) (fun H' e => e.l (e10.l (sqL hla))) hD (by omega) (fun k x H12 H13 hk e y R k' => ?_) (fun H12 ws ds e12 hws hdl hφ hdd => ?_)
      · obtain ⟨rfl, hx⟩ := y
        walk_at "rd"
        refine ⟨rfl, ?_⟩
        walk_at "rd"
        refine ⟨hv, _, rfl, hh10.ex e, by omega, by omega, fun r r0 r1 => ?_⟩
        exact k' _ (.int r) _ (Ex.refl _) ⟨r, rfl, r0, r1⟩ (.int _)
      obtain ⟨ms, rfl, hms⟩ := ints_of hφ
      have eu := dpa_ints_inv hdd
      subst eu
      have e012 := e10.trans e12
      walk_at "rd"
      refine ⟨n, wd, la, Dl, xs, rs, ms, rfl, sqL (e012 _ _ hla), e012.dpa hda, .inl (sqL hws), by omega, by omega, by omega, hrslen, fun m hm => by have := hms m hm; omega, fun ru H13 e13 hru => ?_⟩
      have hR0 : Rin n wd (sumI n (List.replicate wd 0) rs ms) := sumI_in (by omega) ⟨by simp, fun x hx => by rw [(List.mem_replicate.mp hx).2]; omega⟩ hrin
      have e013 := e012.trans e13
      have hh13 := hh9.ex e013
      clear e012 e13 e12 hws hdd
      generalize sumI n (List.replicate wd 0) rs ms = R0 at hru hR0
      walk_at "rd"
      refine ⟨fun σ' H' => Ex H13 H' ∧ ∃ u r, Dp K H' u (row r) ∧ Rin n wd r ∧ σ' = [some (.ref a), some hv, some (.int i), some (.int my), some (.ref la), some (.int j), y6, z7, some (.int n), some (.int wd), some u, z11, y12, y13, z14, z15, z16, z17], ?_, ?_⟩
      · walk_at "rd"
        refine w_dec (fun _ => ?_) (fun _ => ?_)
        · walk_at "rd"
          refine w_dispT (by simp) fun l0 hl0 => ?_
          have k0 : Ex H13 (upd H13 l0 (.lst [])) := Ex.new hl0
          have u0 : upd H13 l0 (.lst []) l0 = some (.lst []) := upd_same
          generalize upd H13 l0 (.lst []) = G0 at k0 u0 ⊢
          refine ⟨hv, n, wd, l0, [], [], rfl, hh13.ex k0, sqL u0, .nil, by omega, by omega, by omega, by simp, fun x hx => (nomatch hx), fun sv G1 sr k1 hsv hsr => ?_⟩
          have k01 := k0.trans k1
          obtain ⟨ra, rfl, hra⟩ := dp_row (k01.dp hru)
          walk_at "rd"
          refine w_cutTg hra fun c1 G2 k2 hc1 => ?_
          walk_at "rd"
          refine w_cutL1 (k2.t hra) fun c2 G3 k3 hc2 => ?_
          rw [List.length_map] at hc2
          rw [← List.map_take] at hc1 hc2
          refine w_catRow (dp_row_of (k3.t hc1)) (dp_row_of hc2) (by rw [List.length_take, List.length_take]; have := hR0.1; omega) fun cu G4 k4 hcu => ?_
          have k24 := k2.trans (k3.trans k4)
          walk_at "rd"
          refine w_dispT (by simp) fun lm hlm => ?_
          have k5 := Ex.new (o := .lst [.ref ra, sv, cu]) hlm
          have k15 := k24.trans k5
          have k05 := k01.trans k15
          refine ⟨hv, lm, _, rfl, hh13.ex k05, sqL upd_same, by simp, by simp, fun x hx => ?_⟩
          simp only [List.mem_cons, List.not_mem_nil, or_false] at hx
          walk_at "rd"
          refine ⟨k05, x, ?_⟩
          rcases hx with rfl | rfl | rfl
          · exact ⟨R0, k05.dp hru, hR0, rfl⟩
          · exact ⟨sr, k15.dp hsv, hsr, rfl⟩
          · exact ⟨_, k5.dp hcu, rin_push hR0, rfl⟩
        · walk_at "rd"
          exact ⟨Ex.refl _, ru, R0, hru, hR0, rfl⟩
      rintro σ' H14 ⟨e14, u, r, hu, hr1, rfl⟩
      clear hru hR0
      have e014 := e013.trans e14
      have hh14 := hh9.ex e014
      clear e013 e14 hh13
      have hla14 := e014 _ _ hla
      have hda14 := e014.dpa hda
      walk_at "rd"
      refine ⟨la, _, rfl, .inl (sqL hla14), fun g1 hg1 => ?_⟩
      have k1 := Ex.new (o := .lst xs) hg1
      have u1 : upd H14 g1 (.lst xs) g1 = some (.lst xs) := upd_same
      generalize upd H14 g1 (.lst xs) = G1 at k1 u1 ⊢
      walk_at "rd"
      refine ⟨la, _, rfl, .inl ⟨sqL (k1 _ _ hla14), fun g2 hg2 => ?_⟩⟩
      have k2 := Ex.new (o := .tup xs) hg2
      have u2 : upd G1 g2 (.tup xs) g2 = some (.tup xs) := upd_same
      generalize upd G1 g2 (.tup xs) = G2 at k2 u2 ⊢
      walk_at "rd"
      refine w_dispT (by simp) fun l3 g3 => ?_
      have k3 := Ex.new (o := .lst [V.ref g1, V.ref g2]) g3
      have u3 : upd G2 l3 (.lst [V.ref g1, V.ref g2]) l3 = some (.lst [V.ref g1, V.ref g2]) := upd_same
      have k13 := k1.trans (k2.trans k3)
      have u1' := k3 _ _ (k2 _ _ u1)
      have u2' := k3 _ _ u2
      generalize upd G2 l3 (.lst [V.ref g1, V.ref g2]) = G3 at k13 u1' u2' u3 ⊢
      clear k1 k2 k3
      have hda3 := k13.dpa hda14
      have hla3 := k13 _ _ hla14
      have hu3 := k13.dp hu
      refine ⟨hv, l3, _, rfl, hh14.ex k13, sqL u3, by simp, by simp, fun gv hgv => ?_⟩
      have hgv' : RowsAt K G3 gv rs ∧ ∃ ga, gv = .ref ga ∧ (SqL K G3 ga xs ∨ SqT K G3 ga xs) := by
        simp only [List.mem_cons, List.not_mem_nil, or_false] at hgv
        rcases hgv with rfl | rfl
        · exact ⟨⟨.inl (.lst (sqL u1') hda3)⟩, g1, rfl, .inl (sqL u1')⟩
        · exact ⟨⟨.inr (.tup (sqT u2') hda3)⟩, g2, rfl, .inr (sqT u2')⟩
      obtain ⟨hgR, ga, rfl, hgs⟩ := hgv'
      clear hgv u1 u2 u3 u1' u2' hg1 hg2
      have e03 := e014.trans k13
      have hh3 := hh9.ex e03
      clear hh14 hla14 hda14 hu e014 k13
      obtain ⟨sk1, sk2⟩ : (∀ k, RkI n wd rs k → InS wd (rowsF n rs) (toF n r) → RkI n wd (rs ++ [r]) k) ∧ (∀ k, RkI n wd rs k → ¬ InS wd (rowsF n rs) (toF n r) → RkI n wd (rs ++ [r]) (k + 1)) := ⟨fun k h => (rk_snoc hc hrin hr1 h).1, fun k h => (rk_snoc hc hrin hr1 h).2⟩
      walk_at "rd"
      refine ⟨n, inst, wd, .ref ga, u, rs, r, rfl, hck, hwd, hrsl, hgR, hrin, hu3, hr1, fun hin t cs G4 k4 ht hcs => ?_, fun hin G4 k4 => ?_⟩
      · walk_at "rd"
        refine ⟨n, inst, wd, .ref ga, u, rs, r, rfl, hck, hwd, hrsl, hgR.ex k4, hrin, k4.dp hu3, hr1, fun z => absurd hin z, fun _ G5 k5 => ?_⟩
        have k45 := k4.trans k5
        walk_at "rd"
        refine w_dispT (by simp) fun tt2 htt2 => ?_
        refine w_gtup2 upd_same ?_
        have k46 := k45.trans (Ex.new (o := .tup [t, V.non]) htt2)
        have ht6 := (k5.trans (Ex.new (o := .tup [t, V.non]) htt2)).dp ht
        generalize upd G5 tt2 (.tup [t, V.non]) = G6 at k46 ht6 ⊢
        walk_at "rd"
        refine ⟨ga, xs, rfl, hgs.imp k46.l k46.t, fun q1 hq1 => ?_⟩
        have kn := k46.trans (Ex.new (o := .lst xs) hq1)
        walk_at "rd"
        refine ne_list (ds := rs.map row) (.lst (sqL upd_same) (kn.dpa hda3)) (.lst (sqL (kn _ _ hla3)) (kn.dpa hda3)) (rows_are rs) ?_
        have ht7 := (Ex.new (o := .lst xs) hq1).dp ht6
        generalize upd G6 q1 (.lst xs) = G7 at kn ht7 ⊢
        walk_at "rd"
        refine w_dispT (by simp) fun l1 hl1 => ?_
        have u3 : upd G7 l1 (.lst [u]) l1 = some (.lst [u]) := upd_same
        have kn := kn.trans (Ex.new (o := .lst [u]) hl1)
        have ht8 := (Ex.new (o := .lst [u]) hl1).dp ht7
        generalize upd G7 l1 (.lst [u]) = G8 at kn ht8 u3 ⊢
        refine ⟨la, l1, _, _, rfl, rfl, kn _ _ hla3, u3, small2 (by simp; omega), fun l2 hl2 => ?_⟩
        have u4 : upd G8 l2 (.lst (xs ++ [u])) l2 = some (.lst (xs ++ [u])) := upd_same
        have kn := kn.trans (Ex.new (o := .lst (xs ++ [u])) hl2)
        have ht9 := (Ex.new (o := .lst (xs ++ [u])) hl2).dp ht8
        generalize upd G8 l2 (.lst (xs ++ [u])) = G9 at kn ht9 u4 ⊢
        have hdc : DpAll K G9 (xs ++ [u]) ((rs ++ [r]).map row) := by
          rw [List.map_append]
          exact dpa_snoc (kn.dpa hda3) (kn.dp hu3)
        walk_at "rd"
        refine ⟨n, inst, wd, l2, _, rs ++ [r], rfl, hc, sqL u4, hdc, by omega, by simp; omega, fun x hx => ?_, fun k1 G10 k10 hk1 => ?_⟩
        · rcases List.mem_append.mp hx with m | m
          · exact hrin x m
          · rw [List.mem_singleton.mp m]; exact hr1
        have kn := kn.trans k10
        walk_at "rd"
        refine ⟨n, inst, wd, la, xs, rs, rfl, hc, sqL (kn _ _ hla3), kn.dpa hda3, by omega, by omega, hrin, fun k2 G11 k11 hk2 => ?_⟩
        have kn := kn.trans k11
        have ht11 := (k10.trans k11).dp ht9
        walk_at "rd"
        have ek := rk_one hc hk1 (sk1 _ hk2 hin) (.refl _)
        refine w_dec (fun _ => ?_) (fun z => absurd (by rw [ek]) z)
        obtain ⟨ta, rfl, hta⟩ := dp_row ht11
        walk_at "rd"
        refine w_decN (fun z => absurd rfl z) (fun _ => ?_)
        walk_at "rd"
        refine w_dec (fun z => by cases z) (fun _ => ?_)
        walk_at "rd"
        refine ⟨n, inst, wd, la, xs, rs, u, .ref ta, r, cs, rfl, hc, by omega, by omega, sqL (kn _ _ hla3), kn.dpa hda3, hrin, kn.dp hu3, hr1, dp_row_of hta, hcs, fun G12 k12 => ?_⟩
        walk_at "rd"
        exact ⟨e03.trans (kn.trans k12), _, _, _, _, _, _, _, _, rfl⟩
      · walk_at "rd"
        refine ⟨n, inst, wd, .ref ga, u, rs, r, rfl, hck, hwd, hrsl, hgR.ex k4, hrin, k4.dp hu3, hr1, fun _ t cs G5 k5 ht hcs => ?_, fun z => absurd z hin⟩
        have k45 := k4.trans k5
        walk_at "rd"
        refine w_dispT (by simp) fun tt2 htt2 => ?_
        refine w_gtup2 upd_same ?_
        have k46 := k45.trans (Ex.new (o := .tup [V.non, t]) htt2)
        have ht6 := (Ex.new (o := .tup [V.non, t]) htt2).dp ht
        generalize upd G5 tt2 (.tup [V.non, t]) = G6 at k46 ht6 ⊢
        walk_at "rd"
        refine ⟨ga, xs, rfl, hgs.imp k46.l k46.t, fun q1 hq1 => ?_⟩
        have kn := k46.trans (Ex.new (o := .lst xs) hq1)
        walk_at "rd"
        refine ne_list (ds := rs.map row) (.lst (sqL upd_same) (kn.dpa hda3)) (.lst (sqL (kn _ _ hla3)) (kn.dpa hda3)) (rows_are rs) ?_
        have ht7 := (Ex.new (o := .lst xs) hq1).dp ht6
        generalize upd G6 q1 (.lst xs) = G7 at kn ht7 ⊢
        walk_at "rd"
        refine w_dispT (by simp) fun l1 hl1 => ?_
        have u3 : upd G7 l1 (.lst [u]) l1 = some (.lst [u]) := upd_same
        have kn := kn.trans (Ex.new (o := .lst [u]) hl1)
        have ht8 := (Ex.new (o := .lst [u]) hl1).dp ht7
        generalize upd G7 l1 (.lst [u]) = G8 at kn ht8 u3 ⊢
        refine ⟨la, l1, _, _, rfl, rfl, kn _ _ hla3, u3, small2 (by simp; omega), fun l2 hl2 => ?_⟩
        have u4 : upd G8 l2 (.lst (xs ++ [u])) l2 = some (.lst (xs ++ [u])) := upd_same
        have kn := kn.trans (Ex.new (o := .lst (xs ++ [u])) hl2)
        have ht9 := (Ex.new (o := .lst (xs ++ [u])) hl2).dp ht8
        generalize upd G8 l2 (.lst (xs ++ [u])) = G9 at kn ht9 u4 ⊢
        have hdc : DpAll K G9 (xs ++ [u]) ((rs ++ [r]).map row) := by
          rw [List.map_append]
          exact dpa_snoc (kn.dpa hda3) (kn.dp hu3)
        walk_at "rd"
        refine ⟨n, inst, wd, l2, _, rs ++ [r], rfl, hc, sqL u4, hdc, by omega, by simp; omega, fun x hx => ?_, fun k1 G10 k10 hk1 => ?_⟩
        · rcases List.mem_append.mp hx with m | m
          · exact hrin x m
          · rw [List.mem_singleton.mp m]; exact hr1
        have kn := kn.trans k10
        walk_at "rd"
        refine ⟨n, inst, wd, la, xs, rs, rfl, hc, sqL (kn _ _ hla3), kn.dpa hda3, by omega, by omega, hrin, fun k2 G11 k11 hk2 => ?_⟩
        have kn := kn.trans k11
        have ht11 := (k10.trans k11).dp ht9
        walk_at "rd"
        have ek := rk_one hc hk1 (sk2 _ hk2 hin) (.refl _)
        refine w_dec (fun z => absurd z (by omega)) (fun _ => ?_)
        obtain ⟨ta, rfl, hta⟩ := dp_row ht11
        walk_at "rd"
        refine w_decN (fun z => absurd rfl z) (fun _ => ?_)
        walk_at "rd"
        refine w_dec (fun z => by cases z) (fun _ => ?_)
        walk_at "rd"
        refine ⟨n, inst, wd, la, xs, rs, u, .ref ta, r, cs, rfl, hc, by omega, by omega, sqL (kn _ _ hla3), kn.dpa hda3, hrin, kn.dp hu3, hr1, dp_row_of hta, hcs, fun G12 k12 => ?_⟩
        walk_at "rd"
        exact ⟨e03.trans (kn.trans k12), _, _, _, _, _, _, _, _, rfl⟩
    obtain ⟨e10, z5, z7, z10, z11, z14, z15, z16, z17, rfl⟩ := p
    have hh10 := hh9.ex e10
    have hla10 := e10 _ _ hla
    have hda10 := e10.dpa hda
    have eS10 := eS.trans e10
    clear eS e10 hh9 hla hda
    walk_at "rd"
    refine ⟨n, inst, wd, la, xs, rs, rfl, hc, sqL hla10, hda10, by omega, by omega, hrin, fun lu H11 ls e11 hlu hL => ?_⟩
    obtain ⟨ua, uv, rfl, hua, hud⟩ := dp_tup hlu
    walk_at "rd"
    refine ⟨ua, rfl, ⟨_, hua⟩, fun Dl hD => ?_⟩
    obtain ⟨qs, hpv⟩ := hL.piv hc
    have huvl : uv.length = ls.length := by rw [dpa_len hud, List.length_map]
    have hll := hL.len
    have hla11 := e11 _ _ hla10
    have hda11 := e11.dpa hda10
    have hh11 := hh10.ex e11
    have eS11 := eS10.trans e11
    clear eS10 e11 hh10 hla10 hda10 hlu
    refine lc_data (K := K) walk_tup (fun _ => true) (fun i => .int ((qs.getD i 0 : Nat) : Int)) (fun _ => rfl) (fun H' e => e.t hua) hD (by omega) (fun m x H4 H5 hm e y R R0 k _ => ?_) (fun H4 ws e4 hws hdw => ?_)
    · obtain ⟨rfl, hx⟩ := y
      obtain ⟨sr, hs1, hs2⟩ := rowsAt_get (e.dpa hud) hx
      obtain ⟨sa, rfl, hsa⟩ := dp_row hs2
      have hsr := hL.inr sr (List.mem_of_getElem? hs1)
      have hsl := hsr.1
      walk_at "rd"
      refine ⟨rfl, ?_⟩
      walk_at "rd"
      refine w_isrng (by omega) (by omega) ?_
      intro D2 hD2
      refine lc_data (K := K) walk_rng (fun i => decide (sr.getD i 0 ≠ 0)) (fun i => .int (i : Nat)) (fun _ => rfl) (fun _ _ => trivial) hD2 (by omega) (fun m2 x2 H6 H7 hm2 e6 y2 R2 R3 k2 k3 => ?_) (fun H6 ws2 e6 hws2 hdw2 => ?_)
      · obtain ⟨rfl, rfl⟩ := y2
        walk_at "rd"
        refine ⟨rfl, ?_⟩
        walk_at "rd"
        refine w_ixT (e6.t hsa) (atI_at (j := m2) (by rw [List.getElem?_map, getD_at (d := 0) (by omega)]; rfl)) ?_
        walk_at "rd"
        refine w_decN (fun z => ?_) (fun z => ?_)
        · walk_at "rd"
          exact k2 (decide_eq_true z) _ _ (Ex.refl _) (.int _)
        · exact k3 (decide_eq_false fun z2 => z2 z) _ (Ex.refl _)
      · obtain ⟨ds, eds⟩ := made_head (piv_first hpv hs1) hsl
        rw [Int.toNat_natCast, eds] at hdw2
        cases hdw2 with
        | cons h1 h2 =>
          have e1 := dp_int h1
          subst e1
          walk_at "rd"
          refine w_ixL (sqL hws2) atI_zero ?_
          exact k rfl _ _ e6 (.int _)
    rw [made_ints, huvl, ← hpv.len, range_map 0 (fun x : Nat => (x : Int))] at hdw
    have eu := dpa_ints_inv hdw
    subst eu
    have hqsl := hpv.len
    have hla4 := e4 _ _ hla11
    have hda4 := e4.dpa hda11
    have hh4 := hh11.ex e4
    have eS4 := eS11.trans e4
    clear eS11 e4 hh11 hla11 hda11 hua hud hdw
    walk_at "rd"
    refine ⟨n, inst, wd, la, xs, rs, rfl, hc, sqL hla4, hda4, by omega, by omega, hrin, fun tu ts G5 k5 htu hts => ?_⟩
    walk_at "rd"
    refine ⟨Dl, _, rfl, .inl ⟨sqL (k5 _ _ hws), fun qa hqa => ?_⟩⟩
    have k6 := Ex.new (o := .tup ((qs.map fun x : Nat => (x : Int)).map V.int)) hqa
    have u6 : upd G5 qa (.tup ((qs.map fun x : Nat => (x : Int)).map V.int)) qa = some (.tup ((nz qs).map V.int)) := upd_same
    generalize upd G5 qa (.tup ((qs.map fun x : Nat => (x : Int)).map V.int)) = G6 at k6 u6 ⊢
    walk_at "rd"
    refine w_dispT (by simp) fun da hda' => ?_
    have k7 := Ex.new (o := .tup [tu, .ref qa]) hda'
    have u7 : upd G6 da (.tup [tu, .ref qa]) da = some (.tup [tu, .ref qa]) := upd_same
    generalize upd G6 da (.tup [tu, .ref qa]) = G7 at k7 u7 ⊢
    have hdue : Dp K G7 (.ref da) (.tuple [row (nz ts), row (nz qs)]) := .tup (sqT u7) (.cons ((k6.trans k7).dp htu) (.cons (k7.dp (dp_row_of (sqT u6))) .nil))
    have k47 := k5.trans (k6.trans k7)
    walk_at "rd"
    refine ⟨la, xs, rfl, .inl (sqL (k47 _ _ hla4)), fun kl hkl => ?_⟩
    have k8 := Ex.new (o := .lst xs) hkl
    have u8 : upd G7 kl (.lst xs) kl = some (.lst xs) := upd_same
    have hdue8 := k8.dp hdue
    generalize upd G7 kl (.lst xs) = G8 at k8 u8 hdue8 ⊢
    have k48 := k47.trans k8
    have hla8 := k48 _ _ hla4
    have hda8 := k48.dpa hda4
    have hh8 := hh4.ex k48
    have eS8 := eS4.trans k48
    clear eS4 k48 k47 k5 k6 k7 k8 u6 u7 hdue htu hla4 hda4 hh4 hws
    walk_at "rd"
    refine ⟨n, inst, wd, .ref la, rs, rfl, hck, hwd, hrsl, ⟨.inl (.lst (sqL hla8) hda8)⟩, hrin, fun tv ts2 ls2 qs2 G9 k9 htv hts2 hL2 hpv2 => ?_⟩
    have e1 := Least.one (us := []) hts _ hts2
    have e2 := ladI_one hc hL2 hL (.refl _)
    subst e1
    subst e2
    have e3 : qs2 = qs := by
      refine List.ext_getElem? fun i => ?_
      cases el : ls2[i]? with
      | none => 
        have := List.getElem?_eq_none_iff.mp el
        rw [List.getElem?_eq_none (by rw [hpv2.len]; exact this), List.getElem?_eq_none (by rw [hpv.len]; exact this)]
      | some sr =>
        have hi : i < ls2.length := (List.getElem?_eq_some_iff.mp el).1
        have a1 := piv_first hpv2 el
        rw [piv_first hpv el] at a1
        have a2 := Option.some.inj a1
        rw [getD_at (d := 0) (by rw [hpv2.len]; exact hi), getD_at (d := 0) (by rw [hpv.len]; exact hi), a2]
    subst e3
    have hin := least_in hts
    have htslen : ts.length ≤ 1000 := by
      have := square_len hc hrin hts hL hpv
      omega
    obtain ⟨tt, tw, rfl, htt, htw⟩ := dp_tup htv
    cases htw with
    | cons w1 w2 => cases w2 with
      | cons w2 w3 =>
        cases w3
        obtain ⟨ta, rfl, hta⟩ := dp_row w1
        obtain ⟨qb, rfl, hqb⟩ := dp_row w2
        walk_at "rd"
        refine ⟨.ref tt, .ref da, _, rfl, htv, k9.dp hdue8, .inr ⟨_, .inl rfl, by simp, fun d hd => ?_⟩, fun G10 k10 => ?_⟩
        · have key : ∀ ns : List Nat, ns.length ≤ 1000000 → wee 1 (row (nz ns)) := fun ns hns => .inr ⟨_, .inl rfl, by unfold nz; rw [List.length_map, List.length_map]; exact hns, fun x hx => by
            obtain ⟨y, _, rfl⟩ := List.mem_map.mp hx
            exact .inr (.inr ⟨y, rfl⟩)⟩
          rcases List.mem_cons.mp hd with e | m
          · rw [e]; exact key _ (by omega)
          · rw [List.mem_singleton.mp m]; exact key _ (by omega)
        have k810 := k9.trans k10
        walk_at "rd"
        refine ne_list (ds := rs.map row) (.lst (sqL (k810 _ _ hla8)) (k810.dpa hda8)) (.lst (sqL (k810 _ _ u8)) (k810.dpa hda8)) (rows_are rs) ?_
        walk_at "rd"
        have k810' := k810
        have htt10 := k10.t htt
        have hta10 := k10.t hta
        have hqb10 := k10.t hqb
        have hla10 := k810 _ _ hla8
        have hda10 := k810.dpa hda8
        have hh10 := hh8.ex k810
        have eS10 := eS8.trans k810
        refine w_ixT htt10 atI_zero ?_
        have hqlt : ∀ q ∈ qs2, q < wd := (piv_nodup hpv).2
        have htsl := square_len hc hrin hts hL hpv
        refine ⟨ta, rfl, ⟨_, hta10⟩, fun D3 hD3 => ?_⟩
        refine lc_data (K := K) walk_tup (fun _ => true) (fun i => row ((subM rs ts qs2).getD i [])) (fun _ => imm_row _) (fun H' e => e.t hta10) hD3 (by unfold nz; simp; omega) (fun m x H11 H12 hm e y R R0 k _ => ?_) (fun H11 ws3 e11 hws3 hdw3 => ?_)
        · obtain ⟨rfl, hx⟩ := y
          have hm' : m < ts.length := by unfold nz at hm; simpa using hm
          have hx' : x = .int ((ts.getD m 0 : Nat) : Int) := by
            have : ((nz ts).map V.int)[m]? = some (.int ((ts.getD m 0 : Nat) : Int)) := by
              unfold nz
              rw [List.getElem?_map, List.getElem?_map, getD_at (d := 0) hm']
              rfl
            rw [this] at hx
            exact (Option.some.inj hx).symm
          subst hx'
          have ht1 := (hin (ts.getD m 0) (List.mem_of_getElem? (getD_at hm'))).2
          obtain ⟨xv, hxv⟩ : ∃ xv, xs[ts.getD m 0]? = some xv := ⟨_, List.getElem?_eq_getElem (by omega)⟩
          obtain ⟨sr, hs1, hs2⟩ := rowsAt_get (e.dpa hda10) hxv
          obtain ⟨sa, rfl, hsa⟩ := dp_row hs2
          have hsr := hrin sr (List.mem_of_getElem? hs1)
          have esr : rs.getD (ts.getD m 0) [] = sr := getD_of hs1
          walk_at "rd"
          refine ⟨rfl, ?_⟩
          walk_at "rd"
          refine w_ixT (e.t htt10) (atI_at (j := 1) rfl) ?_
          refine ⟨qb, rfl, ⟨_, e.t hqb10⟩, fun D4 hD4 => ?_⟩
          refine lc_data (K := K) walk_tup (fun _ => true) (fun i => .int ((qs2.map fun q => sr.getD q 0).getD i 0)) (fun _ => rfl) (fun H' e' => e'.t (e.t hqb10)) hD4 (by unfold nz; simp; omega) (fun m2 x2 H13 H14 hm2 e13 y2 R2 R3 k2 _ => ?_) (fun H13 ws4 e13 hws4 hdw4 => ?_)
          · obtain ⟨rfl, hx2⟩ := y2
            have hm2' : m2 < qs2.length := by unfold nz at hm2; simpa using hm2
            have hx2' : x2 = .int ((qs2.getD m2 0 : Nat) : Int) := by
              have : ((nz qs2).map V.int)[m2]? = some (.int ((qs2.getD m2 0 : Nat) : Int)) := by
                unfold nz
                rw [List.getElem?_map, List.getElem?_map, getD_at (d := 0) hm2']
                rfl
              rw [this] at hx2
              exact (Option.some.inj hx2).symm
            subst hx2'
            have hq1 := hqlt (qs2.getD m2 0) (List.mem_of_getElem? (getD_at hm2'))
            have hsl := hsr.1
            walk_at "rd"
            refine ⟨rfl, ?_⟩
            walk_at "rd"
            refine w_ixL ((e.trans e13).l (sqL hla10)) (atI_at hxv) ?_
            walk_at "rd"
            refine w_ixT (e13.t hsa) (atI_at (j := qs2.getD m2 0) (by rw [List.getElem?_map, getD_at (d := 0) (by omega)]; rfl)) ?_
            refine k2 rfl _ _ (Ex.refl _) ?_
            rw [map_at (d := 0) hm2']
            exact .int _
          · have el4 : ((nz qs2).map V.int).length = (qs2.map fun q => sr.getD q 0).length := by unfold nz; simp
            rw [made_ints, el4, range_map 0 (fun x : Int => x), List.map_id''] at hdw4
            · have eu := dpa_ints_inv hdw4
              subst eu
              walk_at "rd"
              refine ⟨D4, _, rfl, .inl ⟨sqL hws4, fun rt hrt => ?_⟩⟩
              refine k rfl _ _ (e13.trans (Ex.new hrt)) ?_
              have er : (subM rs ts qs2).getD m [] = qs2.map fun q => sr.getD q 0 := by
                unfold subM
                rw [map_at (d := 0) hm', esr]
              rw [er]
              exact dp_row_of (sqT upd_same)
            · intro x; rfl
        have hM : (subM rs ts qs2).length = ts.length := by unfold subM; rw [List.length_map]
        have el3 : ((nz ts).map V.int).length = (subM rs ts qs2).length := by rw [hM]; unfold nz; simp
        rw [made_all, el3, range_map [] (fun x : List Int => row x)] at hdw3
        walk_at "rd"
        refine ⟨n, inst, .ref D3, subM rs ts qs2, rfl, hck, ?_, ⟨.inl (.lst (sqL hws3) hdw3)⟩, fun r hr => ?_, fun d G12 k12 d0 d1 hd => ?_⟩
        · rw [hM]
          have h1 := least_len hts
          have h2 := nodup_le (piv_nodup hpv).1 (L := List.range wd) fun q hq => List.mem_range.mpr (hqlt q hq)
          rw [List.length_range] at h2
          omega
        · obtain ⟨t, ht, rfl⟩ := List.mem_map.mp hr
          rw [hM]
          refine ⟨by rw [List.length_map]; omega, fun x hx => ?_⟩
          obtain ⟨q, hq, rfl⟩ := List.mem_map.mp hx
          have h1 := hrin _ (List.mem_of_getElem? (getD_at (d := []) (hin t ht).2))
          have h2 := hqlt q hq
          exact h1.2 _ (List.mem_of_getElem? (getD_at (d := 0) (by rw [h1.1]; exact h2)))
        have hnz : d ≠ 0 := fun z => by
          rw [hM, z] at hd
          exact square_det hc hrin hts hL hpv hd
        walk_at "rd"
        refine w_dec (fun z => absurd z hnz) (fun _ => ?_)
        walk_at "rd"
        refine ⟨hv, rfl, hh10.ex (e11.trans k12), fun G13 k13 => ?_⟩
        walk_at "rd"
        exact ⟨eS10.trans (e11.trans (k12.trans k13)), _, _, _, _, _, _, _, _, _, _, _, _, _, _, _, _, rfl⟩
end TK

namespace TK
open PySem PySem.Spec PyProof.Rows L2 TH
/-! what the top has written, by names -/
theorem all_mk {l : PySem.W.OpenLaw} {w : World} {K : PySem.W.Frag} {h : Heap} {mg : Str → Option Value} {fa C : Addr} (X : K.In h) (G : h.Ns mainGlobals mg) (hfa : mg "law" = some (.ref fa))
    {f0 f1 f2 f3 f4 f5 f6 f7 f8 f9 f10 f11 f12 f13 f14 f15 f16 f17 f18 f19 f20 f21 f22 f23 f24 f25 f26 f27 f28 f29 f30 f31 f32 f33 f34 f35 f36 f37 f38 f39 f40 f41 f42 f43 f44 f45 f46 f47 f48 : Addr} {od0 an0 od1 an1 od2 an2 od3 an3 od4 an4 od5 an5 od6 an6 od7 an7 od8 an8 od9 an9 od10 an10 od11 an11 od12 an12 od13 an13 od14 an14 od15 an15 od16 an16 od17 an17 od18 an18 od19 an19 od20 an20 od21 an21 od22 an22 od23 an23 od24 an24 od25 an25 od26 an26 od27 an27 od28 an28 od29 an29 od30 an30 od31 an31 od32 an32 od33 an33 od34 an34 od35 an35 od36 an36 od37 an37 od38 an38 od39 an39 od40 an40 od41 an41 od42 an42 od43 an43 od44 an44 od45 an45 od46 an46 od47 an47 od48 an48 : Option Addr} {sl0 sl1 sl2 sl3 sl4 sl5 sl6 sl7 sl8 sl9 sl10 sl11 sl12 sl13 sl14 sl15 sl16 sl17 sl18 sl19 sl20 sl21 sl22 sl23 sl24 sl25 sl26 sl27 sl28 sl29 sl30 sl31 sl32 sl33 sl34 sl35 sl36 sl37 sl38 sl39 sl40 sl41 sl42 sl43 sl44 sl45 sl46 sl47 sl48 : Array (Option Value)} {oc0 kV0 dc0 pm0 cd0 ct0 oc1 kV1 dc1 pm1 cd1 ct1 oc2 kV2 dc2 pm2 cd2 ct2 oc3 kV3 dc3 pm3 cd3 ct3 oc4 kV4 dc4 pm4 cd4 ct4 oc5 kV5 dc5 pm5 cd5 ct5 oc6 kV6 dc6 pm6 cd6 ct6 oc7 kV7 dc7 pm7 cd7 ct7 oc8 kV8 dc8 pm8 cd8 ct8 oc9 kV9 dc9 pm9 cd9 ct9 oc10 kV10 dc10 pm10 cd10 ct10 oc11 kV11 dc11 pm11 cd11 ct11 oc12 kV12 dc12 pm12 cd12 ct12 oc13 kV13 dc13 pm13 cd13 ct13 oc14 kV14 dc14 pm14 cd14 ct14 oc15 kV15 dc15 pm15 cd15 ct15 oc16 kV16 dc16 pm16 cd16 ct16 oc17 kV17 dc17 pm17 cd17 ct17 oc18 kV18 dc18 pm18 cd18 ct18 oc19 kV19 dc19 pm19 cd19 ct19 oc20 kV20 dc20 pm20 cd20 ct20 oc21 kV21 dc21 pm21 cd21 ct21 oc22 kV22 dc22 pm22 cd22 ct22 oc23 kV23 dc23 pm23 cd23 ct23 oc24 kV24 dc24 pm24 cd24 ct24 oc25 kV25 dc25 pm25 cd25 ct25 oc26 kV26 dc26 pm26 cd26 ct26 oc27 kV27 dc27 pm27 cd27 ct27 oc28 kV28 dc28 pm28 cd28 ct28 oc29 kV29 dc29 pm29 cd29 ct29 oc30 kV30 dc30 pm30 cd30 ct30 oc31 kV31 dc31 pm31 cd31 ct31 oc32 kV32 dc32 pm32 cd32 ct32 oc33 kV33 dc33 pm33 cd33 ct33 oc34 kV34 dc34 pm34 cd34 ct34 oc35 kV35 dc35 pm35 cd35 ct35 oc36 kV36 dc36 pm36 cd36 ct36 oc37 kV37 dc37 pm37 cd37 ct37 oc38 kV38 dc38 pm38 cd38 ct38 oc39 kV39 dc39 pm39 cd39 ct39 oc40 kV40 dc40 pm40 cd40 ct40 oc41 kV41 dc41 pm41 cd41 ct41 oc42 kV42 dc42 pm42 cd42 ct42 oc43 kV43 dc43 pm43 cd43 ct43 oc44 kV44 dc44 pm44 cd44 ct44 oc45 kV45 dc45 pm45 cd45 ct45 oc46 kV46 dc46 pm46 cd46 ct46 oc47 kV47 dc47 pm47 cd47 ct47 oc48 kV48 dc48 pm48 cd48 ct48 : Value} {t_MOST_HOURS t_MOST_WIDE t_MOST_ROWS t_MOST_SQUARE : Tok}
    (a0 : PySem.W.nsIn K mainGlobals "is_integer" = some (some (.ref f0)))
    (l0 : K.lookup f0 = some ⟨oc0, od0, .func (PySem.W.fnOf "is_integer" "is_integer" (C8.fnArgs s_is_integer) (C8.fnBody s_is_integer) (C8.fnScope s_is_integer) .none kV0 dc0 pm0 an0 cd0 ct0), sl0⟩)
    (c0 : PySem.W.codeIn K cd0 "is_integer" = true)
    (k0 : PySem.W.keepIn K (.ref f0) = true)
    (a1 : PySem.W.nsIn K mainGlobals "is_within" = some (some (.ref f1)))
    (l1 : K.lookup f1 = some ⟨oc1, od1, .func (PySem.W.fnOf "is_within" "is_within" (C8.fnArgs s_is_within) (C8.fnBody s_is_within) (C8.fnScope s_is_within) .none kV1 dc1 pm1 an1 cd1 ct1), sl1⟩)
    (c1 : PySem.W.codeIn K cd1 "is_within" = true)
    (k1 : PySem.W.keepIn K (.ref f1) = true)
    (a2 : PySem.W.nsIn K mainGlobals "is_listed" = some (some (.ref f2)))
    (l2 : K.lookup f2 = some ⟨oc2, od2, .func (PySem.W.fnOf "is_listed" "is_listed" (C8.fnArgs s_is_listed) (C8.fnBody s_is_listed) (C8.fnScope s_is_listed) .none kV2 dc2 pm2 an2 cd2 ct2), sl2⟩)
    (c2 : PySem.W.codeIn K cd2 "is_listed" = true)
    (k2 : PySem.W.keepIn K (.ref f2) = true)
    (a3 : PySem.W.nsIn K mainGlobals "check_number" = some (some (.ref f3)))
    (l3 : K.lookup f3 = some ⟨oc3, od3, .func (PySem.W.fnOf "check_number" "check_number" (C8.fnArgs s_check_number) (C8.fnBody s_check_number) (C8.fnScope s_check_number) .none kV3 dc3 pm3 an3 cd3 ct3), sl3⟩)
    (c3 : PySem.W.codeIn K cd3 "check_number" = true)
    (k3 : PySem.W.keepIn K (.ref f3) = true)
    (a4 : PySem.W.nsIn K mainGlobals "prime" = some (some (.ref f4)))
    (l4 : K.lookup f4 = some ⟨oc4, od4, .func (PySem.W.fnOf "prime" "prime" (C8.fnArgs s_prime) (C8.fnBody s_prime) (C8.fnScope s_prime) .none kV4 dc4 pm4 an4 cd4 ct4), sl4⟩)
    (c4 : PySem.W.codeIn K cd4 "prime" = true)
    (k4 : PySem.W.keepIn K (.ref f4) = true)
    (a5 : PySem.W.nsIn K mainGlobals "is_clock" = some (some (.ref f5)))
    (l5 : K.lookup f5 = some ⟨oc5, od5, .func (PySem.W.fnOf "is_clock" "is_clock" (C8.fnArgs s_is_clock) (C8.fnBody s_is_clock) (C8.fnScope s_is_clock) .none kV5 dc5 pm5 an5 cd5 ct5), sl5⟩)
    (c5 : PySem.W.codeIn K cd5 "is_clock" = true)
    (k5 : PySem.W.keepIn K (.ref f5) = true)
    (a6 : PySem.W.nsIn K mainGlobals "check_clock" = some (some (.ref f6)))
    (l6 : K.lookup f6 = some ⟨oc6, od6, .func (PySem.W.fnOf "check_clock" "check_clock" (C8.fnArgs s_check_clock) (C8.fnBody s_check_clock) (C8.fnScope s_check_clock) .none kV6 dc6 pm6 an6 cd6 ct6), sl6⟩)
    (c6 : PySem.W.codeIn K cd6 "check_clock" = true)
    (k6 : PySem.W.keepIn K (.ref f6) = true)
    (a7 : PySem.W.nsIn K mainGlobals "inverse_of" = some (some (.ref f7)))
    (l7 : K.lookup f7 = some ⟨oc7, od7, .func (PySem.W.fnOf "inverse_of" "inverse_of" (C8.fnArgs s_inverse_of) (C8.fnBody s_inverse_of) (C8.fnScope s_inverse_of) .none kV7 dc7 pm7 an7 cd7 ct7), sl7⟩)
    (c7 : PySem.W.codeIn K cd7 "inverse_of" = true)
    (k7 : PySem.W.keepIn K (.ref f7) = true)
    (a8 : PySem.W.nsIn K mainGlobals "scaled" = some (some (.ref f8)))
    (l8 : K.lookup f8 = some ⟨oc8, od8, .func (PySem.W.fnOf "scaled" "scaled" (C8.fnArgs s_scaled) (C8.fnBody s_scaled) (C8.fnScope s_scaled) .none kV8 dc8 pm8 an8 cd8 ct8), sl8⟩)
    (c8 : PySem.W.codeIn K cd8 "scaled" = true)
    (k8 : PySem.W.keepIn K (.ref f8) = true)
    (a9 : PySem.W.nsIn K mainGlobals "without" = some (some (.ref f9)))
    (l9 : K.lookup f9 = some ⟨oc9, od9, .func (PySem.W.fnOf "without" "without" (C8.fnArgs s_without) (C8.fnBody s_without) (C8.fnScope s_without) .none kV9 dc9 pm9 an9 cd9 ct9), sl9⟩)
    (c9 : PySem.W.codeIn K cd9 "without" = true)
    (k9 : PySem.W.keepIn K (.ref f9) = true)
    (a10 : PySem.W.nsIn K mainGlobals "first_place" = some (some (.ref f10)))
    (l10 : K.lookup f10 = some ⟨oc10, od10, .func (PySem.W.fnOf "first_place" "first_place" (C8.fnArgs s_first_place) (C8.fnBody s_first_place) (C8.fnScope s_first_place) .none kV10 dc10 pm10 an10 cd10 ct10), sl10⟩)
    (c10 : PySem.W.codeIn K cd10 "first_place" = true)
    (k10 : PySem.W.keepIn K (.ref f10) = true)
    (a11 : PySem.W.nsIn K mainGlobals "stairs_of" = some (some (.ref f11)))
    (l11 : K.lookup f11 = some ⟨oc11, od11, .func (PySem.W.fnOf "stairs_of" "stairs_of" (C8.fnArgs s_stairs_of) (C8.fnBody s_stairs_of) (C8.fnScope s_stairs_of) .none kV11 dc11 pm11 an11 cd11 ct11), sl11⟩)
    (c11 : PySem.W.codeIn K cd11 "stairs_of" = true)
    (k11 : PySem.W.keepIn K (.ref f11) = true)
    (a12 : PySem.W.nsIn K mainGlobals "ladder_of" = some (some (.ref f12)))
    (l12 : K.lookup f12 = some ⟨oc12, od12, .func (PySem.W.fnOf "ladder_of" "ladder_of" (C8.fnArgs s_ladder_of) (C8.fnBody s_ladder_of) (C8.fnScope s_ladder_of) .none kV12 dc12 pm12 an12 cd12 ct12), sl12⟩)
    (c12 : PySem.W.codeIn K cd12 "ladder_of" = true)
    (k12 : PySem.W.keepIn K (.ref f12) = true)
    (a13 : PySem.W.nsIn K mainGlobals "mixture_of" = some (some (.ref f13)))
    (l13 : K.lookup f13 = some ⟨oc13, od13, .func (PySem.W.fnOf "mixture_of" "mixture_of" (C8.fnArgs s_mixture_of) (C8.fnBody s_mixture_of) (C8.fnScope s_mixture_of) .none kV13 dc13 pm13 an13 cd13 ct13), sl13⟩)
    (c13 : PySem.W.codeIn K cd13 "mixture_of" = true)
    (k13 : PySem.W.keepIn K (.ref f13) = true)
    (a14 : PySem.W.nsIn K mainGlobals "parting_of" = some (some (.ref f14)))
    (l14 : K.lookup f14 = some ⟨oc14, od14, .func (PySem.W.fnOf "parting_of" "parting_of" (C8.fnArgs s_parting_of) (C8.fnBody s_parting_of) (C8.fnScope s_parting_of) .none kV14 dc14 pm14 an14 cd14 ct14), sl14⟩)
    (c14 : PySem.W.codeIn K cd14 "parting_of" = true)
    (k14 : PySem.W.keepIn K (.ref f14) = true)
    (a15 : PySem.W.nsIn K mainGlobals "square_of" = some (some (.ref f15)))
    (l15 : K.lookup f15 = some ⟨oc15, od15, .func (PySem.W.fnOf "square_of" "square_of" (C8.fnArgs s_square_of) (C8.fnBody s_square_of) (C8.fnScope s_square_of) .none kV15 dc15 pm15 an15 cd15 ct15), sl15⟩)
    (c15 : PySem.W.codeIn K cd15 "square_of" = true)
    (k15 : PySem.W.keepIn K (.ref f15) = true)
    (a16 : PySem.W.nsIn K mainGlobals "determinant_of" = some (some (.ref f16)))
    (l16 : K.lookup f16 = some ⟨oc16, od16, .func (PySem.W.fnOf "determinant_of" "determinant_of" (C8.fnArgs s_determinant_of) (C8.fnBody s_determinant_of) (C8.fnScope s_determinant_of) .none kV16 dc16 pm16 an16 cd16 ct16), sl16⟩)
    (c16 : PySem.W.codeIn K cd16 "determinant_of" = true)
    (k16 : PySem.W.keepIn K (.ref f16) = true)
    (a17 : PySem.W.nsIn K mainGlobals "is_row" = some (some (.ref f17)))
    (l17 : K.lookup f17 = some ⟨oc17, od17, .func (PySem.W.fnOf "is_row" "is_row" (C8.fnArgs s_is_row) (C8.fnBody s_is_row) (C8.fnScope s_is_row) .none kV17 dc17 pm17 an17 cd17 ct17), sl17⟩)
    (c17 : PySem.W.codeIn K cd17 "is_row" = true)
    (k17 : PySem.W.keepIn K (.ref f17) = true)
    (a18 : PySem.W.nsIn K mainGlobals "check_rows" = some (some (.ref f18)))
    (l18 : K.lookup f18 = some ⟨oc18, od18, .func (PySem.W.fnOf "check_rows" "check_rows" (C8.fnArgs s_check_rows) (C8.fnBody s_check_rows) (C8.fnScope s_check_rows) .none kV18 dc18 pm18 an18 cd18 ct18), sl18⟩)
    (c18 : PySem.W.codeIn K cd18 "check_rows" = true)
    (k18 : PySem.W.keepIn K (.ref f18) = true)
    (a19 : PySem.W.nsIn K mainGlobals "check_row" = some (some (.ref f19)))
    (l19 : K.lookup f19 = some ⟨oc19, od19, .func (PySem.W.fnOf "check_row" "check_row" (C8.fnArgs s_check_row) (C8.fnBody s_check_row) (C8.fnScope s_check_row) .none kV19 dc19 pm19 an19 cd19 ct19), sl19⟩)
    (c19 : PySem.W.codeIn K cd19 "check_row" = true)
    (k19 : PySem.W.keepIn K (.ref f19) = true)
    (a20 : PySem.W.nsIn K mainGlobals "mixture" = some (some (.ref f20)))
    (l20 : K.lookup f20 = some ⟨oc20, od20, .func (PySem.W.fnOf "mixture" "mixture" (C8.fnArgs s_mixture) (C8.fnBody s_mixture) (C8.fnScope s_mixture) .none kV20 dc20 pm20 an20 cd20 ct20), sl20⟩)
    (c20 : PySem.W.codeIn K cd20 "mixture" = true)
    (k20 : PySem.W.keepIn K (.ref f20) = true)
    (a21 : PySem.W.nsIn K mainGlobals "parting" = some (some (.ref f21)))
    (l21 : K.lookup f21 = some ⟨oc21, od21, .func (PySem.W.fnOf "parting" "parting" (C8.fnArgs s_parting) (C8.fnBody s_parting) (C8.fnScope s_parting) .none kV21 dc21 pm21 an21 cd21 ct21), sl21⟩)
    (c21 : PySem.W.codeIn K cd21 "parting" = true)
    (k21 : PySem.W.keepIn K (.ref f21) = true)
    (a22 : PySem.W.nsIn K mainGlobals "square" = some (some (.ref f22)))
    (l22 : K.lookup f22 = some ⟨oc22, od22, .func (PySem.W.fnOf "square" "square" (C8.fnArgs s_square) (C8.fnBody s_square) (C8.fnScope s_square) .none kV22 dc22 pm22 an22 cd22 ct22), sl22⟩)
    (c22 : PySem.W.codeIn K cd22 "square" = true)
    (k22 : PySem.W.keepIn K (.ref f22) = true)
    (a23 : PySem.W.nsIn K mainGlobals "determinant" = some (some (.ref f23)))
    (l23 : K.lookup f23 = some ⟨oc23, od23, .func (PySem.W.fnOf "determinant" "determinant" (C8.fnArgs s_determinant) (C8.fnBody s_determinant) (C8.fnScope s_determinant) .none kV23 dc23 pm23 an23 cd23 ct23), sl23⟩)
    (c23 : PySem.W.codeIn K cd23 "determinant" = true)
    (k23 : PySem.W.keepIn K (.ref f23) = true)
    (a24 : PySem.W.nsIn K mainGlobals "_law_hand" = some (some (.ref f24)))
    (l24 : K.lookup f24 = some ⟨oc24, od24, .func (PySem.W.fnOf "_law_hand" "_law_hand" (C8.fnArgs s_law_hand) (C8.fnBody s_law_hand) (C8.fnScope s_law_hand) .none kV24 dc24 pm24 an24 cd24 ct24), sl24⟩)
    (c24 : PySem.W.codeIn K cd24 "_law_hand" = true)
    (k24 : PySem.W.keepIn K (.ref f24) = true)
    (a25 : PySem.W.nsIn K mainGlobals "_law_draw" = some (some (.ref f25)))
    (l25 : K.lookup f25 = some ⟨oc25, od25, .func (PySem.W.fnOf "_law_draw" "_law_draw" (C8.fnArgs s_law_draw) (C8.fnBody s_law_draw) (C8.fnScope s_law_draw) .none kV25 dc25 pm25 an25 cd25 ct25), sl25⟩)
    (c25 : PySem.W.codeIn K cd25 "_law_draw" = true)
    (k25 : PySem.W.keepIn K (.ref f25) = true)
    (a26 : PySem.W.nsIn K mainGlobals "_law_any" = some (some (.ref f26)))
    (l26 : K.lookup f26 = some ⟨oc26, od26, .func (PySem.W.fnOf "_law_any" "_law_any" (C8.fnArgs s_law_any) (C8.fnBody s_law_any) (C8.fnScope s_law_any) .none kV26 dc26 pm26 an26 cd26 ct26), sl26⟩)
    (c26 : PySem.W.codeIn K cd26 "_law_any" = true)
    (k26 : PySem.W.keepIn K (.ref f26) = true)
    (a27 : PySem.W.nsIn K mainGlobals "_law_is" = some (some (.ref f27)))
    (l27 : K.lookup f27 = some ⟨oc27, od27, .func (PySem.W.fnOf "_law_is" "_law_is" (C8.fnArgs s_law_is) (C8.fnBody s_law_is) (C8.fnScope s_law_is) .none kV27 dc27 pm27 an27 cd27 ct27), sl27⟩)
    (c27 : PySem.W.codeIn K cd27 "_law_is" = true)
    (k27 : PySem.W.keepIn K (.ref f27) = true)
    (a28 : PySem.W.nsIn K mainGlobals "_law_int" = some (some (.ref f28)))
    (l28 : K.lookup f28 = some ⟨oc28, od28, .func (PySem.W.fnOf "_law_int" "_law_int" (C8.fnArgs s_law_int) (C8.fnBody s_law_int) (C8.fnScope s_law_int) .none kV28 dc28 pm28 an28 cd28 ct28), sl28⟩)
    (c28 : PySem.W.codeIn K cd28 "_law_int" = true)
    (k28 : PySem.W.keepIn K (.ref f28) = true)
    (a29 : PySem.W.nsIn K mainGlobals "_law_turn" = some (some (.ref f29)))
    (l29 : K.lookup f29 = some ⟨oc29, od29, .func (PySem.W.fnOf "_law_turn" "_law_turn" (C8.fnArgs s_law_turn) (C8.fnBody s_law_turn) (C8.fnScope s_law_turn) .none kV29 dc29 pm29 an29 cd29 ct29), sl29⟩)
    (c29 : PySem.W.codeIn K cd29 "_law_turn" = true)
    (k29 : PySem.W.keepIn K (.ref f29) = true)
    (a30 : PySem.W.nsIn K mainGlobals "_law_less" = some (some (.ref f30)))
    (l30 : K.lookup f30 = some ⟨oc30, od30, .func (PySem.W.fnOf "_law_less" "_law_less" (C8.fnArgs s_law_less) (C8.fnBody s_law_less) (C8.fnScope s_law_less) .none kV30 dc30 pm30 an30 cd30 ct30), sl30⟩)
    (c30 : PySem.W.codeIn K cd30 "_law_less" = true)
    (k30 : PySem.W.keepIn K (.ref f30) = true)
    (a31 : PySem.W.nsIn K mainGlobals "_law_summed" = some (some (.ref f31)))
    (l31 : K.lookup f31 = some ⟨oc31, od31, .func (PySem.W.fnOf "_law_summed" "_law_summed" (C8.fnArgs s_law_summed) (C8.fnBody s_law_summed) (C8.fnScope s_law_summed) .none kV31 dc31 pm31 an31 cd31 ct31), sl31⟩)
    (c31 : PySem.W.codeIn K cd31 "_law_summed" = true)
    (k31 : PySem.W.keepIn K (.ref f31) = true)
    (a32 : PySem.W.nsIn K mainGlobals "_law_dot" = some (some (.ref f32)))
    (l32 : K.lookup f32 = some ⟨oc32, od32, .func (PySem.W.fnOf "_law_dot" "_law_dot" (C8.fnArgs s_law_dot) (C8.fnBody s_law_dot) (C8.fnScope s_law_dot) .none kV32 dc32 pm32 an32 cd32 ct32), sl32⟩)
    (c32 : PySem.W.codeIn K cd32 "_law_dot" = true)
    (k32 : PySem.W.keepIn K (.ref f32) = true)
    (a33 : PySem.W.nsIn K mainGlobals "_law_ladder" = some (some (.ref f33)))
    (l33 : K.lookup f33 = some ⟨oc33, od33, .func (PySem.W.fnOf "_law_ladder" "_law_ladder" (C8.fnArgs s_law_ladder) (C8.fnBody s_law_ladder) (C8.fnScope s_law_ladder) .none kV33 dc33 pm33 an33 cd33 ct33), sl33⟩)
    (c33 : PySem.W.codeIn K cd33 "_law_ladder" = true)
    (k33 : PySem.W.keepIn K (.ref f33) = true)
    (a34 : PySem.W.nsIn K mainGlobals "_law_rank" = some (some (.ref f34)))
    (l34 : K.lookup f34 = some ⟨oc34, od34, .func (PySem.W.fnOf "_law_rank" "_law_rank" (C8.fnArgs s_law_rank) (C8.fnBody s_law_rank) (C8.fnScope s_law_rank) .none kV34 dc34 pm34 an34 cd34 ct34), sl34⟩)
    (c34 : PySem.W.codeIn K cd34 "_law_rank" = true)
    (k34 : PySem.W.keepIn K (.ref f34) = true)
    (a35 : PySem.W.nsIn K mainGlobals "_law_clock" = some (some (.ref f35)))
    (l35 : K.lookup f35 = some ⟨oc35, od35, .func (PySem.W.fnOf "_law_clock" "_law_clock" (C8.fnArgs s_law_clock) (C8.fnBody s_law_clock) (C8.fnScope s_law_clock) .none kV35 dc35 pm35 an35 cd35 ct35), sl35⟩)
    (c35 : PySem.W.codeIn K cd35 "_law_clock" = true)
    (k35 : PySem.W.keepIn K (.ref f35) = true)
    (a36 : PySem.W.nsIn K mainGlobals "_law_some_row" = some (some (.ref f36)))
    (l36 : K.lookup f36 = some ⟨oc36, od36, .func (PySem.W.fnOf "_law_some_row" "_law_some_row" (C8.fnArgs s_law_some_row) (C8.fnBody s_law_some_row) (C8.fnScope s_law_some_row) .none kV36 dc36 pm36 an36 cd36 ct36), sl36⟩)
    (c36 : PySem.W.codeIn K cd36 "_law_some_row" = true)
    (k36 : PySem.W.keepIn K (.ref f36) = true)
    (a37 : PySem.W.nsIn K mainGlobals "_law_some_rows" = some (some (.ref f37)))
    (l37 : K.lookup f37 = some ⟨oc37, od37, .func (PySem.W.fnOf "_law_some_rows" "_law_some_rows" (C8.fnArgs s_law_some_rows) (C8.fnBody s_law_some_rows) (C8.fnScope s_law_some_rows) .none kV37 dc37 pm37 an37 cd37 ct37), sl37⟩)
    (c37 : PySem.W.codeIn K cd37 "_law_some_rows" = true)
    (k37 : PySem.W.keepIn K (.ref f37) = true)
    (a38 : PySem.W.nsIn K mainGlobals "_law_is_row" = some (some (.ref f38)))
    (l38 : K.lookup f38 = some ⟨oc38, od38, .func (PySem.W.fnOf "_law_is_row" "_law_is_row" (C8.fnArgs s_law_is_row) (C8.fnBody s_law_is_row) (C8.fnScope s_law_is_row) .none kV38 dc38 pm38 an38 cd38 ct38), sl38⟩)
    (c38 : PySem.W.codeIn K cd38 "_law_is_row" = true)
    (k38 : PySem.W.keepIn K (.ref f38) = true)
    (a39 : PySem.W.nsIn K mainGlobals "_law_det" = some (some (.ref f39)))
    (l39 : K.lookup f39 = some ⟨oc39, od39, .func (PySem.W.fnOf "_law_det" "_law_det" (C8.fnArgs s_law_det) (C8.fnBody s_law_det) (C8.fnScope s_law_det) .none kV39 dc39 pm39 an39 cd39 ct39), sl39⟩)
    (c39 : PySem.W.codeIn K cd39 "_law_det" = true)
    (k39 : PySem.W.keepIn K (.ref f39) = true)
    (a40 : PySem.W.nsIn K mainGlobals "_law_product" = some (some (.ref f40)))
    (l40 : K.lookup f40 = some ⟨oc40, od40, .func (PySem.W.fnOf "_law_product" "_law_product" (C8.fnArgs s_law_product) (C8.fnBody s_law_product) (C8.fnScope s_law_product) .none kV40 dc40 pm40 an40 cd40 ct40), sl40⟩)
    (c40 : PySem.W.codeIn K cd40 "_law_product" = true)
    (k40 : PySem.W.keepIn K (.ref f40) = true)
    (a41 : PySem.W.nsIn K mainGlobals "_law_dets_right" = some (some (.ref f41)))
    (l41 : K.lookup f41 = some ⟨oc41, od41, .func (PySem.W.fnOf "_law_dets_right" "_law_dets_right" (C8.fnArgs s_law_dets_right) (C8.fnBody s_law_dets_right) (C8.fnScope s_law_dets_right) .none kV41 dc41 pm41 an41 cd41 ct41), sl41⟩)
    (c41 : PySem.W.codeIn K cd41 "_law_dets_right" = true)
    (k41 : PySem.W.keepIn K (.ref f41) = true)
    (a42 : PySem.W.nsIn K mainGlobals "_law_is_mixture" = some (some (.ref f42)))
    (l42 : K.lookup f42 = some ⟨oc42, od42, .func (PySem.W.fnOf "_law_is_mixture" "_law_is_mixture" (C8.fnArgs s_law_is_mixture) (C8.fnBody s_law_is_mixture) (C8.fnScope s_law_is_mixture) .none kV42 dc42 pm42 an42 cd42 ct42), sl42⟩)
    (c42 : PySem.W.codeIn K cd42 "_law_is_mixture" = true)
    (k42 : PySem.W.keepIn K (.ref f42) = true)
    (a43 : PySem.W.nsIn K mainGlobals "_law_is_parting" = some (some (.ref f43)))
    (l43 : K.lookup f43 = some ⟨oc43, od43, .func (PySem.W.fnOf "_law_is_parting" "_law_is_parting" (C8.fnArgs s_law_is_parting) (C8.fnBody s_law_is_parting) (C8.fnScope s_law_is_parting) .none kV43 dc43 pm43 an43 cd43 ct43), sl43⟩)
    (c43 : PySem.W.codeIn K cd43 "_law_is_parting" = true)
    (k43 : PySem.W.keepIn K (.ref f43) = true)
    (a44 : PySem.W.nsIn K mainGlobals "_law_least_rows" = some (some (.ref f44)))
    (l44 : K.lookup f44 = some ⟨oc44, od44, .func (PySem.W.fnOf "_law_least_rows" "_law_least_rows" (C8.fnArgs s_law_least_rows) (C8.fnBody s_law_least_rows) (C8.fnScope s_law_least_rows) .none kV44 dc44 pm44 an44 cd44 ct44), sl44⟩)
    (c44 : PySem.W.codeIn K cd44 "_law_least_rows" = true)
    (k44 : PySem.W.keepIn K (.ref f44) = true)
    (a45 : PySem.W.nsIn K mainGlobals "law" = some (some (.ref f45)))
    (l45 : K.lookup f45 = some ⟨oc45, od45, .func (PySem.W.fnOf "law" "law" (C8.fnArgs s_law) (C8.fnBody s_law) (C8.fnScope s_law) .none kV45 dc45 pm45 an45 cd45 ct45), sl45⟩)
    (c45 : PySem.W.codeIn K cd45 "law" = true)
    (k45 : PySem.W.keepIn K (.ref f45) = true)
    (a_C : PySem.W.nsIn K mainGlobals "Stairs" = some (some (.ref C)))
    (a46 : PySem.W.findIn K (.ref C) "__init__" = some (some (.ref f46)))
    (i46 : PySem.W.isFn K (.ref f46) = true)
    (l46 : K.lookup f46 = some ⟨oc46, od46, .func (PySem.W.fnOf "__init__" "Stairs.__init__" (C8.fnArgs s_Stairs_init) (C8.fnBody s_Stairs_init) (C8.fnScope s_Stairs_init) .none kV46 dc46 pm46 an46 cd46 ct46), sl46⟩)
    (c46 : PySem.W.codeIn K cd46 "Stairs.__init__" = true)
    (k46 : PySem.W.keepIn K (.ref f46) = true)
    (a47 : PySem.W.findIn K (.ref C) "less" = some (some (.ref f47)))
    (i47 : PySem.W.isFn K (.ref f47) = true)
    (l47 : K.lookup f47 = some ⟨oc47, od47, .func (PySem.W.fnOf "less" "Stairs.less" (C8.fnArgs s_Stairs_less) (C8.fnBody s_Stairs_less) (C8.fnScope s_Stairs_less) .none kV47 dc47 pm47 an47 cd47 ct47), sl47⟩)
    (c47 : PySem.W.codeIn K cd47 "Stairs.less" = true)
    (k47 : PySem.W.keepIn K (.ref f47) = true)
    (a48 : PySem.W.findIn K (.ref C) "take" = some (some (.ref f48)))
    (i48 : PySem.W.isFn K (.ref f48) = true)
    (l48 : K.lookup f48 = some ⟨oc48, od48, .func (PySem.W.fnOf "take" "Stairs.take" (C8.fnArgs s_Stairs_take) (C8.fnBody s_Stairs_take) (C8.fnScope s_Stairs_take) .none kV48 dc48 pm48 an48 cd48 ct48), sl48⟩)
    (c48 : PySem.W.codeIn K cd48 "Stairs.take" = true)
    (k48 : PySem.W.keepIn K (.ref f48) = true)
    (pg_C : PySem.W.plainGet K C Str.empty = true)
    (hd_C : PySem.W.hasDictIn K C = true)
    (po_C : PySem.W.plainOver K C = true)
    (sa_C : PySem.W.findIn K (.ref C) "__setattr__" = some (some (.builtin "object.__setattr__")))
    (mk_C : PySem.W.makesIn K C = true)
    (kc_C : PySem.W.keepIn K (.ref C) = true)
    (n_C_p : PySem.W.findIn K (.ref C) "p" = some none)
    (n_C_steps : PySem.W.findIn K (.ref C) "steps" = some none)
    (n_C_taken : PySem.W.findIn K (.ref C) "taken" = some none)
    (b_abs : PySem.W.nsIn K mainGlobals "abs" = some none)
    (b_all : PySem.W.nsIn K mainGlobals "all" = some none)
    (b_any : PySem.W.nsIn K mainGlobals "any" = some none)
    (b_bool : PySem.W.nsIn K mainGlobals "bool" = some none)
    (b_enumerate : PySem.W.nsIn K mainGlobals "enumerate" = some none)
    (b_int : PySem.W.nsIn K mainGlobals "int" = some none)
    (b_isinstance : PySem.W.nsIn K mainGlobals "isinstance" = some none)
    (b_len : PySem.W.nsIn K mainGlobals "len" = some none)
    (b_list : PySem.W.nsIn K mainGlobals "list" = some none)
    (b_max : PySem.W.nsIn K mainGlobals "max" = some none)
    (b_range : PySem.W.nsIn K mainGlobals "range" = some none)
    (b_sorted : PySem.W.nsIn K mainGlobals "sorted" = some none)
    (b_sum : PySem.W.nsIn K mainGlobals "sum" = some none)
    (b_tuple : PySem.W.nsIn K mainGlobals "tuple" = some none)
    (b_zip : PySem.W.nsIn K mainGlobals "zip" = some none)
    (g_MOST_HOURS : PySem.W.nsIn K mainGlobals "MOST_HOURS" = some (some (.int 1000000 t_MOST_HOURS)))
    (g_MOST_WIDE : PySem.W.nsIn K mainGlobals "MOST_WIDE" = some (some (.int 200 t_MOST_WIDE)))
    (g_MOST_ROWS : PySem.W.nsIn K mainGlobals "MOST_ROWS" = some (some (.int 200 t_MOST_ROWS)))
    (g_MOST_SQUARE : PySem.W.nsIn K mainGlobals "MOST_SQUARE" = some (some (.int 60 t_MOST_SQUARE)))
    : ∃ fd : FuncData, (∀ (s : Shared) (v : Value), BindsTo s fd ⟨[v], []⟩ [("script", v)]) ∧ ∀ base : Heap, K.In base → base.Ns mainGlobals mg → FnOk l.prog w K mg base C8.CX0 8 fa fd ["script"] (sp_law K) := by
  have e := (PySem.W.mg_of X G a45).symm.trans hfa
  cases e
  have T : Txt mg := ⟨PySem.W.mg_none_of X G b_abs, PySem.W.mg_none_of X G b_all, PySem.W.mg_none_of X G b_any, PySem.W.mg_none_of X G b_bool, PySem.W.mg_none_of X G b_enumerate, PySem.W.mg_none_of X G b_int, PySem.W.mg_none_of X G b_isinstance, PySem.W.mg_none_of X G b_len, PySem.W.mg_none_of X G b_list, PySem.W.mg_none_of X G b_max, PySem.W.mg_none_of X G b_range, PySem.W.mg_none_of X G b_sorted, PySem.W.mg_none_of X G b_sum, PySem.W.mg_none_of X G b_tuple, PySem.W.mg_none_of X G b_zip, ⟨_, PySem.W.mg_of X G g_MOST_HOURS, ⟨t_MOST_HOURS, rfl⟩⟩, ⟨_, PySem.W.mg_of X G g_MOST_WIDE, ⟨t_MOST_WIDE, rfl⟩⟩, ⟨_, PySem.W.mg_of X G g_MOST_ROWS, ⟨t_MOST_ROWS, rfl⟩⟩, ⟨_, PySem.W.mg_of X G g_MOST_SQUARE, ⟨t_MOST_SQUARE, rfl⟩⟩⟩
  have cls_C : Cls K C := ⟨pg_C, hd_C, po_C, sa_C⟩
  have TC : StC K C := ⟨cls_C, n_C_p, n_C_steps, n_C_taken⟩
  have g_Stairs : ∃ u, mg "Stairs" = some u ∧ RelV (.ref C) u := ⟨_, PySem.W.mg_of X G a_C, rfl⟩
  have F0 : C8.Def K mg "is_integer" s_is_integer f0 _ := ⟨⟨_, _, _, _, _, _, _, _, _, _, rfl, l0, c0⟩, PySem.W.mg_of X G a0, k0⟩
  have B0 : Binds K _ ["thing"] [] := F0.fn.binds rfl fun _ _ _ _ _ _ us hl => match us, hl with | [_], _ => rfl
  have F1 : C8.Def K mg "is_within" s_is_within f1 _ := ⟨⟨_, _, _, _, _, _, _, _, _, _, rfl, l1, c1⟩, PySem.W.mg_of X G a1, k1⟩
  have B1 : Binds K _ ["thing", "least", "most"] [] := F1.fn.binds rfl fun _ _ _ _ _ _ us hl => match us, hl with | [_, _, _], _ => rfl
  have F2 : C8.Def K mg "is_listed" s_is_listed f2 _ := ⟨⟨_, _, _, _, _, _, _, _, _, _, rfl, l2, c2⟩, PySem.W.mg_of X G a2, k2⟩
  have B2 : Binds K _ ["thing"] [] := F2.fn.binds rfl fun _ _ _ _ _ _ us hl => match us, hl with | [_], _ => rfl
  have F3 : C8.Def K mg "check_number" s_check_number f3 _ := ⟨⟨_, _, _, _, _, _, _, _, _, _, rfl, l3, c3⟩, PySem.W.mg_of X G a3, k3⟩
  have B3 : Binds K _ ["thing", "least", "most"] [] := F3.fn.binds rfl fun _ _ _ _ _ _ us hl => match us, hl with | [_, _, _], _ => rfl
  have F4 : C8.Def K mg "prime" s_prime f4 _ := ⟨⟨_, _, _, _, _, _, _, _, _, _, rfl, l4, c4⟩, PySem.W.mg_of X G a4, k4⟩
  have B4 : Binds K _ ["number"] [] := F4.fn.binds rfl fun _ _ _ _ _ _ us hl => match us, hl with | [_], _ => rfl
  have F5 : C8.Def K mg "is_clock" s_is_clock f5 _ := ⟨⟨_, _, _, _, _, _, _, _, _, _, rfl, l5, c5⟩, PySem.W.mg_of X G a5, k5⟩
  have B5 : Binds K _ ["thing"] [] := F5.fn.binds rfl fun _ _ _ _ _ _ us hl => match us, hl with | [_], _ => rfl
  have F6 : C8.Def K mg "check_clock" s_check_clock f6 _ := ⟨⟨_, _, _, _, _, _, _, _, _, _, rfl, l6, c6⟩, PySem.W.mg_of X G a6, k6⟩
  have B6 : Binds K _ ["thing"] [] := F6.fn.binds rfl fun _ _ _ _ _ _ us hl => match us, hl with | [_], _ => rfl
  have F7 : C8.Def K mg "inverse_of" s_inverse_of f7 _ := ⟨⟨_, _, _, _, _, _, _, _, _, _, rfl, l7, c7⟩, PySem.W.mg_of X G a7, k7⟩
  have B7 : Binds K _ ["p", "value"] [] := F7.fn.binds rfl fun _ _ _ _ _ _ us hl => match us, hl with | [_, _], _ => rfl
  have F8 : C8.Def K mg "scaled" s_scaled f8 _ := ⟨⟨_, _, _, _, _, _, _, _, _, _, rfl, l8, c8⟩, PySem.W.mg_of X G a8, k8⟩
  have B8 : Binds K _ ["p", "value", "row"] [] := F8.fn.binds rfl fun _ _ _ _ _ _ us hl => match us, hl with | [_, _, _], _ => rfl
  have F9 : C8.Def K mg "without" s_without f9 _ := ⟨⟨_, _, _, _, _, _, _, _, _, _, rfl, l9, c9⟩, PySem.W.mg_of X G a9, k9⟩
  have B9 : Binds K _ ["p", "row", "other", "value"] [] := F9.fn.binds rfl fun _ _ _ _ _ _ us hl => match us, hl with | [_, _, _, _], _ => rfl
  have F10 : C8.Def K mg "first_place" s_first_place f10 _ := ⟨⟨_, _, _, _, _, _, _, _, _, _, rfl, l10, c10⟩, PySem.W.mg_of X G a10, k10⟩
  have B10 : Binds K _ ["row"] [] := F10.fn.binds rfl fun _ _ _ _ _ _ us hl => match us, hl with | [_], _ => rfl
  have F11 : C8.Def K mg "stairs_of" s_stairs_of f11 _ := ⟨⟨_, _, _, _, _, _, _, _, _, _, rfl, l11, c11⟩, PySem.W.mg_of X G a11, k11⟩
  have B11 : Binds K _ ["p", "rows"] [] := F11.fn.binds rfl fun _ _ _ _ _ _ us hl => match us, hl with | [_, _], _ => rfl
  have F12 : C8.Def K mg "ladder_of" s_ladder_of f12 _ := ⟨⟨_, _, _, _, _, _, _, _, _, _, rfl, l12, c12⟩, PySem.W.mg_of X G a12, k12⟩
  have B12 : Binds K _ ["p", "rows"] [] := F12.fn.binds rfl fun _ _ _ _ _ _ us hl => match us, hl with | [_, _], _ => rfl
  have F13 : C8.Def K mg "mixture_of" s_mixture_of f13 _ := ⟨⟨_, _, _, _, _, _, _, _, _, _, rfl, l13, c13⟩, PySem.W.mg_of X G a13, k13⟩
  have B13 : Binds K _ ["p", "rows", "row"] [] := F13.fn.binds rfl fun _ _ _ _ _ _ us hl => match us, hl with | [_, _, _], _ => rfl
  have F14 : C8.Def K mg "parting_of" s_parting_of f14 _ := ⟨⟨_, _, _, _, _, _, _, _, _, _, rfl, l14, c14⟩, PySem.W.mg_of X G a14, k14⟩
  have B14 : Binds K _ ["p", "wide", "rows", "row"] [] := F14.fn.binds rfl fun _ _ _ _ _ _ us hl => match us, hl with | [_, _, _, _], _ => rfl
  have F15 : C8.Def K mg "square_of" s_square_of f15 _ := ⟨⟨_, _, _, _, _, _, _, _, _, _, rfl, l15, c15⟩, PySem.W.mg_of X G a15, k15⟩
  have B15 : Binds K _ ["p", "rows"] [] := F15.fn.binds rfl fun _ _ _ _ _ _ us hl => match us, hl with | [_, _], _ => rfl
  have F16 : C8.Def K mg "determinant_of" s_determinant_of f16 _ := ⟨⟨_, _, _, _, _, _, _, _, _, _, rfl, l16, c16⟩, PySem.W.mg_of X G a16, k16⟩
  have B16 : Binds K _ ["p", "rows"] [] := F16.fn.binds rfl fun _ _ _ _ _ _ us hl => match us, hl with | [_, _], _ => rfl
  have F17 : C8.Def K mg "is_row" s_is_row f17 _ := ⟨⟨_, _, _, _, _, _, _, _, _, _, rfl, l17, c17⟩, PySem.W.mg_of X G a17, k17⟩
  have B17 : Binds K _ ["p", "wide", "thing"] [] := F17.fn.binds rfl fun _ _ _ _ _ _ us hl => match us, hl with | [_, _, _], _ => rfl
  have F18 : C8.Def K mg "check_rows" s_check_rows f18 _ := ⟨⟨_, _, _, _, _, _, _, _, _, _, rfl, l18, c18⟩, PySem.W.mg_of X G a18, k18⟩
  have B18 : Binds K _ ["p", "wide", "rows"] [] := F18.fn.binds rfl fun _ _ _ _ _ _ us hl => match us, hl with | [_, _, _], _ => rfl
  have F19 : C8.Def K mg "check_row" s_check_row f19 _ := ⟨⟨_, _, _, _, _, _, _, _, _, _, rfl, l19, c19⟩, PySem.W.mg_of X G a19, k19⟩
  have B19 : Binds K _ ["p", "wide", "thing"] [] := F19.fn.binds rfl fun _ _ _ _ _ _ us hl => match us, hl with | [_, _, _], _ => rfl
  have F20 : C8.Def K mg "mixture" s_mixture f20 _ := ⟨⟨_, _, _, _, _, _, _, _, _, _, rfl, l20, c20⟩, PySem.W.mg_of X G a20, k20⟩
  have B20 : Binds K _ ["p", "wide", "rows", "row"] [] := F20.fn.binds rfl fun _ _ _ _ _ _ us hl => match us, hl with | [_, _, _, _], _ => rfl
  have F21 : C8.Def K mg "parting" s_parting f21 _ := ⟨⟨_, _, _, _, _, _, _, _, _, _, rfl, l21, c21⟩, PySem.W.mg_of X G a21, k21⟩
  have B21 : Binds K _ ["p", "wide", "rows", "row"] [] := F21.fn.binds rfl fun _ _ _ _ _ _ us hl => match us, hl with | [_, _, _, _], _ => rfl
  have F22 : C8.Def K mg "square" s_square f22 _ := ⟨⟨_, _, _, _, _, _, _, _, _, _, rfl, l22, c22⟩, PySem.W.mg_of X G a22, k22⟩
  have B22 : Binds K _ ["p", "wide", "rows"] [] := F22.fn.binds rfl fun _ _ _ _ _ _ us hl => match us, hl with | [_, _, _], _ => rfl
  have F23 : C8.Def K mg "determinant" s_determinant f23 _ := ⟨⟨_, _, _, _, _, _, _, _, _, _, rfl, l23, c23⟩, PySem.W.mg_of X G a23, k23⟩
  have B23 : Binds K _ ["p", "rows"] [] := F23.fn.binds rfl fun _ _ _ _ _ _ us hl => match us, hl with | [_, _], _ => rfl
  have F24 : C8.Def K mg "_law_hand" s_law_hand f24 _ := ⟨⟨_, _, _, _, _, _, _, _, _, _, rfl, l24, c24⟩, PySem.W.mg_of X G a24, k24⟩
  have B24 : Binds K _ ["script"] [] := F24.fn.binds rfl fun _ _ _ _ _ _ us hl => match us, hl with | [_], _ => rfl
  have F25 : C8.Def K mg "_law_draw" s_law_draw f25 _ := ⟨⟨_, _, _, _, _, _, _, _, _, _, rfl, l25, c25⟩, PySem.W.mg_of X G a25, k25⟩
  have B25 : Binds K _ ["hand", "many"] [] := F25.fn.binds rfl fun _ _ _ _ _ _ us hl => match us, hl with | [_, _], _ => rfl
  have F26 : C8.Def K mg "_law_any" s_law_any f26 _ := ⟨⟨_, _, _, _, _, _, _, _, _, _, rfl, l26, c26⟩, PySem.W.mg_of X G a26, k26⟩
  have B26 : Binds K _ ["hand", "items"] [] := F26.fn.binds rfl fun _ _ _ _ _ _ us hl => match us, hl with | [_, _], _ => rfl
  have F27 : C8.Def K mg "_law_is" s_law_is f27 _ := ⟨⟨_, _, _, _, _, _, _, _, _, _, rfl, l27, c27⟩, PySem.W.mg_of X G a27, k27⟩
  have B27 : Binds K _ ["told", "due"] [] := F27.fn.binds rfl fun _ _ _ _ _ _ us hl => match us, hl with | [_, _], _ => rfl
  have F28 : C8.Def K mg "_law_int" s_law_int f28 _ := ⟨⟨_, _, _, _, _, _, _, _, _, _, rfl, l28, c28⟩, PySem.W.mg_of X G a28, k28⟩
  have B28 : Binds K _ ["thing", "least", "most"] [] := F28.fn.binds rfl fun _ _ _ _ _ _ us hl => match us, hl with | [_, _, _], _ => rfl
  have F29 : C8.Def K mg "_law_turn" s_law_turn f29 _ := ⟨⟨_, _, _, _, _, _, _, _, _, _, rfl, l29, c29⟩, PySem.W.mg_of X G a29, k29⟩
  have B29 : Binds K _ ["p", "value"] [] := F29.fn.binds rfl fun _ _ _ _ _ _ us hl => match us, hl with | [_, _], _ => rfl
  have F30 : C8.Def K mg "_law_less" s_law_less f30 _ := ⟨⟨_, _, _, _, _, _, _, _, _, _, rfl, l30, c30⟩, PySem.W.mg_of X G a30, k30⟩
  have B30 : Binds K _ ["p", "row", "other", "many"] [] := F30.fn.binds rfl fun _ _ _ _ _ _ us hl => match us, hl with | [_, _, _, _], _ => rfl
  have F31 : C8.Def K mg "_law_summed" s_law_summed f31 _ := ⟨⟨_, _, _, _, _, _, _, _, _, _, rfl, l31, c31⟩, PySem.W.mg_of X G a31, k31⟩
  have B31 : Binds K _ ["p", "wide", "rows", "many"] [] := F31.fn.binds rfl fun _ _ _ _ _ _ us hl => match us, hl with | [_, _, _, _], _ => rfl
  have F32 : C8.Def K mg "_law_dot" s_law_dot f32 _ := ⟨⟨_, _, _, _, _, _, _, _, _, _, rfl, l32, c32⟩, PySem.W.mg_of X G a32, k32⟩
  have B32 : Binds K _ ["p", "row", "other"] [] := F32.fn.binds rfl fun _ _ _ _ _ _ us hl => match us, hl with | [_, _, _], _ => rfl
  have F33 : C8.Def K mg "_law_ladder" s_law_ladder f33 _ := ⟨⟨_, _, _, _, _, _, _, _, _, _, rfl, l33, c33⟩, PySem.W.mg_of X G a33, k33⟩
  have B33 : Binds K _ ["p", "wide", "rows"] [] := F33.fn.binds rfl fun _ _ _ _ _ _ us hl => match us, hl with | [_, _, _], _ => rfl
  have F34 : C8.Def K mg "_law_rank" s_law_rank f34 _ := ⟨⟨_, _, _, _, _, _, _, _, _, _, rfl, l34, c34⟩, PySem.W.mg_of X G a34, k34⟩
  have B34 : Binds K _ ["p", "rows"] [] := F34.fn.binds rfl fun _ _ _ _ _ _ us hl => match us, hl with | [_, _], _ => rfl
  have F35 : C8.Def K mg "_law_clock" s_law_clock f35 _ := ⟨⟨_, _, _, _, _, _, _, _, _, _, rfl, l35, c35⟩, PySem.W.mg_of X G a35, k35⟩
  have B35 : Binds K _ ["hand"] [] := F35.fn.binds rfl fun _ _ _ _ _ _ us hl => match us, hl with | [_], _ => rfl
  have F36 : C8.Def K mg "_law_some_row" s_law_some_row f36 _ := ⟨⟨_, _, _, _, _, _, _, _, _, _, rfl, l36, c36⟩, PySem.W.mg_of X G a36, k36⟩
  have B36 : Binds K _ ["hand", "p", "wide", "rows"] [] := F36.fn.binds rfl fun _ _ _ _ _ _ us hl => match us, hl with | [_, _, _, _], _ => rfl
  have F37 : C8.Def K mg "_law_some_rows" s_law_some_rows f37 _ := ⟨⟨_, _, _, _, _, _, _, _, _, _, rfl, l37, c37⟩, PySem.W.mg_of X G a37, k37⟩
  have B37 : Binds K _ ["hand", "p", "wide", "many"] [] := F37.fn.binds rfl fun _ _ _ _ _ _ us hl => match us, hl with | [_, _, _, _], _ => rfl
  have F38 : C8.Def K mg "_law_is_row" s_law_is_row f38 _ := ⟨⟨_, _, _, _, _, _, _, _, _, _, rfl, l38, c38⟩, PySem.W.mg_of X G a38, k38⟩
  have B38 : Binds K _ ["p", "wide", "thing"] [] := F38.fn.binds rfl fun _ _ _ _ _ _ us hl => match us, hl with | [_, _, _], _ => rfl
  have F39 : C8.Def K mg "_law_det" s_law_det f39 _ := ⟨⟨_, _, _, _, _, _, _, _, _, _, rfl, l39, c39⟩, PySem.W.mg_of X G a39, k39⟩
  have B39 : Binds K _ ["p", "rows"] [] := F39.fn.binds rfl fun _ _ _ _ _ _ us hl => match us, hl with | [_, _], _ => rfl
  have F40 : C8.Def K mg "_law_product" s_law_product f40 _ := ⟨⟨_, _, _, _, _, _, _, _, _, _, rfl, l40, c40⟩, PySem.W.mg_of X G a40, k40⟩
  have B40 : Binds K _ ["p", "one", "other"] [] := F40.fn.binds rfl fun _ _ _ _ _ _ us hl => match us, hl with | [_, _, _], _ => rfl
  have F41 : C8.Def K mg "_law_dets_right" s_law_dets_right f41 _ := ⟨⟨_, _, _, _, _, _, _, _, _, _, rfl, l41, c41⟩, PySem.W.mg_of X G a41, k41⟩
  have B41 : Binds K _ ["hand"] [] := F41.fn.binds rfl fun _ _ _ _ _ _ us hl => match us, hl with | [_], _ => rfl
  have F42 : C8.Def K mg "_law_is_mixture" s_law_is_mixture f42 _ := ⟨⟨_, _, _, _, _, _, _, _, _, _, rfl, l42, c42⟩, PySem.W.mg_of X G a42, k42⟩
  have B42 : Binds K _ ["p", "wide", "rows", "row", "told"] [] := F42.fn.binds rfl fun _ _ _ _ _ _ us hl => match us, hl with | [_, _, _, _, _], _ => rfl
  have F43 : C8.Def K mg "_law_is_parting" s_law_is_parting f43 _ := ⟨⟨_, _, _, _, _, _, _, _, _, _, rfl, l43, c43⟩, PySem.W.mg_of X G a43, k43⟩
  have B43 : Binds K _ ["p", "wide", "rows", "row", "told"] [] := F43.fn.binds rfl fun _ _ _ _ _ _ us hl => match us, hl with | [_, _, _, _, _], _ => rfl
  have F44 : C8.Def K mg "_law_least_rows" s_law_least_rows f44 _ := ⟨⟨_, _, _, _, _, _, _, _, _, _, rfl, l44, c44⟩, PySem.W.mg_of X G a44, k44⟩
  have B44 : Binds K _ ["p", "wide", "rows"] [] := F44.fn.binds rfl fun _ _ _ _ _ _ us hl => match us, hl with | [_, _, _], _ => rfl
  have F45 : C8.Def K mg "law" s_law fa _ := ⟨⟨_, _, _, _, _, _, _, _, _, _, rfl, l45, c45⟩, PySem.W.mg_of X G a45, k45⟩
  have B45 : Binds K _ ["script"] [] := F45.fn.binds rfl fun _ _ _ _ _ _ us hl => match us, hl with | [_], _ => rfl
  have F46 : C8.Fun K "__init__" "Stairs.__init__" s_Stairs_init f46 _ := ⟨_, _, _, _, _, _, _, _, _, _, rfl, l46, c46⟩
  have B46 : Binds K _ ["self", "p"] [] := F46.binds rfl fun _ _ _ _ _ _ us hl => match us, hl with | [_, _], _ => rfl
  have F47 : C8.Fun K "less" "Stairs.less" s_Stairs_less f47 _ := ⟨_, _, _, _, _, _, _, _, _, _, rfl, l47, c47⟩
  have B47 : Binds K _ ["self", "row"] [] := F47.binds rfl fun _ _ _ _ _ _ us hl => match us, hl with | [_, _], _ => rfl
  have F48 : C8.Fun K "take" "Stairs.take" s_Stairs_take f48 _ := ⟨_, _, _, _, _, _, _, _, _, _, rfl, l48, c48⟩
  have B48 : Binds K _ ["self", "number", "row"] [] := F48.binds rfl fun _ _ _ _ _ _ us hl => match us, hl with | [_, _, _], _ => rfl
  refine ⟨PySem.W.fnOf "law" "law" (C8.fnArgs s_law) (C8.fnBody s_law) (C8.fnScope s_law) .none kV45 dc45 pm45 an45 cd45 ct45, fun s v => .of_eq rfl, fun base KX _ => ?_⟩
  have m_is_integer := ok_is_integer (P := l.prog) (w := w) (base := base) F0 B0 T
  have m_is_within := ok_is_within F1 B1 T m_is_integer
  have m_is_listed := ok_is_listed (P := l.prog) (w := w) (base := base) F2 B2 T
  have m_check_number := ok_check_number F3 B3 T m_is_within
  have m_prime := ok_prime (P := l.prog) (w := w) (base := base) F4 B4 T
  have m_is_clock := ok_is_clock F5 B5 T m_is_within m_prime
  have m_check_clock := ok_check_clock F6 B6 T m_is_clock
  have m_inverse_of := ok_inverse_of (P := l.prog) (w := w) (base := base) F7 B7 T
  have m_scaled := ok_scaled (P := l.prog) (w := w) (base := base) F8 B8 T
  have m_without := ok_without (P := l.prog) (w := w) (base := base) F9 B9 T
  have m_withoutL := ok_withoutL (P := l.prog) (w := w) (base := base) F9 B9 T
  have m_first_place := ok_first_place (P := l.prog) (w := w) (base := base) F10 B10 T
  have m_Stairs := ok_st_init (C := C) (P := l.prog) (w := w) (base := base) ⟨mk_C, a46, i46, kc_C⟩ (PySem.W.mg_of X G a_C) F46 B46 TC
  have m_Stairs_less := ok_st_less (C := C) ⟨a47, i47, k47⟩ F47 B47 T TC m_without
  have m_Stairs_take := ok_st_take (C := C) ⟨a48, i48, k48⟩ F48 B48 T TC m_Stairs_less m_first_place m_inverse_of m_scaled
  have m_stairs_of := ok_stairs_of (C := C) F11 B11 T TC m_Stairs m_Stairs_take
  have m_ladder_of := ok_ladder_of (C := C) F12 B12 T TC m_stairs_of m_without
  have m_mixture_of := ok_mixture_of (C := C) F13 B13 T TC m_stairs_of m_Stairs_less m_first_place
  have m_parting_of := ok_parting_of F14 B14 T m_ladder_of m_without m_first_place m_inverse_of
  have m_square_of := ok_square_of (C := C) F15 B15 T TC m_stairs_of m_ladder_of m_first_place
  have m_determinant_of := ok_determinant_of F16 B16 T m_withoutL m_inverse_of
  have m_is_row := ok_is_row F17 B17 T m_is_within
  have m_check_rows := ok_check_rows F18 B18 T m_check_clock m_check_number m_is_listed m_is_row
  have m_check_row := ok_check_row F19 B19 T m_is_row
  have m_mixture := ok_mixture F20 B20 T m_check_rows m_check_row m_mixture_of
  have m_parting := ok_parting F21 B21 T m_check_rows m_check_row m_parting_of
  have m_square := ok_square F22 B22 T m_check_rows m_square_of
  have m_determinant := ok_determinant F23 B23 T m_check_clock m_is_listed m_is_row m_determinant_of
  have m_law_hand := ok_law_hand (P := l.prog) (w := w) (base := base) F24 B24 T
  have m_law_draw := ok_law_draw (P := l.prog) (w := w) (base := base) F25 B25 T
  have m_law_any := ok_law_any F26 B26 T m_law_draw
  have m_is_no := ok_law_is_no (P := l.prog) (w := w) (base := base) F27 B27
  have m_is0 := ok_law_is0 F27 B27 T m_is_no
  have m_is1 := ok_law_isS F27 B27 T m_is0
  have m_law_is := ok_law_isS F27 B27 T m_is1
  have m_law_int := ok_law_int (P := l.prog) (w := w) (base := base) F28 B28 T
  have m_law_turn := ok_law_turn (P := l.prog) (w := w) (base := base) F29 B29 T
  have m_law_less := ok_law_less (P := l.prog) (w := w) (base := base) F30 B30 T
  have m_summed2 := ok_law_summed2 F31 B31 T m_law_less
  have m_law_summed := ok_law_summedM F31 B31 T m_law_less
  have m_law_dot := ok_law_dot (P := l.prog) (w := w) (base := base) F32 B32 T
  have m_law_ladder := ok_law_ladder F33 B33 T m_law_turn m_law_less
  have m_law_rank := ok_law_rank F34 B34 T m_law_ladder
  have m_law_clock := ok_law_clock F35 B35 T m_law_any
  have m_law_some_row := ok_law_some_row F36 B36 T m_law_draw m_law_any m_summed2
  have m_law_some_rows := ok_law_some_rows F37 B37 T m_law_some_row
  have m_law_is_row := ok_law_is_row F38 B38 T m_law_int
  have m_det0 := ok_law_det_no (P := l.prog) (w := w) (base := base) F39 B39
  have m_det1 := ok_law_detS F39 B39 T m_det0
  have m_det2 := ok_law_detS F39 B39 T m_det1
  have m_det3 := ok_law_detS F39 B39 T m_det2
  have m_det4 := ok_law_detS F39 B39 T m_det3
  have m_law_det := ok_law_detS F39 B39 T m_det4
  have m_law_product := ok_law_product F40 B40 T m_law_summed
  have m_law_dets_right := ok_law_dets_right F41 B41 T m_law_clock m_law_draw m_law_any m_law_some_rows m_law_det m_determinant m_law_is m_law_product
  have m_law_is_mixture := ok_law_is_mixture F42 B42 T m_law_is_row m_law_summed
  have m_law_is_parting := ok_law_is_parting F43 B43 T m_law_is_row m_law_dot
  have m_law_least_rows := ok_law_least_rows F44 B44 T m_law_rank
  have m_law := ok_law F45 B45 T m_law_hand m_law_any m_law_draw m_law_is m_law_clock m_law_some_rows m_law_some_row m_law_summed m_mixture m_parting m_law_rank m_law_is_mixture m_law_is_parting m_law_ladder m_law_least_rows m_square m_determinant m_law_dets_right
  exact m_law
end TK

open PySem PySem.W PyProof.Rows in
set_option maxRecDepth 100000 in
set_option maxHeartbeats 0 in
theorem PySem.Challenge.cw_tollhall_k02_whole_mixtures_partings_squ_holds : PySem.Challenge.rw_tollhall_k02_whole_mixtures_partings_squ.Holds := by
  w_on; o_law; k_head; (case hw => w_witness2)
  k_fill
  refine L2.walk_of (l := PySem.Challenge.rw_tollhall_k02_whole_mixtures_partings_squ) (n := 63) (k := 8) (x := "script") (CX := fun _ => C8.CX0) (sp := fun w => TK.sp_law _) rfl (by decide) rfl ⟨rfl, by decide, by decide⟩ (fun w h Y => PySem.W.kIn_of Y) ?F (fun _ _ a ns hl _ hS => ⟨a, ns, rfl, hS, Nat.le_trans hl (by decide), fun _ => rfl⟩) fun _ _ _ _ _ z => z
  case F =>
    intro w mg fa h KX G hmg
    refine' TK.all_mk KX G hmg ?a0 ?l0 ?c0 ?k0 ?a1 ?l1 ?c1 ?k1 ?a2 ?l2 ?c2 ?k2 ?a3 ?l3 ?c3 ?k3 ?a4 ?l4 ?c4 ?k4 ?a5 ?l5 ?c5 ?k5 ?a6 ?l6 ?c6 ?k6 ?a7 ?l7 ?c7 ?k7 ?a8 ?l8 ?c8 ?k8 ?a9 ?l9 ?c9 ?k9 ?a10 ?l10 ?c10 ?k10 ?a11 ?l11 ?c11 ?k11 ?a12 ?l12 ?c12 ?k12 ?a13 ?l13 ?c13 ?k13 ?a14 ?l14 ?c14 ?k14 ?a15 ?l15 ?c15 ?k15 ?a16 ?l16 ?c16 ?k16 ?a17 ?l17 ?c17 ?k17 ?a18 ?l18 ?c18 ?k18 ?a19 ?l19 ?c19 ?k19 ?a20 ?l20 ?c20 ?k20 ?a21 ?l21 ?c21 ?k21 ?a22 ?l22 ?c22 ?k22 ?a23 ?l23 ?c23 ?k23 ?a24 ?l24 ?c24 ?k24 ?a25 ?l25 ?c25 ?k25 ?a26 ?l26 ?c26 ?k26 ?a27 ?l27 ?c27 ?k27 ?a28 ?l28 ?c28 ?k28 ?a29 ?l29 ?c29 ?k29 ?a30 ?l30 ?c30 ?k30 ?a31 ?l31 ?c31 ?k31 ?a32 ?l32 ?c32 ?k32 ?a33 ?l33 ?c33 ?k33 ?a34 ?l34 ?c34 ?k34 ?a35 ?l35 ?c35 ?k35 ?a36 ?l36 ?c36 ?k36 ?a37 ?l37 ?c37 ?k37 ?a38 ?l38 ?c38 ?k38 ?a39 ?l39 ?c39 ?k39 ?a40 ?l40 ?c40 ?k40 ?a41 ?l41 ?c41 ?k41 ?a42 ?l42 ?c42 ?k42 ?a43 ?l43 ?c43 ?k43 ?a44 ?l44 ?c44 ?k44 ?a45 ?l45 ?c45 ?k45 ?a_C ?a46 ?i46 ?l46 ?c46 ?k46 ?a47 ?i47 ?l47 ?c47 ?k47 ?a48 ?i48 ?l48 ?c48 ?k48 ?pg_C ?hd_C ?po_C ?sa_C ?mk_C ?kc_C ?n_C_p ?n_C_steps ?n_C_taken ?b_abs ?b_all ?b_any ?b_bool ?b_enumerate ?b_int ?b_isinstance ?b_len ?b_list ?b_max ?b_range ?b_sorted ?b_sum ?b_tuple ?b_zip ?g_MOST_HOURS ?g_MOST_WIDE ?g_MOST_ROWS ?g_MOST_SQUARE
    (case a0 => k_is)
    (case l0 => k_is)
    (case c0 => k_is)
    (case k0 => k_is)
    (case a1 => k_is)
    (case l1 => k_is)
    (case c1 => k_is)
    (case k1 => k_is)
    (case a2 => k_is)
    (case l2 => k_is)
    (case c2 => k_is)
    (case k2 => k_is)
    (case a3 => k_is)
    (case l3 => k_is)
    (case c3 => k_is)
    (case k3 => k_is)
    (case a4 => k_is)
    (case l4 => k_is)
    (case c4 => k_is)
    (case k4 => k_is)
    (case a5 => k_is)
    (case l5 => k_is)
    (case c5 => k_is)
    (case k5 => k_is)
    (case a6 => k_is)
    (case l6 => k_is)
    (case c6 => k_is)
    (case k6 => k_is)
    (case a7 => k_is)
    (case l7 => k_is)
    (case c7 => k_is)
    (case k7 => k_is)
    (case a8 => k_is)
    (case l8 => k_is)
    (case c8 => k_is)
    (case k8 => k_is)
    (case a9 => k_is)
    (case l9 => k_is)
    (case c9 => k_is)
    (case k9 => k_is)
    (case a10 => k_is)
    (case l10 => k_is)
    (case c10 => k_is)
    (case k10 => k_is)
    (case a11 => k_is)
    (case l11 => k_is)
    (case c11 => k_is)
    (case k11 => k_is)
    (case a12 => k_is)
    (case l12 => k_is)
    (case c12 => k_is)
    (case k12 => k_is)
    (case a13 => k_is)
    (case l13 => k_is)
    (case c13 => k_is)
    (case k13 => k_is)
    (case a14 => k_is)
    (case l14 => k_is)
    (case c14 => k_is)
    (case k14 => k_is)
    (case a15 => k_is)
    (case l15 => k_is)
    (case c15 => k_is)
    (case k15 => k_is)
    (case a16 => k_is)
    (case l16 => k_is)
    (case c16 => k_is)
    (case k16 => k_is)
    (case a17 => k_is)
    (case l17 => k_is)
    (case c17 => k_is)
    (case k17 => k_is)
    (case a18 => k_is)
    (case l18 => k_is)
    (case c18 => k_is)
    (case k18 => k_is)
    (case a19 => k_is)
    (case l19 => k_is)
    (case c19 => k_is)
    (case k19 => k_is)
    (case a20 => k_is)
    (case l20 => k_is)
    (case c20 => k_is)
    (case k20 => k_is)
    (case a21 => k_is)
    (case l21 => k_is)
    (case c21 => k_is)
    (case k21 => k_is)
    (case a22 => k_is)
    (case l22 => k_is)
    (case c22 => k_is)
    (case k22 => k_is)
    (case a23 => k_is)
    (case l23 => k_is)
    (case c23 => k_is)
    (case k23 => k_is)
    (case a24 => k_is)
    (case l24 => k_is)
    (case c24 => k_is)
    (case k24 => k_is)
    (case a25 => k_is)
    (case l25 => k_is)
    (case c25 => k_is)
    (case k25 => k_is)
    (case a26 => k_is)
    (case l26 => k_is)
    (case c26 => k_is)
    (case k26 => k_is)
    (case a27 => k_is)
    (case l27 => k_is)
    (case c27 => k_is)
    (case k27 => k_is)
    (case a28 => k_is)
    (case l28 => k_is)
    (case c28 => k_is)
    (case k28 => k_is)
    (case a29 => k_is)
    (case l29 => k_is)
    (case c29 => k_is)
    (case k29 => k_is)
    (case a30 => k_is)
    (case l30 => k_is)
    (case c30 => k_is)
    (case k30 => k_is)
    (case a31 => k_is)
    (case l31 => k_is)
    (case c31 => k_is)
    (case k31 => k_is)
    (case a32 => k_is)
    (case l32 => k_is)
    (case c32 => k_is)
    (case k32 => k_is)
    (case a33 => k_is)
    (case l33 => k_is)
    (case c33 => k_is)
    (case k33 => k_is)
    (case a34 => k_is)
    (case l34 => k_is)
    (case c34 => k_is)
    (case k34 => k_is)
    (case a35 => k_is)
    (case l35 => k_is)
    (case c35 => k_is)
    (case k35 => k_is)
    (case a36 => k_is)
    (case l36 => k_is)
    (case c36 => k_is)
    (case k36 => k_is)
    (case a37 => k_is)
    (case l37 => k_is)
    (case c37 => k_is)
    (case k37 => k_is)
    (case a38 => k_is)
    (case l38 => k_is)
    (case c38 => k_is)
    (case k38 => k_is)
    (case a39 => k_is)
    (case l39 => k_is)
    (case c39 => k_is)
    (case k39 => k_is)
    (case a40 => k_is)
    (case l40 => k_is)
    (case c40 => k_is)
    (case k40 => k_is)
    (case a41 => k_is)
    (case l41 => k_is)
    (case c41 => k_is)
    (case k41 => k_is)
    (case a42 => k_is)
    (case l42 => k_is)
    (case c42 => k_is)
    (case k42 => k_is)
    (case a43 => k_is)
    (case l43 => k_is)
    (case c43 => k_is)
    (case k43 => k_is)
    (case a44 => k_is)
    (case l44 => k_is)
    (case c44 => k_is)
    (case k44 => k_is)
    (case a45 => k_is)
    (case l45 => k_is)
    (case c45 => k_is)
    (case k45 => k_is)
    (case a_C => k_is)
    (case a46 => k_is)
    (case i46 => k_is)
    (case l46 => k_is)
    (case c46 => k_is)
    (case k46 => k_is)
    (case a47 => k_is)
    (case i47 => k_is)
    (case l47 => k_is)
    (case c47 => k_is)
    (case k47 => k_is)
    (case a48 => k_is)
    (case i48 => k_is)
    (case l48 => k_is)
    (case c48 => k_is)
    (case k48 => k_is)
    (case pg_C => k_is)
    (case hd_C => k_is)
    (case po_C => k_is)
    (case sa_C => k_is)
    (case mk_C => k_is)
    (case kc_C => k_is)
    (case n_C_p => k_is)
    (case n_C_steps => k_is)
    (case n_C_taken => k_is)
    (case b_abs => k_is)
    (case b_all => k_is)
    (case b_any => k_is)
    (case b_bool => k_is)
    (case b_enumerate => k_is)
    (case b_int => k_is)
    (case b_isinstance => k_is)
    (case b_len => k_is)
    (case b_list => k_is)
    (case b_max => k_is)
    (case b_range => k_is)
    (case b_sorted => k_is)
    (case b_sum => k_is)
    (case b_tuple => k_is)
    (case b_zip => k_is)
    (case g_MOST_HOURS => k_is)
    (case g_MOST_WIDE => k_is)
    (case g_MOST_ROWS => k_is)
    (case g_MOST_SQUARE => k_is)
