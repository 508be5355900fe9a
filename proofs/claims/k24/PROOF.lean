import PyProof.Rows.All
import Wide.All
import OpenK.AllK
import Wide.FinOn
import HandS.ForMost
import HandS.Codes
import HandS.IsInst
import HandS.Zip
import HandS.TupAny
import HandS.TupMul
import HandS.Style
import HandS.DictComp
import HandS.Conv
import HandS.Wide
import HandS.EndBits
import HandS.Walk
import KE.GoesMore
import KE.GoesEnum
import HandS.Deep
import HandS.More
import KE.SortData
import KE.DataEq
import KE.KTupSum
import KE.KDictPairs
import KE.DataFind
import KE.GoesZip
import HandS.Comp
import HandS.Exc
import HandS.ExcOwn
import HandS.TryOnly
import HandS.Small
import HandS.ExcIs
import HandS.Lambda
import HandS.EndTab
import HandS.OwnEq
import PyProof.InstNe
import KE.KEqDict
import KE.KDictKeyed
import HandS.DictEq
import HandS.TupLen
import PyProof.Rows.MinMaxN
import PyProof.MaxThree
import KE.KDictCopyH
import HandS.DictTup
import KE.KStateDown
import HandS.Base
import HandS.Call
import HandS.ExcInit
import HandS.ExcSuper
import KE.KExcSuper
import HandS.ExcField
import PySem.Challenge.RW_tollhall_k24_whole_openings_tick_by_tick
set_option Elab.async false
set_option linter.all false
set_option maxRecDepth 100000
set_option maxHeartbeats 8000000
namespace TH
open PySem PySem.Spec PyProof.Rows L2
/-! ### tuple * int, any int -/
theorem tuple_mul1 (l : Addr) (items : Array Value) (n : Nat) (dd : Option Addr) (sl : Array (Option Value)) (x : Int) (u : Tok) (c0 : (decide (x < -(2 ^ 63)) || decide (x ≥ 2 ^ 63)) = false) (c1 : (items.isEmpty || x == 1) = true) :
    Meets (Builtin.«tuple.__mul__» ⟨[.ref l, .int x u], []⟩) (fun _ R s => s.heap.get? l = some { cls := .type "tuple", dict := dd, data := .seq items n, slots := sl } ∧
      R (.ok (.ret (Value.ref l))) s) :=
  .of_wp fun prog w A R s h => by
    obtain ⟨hp, g, d, tk, os⟩ := s
    obtain ⟨hl, h⟩ := h
    have f1 := AutoSeq1.idx_int
    wp_walk using PyProof.Rows.wpAny_loadPart' hl
    repeat (first
      | (refine wpAny_ite_false (decide_eq_false (by rw [c0]; exact Bool.false_ne_true)) ?_; wp_walk using PyProof.Rows.wpAny_loadPart' hl)
      | (refine wpAny_ite_true (decide_eq_true c1) ?_; wp_walk using PyProof.Rows.wpAny_loadPart' hl))
    exact ⟨_, rfl, h⟩
theorem tuple_mul0 (l : Addr) (items : Array Value) (n : Nat) (dd : Option Addr) (sl : Array (Option Value)) (x : Int) (u : Tok) (c0 : (decide (x < -(2 ^ 63)) || decide (x ≥ 2 ^ 63)) = false) (c1 : (items.isEmpty || x == 1) = false) (c2 : (decide (x ≤ 0) || items.isEmpty) = true) :
    Meets (Builtin.«tuple.__mul__» ⟨[.ref l, .int x u], []⟩) (fun _ R s => s.heap.get? l = some { cls := .type "tuple", dict := dd, data := .seq items n, slots := sl } ∧
      R (.ok (.ret (Value.ref s.heap.objs.size))) { s with heap := s.heap.push { cls := Value.type "tuple", data := Data.seq #[] }, toks := s.toks }) :=
  .of_wp fun prog w A R s h => by
    obtain ⟨hp, g, d, tk, os⟩ := s
    obtain ⟨hl, h⟩ := h
    have f1 := AutoSeq1.idx_int
    wp_walk using PyProof.Rows.wpAny_loadPart' hl
    repeat (first
      | (refine wpAny_ite_false (decide_eq_false (by rw [c0]; exact Bool.false_ne_true)) ?_; wp_walk using PyProof.Rows.wpAny_loadPart' hl)
      | (refine wpAny_ite_false (decide_eq_false (by rw [c1]; exact Bool.false_ne_true)) ?_; wp_walk using PyProof.Rows.wpAny_loadPart' hl)
      | (refine wpAny_ite_true (decide_eq_true c2) ?_; wp_walk using PyProof.Rows.wpAny_loadPart' hl))
    exact ⟨_, rfl, h⟩
def rRepA (K : PySem.W.Frag) : R2 := fun x y H Q => ∃ l k xs, x = .ref l ∧ y = .int k ∧ SqT K H l xs ∧ xs ≠ [] ∧ -1000 ≤ k ∧ k ≤ 1000 ∧ xs.length ≤ 1000 ∧
  (k = 1 → Q (.ref l) H) ∧ (k ≠ 1 → ∀ p, H p = none → Q (.ref p) (upd H p (.tup (List.replicate k.toNat xs).flatten)))
section
variable {X : Cx}
theorem op_repA : OpR X (binaryOp .Mult) (rRepA X.K) := by
  intro pins s σ H x y v u Q I rx ry h
  obtain ⟨l, k, xs, rfl, rfl, hT, hne, h0, h1, hz, q1, q2⟩ := h
  by_cases hk2 : 2 ≤ k
  · exact op_repT pins s σ H _ _ v u Q I rx ry ⟨l, k, xs, rfl, rfl, hT, hne, hk2, h1, hz, q2 (by omega)⟩
  cases rx
  obtain ⟨t, rfl⟩ := ry
  obtain ⟨its, r, ⟨⟨cls, dd, data, sl⟩, ho, hc, n, hd⟩, hs⟩ := I.tuple hT
  simp only at hc hd
  subst hc hd
  have hle : its.length = xs.length := r.length.symm
  have hn : its ≠ [] := fun e => hne (by
    rw [e] at hle
    exact List.eq_nil_of_length_eq_zero hle.symm)
  have hi : its.toArray.isEmpty = false := by
    cases its with
    | nil => exact absurd rfl hn
    | cons a b => rfl
  have c0 : (decide (k < -(2 ^ 63)) || decide (k ≥ 2 ^ 63)) = false := by
    rw [decide_eq_false (by omega), decide_eq_false (by omega)] <;> rfl
  by_cases hk1 : k = 1
  · subst hk1
    have c1 : (its.toArray.isEmpty || (1 : Int) == 1) = true := by simp
    refine wpAny_binaryOp_repeat_ref (T := "tuple") (U := "int") (by decide) ⟨_, ho, rfl⟩ (fun s' => typeIs_int s' 1 t) noFill_tuple_mul F.fills_int_mul F.slot_int_rmul repeat_tuple F.slot_int_index.lookup
      (call_meets F.slot_int_rmul (typeIs_int s 1 t) F.entry_int_rmul (F.args_int_rmul_2 _ _) (int_rmul_tuple 1 t l its.toArray n dd sl)
        ⟨ho, rfl, ⟨_, ho, rfl⟩, call_meets F.slot_tuple_mul ⟨_, ho, rfl⟩ F.entry_tuple_mul (F.args_tuple_mul_2 _ _) (tuple_mul1 l its.toArray n dd sl 1 t c0 c1) ⟨ho, ?_⟩⟩)
    exact ⟨.ref l, H, I, rfl, q1 rfl⟩
  · have c1 : (its.toArray.isEmpty || k == 1) = false := by
      rw [hi, Bool.false_or]
      exact beq_eq_false_iff_ne.mpr hk1
    have c2 : (decide (k ≤ 0) || its.toArray.isEmpty) = true := by
      rw [decide_eq_true (by omega)]
      rfl
    refine wpAny_binaryOp_repeat_ref (T := "tuple") (U := "int") (by decide) ⟨_, ho, rfl⟩ (fun s' => typeIs_int s' k t) noFill_tuple_mul F.fills_int_mul F.slot_int_rmul repeat_tuple F.slot_int_index.lookup
      (call_meets F.slot_int_rmul (typeIs_int s k t) F.entry_int_rmul (F.args_int_rmul_2 _ _) (int_rmul_tuple k t l its.toArray n dd sl)
        ⟨ho, rfl, ⟨_, ho, rfl⟩, call_meets F.slot_tuple_mul ⟨_, ho, rfl⟩ F.entry_tuple_mul (F.args_tuple_mul_2 _ _) (tuple_mul0 l its.toArray n dd sl k t c0 c1 c2) ⟨ho, ?_⟩⟩)
    have e0 : (List.replicate k.toNat xs).flatten = [] := by
      have : k.toNat = 0 := by omega
      rw [this]
      rfl
    have q3 := q2 hk1
    rw [e0] at q3
    exact ⟨.ref s.heap.objs.size, _, I.laid (t' := s.toks) (o := .tup []) (fun b ob q => Heap.get?_push_of_some _ q) (Nat.le_refl _) ⟨Nat.zero_le _, [], .nil, IsTup.new _ _⟩, rfl, q3 _ (I.hok.fresh (Nat.le_refl _))⟩
end
/-- the tuple at a, each item in a new pair -/
def IteT (K : PySem.W.Frag) (a : Addr) : It :=
  ⟨fun i H => ∃ (xs : List V) (x : V), SqT K H a xs ∧ xs[i]? = some x, fun i H v H' => ∃ T x, v = .ref T ∧ H T = none ∧ H' = upd H T (.tup [.int (i : Nat), x]) ∧ ∀ xs, SqT K H a xs → xs[i]? = some x, fun i H => ∃ xs : List V, SqT K H a xs ∧ xs.length ≤ i⟩
/-- enumerate of a list or a tuple -/
def iEnumA (K : PySem.W.Frag) (ta : TA) : TI := fun σ H R => ta σ H fun vs H1 => ∃ a xs, vs = [.ref a] ∧ ((SqL K H1 a xs ∧ R (Ite K a) H1) ∨ (SqT K H1 a xs ∧ R (IteT K a) H1))
end TH

namespace TH
open PySem PySem.Spec PyProof.Rows L2
/-! ### the rules with the written part told (within comprehensions the context is bound) -/
section
variable {X : Cx} {K : PySem.W.Frag} {tg e o l a b : Expr} {es : List Expr} {te tl to ta tb : TE} {t : TA} {pos p cpos apos : Pos} {k : Nat}
theorem kpi_list (hl : PE X l tl) (hK : X.K = K := by rfl) : PI X tg l (iList K tl) := hK ▸ pi_list hl
theorem kpi_tup (hl : PE X l tl) (hK : X.K = K := by rfl) : PI X tg l (iTup K tl) := hK ▸ pi_tup hl
theorem kpi_zip {e2 : Expr} {elts : List Expr} {tpos : Pos} (hg : Gl X "zip") (hm : X.mg "zip" = none) (ha : PA X [e, e2] t)
    (hs : starEach [e, e2] X.env = (false, eval e X.env) :: starEach [e2] X.env := by rfl) (hpl : (backTo pos (starEach [e2] X.env)).any (·.1) = false := by rfl) (hK : X.K = K := by rfl) :
    PI X (.Tuple elts k tpos) (.Call (.Name "zip" p) [e, e2] [] pos) (RZ.iZipA K t) := hK ▸ RZ.pi_zipA hg hm ha hs hpl
theorem kpg_tup {es : List Expr} {t : TGs} {n : Nat} (hc : X.calm = true) (h : PGs X es t)
    (hn : (assignEach es X.env).length = n := by rfl) (hst : (assignEach es X.env).findIdx? (·.1) = none := by rfl) (hK : X.K = K := by rfl) : PG X (.Tuple es k pos) (gTup K n t) := hK ▸ pg_tup hc h hn hst
theorem kix_list (hK : X.K = K := by rfl) : IxR X (rIxL K) := hK ▸ ix_list
theorem kix_tup (hK : X.K = K := by rfl) : IxR X (rIxT K) := hK ▸ ix_tup
theorem ksl_list (hK : X.K = K := by rfl) : SlR X (rSlL K) := hK ▸ sl_list
theorem ksl_tup (hK : X.K = K := by rfl) : SlR X (rSlA K) := hK ▸ sl_tupA
theorem kcall_len (hK : X.K = K := by rfl) : CallR X (.builtin "len") (fun xs H Q => ∃ p ys, xs = [.ref p] ∧ (SqL K H p ys ∨ SqT K H p ys) ∧ Q (.int ys.length) H) := hK ▸ call_len_seq
theorem kcall_list (hK : X.K = K := by rfl) : CallR X (.type "list") (fun xs H Q => ∃ p ys, xs = [.ref p] ∧ (SqL K H p ys ∨ SqT K H p ys) ∧ ∀ l, H l = none → Q (.ref l) (upd H l (.lst ys))) := hK ▸ call_list_of
theorem kcall_tuple (hK : X.K = K := by rfl) : CallR X (.type "tuple") (fun xs H Q => ∃ p ys, xs = [.ref p] ∧ ((SqL K H p ys ∧ ∀ l, H l = none → Q (.ref l) (upd H l (.tup ys))) ∨ (SqT K H p ys ∧ Q (.ref p) H))) := hK ▸ call_tuple_of
theorem kcr_all (hc : X.calm = true) (hK : X.K = K := by rfl) : CallR X (.builtin "all") (rAll K) := hK ▸ cr_all hc
theorem kop_catA (hK : X.K = K := by rfl) : OpR X (binaryOp .Add) (rCatA K) := hK ▸ op_catA
theorem kop_repA (hK : X.K = K := by rfl) : OpR X (binaryOp .Mult) (rRepA K) := hK ▸ op_repA
theorem kop_eqD (hu : X.A.units + 64 < cLine) (hK : X.K = K := by rfl) : OpR X (compareOp .Eq) (rEqD K) := hK ▸ op_eqD hu
theorem kop_neD (hu : X.A.units + 64 < cLine) (hK : X.K = K := by rfl) : OpR X (compareOp .NotEq) (rNeD K) := hK ▸ op_neD hu
theorem kpe_fld {f : Str} (ha : PE X e ta) (hb : attributeBase e f X.env (eval e X.env) = eval e X.env) (hK : X.K = K := by rfl) : PE X (.Attribute e f pos) (tFld K ta f) := hK ▸ pe_fld ha hb
theorem kpe_bm {T id : String} {name : Str} {r : V → List V → Hp → VK → Prop} (pa : PlainAttrs T) (slot : Slot T name id) (hty : typeOf (.builtin id) = pure (.type "method_descriptor")) (hm : MtR X id r) (ho : PE X o to) (ha : PA X (e :: es) t)
    (hbase : attributeBase o name X.env (eval o X.env) = eval o X.env := by rfl)
    (hfew : ((backTo cpos (starEach (e :: es) X.env)).all (fun x => !x.1) && (backToKw cpos (keywordEach [] X.env)).all (fun x => x.1.isSome)
      && decide ((e :: es).length + ([] : List Keyword).length + (if ([] : List Keyword).isEmpty then 0 else 1) < 30)) = true := by rfl)
    (hline : (apos.endLine == cpos.line) = true := by rfl) (hs : starEach (e :: es) X.env = (false, eval e X.env) :: starEach es X.env := by rfl) (hplain : (backTo cpos (starEach es X.env)).any (·.1) = false := by rfl) (hK : X.K = K := by rfl) :
    PE X (.Call (.Attribute o name apos) (e :: es) [] cpos) (tBM K T r to t) := hK ▸ pe_bm pa slot hty hm ho ha hbase hfew hline hs hplain
end
end TH

namespace TH
open PySem PySem.Spec PyProof.Rows L2
abbrev D := PyData
/-- all that was tracked stands -/
def Ex (H H' : Hp) : Prop := ∀ a o, H a = some o → H' a = some o
theorem Ex.refl (H : Hp) : Ex H H := fun _ _ h => h
theorem Ex.trans {H H1 H2 : Hp} (a : Ex H H1) (b : Ex H1 H2) : Ex H H2 := fun x o h => b x o (a x o h)
theorem Ex.new {H : Hp} {p : Addr} {o : HO} (h : H p = none) : Ex H (upd H p o) := fun a u e => by
  rw [upd_ne (ne_of_none e h)]
  exact e
/-- an object that H does not know may change -/
theorem Ex.mut {H H' : Hp} {p : Addr} {o : HO} (e : Ex H H') (h : H p = none) : Ex H (upd H' p o) := fun a u ha => by
  rw [upd_ne (ne_of_none ha h)]
  exact e a u ha
theorem Ex.rd {H H' : Hp} {a : Addr} {u : HO} (e : Ex H H') (h : Rd H a u) : Rd H' a u := by
  rcases h with h | ⟨o, h⟩
  · exact Or.inl (e a _ h)
  · exact Or.inr ⟨o, e a _ h⟩
theorem Ex.l {K : PySem.W.Frag} {H H' : Hp} {a : Addr} {xs : List V} (e : Ex H H') (h : SqL K H a xs) : SqL K H' a xs := by
  rcases h with h | h
  · exact Or.inl (e.rd h)
  · exact Or.inr h
theorem Ex.t {K : PySem.W.Frag} {H H' : Hp} {a : Addr} {xs : List V} (e : Ex H H') (h : SqT K H a xs) : SqT K H' a xs := by
  rcases h with h | h
  · exact Or.inl (e.rd h)
  · exact Or.inr h
theorem sqL {K : PySem.W.Frag} {H : Hp} {a : Addr} {xs : List V} (h : H a = some (.lst xs)) : SqL K H a xs := Or.inl (Or.inl h)
theorem sqT {K : PySem.W.Frag} {H : Hp} {a : Addr} {xs : List V} (h : H a = some (.tup xs)) : SqT K H a xs := Or.inl (Or.inl h)
theorem Ex.fresh {H H' : Hp} {p : Addr} (e : Ex H H') (h : H' p = none) : H p = none := by
  cases h1 : H p with
  | none => rfl
  | some o =>
    rw [e p o h1] at h
    cases h
/-- the tuples stand (lists and dicts may change) -/
def Tx (H H' : Hp) : Prop := ∀ a xs, (H a = some (.tup xs) → H' a = some (.tup xs)) ∧ (∀ o, H a = some (.frz o (.tup xs)) → H' a = some (.frz o (.tup xs)))
theorem Ex.tx {H H' : Hp} (e : Ex H H') : Tx H H' := fun a xs => ⟨fun h => e a _ h, fun o h => e a _ h⟩
theorem Tx.refl (H : Hp) : Tx H H := (Ex.refl H).tx
theorem Tx.trans {H H1 H2 : Hp} (a : Tx H H1) (b : Tx H1 H2) : Tx H H2 := fun x xs => ⟨fun h => (b x xs).1 ((a x xs).1 h), fun o h => (b x xs).2 o ((a x xs).2 o h)⟩
/-- an object that is no tuple is written -/
theorem Tx.wr {H : Hp} {p : Addr} {o u : HO} (h : H p = some u) (hu : ∀ xs, u ≠ .tup xs) (hf : ∀ ob xs, u ≠ .frz ob (.tup xs)) : Tx H (upd H p o) := fun a xs =>
  ⟨fun e => by rw [upd_ne (fun z => by rw [z, h] at e; exact hu xs (Option.some.inj e))]; exact e,
   fun ob e => by rw [upd_ne (fun z => by rw [z, h] at e; exact hf ob xs (Option.some.inj e))]; exact e⟩
theorem Tx.updL {H : Hp} {p : Addr} {o : HO} {xs : List V} (h : H p = some (.lst xs)) : Tx H (upd H p o) := Tx.wr h (fun _ z => by cases z) fun _ _ z => by cases z
theorem Tx.new {H : Hp} {p : Addr} {o : HO} (h : H p = none) : Tx H (upd H p o) := (Ex.new h).tx
theorem Tx.t {K : PySem.W.Frag} {H H' : Hp} {a : Addr} {xs : List V} (e : Tx H H') (h : SqT K H a xs) : SqT K H' a xs := by
  rcases h with (h | ⟨o, h⟩) | h
  · exact Or.inl (Or.inl ((e a xs).1 h))
  · exact Or.inl (Or.inr ⟨o, (e a xs).2 o h⟩)
  · exact Or.inr h
section
variable {K : PySem.W.Frag} {H H' : Hp}
mutual
theorem dp_ex (e : Ex H H') : ∀ (d : D) (v : V), Dp K H v d → Dp K H' v d
  | .none, _, h => by cases h; exact .non
  | .bool b, _, h => by cases h; exact .bl b
  | .int i, _, h => by cases h; exact .int i
  | .str x, _, h => by cases h; exact .str x
  | .list ds, _, h => by
    cases h with
    | lst hs ha => exact .lst (e.l hs) (dpa_ex e ds _ ha)
  | .tuple ds, _, h => by
    cases h with
    | tup hs ha => exact .tup (e.t hs) (dpa_ex e ds _ ha)
  | .dict _, _, h => by cases h
theorem dpa_ex (e : Ex H H') : ∀ (ds : List D) (vs : List V), DpAll K H vs ds → DpAll K H' vs ds
  | [], _, h => by cases h; exact .nil
  | d :: ds, _, h => by
    cases h with
    | cons h1 h2 => exact .cons (dp_ex e d _ h1) (dpa_ex e ds _ h2)
end
theorem Ex.dp {d : D} {v : V} (e : Ex H H') (h : Dp K H v d) : Dp K H' v d := dp_ex e d v h
theorem Ex.dpa {ds : List D} {vs : List V} (e : Ex H H') (h : DpAll K H vs ds) : DpAll K H' vs ds := dpa_ex e ds vs h
/-! no list within -/
mutual
def imm : D → Bool
  | .list _ => false
  | .tuple ds => immAll ds
  | .dict _ => false
  | _ => true
def immAll : List D → Bool
  | [] => true
  | d :: ds => imm d && immAll ds
end
mutual
theorem dp_tx (e : Tx H H') : ∀ (d : D) (v : V), imm d = true → Dp K H v d → Dp K H' v d
  | .none, _, _, h => by cases h; exact .non
  | .bool b, _, _, h => by cases h; exact .bl b
  | .int i, _, _, h => by cases h; exact .int i
  | .str x, _, _, h => by cases h; exact .str x
  | .list ds, _, i, h => by simp [imm] at i
  | .tuple ds, _, i, h => by
    cases h with
    | tup hs ha => exact .tup (e.t hs) (dpa_tx e ds _ (by simpa [imm] using i) ha)
  | .dict _, _, _, h => by cases h
theorem dpa_tx (e : Tx H H') : ∀ (ds : List D) (vs : List V), immAll ds = true → DpAll K H vs ds → DpAll K H' vs ds
  | [], _, _, h => by cases h; exact .nil
  | d :: ds, _, i, h => by
    have i' : imm d = true ∧ immAll ds = true := by simpa [immAll] using i
    cases h with
    | cons h1 h2 => exact .cons (dp_tx e d _ i'.1 h1) (dpa_tx e ds _ i'.2 h2)
end
theorem Tx.dp {d : D} {v : V} (e : Tx H H') (i : imm d = true) (h : Dp K H v d) : Dp K H' v d := dp_tx e d v i h
theorem Tx.dpa {ds : List D} {vs : List V} (e : Tx H H') (i : immAll ds = true) (h : DpAll K H vs ds) : DpAll K H' vs ds := dpa_tx e ds vs i h
theorem immAll_iff : ∀ {ds : List D}, immAll ds = true ↔ ∀ d ∈ ds, imm d = true
  | [] => by simp [immAll]
  | d :: ds => by simp [immAll, immAll_iff]
theorem dpa_len : ∀ {vs : List V} {ds : List D}, DpAll K H vs ds → vs.length = ds.length
  | _, _, .nil => rfl
  | _, _, .cons _ t => by simp [dpa_len t]
theorem dpa_append : ∀ {vs ws : List V} {ds es : List D}, DpAll K H vs ds → DpAll K H ws es → DpAll K H (vs ++ ws) (ds ++ es)
  | _, _, _, _, .nil, s => s
  | _, _, _, _, .cons h t, s => .cons h (dpa_append t s)
theorem dpa_one {v : V} {d : D} (h : Dp K H v d) : DpAll K H [v] [d] := .cons h .nil
theorem dpa_snoc {vs : List V} {ds : List D} {v : V} {d : D} (t : DpAll K H vs ds) (h : Dp K H v d) : DpAll K H (vs ++ [v]) (ds ++ [d]) := dpa_append t (dpa_one h)
theorem dpa_ints_inv : ∀ {ns : List Int} {vs : List V}, DpAll K H vs (ns.map PyData.int) → vs = ns.map V.int
  | [], _, .nil => rfl
  | n :: ns, _, .cons h t => by
    cases h
    rw [dpa_ints_inv t]
    rfl
end
/-- a row of ints | rows -/
def row (ns : List Int) : D := .tuple (ns.map .int)
def rowsT (rs : List (List Int)) : D := .tuple (rs.map row)
section
variable {K : PySem.W.Frag} {H H' : Hp}
end
section
open PySem.W
variable {X : Cx} {K : PySem.W.Frag}
end
end TH

namespace TH
open PySem PySem.Spec PyProof.Rows L2
/-! ### the readings, one step each -/
section
variable {K : PySem.W.Frag} {σ σ' : L2.St} {H : Hp} {Q : VK} {QB : Bool → Hp → Prop} {QA : List V → Hp → Prop} {D : Ends} {ta tb tc te : TE} {t u : TT} {s1 s2 : TS} {r r' : R2} {v w : V} {i : Nat} {tr : TA} {g : TG}
theorem w_start {s : TS} (h : σ = σ') (k : s D σ' H) : s D σ H := h ▸ k
theorem w_var (h : σ[i]? = some (some v)) (k : Q v H) : tVar i σ H Q := ⟨v, h, k⟩
theorem w_c (k : Q v H) : tC v σ H Q := k
theorem w_op (k : ta σ H fun x H1 => tb σ H1 fun y H2 => r x y H2 Q) : tOp r ta tb σ H Q := k
theorem w_un {r : V → Hp → VK → Prop} (k : ta σ H fun x H1 => r x H1 Q) : tUn r ta σ H Q := k
theorem w_chain (k : ta σ H fun x H1 => tb σ H1 fun y H2 => r x y H2 fun z H3 => ∃ k, z = .bl k ∧ (if k = true then tc σ H3 fun w' H4 => r' y w' H4 Q else Q (.bl false) H3)) : tChain r r' ta tb tc σ H Q := k
theorem w_I0 {f : Int → Int → V} {a b : Int} (k : Q (f a b) H) : rI0 f (.int a) (.int b) H Q := ⟨a, b, rfl, rfl, k⟩
theorem w_I {C : Int → Int → Prop} {f : Int → Int → V} {a b : Int} (hc : C a b) (k : Q (f a b) H) : rI C f (.int a) (.int b) H Q := ⟨a, b, rfl, rfl, hc, k⟩
theorem w_U {f : Int → V} {a : Int} (k : Q (f a) H) : rU f (.int a) H Q := ⟨a, rfl, k⟩
theorem w_eqI {a b : Int} (k : Q (.bl (decide (a = b))) H) : rEq (.int a) (.int b) H Q := ⟨rfl, by
  have e : decide (V.int a = V.int b) = decide (a = b) := by
    by_cases h : a = b
    · subst h; simp
    · rw [decide_eq_false h, decide_eq_false (fun z => h (V.int.inj z))]
  rw [e]; exact k⟩
theorem w_neI {a b : Int} (k : Q (.bl (!decide (a = b))) H) : rNe (.int a) (.int b) H Q := ⟨rfl, by
  have e : decide (V.int a = V.int b) = decide (a = b) := by
    by_cases h : a = b
    · subst h; simp
    · rw [decide_eq_false h, decide_eq_false (fun z => h (V.int.inj z))]
  rw [e]; exact k⟩
theorem w_eqB {a b : Bool} (k : Q (.bl (decide (a = b))) H) : rEq (.bl a) (.bl b) H Q := ⟨rfl, by
  have e : decide (V.bl a = V.bl b) = decide (a = b) := by cases a <;> cases b <;> rfl
  rw [e]; exact k⟩
theorem w_isN {R : Prop} (k : R) : V.non = V.non ∧ R := ⟨rfl, k⟩
theorem w_nil (k : QA [] H) : tNil σ H QA := k
theorem w_cons (k : ta σ H fun x H1 => tr σ H1 fun xs H2 => QA (x :: xs) H2) : tCons ta tr σ H QA := k
theorem w_test (k : te σ H fun x H' => ∃ k, x = .bl k ∧ QB k H') : tTest te σ H QB := k
theorem w_B (k : te σ H fun x H' => ∃ k, x = .bl k ∧ QB k H') : tB te σ H QB := k
theorem w_bl {b : Bool} {R : Bool → Prop} (k : R b) : ∃ k, V.bl b = .bl k ∧ R k := ⟨b, rfl, k⟩
theorem w_and (k : t σ H fun c H1 => if c = true then u σ H1 QB else QB false H1) : tAnd t u σ H QB := k
theorem w_or (k : t σ H fun c H1 => if c = true then QB true H1 else u σ H1 QB) : tOr t u σ H QB := k
theorem w_not (k : t σ H fun c H1 => QB (!c) H1) : tNot t σ H QB := k
theorem w_andV (k : ta σ H fun x H1 => ∃ c, x = .bl c ∧ if c = true then tb σ H1 Q else Q (.bl false) H1) : tAndV ta tb σ H Q := k
theorem w_orV (k : ta σ H fun x H1 => ∃ c, x = .bl c ∧ if c = true then Q (.bl true) H1 else tb σ H1 Q) : tOrV ta tb σ H Q := k
theorem w_notV (k : ta σ H fun x H1 => ∃ c, x = .bl c ∧ Q (.bl (!c)) H1) : tNotV ta σ H Q := k
theorem w_if (k : t σ H fun c H1 => if c = true then ta σ H1 Q else tb σ H1 Q) : tIf t ta tb σ H Q := k
theorem w_seq (k : s1 { D with nx := s2 D } σ H) : tSeq s1 s2 D σ H := k
theorem w_asg (k : te σ H fun x H1 => g x σ H1 D.nx) : tAsg te g D σ H := k
theorem w_gname {QS : L2.St → Hp → Prop} (h : σ.set i (some v) = σ') (k : QS σ' H) : gName i v σ H QS := by
  show QS (σ.set i (some v)) H
  rw [h]
  exact k
theorem w_par {v w : V} {R : V → V → Prop} (k : R v w) : ∃ v' w', [v, w] = [v', w'] ∧ R v' w' := ⟨v, w, rfl, k⟩
theorem w_parT {i j : Nat} (k : tr σ H fun vs H1 => ∃ v w, vs = [v, w] ∧ D.nx ((σ.set i (some v)).set j (some w)) H1) : tPar i j tr D σ H := k
theorem w_ret (k : te σ H D.rt) : tRet te D σ H := k
theorem w_drop (k : te σ H fun _ H1 => D.nx σ H1) : tDrop te D σ H := k
theorem w_ifS (k : t σ H fun b H1 => if b = true then s1 D σ H1 else s2 D σ H1) : tIfS t s1 s2 D σ H := k
theorem w_next (k : D.nx σ H) : tNext D σ H := k
theorem w_cb {r : List V → Hp → VK → Prop} (k : tr σ H fun vs H1 => r vs H1 Q) : tCB r tr σ H Q := k
theorem w_call {sp : Sp} {dvs : List V} {E : XK} (k : tr σ H fun vs H1 => sp (vs ++ dvs) H1 Q E) : tCall sp dvs E tr σ H Q := k
theorem w_aug {ti : TIp} (h : σ[i]? = some (some v)) (k : te σ H fun y H1 => ti v y H1 fun z H2 => D.nx (σ.set i (some z)) H2) : tAug i te ti D σ H := ⟨v, h, k⟩
theorem w_ip {f : Int → Int → Int} {a b : Int} (k : Q (.int (f a b)) H) : ipI f (.int a) (.int b) H Q := ⟨a, b, rfl, rfl, k⟩
theorem w_bm {T : String} {rm : V → List V → Hp → VK → Prop} (k : ta σ H fun x H1 => tyV K T x H1 ∧ tr σ H1 fun xs H2 => rm x xs H2 Q) : tBM K T rm ta tr σ H Q := k
theorem w_sl {rs : V → Option Int → Option Int → Hp → VK → Prop} {tl th : TO} (k : te σ H fun x H1 => tl σ H1 fun l H2 => th σ H2 fun u H3 => rs x l u H3 Q) : tSl rs te tl th σ H Q := k
theorem w_np {QO : Option Int → Hp → Prop} (k : QO none H) : tNoPart σ H QO := k
theorem w_pt {QO : Option Int → Hp → Prop} (k : te σ H fun x H1 => ∃ i, x = .int i ∧ QO (some i) H1) : tPart te σ H QO := k
theorem w_pti {R : Int → Prop} {a : Int} (k : R a) : ∃ i, V.int a = .int i ∧ R i := ⟨a, rfl, k⟩
theorem w_gsub {to ti : TE} {ts : TSet} {QS : L2.St → Hp → Prop} (k : to σ H fun o H1 => ti σ H1 fun i H2 => ts o i v H2 fun H3 => QS σ H3) : gSub to ti ts v σ H QS := k
theorem w_ixL {p : Addr} {xs : List V} {j : Int} (hs : SqL K H p xs) (ha : atI xs j = some v) (k : Q v H) : rIxL K (.ref p) (.int j) H Q := ⟨p, xs, j, v, rfl, rfl, hs, ha, k⟩
theorem w_int {a : Int} {R : Int → Prop} {S : Bool → Prop} (k : R a) : (∃ i, [V.int a] = [V.int i] ∧ R i) ∨ ∃ k : Bool, [V.int a] = [V.bl k] ∧ S k := .inl ⟨a, rfl, k⟩
theorem w_dec {p : Prop} [Decidable p] {A B : Prop} (h1 : p → A) (h2 : ¬ p → B) : if decide p = true then A else B := by
  by_cases h : p
  · rw [decide_eq_true h, if_pos rfl]; exact h1 h
  · rw [decide_eq_false h, if_neg Bool.false_ne_true]; exact h2 h
theorem w_T {A B : Prop} (h : A) : if true = true then A else B := by rw [if_pos rfl]; exact h
theorem w_F {A B : Prop} (h : B) : if false = true then A else B := by rw [if_neg Bool.false_ne_true]; exact h
end
section
variable {K : PySem.W.Frag} {H : Hp} {Q : VK} {v : V} {d : D}
def isInt : D → Bool
  | .int _ => true
  | _ => false
def isBool : D → Bool
  | .bool _ => true
  | _ => false
def isTup : D → Bool
  | .tuple _ => true
  | _ => false
def isLst : D → Bool
  | .list _ => true
  | _ => false
theorem kit2 {t a b : String} {x y : Bool} (h1 : kitB t a = some x) (h2 : kitB t b = some y) : PySem.W.kitAny K (.type t) [.type a, .type b] = some (x || y) := by
  refine kitAny_cons (kit_ty h1) (fun e => ?_) (fun e => by rw [e]; rfl)
  rw [e, Bool.false_or]
  exact kitAny_cons (kit_ty h2) (fun e2 => by rw [e2]; rfl) (fun e2 => e2)
end
theorem bo_f (b : Bool) : (false || b) = b := rfl
theorem bo_t (b : Bool) : (true || b) = true := rfl
theorem ba_f (b : Bool) : (false && b) = false := rfl
theorem ba_t (b : Bool) : (true && b) = b := rfl
theorem bn_t : (!true) = false := rfl
theorem bn_f : (!false) = true := rfl
theorem small2 {n : Nat} (h : n ≤ 1000000 := by decide) : n ≤ sizeLine := Nat.le_trans h (by rw [sizeLine_eq]; decide)
section
variable {K : PySem.W.Frag} {σ : L2.St} {H : Hp} {Q : VK} {tr : TA}
theorem w_dispT {vs : List V} {H1 : Hp} {R : Addr → Prop} (hl : vs.length ≤ 1000000) (k : ∀ p, H1 p = none → R p) : vs.length ≤ sizeLine ∧ ∀ p, H1 p = none → R p := ⟨small2 hl, k⟩
theorem w_tupT (k : tr σ H fun xs H1 => xs.length ≤ sizeLine ∧ ∀ p, H1 p = none → Q (.ref p) (upd H1 p (.tup xs))) : tTup tr σ H Q := k
theorem w_lstT (k : tr σ H fun xs H1 => xs.length ≤ sizeLine ∧ ∀ p, H1 p = none → Q (.ref p) (upd H1 p (.lst xs))) : tLst tr σ H Q := k
end
end TH

namespace TH
open PySem PySem.Spec PyProof.Rows L2
section
variable {K : PySem.W.Frag} {a b : Addr} {xs ys : List V}
end
section
variable {J : It} {n : Nat} {G : Hp → Prop} {Y : Nat → Hp → V → Hp → Prop} {K : PySem.W.Frag} {g : TG} {tt : TT} {te : TE} {vs : List Nat} {σ : L2.St} {H H1 : Hp} {Dl : Addr} {Q : VK} {wi : TI}
theorem w_lc (k : wi σ H fun J H1 => ∀ D, H1 D = none → ∃ W : Nat → Nat → Hp → Prop, (∃ m, W 0 m (upd H1 D (.lst []))) ∧ ∀ i m H, W i m H →
      (J.stop i H ∧ Q (.ref D) H) ∨ (J.go i H ∧ ∃ Nx : Hp → Prop, (∀ H', Nx H' → ∃ m', m' < m ∧ W (i + 1) m' H') ∧ ∀ x H', J.yld i H x H' → g x (wipe σ vs) H' fun σ2 H2 => wipe σ2 vs = wipe σ vs ∧ tt σ2 H2 fun b H3 =>
        if b = true then te σ2 H3 fun y H4 => ∃ acc, H4 D = some (.lst acc) ∧ acc.length < sizeLine ∧ Nx (upd H4 D (.lst (acc ++ [y]))) else Nx H3)) : tLc wi g tt te vs σ H Q := k
/-- the data of the turns that are kept -/
def made (n : Nat) (keep : Nat → Bool) (gd : Nat → D) : List D := ((List.range n).filter keep).map gd
theorem made_yes {n : Nat} {f : Nat → Bool} {v : Nat → D} (h : f n = true) : made (n + 1) f v = made n f v ++ [v n] := by
  unfold made
  rw [List.range_succ, List.filter_append, List.map_append, List.filter_cons, if_pos h] <;> rfl
theorem made_no {n : Nat} {f : Nat → Bool} {v : Nat → D} (h : f n = false) : made (n + 1) f v = made n f v := by
  unfold made
  rw [List.range_succ, List.filter_append, List.map_append, List.filter_cons, if_neg (by rw [h]; decide)]
  show _ ++ [] = _
  rw [List.append_nil]
theorem made_len (n : Nat) (f : Nat → Bool) (v : Nat → D) : (made n f v).length ≤ n := by
  unfold made
  rw [List.length_map]
  have h := List.length_filter_le f (List.range n)
  rw [List.length_range] at h
  exact h
theorem made_all (n : Nat) (v : Nat → D) : made n (fun _ => true) v = (List.range n).map v := by
  unfold made
  rw [List.filter_eq_self.mpr (fun _ _ => rfl)]
theorem made_imm {n : Nat} {f : Nat → Bool} {v : Nat → D} (h : ∀ i, imm (v i) = true) : immAll (made n f v) = true := by
  rw [immAll_iff]
  intro d hd
  obtain ⟨i, _, rfl⟩ := List.mem_map.mp hd
  exact h i
theorem lc_it' {σ0 : L2.St} {C : L2.St → Prop} {Qd : Hp → Prop} (w : Walk J n G Y) (Pv : Nat → Hp → Prop) (h0 : Pv 0 (upd H1 Dl (.lst []))) (hG : ∀ i H, i ≤ n → Pv i H → G H)
    (hs : ∀ i x H H', i < n → Pv i H → Y i H x H' → g x σ0 H' fun σ2 H2 => C σ2 ∧ tt σ2 H2 fun b H3 =>
      if b = true then te σ2 H3 fun y H4 => ∃ acc, H4 Dl = some (.lst acc) ∧ acc.length < sizeLine ∧ Pv (i + 1) (upd H4 Dl (.lst (acc ++ [y]))) else Pv (i + 1) H3) (hd : ∀ H, Pv n H → Qd H) :
    ∃ W : Nat → Nat → Hp → Prop, (∃ m, W 0 m (upd H1 Dl (.lst []))) ∧ ∀ i m H, W i m H →
      (J.stop i H ∧ Qd H) ∨ (J.go i H ∧ ∃ Nx : Hp → Prop, (∀ H', Nx H' → ∃ m', m' < m ∧ W (i + 1) m' H') ∧ ∀ x H', J.yld i H x H' → g x σ0 H' fun σ2 H2 => C σ2 ∧ tt σ2 H2 fun b H3 =>
        if b = true then te σ2 H3 fun y H4 => ∃ acc, H4 Dl = some (.lst acc) ∧ acc.length < sizeLine ∧ Nx (upd H4 Dl (.lst (acc ++ [y]))) else Nx H3) := by
  refine ⟨fun i m H => m = n - i ∧ i ≤ n ∧ Pv i H, ⟨n, by simp, Nat.zero_le _, h0⟩, ?_⟩
  rintro i m H ⟨rfl, hi, p⟩
  have q := hG i H hi p
  by_cases hlt : i < n
  · refine .inr ⟨w.goes i H hlt q, Pv (i + 1), fun H' p' => ⟨n - (i + 1), by omega, rfl, hlt, p'⟩, fun x H' y => hs i x H H' hlt p (w.yields i H x H' hlt q y)⟩
  · have e : i = n := by omega
    subst e
    exact .inl ⟨w.stops H q, hd H p⟩
/-- what a comprehension makes, whose turns keep all that was tracked -/
theorem lc_data {σ0 : L2.St} {C : L2.St → Prop} {Qd : Hp → Prop} (w : Walk J n G Y) (keep : Nat → Bool) (gd : Nat → D) (himm : ∀ i, imm (gd i) = true) (hG : ∀ H', Ex H1 H' → G H') (hD : H1 Dl = none) (hn : n ≤ 1000000)
    (hs : ∀ i x H' H'', i < n → Ex H1 H' → Y i H' x H'' → ∀ (R : VK) (R0 : Hp → Prop), (keep i = true → ∀ v H3, Ex H' H3 → Dp K H3 v (gd i) → R v H3) → (keep i = false → ∀ H3, Ex H' H3 → R0 H3) →
      g x σ0 H'' fun σ2 H2 => C σ2 ∧ tt σ2 H2 fun b H3 => if b = true then te σ2 H3 R else R0 H3)
    (k : ∀ H' ws, Ex H1 H' → H' Dl = some (.lst ws) → DpAll K H' ws (made n keep gd) → Qd H') :
    ∃ W : Nat → Nat → Hp → Prop, (∃ m, W 0 m (upd H1 Dl (.lst []))) ∧ ∀ i m H, W i m H →
      (J.stop i H ∧ Qd H) ∨ (J.go i H ∧ ∃ Nx : Hp → Prop, (∀ H', Nx H' → ∃ m', m' < m ∧ W (i + 1) m' H') ∧ ∀ x H', J.yld i H x H' → g x σ0 H' fun σ2 H2 => C σ2 ∧ tt σ2 H2 fun b H3 =>
        if b = true then te σ2 H3 fun y H4 => ∃ acc, H4 Dl = some (.lst acc) ∧ acc.length < sizeLine ∧ Nx (upd H4 Dl (.lst (acc ++ [y]))) else Nx H3) := by
  refine lc_it' w (fun i H' => Ex H1 H' ∧ ∃ ws, H' Dl = some (.lst ws) ∧ DpAll K H' ws (made i keep gd)) ⟨Ex.new hD, [], upd_same, .nil⟩ (fun i H' _ p => hG H' p.1) (fun i x H' H'' hi p y => ?_) (fun H' p => ?_)
  · obtain ⟨p1, ws, p2, p3⟩ := p
    refine hs i x H' H'' hi p1 y _ _ (fun hk v H3 e3 hv => ?_) (fun hk H3 e3 => ?_)
    · have q2 : H3 Dl = some (.lst ws) := e3 _ _ p2
      refine ⟨ws, q2, Nat.lt_of_le_of_lt (by rw [dpa_len p3]; exact made_len i keep gd) (Nat.lt_of_lt_of_le hi (small2 hn)), (p1.trans e3).mut hD, ws ++ [v], upd_same, ?_⟩
      rw [made_yes hk]
      exact dpa_snoc ((Tx.updL q2).dpa (made_imm himm) (e3.dpa p3)) ((Tx.updL q2).dp (himm i) hv)
    · refine ⟨p1.trans e3, ws, e3 _ _ p2, ?_⟩
      rw [made_no hk]
      exact e3.dpa p3
  · obtain ⟨p1, ws, p2, p3⟩ := p
    exact k H' ws p1 p2 p3
theorem w_gtup2 {a : Addr} {x y : V} {t : TGs} {QS : L2.St → Hp → Prop} (h : H a = some (.tup [x, y])) (k : t [x, y] σ H QS) : gTup K 2 t (.ref a) σ H QS := ⟨a, _, rfl, sqT h, rfl, k⟩
theorem w_gtup3 {a : Addr} {x y z : V} {t : TGs} {QS : L2.St → Hp → Prop} (h : H a = some (.tup [x, y, z])) (k : t [x, y, z] σ H QS) : gTup K 3 t (.ref a) σ H QS := ⟨a, _, rfl, sqT h, rfl, k⟩
theorem w_gcons {v : V} {r : List V} {t : TG} {u : TGs} {QS : L2.St → Hp → Prop} (k : t v σ H fun σ' H' => u r σ' H' QS) : gCons t u (v :: r) σ H QS := ⟨v, r, rfl, k⟩
theorem w_gnil {QS : L2.St → Hp → Prop} (k : QS σ H) : gNil [] σ H QS := ⟨rfl, k⟩
theorem w_yes {QB : Bool → Hp → Prop} (k : QB true H) : tYes σ H QB := k
theorem ix5 {n : Nat} (a b c d e : V) : ixN [a, b, c, d, e].length (n : Int) = if n < 5 then some n else none := by
  unfold ixN
  rw [if_pos (by omega)]
  show (if (n : Int) < ((5 : Nat) : Int) then some n else none) = _
  by_cases h : n < 5
  · rw [if_pos h, if_pos (by omega)]
  · rw [if_neg h, if_neg (by omega)]
theorem w_set1 {p : Addr} {a b c d e v : V} {QH : Hp → Prop} (h : H p = some (.lst [a, b, c, d, e])) (k : QH (upd H p (.lst [a, v, c, d, e]))) : rSetL (.ref p) (.int 1) v H QH := ⟨p, _, 1, 1, rfl, rfl, h, ix5 (n := 1) a b c d e, k⟩
theorem w_set2 {p : Addr} {a b c d e v : V} {QH : Hp → Prop} (h : H p = some (.lst [a, b, c, d, e])) (k : QH (upd H p (.lst [a, b, v, d, e]))) : rSetL (.ref p) (.int 2) v H QH := ⟨p, _, 2, 2, rfl, rfl, h, ix5 (n := 2) a b c d e, k⟩
theorem w_set3 {p : Addr} {a b c d e v : V} {QH : Hp → Prop} (h : H p = some (.lst [a, b, c, d, e])) (k : QH (upd H p (.lst [a, b, c, v, e]))) : rSetL (.ref p) (.int 3) v H QH := ⟨p, _, 3, 3, rfl, rfl, h, ix5 (n := 3) a b c d e, k⟩
theorem w_set4 {p : Addr} {a b c d e v : V} {QH : Hp → Prop} (h : H p = some (.lst [a, b, c, d, e])) (k : QH (upd H p (.lst [a, b, c, d, v]))) : rSetL (.ref p) (.int 4) v H QH := ⟨p, _, 4, 4, rfl, rfl, h, ix5 (n := 4) a b c d e, k⟩
end
section
variable {K : PySem.W.Frag} {σ : L2.St} {H : Hp} {tl : TE} {ta : TA} {R : It → Hp → Prop}
theorem w_itup (k : tl σ H fun x H1 => ∃ a, x = .ref a ∧ (∃ xs, SqT K H1 a xs) ∧ R (Itt K a) H1) : iTup K tl σ H R := k
theorem w_ilist (k : tl σ H fun x H1 => ∃ a, x = .ref a ∧ (∃ xs, SqL K H1 a xs) ∧ R (Itl K a) H1) : iList K tl σ H R := k
theorem w_ienum (k : ta σ H fun vs H1 => ∃ a xs, vs = [.ref a] ∧ ((SqL K H1 a xs ∧ R (Ite K a) H1) ∨ (SqT K H1 a xs ∧ R (IteT K a) H1))) : iEnumA K ta σ H R := k
theorem w_izip (k : ta σ H fun vs H1 => ∃ a b xs ys, vs = [.ref a, .ref b] ∧ ((SqL K H1 a xs ∧ SqL K H1 b ys ∧ R (Itz K a b) H1) ∨ (SqT K H1 a xs ∧ SqT K H1 b ys ∧ R (RZ.ItzT K a b) H1))) : RZ.iZipA K ta σ H R := k
theorem w_irng1 (k : ta σ H fun vs H1 => ∃ j : Int, vs = [.int j] ∧ -(2 ^ 62) ≤ j ∧ j < 2 ^ 62 ∧ R (Itr 0 j.toNat) H1) : iRng1 ta σ H R := k
theorem w_irng2 (k : ta σ H fun vs H1 => ∃ i j : Int, vs = [.int i, .int j] ∧ (-(2 ^ 62) ≤ i ∧ i < 2 ^ 62 ∧ -(2 ^ 62) ≤ j ∧ j < 2 ^ 62) ∧ R (Itr i (j - i).toNat) H1) : iRng2 ta σ H R := k
theorem w_for {g : TG} {tb : TS} {wi : TI} {D : Ends} (k : wi σ H fun J H1 => ∃ W : Nat → Nat → L2.St → Hp → Prop, (∃ m, W 0 m σ H1) ∧ ∀ i m σ H, W i m σ H →
      (J.stop i H ∧ D.nx σ H) ∨ (J.go i H ∧ ∃ N : L2.St → Hp → Prop, (∀ σ' H', N σ' H' → ∃ m', m' < m ∧ W (i + 1) m' σ' H') ∧ ∀ x H', J.yld i H x H' → g x σ H' fun σ2 H2 => tb { D with nx := N, ct := N, bk := D.nx } σ2 H2)) : tFor wi g tb D σ H := k
end
/-- items at places -/
theorem atI_at {xs : List V} {j : Nat} {v : V} (h : xs[j]? = some v) : atI xs (j : Int) = some v := by
  have hj : j < xs.length := (List.getElem?_eq_some_iff.mp h).1
  unfold atI ixN
  rw [if_pos (by omega), if_pos (by omega)]
  simpa using h
theorem atI_int {ns : List Int} {j : Nat} {x : Int} (h : ns[j]? = some x) : atI (ns.map V.int) (j : Int) = some (.int x) := atI_at (by rw [List.getElem?_map, h]; rfl)
theorem ints_at {ns : List Int} {i : Nat} {v : V} (h : (ns.map V.int)[i]? = some v) : ∃ x, ns[i]? = some x ∧ v = .int x := by
  rw [List.getElem?_map] at h
  cases e : ns[i]? with
  | none => rw [e] at h; cases h
  | some x => rw [e] at h; exact ⟨x, rfl, (Option.some.inj h).symm⟩
theorem CDiv.mk {i j : Int} (h1 : 0 < j) (h2 : j < 1073741824) : CDiv i j := ⟨h1, h2⟩
theorem CPow.mk {i j : Int} (h1 : 0 ≤ j) (h2 : j ≤ 1000000) (h3 : i.natAbs < 2 ^ 64) : CPow i j := ⟨h1, h2, h3⟩
theorem CMul.l {a b : Int} (h1 : -18446744073709551616 < a) (h2 : a < 18446744073709551616) : CMul a b := .inl ⟨h1, h2⟩
theorem CMul.r {a b : Int} (h1 : -18446744073709551616 < b) (h2 : b < 18446744073709551616) : CMul a b := .inr ⟨h1, h2⟩
section
variable {K : PySem.W.Frag} {H : Hp}
end
theorem range_map {α β : Type} (d : α) (f : α → β) : ∀ xs : List α, (List.range xs.length).map (fun i => f (xs.getD i d)) = xs.map f := fun xs => by
  apply List.ext_getElem
  · simp
  · intro i h1 h2
    have hi : i < xs.length := by simpa using h1
    simp [List.getD_eq_getElem?_getD, hi]
theorem getD_of {α : Type} {xs : List α} {i : Nat} {x d : α} (h : xs[i]? = some x) : xs.getD i d = x := by rw [List.getD_eq_getElem?_getD, h]; rfl
end TH

namespace TH
open PySem PySem.Spec PyProof.Rows L2
/-! ### a list whose items are told by a word alone -/
def LstP (h : Addr) (ψ : List V → Prop) : HO := .ext fun hp => ∃ xs : List V, ψ xs ∧ xs.length ≤ sizeLine ∧ ∃ (its : List Value) (n : Nat), Vals xs its ∧ hp.get? h = some { cls := .type "list", data := .seq its.toArray n }
section
variable {P : Program} {w : World} {H H' : Hp} {hp hp' : Heap} {h : Addr} {ψ : List V → Prop} {xs : List V} {fs ex : List Addr}
theorem lstP_ok (q : ψ xs) (o : ObjOk P w H hp h (.lst xs)) : ObjOk P w H' hp h (LstP h ψ) := by
  obtain ⟨z, its, n, r, e⟩ := o
  exact ⟨⟨xs, q, z, its, n, r, e⟩, ⟨_, e⟩, fun h1 h2 ⟨ys, q1, z1, its1, n1, r1, e1⟩ k => ⟨ys, q1, z1, its1, n1, r1, k _ e1⟩⟩
theorem lstP_of (o : ObjOk P w H hp h (LstP h ψ)) : ∃ xs, ψ xs ∧ ∀ H', ObjOk P w H' hp h (.lst xs) := by
  obtain ⟨⟨xs, q, z, its, n, r, e⟩, _⟩ := o
  exact ⟨xs, q, fun _ => ⟨z, its, n, r, e⟩⟩
/-- the heap told otherwise at h -/
theorem hok_re {o u : HO} (x : HOk P w H hp) (e : H h = some o) (ho : ∀ y, o ≠ .own y) (ht : ∀ ys, o ≠ .tup ys) (new : ObjOk P w (upd H h u) hp h u) : HOk P w (upd H h u) hp := fun b v q => by
  by_cases hb : b = h
  · subst hb
    rw [upd_same] at q
    cases q
    exact new
  · rw [upd_ne hb] at q
    refine (x b v q).stay (fun _ _ _ r => r) (fun c r => ?_) (fun c ys r => ?_)
    · rw [upd_ne (fun z => by rw [z, e] at r; exact ho _ (Option.some.inj r))]
      exact r
    · rw [upd_ne (fun z => by rw [z, e] at r; exact ht _ (Option.some.inj r))]
      exact r
theorem un_in {xs : List V} {u : HO} (e : H h = some (LstP h ψ)) (x : Un fs ex (upd H h (.lst xs)) H' hp hp') : Un fs ex H (upd H' h u) hp hp' where
  keep := fun b o q n hb hx => x.keep b o q (by rw [upd_ne (fun z => by rw [z, e] at n; cases n)]; exact n) hb hx
  slot := fun b o q n hb hx => x.slot b o q (by rw [upd_ne (fun z => by rw [z, e] at n; cases n)]; exact n) hb hx
  free := fun b o q n hx => by
    have hb : b ≠ h := fun z => by rw [z, e] at n; cases n
    rw [upd_ne hb]
    exact x.free b o q (by rw [upd_ne hb]; exact n) hx
  there := x.there
  tups := fun b ys q => by
    have hb : b ≠ h := fun z => by rw [z, e] at q; cases q
    rw [upd_ne hb]
    exact x.tups b ys (by rw [upd_ne hb]; exact q)
  frzs := fun b o v q => by
    have hb : b ≠ h := fun z => by rw [z, e] at q; cases q
    rw [upd_ne hb]
    exact x.frzs b o v (by rw [upd_ne hb]; exact q)
  tbls := fun b ps q => by
    have hb : b ≠ h := fun z => by rw [z, e] at q; cases q
    rw [upd_ne hb]
    exact x.tbls b ps (by rw [upd_ne hb]; exact q)
theorem un_out {xs : List V} {u : HO} (e : H' h = some (.lst xs)) (hn : H h = none) (x : Un fs [] H H' hp hp') : Un fs [] H (upd H' h u) hp hp' where
  keep := x.keep
  slot := x.slot
  free := fun b o q n hx => by
    have z := x.free b o q n hx
    rw [upd_ne (fun y => by rw [y, e] at z; cases z)]
    exact z
  there := x.there
  tups := fun b ys q => by
    rw [upd_ne (fun z => by rw [z, hn] at q; cases q)]
    exact x.tups b ys q
  frzs := fun b o v q => by
    rw [upd_ne (fun z => by rw [z, hn] at q; cases q)]
    exact x.frzs b o v q
  tbls := fun b ps q => by
    rw [upd_ne (fun z => by rw [z, hn] at q; cases q)]
    exact x.tbls b ps q
end
section
variable {P : Program} {w : World} {K : PySem.W.Frag} {mg : Str → Option Value} {base : Heap} {k : Nat} {f : Addr} {fd : FuncData} {ps : List Str} {sp sp' : Sp}
/-- a def that changes such a list, told from within -/
theorem fn_hide (F : FnOk P w K mg base C8.CX0 k f fd ps sp)
    (hs : ∀ vs H Q E, sp' vs H Q E → ∃ (h : Addr) (ψ : List V → Prop), H h = some (LstP h ψ) ∧ (∃ xs, ψ xs) ∧ ∀ xs, ψ xs → sp vs (upd H h (.lst xs)) (fun v H' => ∃ xs', ψ xs' ∧ H' h = some (.lst xs') ∧ Q v (upd H' h (LstP h ψ))) E) :
    FnOk P w K mg base C8.CX0 k f fd ps sp' := by
  refine ⟨fun vs H Q E q => ?_, fun A outer s H args us vs Q E hr e0 hb hv q => ?_⟩
  · obtain ⟨h, ψ, _, ⟨xs, hx⟩, g⟩ := hs vs H Q E q
    exact F.len _ _ _ _ (g xs hx)
  · obtain ⟨h, ψ, e, _, g⟩ := hs vs H Q E q
    obtain ⟨xs, hx, ob⟩ := lstP_of (e0.hok h _ e)
    have nh : ∀ b, H b = none → b ≠ h := fun b n z => by rw [z, e] at n; cases n
    have e1 : Env0 P w K mg base A outer s (upd H h (.lst xs)) := ⟨e0.frames, e0.mod, fun b o q => ⟨(e0.bs b o q).1, by rw [upd_ne (nh b (e0.bs b o q).2)]; exact (e0.bs b o q).2⟩, e0.bsz, e0.funs, fun b hb => by rw [upd_ne (nh b (e0.frf b hb))]; exact e0.frf b hb,
      hok_re e0.hok e (fun _ z => by cases z) (fun _ z => by cases z) (ob _), e0.bare⟩
    refine codeAny_mono (F.run A outer s _ args us vs _ E hr e1 hb hv (g xs hx)) fun r s' c => ?_
    cases r with
    | error e => exact c
    | ok fl =>
      cases fl with
      | next => exact c
      | brk => exact c
      | cont => exact c
      | ret u =>
        obtain ⟨v, H', os, bare, un, hok, rv, xs', hx', eh, qq⟩ := c
        exact ⟨v, _, os, bare, un_in e un, hok_re hok eh (fun _ z => by cases z) (fun _ z => by cases z) (lstP_ok hx' (hok h _ eh)), rv, qq⟩
/-- a def that hands back such a list -/
theorem fn_seal (F : FnOk P w K mg base C8.CX0 k f fd ps sp)
    (hs : ∀ vs H Q E, sp' vs H Q E → sp vs H (fun v H' => ∃ (h : Addr) (ψ : List V → Prop) (xs : List V), H h = none ∧ ψ xs ∧ H' h = some (.lst xs) ∧ Q v (upd H' h (LstP h ψ))) E) :
    FnOk P w K mg base C8.CX0 k f fd ps sp' := by
  refine ⟨fun vs H Q E q => F.len _ _ _ _ (hs vs H Q E q), fun A outer s H args us vs Q E hr e0 hb hv q => ?_⟩
  refine codeAny_mono (F.run A outer s _ args us vs _ E hr e0 hb hv (hs vs H Q E q)) fun r s' c => ?_
  cases r with
  | error e => exact c
  | ok fl =>
    cases fl with
    | next => exact c
    | brk => exact c
    | cont => exact c
    | ret u =>
      obtain ⟨v, H', os, bare, un, hok, rv, h, ψ, xs, hn, hx, eh, qq⟩ := c
      exact ⟨v, _, os, bare, un_out eh hn un, hok_re hok eh (fun _ z => by cases z) (fun _ z => by cases z) (lstP_ok hx (hok h _ eh)), rv, qq⟩
theorem cal_hide {x : Str} (F : C8.Cal P w K mg base k x sp [])
    (hs : ∀ vs H Q E, sp' vs H Q E → ∃ (h : Addr) (ψ : List V → Prop), H h = some (LstP h ψ) ∧ (∃ xs, ψ xs) ∧ ∀ xs, ψ xs → sp vs (upd H h (.lst xs)) (fun v H' => ∃ xs', ψ xs' ∧ H' h = some (.lst xs') ∧ Q v (upd H' h (LstP h ψ))) E) :
    C8.Cal P w K mg base k x sp' [] := by
  obtain ⟨f, fd, ps, ds, G, a, b, c, d⟩ := F.ex
  exact ⟨f, fd, ps, ds, fn_hide G hs, a, b, c, d⟩
theorem cal_seal {x : Str} (F : C8.Cal P w K mg base k x sp [])
    (hs : ∀ vs H Q E, sp' vs H Q E → sp vs H (fun v H' => ∃ (h : Addr) (ψ : List V → Prop) (xs : List V), H h = none ∧ ψ xs ∧ H' h = some (.lst xs) ∧ Q v (upd H' h (LstP h ψ))) E) :
    C8.Cal P w K mg base k x sp' [] := by
  obtain ⟨f, fd, ps, ds, G, a, b, c, d⟩ := F.ex
  exact ⟨f, fd, ps, ds, fn_seal G hs, a, b, c, d⟩
end
end TH

namespace TH
open PySem PySem.Spec PyProof.Rows L2
section
variable {K : PySem.W.Frag} {σ : L2.St} {H : Hp} {Q : VK} {l : Addr} {xs : List V} {tr : TA}
theorem tyL (h : H l = some (.lst xs)) : tyV K "list" (.ref l) H := .inl ⟨rfl, _, sqL h⟩
theorem w_parT3 {i j m : Nat} {D : Ends} (k : tr σ H fun vs H1 => ∃ u v w, vs = [u, v, w] ∧ D.nx (((σ.set i (some u)).set j (some v)).set m (some w)) H1) : tPar3 i j m tr D σ H := k
theorem w_par3 {u v w : V} {R : V → V → V → Prop} (k : R u v w) : ∃ u' v' w', [u, v, w] = [u', v', w'] ∧ R u' v' w' := ⟨u, v, w, rfl, k⟩
end
section
variable {J : It} {n : Nat} {G : Hp → Prop} {Y : Nat → Hp → V → Hp → Prop} {K : PySem.W.Frag} {g : TG} {te : TE} {H1 : Hp} {Dl : Addr}
end
theorem rep_one {α : Type} (x : α) : ∀ k : Nat, (List.replicate k [x]).flatten = List.replicate k x
  | 0 => rfl
  | k + 1 => by rw [List.replicate_succ, List.flatten_cons, rep_one x k]; rfl
end TH

namespace TH
open PySem PySem.Spec PyProof.Rows L2
section
open PySem.W
variable {prog : Program} {w : World} {A : Around} {s : Shared}
end
section
variable {X : Cx} {K : PySem.W.Frag}
end
end TH

namespace TH
open PySem PySem.Spec PyProof.Rows L2
/-! ### {k: v}, k a tuple -/
/-- the new dict stands empty while the pair is made -/
def tDispT1 (tk tv : TE) : TE := fun σ H Q => ∀ p, H p = none → tk σ (upd H p (.dT [])) fun x H1 => tv σ H1 fun y H2 => ∃ (b : Addr) (k : List Key), x = .ref b ∧ H2 p = some (.dT []) ∧ H2 b = some (.tup (k.map kV)) ∧ Q (.ref p) (upd H2 p (.dT [(k, y)]))
section
variable {X : Cx} {pos : Pos} {ke ve : Expr} {tk tv : TE}
end
/-! ### a promise told otherwise -/
section
variable {P : Program} {w : World} {K : PySem.W.Frag} {mg : Str → Option Value} {base : Heap} {k : Nat} {sp sp' : Sp} {x : Str} {C : Addr} {m : Str}
theorem fn_mono {f : Addr} {fd : FuncData} {ps : List Str} (F : FnOk P w K mg base C8.CX0 k f fd ps sp) (hs : ∀ vs H Q E, sp' vs H Q E → sp vs H Q E) : FnOk P w K mg base C8.CX0 k f fd ps sp' :=
  ⟨fun vs H Q E q => F.len _ _ _ _ (hs vs H Q E q), fun A outer s H args us vs Q E hr e0 hb hv q => F.run A outer s _ args us vs _ E hr e0 hb hv (hs vs H Q E q)⟩
theorem cal_mono {dvs : List V} (F : C8.Cal P w K mg base k x sp dvs) (hs : ∀ vs H Q E, sp' vs H Q E → sp vs H Q E) : C8.Cal P w K mg base k x sp' dvs := by
  obtain ⟨f, fd, ps, ds, G, a, b, c, d⟩ := F.ex
  exact ⟨f, fd, ps, ds, fn_mono G hs, a, b, c, d⟩
theorem met_mono {dvs : List V} (F : C8.Met P w K mg base k C m sp dvs) (hs : ∀ vs H Q E, sp' vs H Q E → sp vs H Q E) : C8.Met P w K mg base k C m sp' dvs := by
  obtain ⟨f, fd, ps, ds, c, me, G, b, d⟩ := F.ex
  exact ⟨f, fd, ps, ds, c, me, fn_mono G hs, b, d⟩
end
/-! ### name = {k: v for ..} on one line, the name a local -/
section
variable {X : Cx}
end
end TH

namespace TH
open PySem PySem.Spec PyProof.Rows L2
section
variable {K : PySem.W.Frag} {σ : L2.St} {H : Hp} {Q : VK} {D : Ends} {ta tb td ty tv tx tk te : TE} {tr : TA} {t : TS} {R : It → Hp → Prop}
theorem w_dput (k : tv σ H fun v H1 => td σ H1 fun x H2 => ty σ H2 fun y H3 => ∃ a H4, x = .ref a ∧ DPut H3 a y v H4 ∧ D.nx σ H4) : sDPut td ty tv D σ H := k
theorem w_lock (k : ∃ d u, H d = some u ∧ Mut (some u) ∧ ∀ od, t ⟨fun σ' H' => H' d = some (.frz od u) ∧ D.nx σ' (upd H' d u), fun v H' => H' d = some (.frz od u) ∧ D.rt v (upd H' d u), fun σ' H' => H' d = some (.frz od u) ∧ D.bk σ' (upd H' d u), fun σ' H' => H' d = some (.frz od u) ∧ D.ct σ' (upd H' d u)⟩ σ (upd H d (.frz od u))) : tLock t D σ H := k
theorem w_ikeys (k : td σ H fun x H1 => ∃ d o, x = .ref d ∧ ((∃ kvs, H1 d = some (.frz o (.dK kvs)) ∧ R (Itk d o kvs) H1) ∨ ∃ kvs, H1 d = some (.frz o (.dT kvs)) ∧ R (Itkt d o kvs) H1)) : iKeys td σ H R := k
theorem w_iitems (k : td σ H fun x H1 => ∃ d o kvs, x = .ref d ∧ H1 d = some (.frz o (.dK kvs)) ∧ R (Iti d o kvs) H1) : iItems td σ H R := k
theorem w_dispT1 (k : ∀ p, H p = none → tk σ (upd H p (.dT [])) fun x H1 => tv σ H1 fun y H2 => ∃ (b : Addr) (k : List Key), x = .ref b ∧ H2 p = some (.dT []) ∧ H2 b = some (.tup (k.map kV)) ∧ Q (.ref p) (upd H2 p (.dT [(k, y)]))) : tDispT1 tk tv σ H Q := k
theorem w_dnewT (k : ∀ p, H p = none → Q (.ref p) (upd H p (.dT []))) : tDNewT σ H Q := k
theorem w_dnewK (k : ∀ p, H p = none → Q (.ref p) (upd H p (.dK []))) : tDNewK σ H Q := k
theorem w_fld {f : Str} (k : ta σ H fun x H1 => ∃ a C dx fs v, x = .ref a ∧ H1 a = some (.ins C dx fs) ∧ Cls K C ∧ NoAttr K C f ∧ fs.lookup f = some v ∧ Q v H1) : tFld K ta f σ H Q := k
theorem w_sfld {f : Str} (k : tv σ H fun y H1 => ta σ H1 fun x H2 => ∃ a C dx fs, x = .ref a ∧ H2 a = some (.ins C dx fs) ∧ Cls K C ∧ NoAttr K C f ∧ fs.length < 1000 ∧ D.nx σ (upd H2 a (.ins C dx (putF f y fs)))) : sFld K ta tv f D σ H := k
theorem w_meth {C : Addr} {m : Str} {sp : Sp} {dvs : List V} {E : XK} (k : ta σ H fun x H1 => ∃ a dx fs, x = .ref a ∧ H1 a = some (.ins C dx fs) ∧ fs.lookup m = none ∧ tr σ H1 fun vs H2 => sp (x :: (vs ++ dvs)) H2 Q E) : tMeth C m sp dvs E ta tr σ H Q := k
theorem w_make {C : Addr} {sp : Sp} {dvs : List V} {E : XK} (k : tr σ H fun vs H1 => ∀ x dx, H1 x = none → H1 dx = none → dx ≠ x → sp (.ref x :: (vs ++ dvs)) (upd (upd H1 dx (.own x)) x (.ins C dx [])) (fun v H2 => v = .non ∧ Q (.ref x) H2) E) : tMake C sp dvs E tr σ H Q := k
theorem w_dget2 (k : td σ H fun x H1 => ∃ a, x = .ref a ∧ IsD H1 a ∧ ty σ H1 fun y H2 => tx σ H2 fun z H3 => ∃ o, DGet H3 a y o ∧ Q (o.getD z) H3) : tDGet2 td ty tx σ H Q := k
theorem w_revL (k : te σ H fun x H1 => ∃ a xs, x = .ref a ∧ SqL K H1 a xs ∧ ∀ p, H1 p = none → Q (.ref p) (upd H1 p (.lst xs.reverse))) : tRevL K te σ H Q := k
end
theorem hu64_of {A : Around} {k : Nat} (hr : Room k A) : A.units + 64 < cLine := hr.units
theorem Ex.both {H H' : Hp} {d : Addr} {u : HO} (e : Ex H H') : Ex (upd H d u) (upd H' d u) := fun a o h => by
  by_cases ha : a = d
  · subst ha
    rw [upd_same] at h ⊢
    exact h
  · rw [upd_ne ha] at h ⊢
    exact e a o h
end TH

namespace TH
open PySem PySem.Spec PyProof.Rows L2
section
variable {J : It} {n : Nat} {G : Hp → Prop} {Y : Nat → Hp → V → Hp → Prop} {g : TG} {tt : TT} {tk tv : TE} {vs : List Nat} {σ : L2.St} {H H1 : Hp} {Dl : Addr} {Q : VK} {wi : TI}
theorem w_dc (k : wi σ H fun J H1 => ∀ D, H1 D = none → ∃ W : Nat → Nat → Hp → Prop, (∃ m, W 0 m (upd H1 D (.dK []))) ∧ ∀ i m H, W i m H →
      (J.stop i H ∧ Q (.ref D) H) ∨ (J.go i H ∧ ∃ Nx : Hp → Prop, (∀ H', Nx H' → ∃ m', m' < m ∧ W (i + 1) m' H') ∧ ∀ x H', J.yld i H x H' → g x (wipe σ vs) H' fun σ2 H2 => wipe σ2 vs = wipe σ vs ∧ tt σ2 H2 fun b H3 =>
        if b = true then tk σ2 H3 fun y H4 => tv σ2 H4 fun z H5 => ∃ kvs k, y = kV k ∧ H5 D = some (.dK kvs) ∧ kvs.length < sizeLine ∧ Nx (upd H5 D (.dK (putK kvs k z))) else Nx H3)) : tDc wi g tt tk tv vs σ H Q := k
end
end TH

namespace TH
open PySem PySem.Spec PyProof.Rows L2
section
variable {K : PySem.W.Frag} {σ : L2.St} {H : Hp} {Q : VK} {td ty to : TE} {trs : List (TE × TE)} {rm : V → List V → Hp → VK → Prop} {T : String}
theorem w_din (k : ty σ H fun y H1 => td σ H1 fun x H2 => ∃ a o, x = .ref a ∧ DGet H2 a y o ∧ Q (.bl o.isSome) H2) : tDIn ty td σ H Q := k
theorem w_dnotin (k : ty σ H fun y H1 => td σ H1 fun x H2 => ∃ a o, x = .ref a ∧ DGet H2 a y o ∧ Q (.bl (!o.isSome)) H2) : tDNotIn ty td σ H Q := k
theorem w_dispK (k : ∀ p, H p = none → tPairs trs σ (upd H p (.dK [])) fun ps H2 => H2 p = some (.dK []) ∧ ∃ kvs : List (Key × V), ps = kvs.map (fun kv => (kV kv.1, kv.2)) ∧ kvs.length ≤ 15 ∧ Q (.ref p) (upd H2 p (.dK (mergeK [] kvs)))) : tDisp trs σ H Q := k
end
section
variable {K : PySem.W.Frag} {σ : L2.St} {H : Hp} {Q : VK} {to : TE} {rm : V → List V → Hp → VK → Prop} {T : String}
theorem w_bm0 (k : to σ H fun x H1 => tyV K T x H1 ∧ rm x [] H1 Q) : tBM0 K T rm to σ H Q := k
end
end TH

namespace TH
open PySem PySem.Spec PyProof.Rows L2
section
open PySem.W
variable {X : Cx} {K : PySem.W.Frag}
end
section
variable {X : Cx} {K : PySem.W.Frag}
end
/-! ### a tuple turned about -/
section
variable {prog : Program} {w : World} {A : Around} {E : Value → Shared → Prop} {s : Shared}
end
def tRevT (K : PySem.W.Frag) (te : TE) : TE := fun σ H Q => te σ H fun x H1 => ∃ a xs, x = .ref a ∧ SqT K H1 a xs ∧ ∀ p, H1 p = none → Q (.ref p) (upd H1 p (.tup xs.reverse))
theorem w_revT {K : PySem.W.Frag} {σ : L2.St} {H : Hp} {Q : VK} {te : TE} (k : te σ H fun x H1 => ∃ a xs, x = .ref a ∧ SqT K H1 a xs ∧ ∀ p, H1 p = none → Q (.ref p) (upd H1 p (.tup xs.reverse))) : tRevT K te σ H Q := k
/-! tuple(range(..)), list(range(..)) -/
section
variable {σ : L2.St} {H : Hp} {Q : VK} {ta tb : TE} {te : L2.St → Hp → (Int → Int → Hp → Prop) → Prop} {QR : Int → Int → Hp → Prop}
theorem w_lstRg (k : te σ H fun a b H1 => RgOk a b ∧ ∀ q, H1 q = none → Q (.ref q) (upd H1 q (.lst (rgV a b)))) : tLstRg te σ H Q := k
theorem w_tupRg (k : te σ H fun a b H1 => RgOk a b ∧ ∀ q, H1 q = none → Q (.ref q) (upd H1 q (.tup (rgV a b)))) : tTupRg te σ H Q := k
theorem w_rg1 (k : ta σ H fun x H1 => ∃ n, x = .int n ∧ QR 0 n H1) : tRg1 ta σ H QR := k
theorem w_rg2 (k : ta σ H fun x H1 => tb σ H1 fun y H2 => ∃ i j, x = .int i ∧ y = .int j ∧ QR i j H2) : tRg2 ta tb σ H QR := k
end
/-! sum(a tuple of numbers) -/
def rSumT (K : PySem.W.Frag) : List V → Hp → VK → Prop := fun vs H Q => ∃ (a : Addr) (ns : List Int), vs = [V.ref a] ∧ SqT K H a (ns.map V.int) ∧ Q (.int ns.sum) H
theorem kcr_sumT {X : Cx} {K : PySem.W.Frag} (hc : X.calm = true) (hK : X.K = K := by rfl) : CallR X (.builtin "sum") (rSumT K) := by
  subst hK
  intro pins s σ H vs us Q I r h
  obtain ⟨a, ns, rfl, hs, q⟩ := h
  obtain ⟨its, rv, hl, _⟩ := I.tuple hs
  rw [Vals.ref1 r]
  obtain ⟨xs, e⟩ := rv.ints.allInts.items
  have hn : numsOf (intItems xs).toList = ns := by rw [← e]; exact rv.ints.numsOf
  rw [nums_intItems] at hn
  have hl' : s.heap.IsTuple a its.toArray := hl
  rw [e] at hl'
  refine PySem.W.ktm_sumG (I.ok.hd hc) hl' fun h' tk t' hk => ?_
  rw [preSum_eq, List.take_of_length_le (by simp), hn]
  exact ⟨.int _, H, I.kept hk, ⟨_, rfl⟩, q⟩
end TH

namespace TH
open PySem PySem.Spec PyProof.Rows L2
end TH

namespace TH
open PySem PySem.Spec PyProof.Rows L2
/-- at most so many bits -/
def Bits (x : Int) (k : Nat) : Prop := x.natAbs ≤ 2 ^ k
theorem Bits.mul {x y : Int} {a b : Nat} (h : Bits x a) (g : Bits y b) : Bits (x * y) (a + b) := by
  unfold Bits at *
  rw [Int.natAbs_mul, Nat.pow_add]
  exact Nat.mul_le_mul h g
theorem Bits.sub {x y : Int} {a : Nat} (h : Bits x a) (g : Bits y a) : Bits (x - y) (a + 1) := by
  unfold Bits at *
  have e : 2 ^ (a + 1) = 2 ^ a + 2 ^ a := by rw [Nat.pow_succ]; omega
  omega
theorem Bits.mono {x : Int} {a b : Nat} (h : Bits x a) (hab : a ≤ b) : Bits x b := Nat.le_trans h (Nat.pow_le_pow_right (by decide) hab)
end TH

namespace TH
open PySem PySem.Spec PyProof.Rows L2
section
variable {X : Cx} {K : PySem.W.Frag}
end
end TH

namespace TH
open PySem PySem.Spec PyProof.Rows L2
/-! ### a comprehension whose items are told by what the tuples say -/
section
variable {J : It} {n : Nat} {G : Hp → Prop} {Y : Nat → Hp → V → Hp → Prop} {K : PySem.W.Frag} {g : TG} {te : TE} {H1 : Hp} {Dl : Addr}
end
section
open PySem.W
variable {X : Cx} {K : PySem.W.Frag}
end
end TH

namespace TH
open PySem PySem.Spec PyProof.Rows L2
section
variable {X : Cx} {K : PySem.W.Frag} {tg l : Expr} {tl : TE} {σ : L2.St} {H : Hp} {R : It → Hp → Prop}
end
end TH

namespace TH
open PySem PySem.Spec PyProof.Rows L2
theorem five {P : Addr → Prop} {z TI TO i1 i2 : Addr} (h0 : P z) (h1 : P TI) (h2 : P TO) (h3 : P i1) (h4 : P i2) : ∀ c ∈ [z, TI, TO, i1, i2], P c := fun c hc => by
  have e' : c = z ∨ c = TI ∨ c = TO ∨ c = i1 ∨ c = i2 := by simpa using hc
  rcases e' with q | q | q | q | q <;> (rw [q]; assumption)
section
variable {K : PySem.W.Frag} {ta : TA} {σ : L2.St} {H : Hp} {R : It → Hp → Prop}
end
section
variable {K : PySem.W.Frag} {a b : Addr} {xs ys : List V}
end
end TH

namespace TH
open PySem PySem.Spec PyProof.Rows L2
/-! ### lists of lists of numbers -/
variable {K : PySem.W.Frag}
section
variable {J : It} {n : Nat} {G : Hp → Prop} {Y : Nat → Hp → V → Hp → Prop} {g : TG} {tt : TT} {te : TE} {H1 : Hp} {Dl : Addr}
end
end TH

namespace TH
open PySem PySem.Spec PyProof.Rows L2
/-! ### a comprehension with two for -/
section
variable {J : It} {n : Nat} {G : Hp → Prop} {Y : Nat → Hp → V → Hp → Prop} {K : PySem.W.Frag} {wi wi1 : TI} {g g1 : TG} {tt tt1 : TT} {te : TE} {H H1 : Hp} {Dl : Addr} {σ : L2.St} {Q : VK} {vs vs1 : List Nat}
/-- what is left to show within the inner walk of turn i -/
def In2 (J1 : It) (Dl : Addr) (g1 : TG) (tt1 : TT) (te : TE) (vs1 : List Nat) (σ2 : L2.St) (Nx : Hp → Prop) (H4 : Hp) : Prop := ∃ W1 : Nat → Nat → Hp → Prop, (∃ m, W1 0 m H4) ∧ ∀ j k H, W1 j k H →
      (J1.stop j H ∧ Nx H) ∨ (J1.go j H ∧ ∃ Nx1 : Hp → Prop, (∀ H', Nx1 H' → ∃ k', k' < k ∧ W1 (j + 1) k' H') ∧ ∀ x H', J1.yld j H x H' → g1 x (wipe σ2 vs1) H' fun σ3 H5 => wipe σ3 vs1 = wipe σ2 vs1 ∧ tt1 σ3 H5 fun b H6 =>
        if b = true then te σ3 H6 fun y H7 => ∃ acc, H7 Dl = some (.lst acc) ∧ acc.length < sizeLine ∧ Nx1 (upd H7 Dl (.lst (acc ++ [y]))) else Nx1 H6)
theorem w_lc2 (k : wi σ H fun J H1 => ∀ D, H1 D = none → ∃ W : Nat → Nat → Hp → Prop, (∃ m, W 0 m (upd H1 D (.lst []))) ∧ ∀ i m H, W i m H →
  (J.stop i H ∧ Q (.ref D) H) ∨ (J.go i H ∧ ∃ Nx : Hp → Prop, (∀ H', Nx H' → ∃ m', m' < m ∧ W (i + 1) m' H') ∧ ∀ x H', J.yld i H x H' → g x (wipe σ vs) H' fun σ2 H2 => wipe σ2 vs = wipe σ vs ∧ tt σ2 H2 fun b H3 =>
    if b = true then wi1 σ2 H3 fun J1 H4 => In2 J1 D g1 tt1 te vs1 σ2 Nx H4 else Nx H3)) : tLc2 wi g tt wi1 g1 tt1 te vs vs1 σ H Q := k
end
end TH

namespace TH
open PySem PySem.Spec PyProof.Rows L2
/-! ### defs that may raise, by C8's words -/
section
variable {P : Program} {w : World} {K : PySem.W.Frag} {mg : Str → Option Value} {base : Heap}
/-- a def that may raise and may be called by its name -/
structure CalX (P : Program) (w : World) (K : PySem.W.Frag) (mg : Str → Option Value) (base : Heap) (k : Nat) (x : Str) (sp : Sp) : Prop where
  ex : ∃ (f : Addr) (fd : FuncData) (ps : List Str), FnOk P w K mg base (L2.CX P w) k f fd ps sp ∧ mg x = some (.ref f) ∧ PySem.W.keepIn K (.ref f) = true ∧ Binds K fd ps []
theorem fnX {x qual : Str} {st : Stmt} {f : Addr} {fd : FuncData} {N ps : List Str} {k : Nat} {sp : Sp} (F : C8.Fun K x qual st f fd) (S : FnScope N ps (C8.fnScope st)) (len : ∀ vs H Q E, sp vs H Q E → vs.length = ps.length)
    (hbody : ∀ (cdv : Value) (A : Around) (outer : List Env) (s : Shared) (H : Hp) (vs : List V) (Q : VK) (E : XK), Room k (A.deeper (envOfC qual (C8.fnScope st) s.heap.objs.size f cdv)) → sp vs H Q E →
      ∃ t, PSs (cxOf (L2.CX P w) P w K mg base N qual (C8.fnScope st) f cdv A outer s H E) (C8.fnBody st) t ∧ t { nx := fun _ H' => Q .non H', rt := Q } (start N vs) H) : FnOk P w K mg base (L2.CX P w) (k + 1) f fd ps sp := by
  obtain ⟨oc, od, dV, kV, doc, pm, an, cdv, ct, osl, rfl, lk, hcd⟩ := F.ex
  exact fn_of lk hcd S len fun A outer s H vs Q E hr hsp => hbody cdv A outer s H vs Q E hr hsp
theorem calX {x : Str} {st : Stmt} {f : Addr} {fd : FuncData} {N ps : List Str} {k : Nat} {sp : Sp} (F : C8.Def K mg x st f fd) (b : Binds K fd ps []) (S : FnScope N ps (C8.fnScope st)) (len : ∀ vs H Q E, sp vs H Q E → vs.length = ps.length)
    (hbody : ∀ (cdv : Value) (A : Around) (outer : List Env) (s : Shared) (H : Hp) (vs : List V) (Q : VK) (E : XK), Room k (A.deeper (envOfC x (C8.fnScope st) s.heap.objs.size f cdv)) → sp vs H Q E →
      ∃ t, PSs (cxOf (L2.CX P w) P w K mg base N x (C8.fnScope st) f cdv A outer s H E) (C8.fnBody st) t ∧ t { nx := fun _ H' => Q .non H', rt := Q } (start N vs) H) : CalX P w K mg base (k + 1) x sp :=
  ⟨f, fd, ps, fnX F.fn S len hbody, F.mgf, F.kp, b⟩
theorem fn_noX {k : Nat} {f : Addr} {fd : FuncData} {ps : List Str} {sp : Sp} (F : FnOk P w K mg base (L2.CX P w) k f fd ps sp) : FnOk P w K mg base C8.CX0 k f fd ps (fun vs H Q _ => sp vs H Q C8.E0) := by
  refine ⟨fun vs H Q _ h => F.len vs H Q _ h, fun A outer s H args us vs Q E hr he hb hv hs => ?_⟩
  refine codeAny_mono (F.run A outer s H args us vs Q C8.E0 hr he hb hv hs) fun r s' hq => ?_
  cases r with
  | error e =>
    obtain ⟨_, _, _, _, _, _, _, _, _, _, _, _, z⟩ := (show L2.CX P w outer H s C8.E0 e s' from hq)
    exact z.elim
  | ok fl => cases fl <;> exact hq
/-- where it does not raise -/
theorem CalX.cal {k : Nat} {x : Str} {sp : Sp} (c : CalX P w K mg base k x sp) : C8.Cal P w K mg base k x (fun vs H Q _ => sp vs H Q C8.E0) [] := by
  obtain ⟨f, fd, ps, F, h1, h2, b⟩ := c.ex
  exact ⟨f, fd, ps, [], fn_noX F, h1, h2, b, .nil⟩
/-- a def that raises nothing, as one that may -/
theorem calOf {k : Nat} {x : Str} {sp sp' : Sp} (c : CalX P w K mg base k x sp) (h : ∀ vs H Q E, sp' vs H Q E → sp vs H Q E) : CalX P w K mg base k x sp' := by
  obtain ⟨f, fd, ps, F, h1, h2, b⟩ := c.ex
  exact ⟨f, fd, ps, F.imp h, h1, h2, b⟩
end
section
variable {X : Cx}
theorem pe_cX {k j : Nat} {x : Str} {sp : Sp} {p pos : Pos} {e : Expr} {es : List Expr} {t : TA} {W : WX} (c : CalX X.prog X.w X.K X.mg X.base k x sp) (hr : Room j X.A) (hk : k ≤ j) (hg : Gl X x) (tk : Takes X W) (ha : PA X (e :: es) t)
    (hdb : (x == ("__debug__" : Str)) = false := by decide) (he : starEach (e :: es) X.env = (false, eval e X.env) :: starEach es X.env := by rfl) (hpl : (backTo pos (starEach es X.env)).any (·.1) = false := by rfl) :
    PE X (.Call (.Name x p) (e :: es) [] pos) (tCallS sp (WE W) t) := by
  obtain ⟨f, fd, ps, F, hm, kp, b⟩ := c.ex
  exact pe_callS F (hr.mono hk) hg hm kp b (fun σ => passAt tk σ) ha hdb he hpl
/-- an error class of the program over ValueError, without an own __init__ -/
structure ErrC (K : PySem.W.Frag) (mg : Str → Option Value) (x : Str) (C : Addr) : Prop where
  gC : mg x = some (.ref C)
  xC : PySem.W.excIn K C [.type "ValueError", .type "Exception", .type "BaseException", .type "object"] "ValueError.__new__" = true
  kC : PySem.W.keepIn K (.ref C) = true
  bC : PySem.W.subIn K (.ref C) (.type "BaseException") = some true
  tC : PySem.W.typeIn K (.ref C) = some (.type "type")
theorem pmk_own0 {C : Addr} {x : Str} {p pos : Pos} (T : ErrC X.K X.mg x C) (hg : Gl X x) (hdb : (x == ("__debug__" : Str)) = false := by decide) : PMk X (.Call (.Name x p) [] [] pos) (fun _ H Q => Q (.ref C) none H) := by
  intro pins s σ H Q I h
  refine wpAny_Call_Name_kw (ld_glob I hg T.gC ?_ hdb)
  refine PySem.W.callWith_K0 I.kIn T.kC ?_
  obtain ⟨bm, N, nm, qn, bs, hdct, sn, sub, ab, col, dd, k0, k1, k2, k3, k5, mN, hC, hN, hni, TT⟩ := exc_obj I.kIn T.xC
  refine wpAny_call_exc_subT PySem.F.excBase_ValueError TT hC hN hni (fun h' e hm => ?_) (Nat.zero_le _)
  exact mk_of I hm (raises_own T.bC T.tC) h (I.hok.gone hm.new)
theorem ps_raise0 {C : Addr} {x : Str} {p pos pos' : Pos} {W : WX} (T : ErrC X.K X.mg x C) (hc : X.calm = true) (tk : Takes X W) (hg : Gl X x) (hdb : (x == ("__debug__" : Str)) = false := by decide) :
    PS X (.Raise (some (.Call (.Name x p) [] [] pos)) none pos') (fun _ σ H => W (.ref C) none σ H) := ps_raise hc tk (pmk_own0 T hg hdb)
end
end TH

namespace TH
section
open PySem PySem.W PySem.Calls PyProof.Rows Builtin
variable {prog : Program} {w : World} {A : Around} {E : Value → Shared → Prop} {s : Shared} {K : PySem.W.Frag} {x y C L f : Addr} {h₀ : Heap} {m : Str → Option Value} {ox oy : Obj} {od od' : Option Obj}
end
section
open PySem PySem.Spec PyProof.Rows L2
variable {X : Cx} {k : Nat} {C : Addr} {sp : Sp}
/-- two objects of C, compared by C's own == -/
def rOwn (C : Addr) (sp : Sp) (neg : Bool) : R2 := fun x y H Q => ∃ a b dx dy fs gs, x = .ref a ∧ y = .ref b ∧ H a = some (.ins C dx fs) ∧ H b = some (.ins C dy gs) ∧ sp [.ref a, .ref b] H (fun v H' => ∃ r : Bool, v = .bl r ∧ Q (.bl (r != neg)) H') C8.E0
theorem run_own (c : C8.Met X.prog X.w X.K X.mg X.base k C "__eq__" sp []) {A : Around} {pins : List (Addr × Obj)} {σ : L2.St} {H : Hp} {s : Shared} (hr : Room k A) (hf : A.frames = X.A.frames) (I : Inv X pins σ H s) {a b : Addr} {Q : VK} (h : sp [.ref a, .ref b] H Q C8.E0) :
    ∃ f, PySem.W.findIn X.K (.ref C) "__eq__" = some (some (.ref f)) ∧ PySem.W.isFn X.K (.ref f) = true ∧ wpAny (model X.prog X.w) A (call (.ref f) [.ref a, .ref b]) (EP X pins σ Q) X.xe s := by
  obtain ⟨f, fd, ps, ds, hc, hm, F, bb, d⟩ := c.ex
  have ed : ds = [] := by cases d; rfl
  subst ed
  refine ⟨f, hm.1, hm.2, ?_⟩
  have e0 : Env0 X.prog X.w X.K X.mg X.base A X.stack s H := by
    have e := I.env0
    exact ⟨by rw [hf]; exact e.frames, e.mod, e.bs, e.bsz, e.funs, e.frf, e.hok, e.bare⟩
  have hl := F.len _ _ _ _ h
  have r2 : Vals [V.ref a, V.ref b] [Value.ref a, Value.ref b] := .cons rfl (.cons rfl .nil)
  refine wpAny_call (codeAny_mono (F.run A X.stack s H ⟨[.ref a, .ref b], []⟩ [.ref a, .ref b] [.ref a, .ref b] _ C8.E0 hr e0 (by
    have := bb s [.ref a, .ref b] I.kIn (by simpa using hl)
    simpa using this) r2 h) fun r s' hq => ?_)
  cases r with
  | error e => exact (show False from hq).elim
  | ok fl =>
    cases fl with
    | ret w => exact I.after hq
    | next => exact False.elim hq
    | brk => exact False.elim hq
    | cont => exact False.elim hq
theorem op_eqM (c : C8.Met X.prog X.w X.K X.mg X.base k C "__eq__" sp []) {j : Nat} (hr : Room j X.A) (hk : k ≤ j) : OpR X (compareOp .Eq) (rOwn C sp false) := by
  intro pins s σ H x y v u Q I rx ry hq
  obtain ⟨a, b, dx, dy, fs, gs, rfl, rfl, ha, hb, h⟩ := hq
  cases rx
  cases ry
  obtain ⟨mA, J, _⟩ := ins_get I.hok ha
  obtain ⟨mB, J', _⟩ := ins_get I.hok hb
  obtain ⟨od, J, _⟩ := J.look
  obtain ⟨od', J', _⟩ := J'.look
  obtain ⟨m, hF⟩ := I.fr
  obtain ⟨f, h1, h2, h3⟩ := run_own c (hr.mono hk) rfl I h
  refine PySem.W.cmp_K (op := .Eq) (tb := .ref C) (hr.mono hk).units0 hF I.ok.mod.kin J J'.type (by simp [PySem.W.notFirst]) h1 h2 (wpAny_mono h3 (fun w s' z => ?_) fun _ _ e => e)
  obtain ⟨z, H', I', rz, r, ez, q⟩ := z
  subst ez
  cases rz
  exact ⟨.bl r, H', I', rfl, by simpa using q⟩
end
end TH

/-! == and != of dicts whose keys are objects (tuples) -/
namespace TH
section
open PySem PySem.W PySem.Calls PyProof.Rows PyProof.V PySem.Spec
variable {prog : Program} {w : World} {K : Type} [DecidableEq K] {knd : HeapKind prog w K} {A : Around} {E : Value → Shared → Prop} {s : Shared}
end
end TH
namespace TH
section
open PySem PySem.W PySem.Calls PyProof.Rows PyProof.V PySem.Spec
variable {prog : Program} {w : World} {K : Type} [DecidableEq K] {knd : HeapKind prog w K} {A : Around} {E : Value → Shared → Prop} {s : Shared}
end
section
open PySem PySem.Spec PyProof.Rows L2
variable {X : Cx}
end
end TH

/-! what stands where only tables of code objects change (behind a lambda) -/
namespace TH
open PySem PySem.Spec PyProof.Rows L2
abbrev ExN := LamX.ExtN
theorem ExN.at' {H H' : Hp} {a : Addr} {o : HO} (e : ExN H H') (h : H a = some o) (n : ∀ ps, o ≠ .tbl ps) : H' a = some o := e a o h n
theorem ExN.rd {H H' : Hp} {a : Addr} {u : HO} (e : ExN H H') (h : Rd H a u) (n : ∀ ps, u ≠ .tbl ps) : Rd H' a u := by
  rcases h with h | ⟨o, h⟩
  · exact Or.inl (e a _ h n)
  · exact Or.inr ⟨o, e a _ h fun ps z => by cases z⟩
theorem ExN.l {K : PySem.W.Frag} {H H' : Hp} {a : Addr} {xs : List V} (e : ExN H H') (h : SqL K H a xs) : SqL K H' a xs := by
  rcases h with h | h
  · exact Or.inl (e.rd h fun _ z => by cases z)
  · exact Or.inr h
theorem ExN.t {K : PySem.W.Frag} {H H' : Hp} {a : Addr} {xs : List V} (e : ExN H H') (h : SqT K H a xs) : SqT K H' a xs := by
  rcases h with h | h
  · exact Or.inl (e.rd h fun _ z => by cases z)
  · exact Or.inr h
section
variable {K : PySem.W.Frag} {H H' : Hp}
mutual
theorem dp_exN (e : ExN H H') : ∀ (d : D) (v : V), Dp K H v d → Dp K H' v d
  | .none, _, h => by cases h; exact .non
  | .bool b, _, h => by cases h; exact .bl b
  | .int i, _, h => by cases h; exact .int i
  | .str x, _, h => by cases h; exact .str x
  | .list ds, _, h => by
    cases h with
    | lst hs ha => exact .lst (e.l hs) (dpa_exN e ds _ ha)
  | .tuple ds, _, h => by
    cases h with
    | tup hs ha => exact .tup (e.t hs) (dpa_exN e ds _ ha)
  | .dict _, _, h => by cases h
theorem dpa_exN (e : ExN H H') : ∀ (ds : List D) (vs : List V), DpAll K H vs ds → DpAll K H' vs ds
  | [], _, h => by cases h; exact .nil
  | d :: ds, _, h => by
    cases h with
    | cons h1 h2 => exact .cons (dp_exN e d _ h1) (dpa_exN e ds _ h2)
end
theorem ExN.dp {d : D} {v : V} (e : ExN H H') (h : Dp K H v d) : Dp K H' v d := dp_exN e d v h
theorem ExN.dpa {ds : List D} {vs : List V} (e : ExN H H') (h : DpAll K H vs ds) : DpAll K H' vs ds := dpa_exN e ds vs h
end
end TH

namespace TH
open PySem PySem.Spec PyProof.Rows L2
/-! ### zip(a tuple, a list) -/
def ItzN (K : PySem.W.Frag) (a b : Addr) : It :=
  ⟨fun i H => ∃ (xs ys : List V) (x y : V), SqT K H a xs ∧ SqL K H b ys ∧ xs[i]? = some x ∧ ys[i]? = some y,
    fun i H v H' => ∃ T x y, v = .ref T ∧ H T = none ∧ H' = upd H T (.tup [x, y]) ∧ (∀ xs, SqT K H a xs → xs[i]? = some x) ∧ ∀ ys, SqL K H b ys → ys[i]? = some y,
    fun i H => ∃ xs ys : List V, SqT K H a xs ∧ SqL K H b ys ∧ i ≤ xs.length ∧ i ≤ ys.length ∧ (i = xs.length ∨ i = ys.length)⟩
theorem turn_zipN {P : Program} {w : World} {K : PySem.W.Frag} {elts : List Expr} {kk : Nat} {tpos : Pos} {a b z TI TO i1 i2 : Addr} (D : ZipSep2 z TI TO i1 i2 [i1, a] [i2, b]) (hai : a ≠ i1) (hbi : b ≠ i2) :
    Turn P w K (.Tuple elts kk tpos) (ItzN K a b) [z, TI, TO, i1, i2] z (fun i h => IsZip h z TI TO .none ∧ IsTupOf2 h TI (.ref i1) (.ref i2) ∧ (∃ x y, IsTupOf2 h TO x y) ∧ h.IsTupleIter i1 a i ∧ h.IsListIter i2 b i) where
  mem := by simp
  obj := fun i h st => by
    obtain ⟨hz, hTI, ⟨x, y, hTO⟩, ⟨o1, e1, _, d1⟩, ⟨o2, e2, _, d2⟩⟩ := st
    exact five ⟨_, hz, fun v q => nomatch q⟩ ⟨_, hTI, fun v q => nomatch q⟩ ⟨_, hTO, fun v q => nomatch q⟩ ⟨o1, e1, fun v q => by rw [d1] at q; cases q⟩ ⟨o2, e2, fun v q => by rw [d2] at q; cases q⟩
  keep := fun i h h' st k => by
    obtain ⟨hz, hTI, ⟨x, y, hTO⟩, h1, h2⟩ := st
    exact ⟨k z (by simp) _ hz, k TI (by simp) _ hTI, ⟨x, y, k TO (by simp) _ hTO⟩, h1.at fun o q => k i1 (by simp) o q, h2.at fun o q => k i2 (by simp) o q⟩
  item := by
    intro X hP hw hK hc i pins s σ H E I hf st hg
    subst hP hw hK
    obtain ⟨hz, hTI, ⟨x0, y0, hTO⟩, h1, h2⟩ := st
    obtain ⟨xs, ys, x, y, hqx, hqy, hx, hy⟩ := hg
    obtain ⟨its, rv, p, _⟩ := I.tuple hqx
    obtain ⟨its2, rv2, p2, _⟩ := I.list hqy
    obtain ⟨u, hu, ru⟩ := rv.get hx
    obtain ⟨u2, hu2, ru2⟩ := rv2.get hy
    have hA : X.A.in1.handled = none := I.ok.hd hc
    have hzl : z < s.heap.objs.size := Heap.lt_size hz
    have l1 : i < its.toArray.size := by simpa using (List.getElem?_eq_some_iff.mp hu).1
    have l2 : i < its2.toArray.size := by simpa using (List.getElem?_eq_some_iff.mp hu2).1
    refine wpAny_pyNext_zipD2_item D (Draws.tuple (prog := X.prog) (w := X.w) hA i1 a hai its.toArray) (Draws.list (prog := X.prog) (w := X.w) hA i2 b hbi its2.toArray) hz hTI hTO ⟨h1, p⟩ ⟨h2, p2.isList⟩ l1 l2 fun v1 v2 h' tk q1 q2 z' TO' st1 st2 hT hsz hk => ?_
    have ev1 : v1 = u := by
      have : its.toArray[i]? = some u := by simpa using hu
      rw [this] at q1
      exact (Option.some.inj q1).symm
    have ev2 : v2 = u2 := by
      have : its2.toArray[i]? = some u2 := by simpa using hu2
      rw [this] at q2
      exact (Option.some.inj q2).symm
    subst ev1 ev2
    refine ⟨_, rfl, wpAny_letOwnedTupleGo_zip (s := { s with heap := h', toks := tk }) z' fun h'' z'' sb => ?_⟩
    have hT2 : h''.get? s.heap.objs.size = some { cls := .type "tuple", data := .seq #[v1, v2] } := (sb.2 _ (Nat.ne_of_gt hzl)).trans hT
    have new : ObjOk X.prog X.w (upd H s.heap.objs.size (.tup [x, y])) h'' s.heap.objs.size (.tup [x, y]) :=
      ⟨by show 2 ≤ sizeLine; decide, [v1, v2], .cons ru (.cons ru2 .nil), ⟨_, hT2, rfl, _, rfl⟩⟩
    have I1 : Inv X pins σ (upd H s.heap.objs.size (.tup [x, y])) { s with heap := h'', toks := tk } :=
      I.turnedNew (ch := [z, TI, TO, i1, i2]) (fun c o hb q => (sb.2 c (fun q' => hb (by simp [q']))).trans (hk c o (fun q' => hb (by simp [q'])) (fun q' => hb (by simp [q'])) (fun q' => hb (by simp [q'])) (fun q' => hb (by simp [q'])) q)) hf (Nat.le_refl _) new
    refine ⟨.ref s.heap.objs.size, _, I1, rfl, ⟨_, x, y, rfl, I.hok.fresh (Nat.le_refl _), rfl, fun l hl => by rw [I.tuple_inj hl hqx]; exact hx, fun l hl => by rw [I.list_inj hl hqy]; exact hy⟩, ⟨z'', ?_, ⟨v1, v2, ?_⟩, ?_, ?_⟩, fun c hcm => ?_⟩
    · exact (sb.2 _ D.TIz).trans (hk _ _ D.TIz D.TITO D.TIi1 D.TIi2 hTI)
    · exact (sb.2 _ D.TOz).trans TO'
    · exact st1.1.at fun o q => (sb.2 _ (Ne.symm D.zi1)).trans q
    · exact st2.1.at fun o q => (sb.2 _ (Ne.symm D.zi2)).trans q
    · have hlt : c < s.heap.objs.size := by
        obtain ⟨_, e1, _⟩ := h1
        obtain ⟨_, e2, _⟩ := h2
        exact five (P := fun c => c < s.heap.objs.size) hzl (Heap.lt_size hTI) (Heap.lt_size hTO) (Heap.lt_size e1) (Heap.lt_size e2) c hcm
      rw [upd_ne (Nat.ne_of_lt hlt)]
      exact (hf c hcm).1
  done := by
    intro X hP hw hK hc i pins s σ H E I hf st hg
    subst hP hw hK
    obtain ⟨hz, hTI, ⟨x0, y0, hTO⟩, h1, h2⟩ := st
    obtain ⟨xs, ys, hqx, hqy, n1, n2, hend⟩ := hg
    obtain ⟨its, rv, p, _⟩ := I.tuple hqx
    obtain ⟨its2, rv2, p2, _⟩ := I.list hqy
    have l1 := rv.length
    have l2 := rv2.length
    have hA : X.A.in1.handled = none := I.ok.hd hc
    exact wpAny_pyNext_zipD2_end D (Draws.tuple (prog := X.prog) (w := X.w) hA i1 a hai its.toArray) (Draws.list (prog := X.prog) (w := X.w) hA i2 b hbi its2.toArray) hz hTI hTO ⟨h1, p⟩ ⟨h2, p2.isList⟩ (by simp; omega) (by simp; omega) (by simp; omega) fun h' tk hk => ⟨rfl, I.turnedL (t' := tk) (ch := [z, TI, TO, i1, i2]) (fun c o hb q =>
      hk c o (fun q' => hb (by simp [q'])) (fun q' => hb (by simp [q'])) (fun q' => hb (by simp [q'])) (fun q' => hb (by simp [q'])) q) hf⟩
  self := fun A i s Q E st h => wpAny_pyIter_zip st.1 h
def iZipN (K : PySem.W.Frag) (ta : TA) : TI := fun σ H R => ta σ H fun vs H1 => ∃ a b xs ys, vs = [.ref a, .ref b] ∧ SqT K H1 a xs ∧ SqL K H1 b ys ∧ R (ItzN K a b) H1
section
variable {K : PySem.W.Frag} {ta : TA} {σ : L2.St} {H : Hp} {R : It → Hp → Prop}
end
theorem kpi_zipN {X : Cx} {K : PySem.W.Frag} {e e2 : Expr} {ta : TA} {p pos tpos : Pos} {elts : List Expr} {kk : Nat} (hg : Gl X "zip") (hm : X.mg "zip" = none) (ha : PA X [e, e2] ta)
    (hs : starEach [e, e2] X.env = (false, eval e X.env) :: starEach [e2] X.env := by rfl) (hpl : (backTo pos (starEach [e2] X.env)).any (·.1) = false := by rfl) (hK : X.K = K := by rfl) :
    PI X (.Tuple elts kk tpos) (.Call (.Name "zip" p) [e, e2] [] pos) (iZipN K ta) := by
  subst hK
  refine ⟨fun pins s σ H R I h => ?_⟩
  refine Call_ (ld_blt I hg hm PyProof.Rows.boot_zip (PyProof.Rows.callWith_type1 (thn (ha.run pos pins s σ H _ I h) fun us s1 ⟨vs, H1, I1, r1, q1⟩ => ?_) hs hpl))
  obtain ⟨a, b, xs, ys, ex, hqx, hqy, q⟩ := q1
  subst ex
  obtain ⟨u1, u2, eu, ra, rb⟩ := vals2 r1
  subst eu
  cases ra
  cases rb
  have fresh5 : ∀ c ∈ [s1.heap.objs.size + 4, s1.heap.objs.size + 2, s1.heap.objs.size + 3, s1.heap.objs.size, s1.heap.objs.size + 1], FpOk X pins H1 c := by
    have at' : ∀ c, s1.heap.objs.size ≤ c → FpOk X pins H1 c := fun c hle => I1.fpOk hle (I1.hok.fresh hle)
    exact five (at' _ (Nat.le_add_right _ _)) (at' _ (Nat.le_add_right _ _)) (at' _ (Nat.le_add_right _ _)) (at' _ (Nat.le_refl _)) (at' _ (Nat.le_add_right _ _))
  obtain ⟨its, rv, p1, _⟩ := I1.tuple hqx
  obtain ⟨its2, rv2, p2, _⟩ := I1.list hqy
  obtain ⟨o1, ho1, _⟩ := id p1
  have la : a < s1.heap.objs.size := Heap.lt_size ho1
  have lb : b < s1.heap.objs.size := p2.lt
  refine zip_begins2 (begins_tuple a its.toArray) (begins_list b its2.toArray) (show s1.heap.IsTuple a its.toArray from p1) p2.isList fun h' hz hTI hTO g1 g2 hsz hk => wpAny_pyIter_zip hz ?_
  have I2 : Inv X pins σ H1 { s1 with heap := h' } := I1.kept (t' := s1.toks) hk
  refine ⟨s1.heap.objs.size + 4, [s1.heap.objs.size + 4, s1.heap.objs.size + 2, s1.heap.objs.size + 3, s1.heap.objs.size, s1.heap.objs.size + 1], _, _, H1, rfl, I2, turn_zipN (zip_sep2 (N := s1.heap.objs.size) (fp1 := [a]) (fp2 := [b]) (fun c hc => by rw [List.mem_singleton.mp hc]; exact la) (fun c hc => by rw [List.mem_singleton.mp hc]; exact lb)) (Nat.ne_of_lt la) (Nat.ne_of_lt (Nat.lt_succ_of_lt lb)), ⟨hz, hTI, ⟨_, _, hTO⟩, ⟨_, g1, rfl, rfl⟩, ⟨_, g2, rfl, rfl⟩⟩, fresh5, q⟩
section
variable {K : PySem.W.Frag} {a b : Addr} {xs ys : List V}
theorem walk_zipN {n : Nat} (hn : n = min xs.length ys.length) : Walk (ItzN K a b) n (fun H => SqT K H a xs ∧ SqL K H b ys) (YPair (fun i => xs[i]?) (fun i => ys[i]?)) := by
  subst hn
  refine ⟨fun i _ hi q => ?_, fun _ q => ⟨xs, ys, q.1, q.2, by omega, by omega, by omega⟩, fun i H v H' _ q y => ?_⟩
  · have h1 : i < xs.length := by omega
    have h2 : i < ys.length := by omega
    exact ⟨xs, ys, xs[i], ys[i], q.1, q.2, by simp [h1], by simp [h2]⟩
  · obtain ⟨T, x, z, h1, h2, h3, h4, h5⟩ := y
    exact ⟨T, x, z, h1, h2, h3, h4 xs q.1, h5 ys q.2⟩
end
end TH

/-! # the layer of data: what a def makes of data, no heap in sight -/
namespace TH
open PySem PySem.Spec PyProof.Rows L2
def kD : Key → D
  | .inl i => .int i
  | .inr x => .str x
def ktD (k : List Key) : D := .tuple (k.map kD)
/-- an object of the class named c -/
def objD (c : Str) (ns : List Str) (ds : List D) : D := .dict ((.none, .list (.str c :: ns.map .str)) :: ds.map fun d => (.none, d))
/-- a dict (t: its keys are tuples) -/
def dicD (t : Bool) (es : List (D × D)) : D := .dict ((.list (if t = true then [] else [.none]), .none) :: es)
def bagD : D := .dict [(.bool false, .none)]
def handD : D := .dict [(.bool false, .bool true)]
def scrD (ns : List Int) : D := .dict [(.bool true, .list (ns.map .int))]
/-- nothing but where it lies: an error in hand, a def as a value -/
def adrD (a : Addr) : D := .dict [(.int ((a : Nat) : Int), .none)]
/-- an error in hand with its fields (at dx) -/
def exfD (a dx : Addr) (ns : List Str) (ds : List D) : D := .dict ((.int ((a : Nat) : Int), .list (.int ((dx : Nat) : Int) :: ns.map .str)) :: ds.map fun d => (.none, d))
def clsAt (K : PySem.W.Frag) (c : Str) : Option Addr := match PySem.W.nsIn K mainGlobals c with
  | some (some (.ref C)) => some C
  | _ => none
/-! the two hands that a law draws with -/
def BagW (g : Addr) (xs : List V) : Prop := ∃ (sd tn : Int) (al : V), xs = [.int sd, .int tn, .ref g, al] ∧ 0 ≤ sd ∧ sd ≤ 2147483647 ∧ 0 ≤ tn ∧ (al = .non ∨ ∃ n : Int, al = .int n)
def GreatW (xs : List V) : Prop := ∃ ns : List Int, xs = ns.map V.int ∧ ns.length ≤ 1000000
def BagAt (H : Hp) (v : V) : Prop := ∃ b g : Addr, v = .ref b ∧ H b = some (LstP b (BagW g)) ∧ H g = some (LstP g GreatW) ∧ b ≠ g
theorem BagAt.ex {H H' : Hp} {v : V} (x : BagAt H v) (e : Ex H H') : BagAt H' v := by
  obtain ⟨b, g, rfl, h1, h2, h3⟩ := x
  exact ⟨b, g, rfl, e _ _ h1, e _ _ h2, h3⟩
def HandW (c : Addr) (xs : List V) : Prop := ∃ (i : Nat) (cu sd tu : Int), xs = [.ref c, .int (i : Nat), .int cu, .int sd, .int tu] ∧ 0 ≤ cu ∧ 0 ≤ sd ∧ sd ≤ 2147483647 ∧ 0 ≤ tu
def HandAt (H : Hp) (v : V) : Prop := ∃ (h c : Addr) (ns : List Int), v = .ref h ∧ H h = some (LstP h (HandW c)) ∧ H c = some (.lst (ns.map V.int)) ∧ ∀ x ∈ ns, 0 ≤ x
theorem HandAt.ex {H H' : Hp} {v : V} (x : HandAt H v) (e : Ex H H') : HandAt H' v := by
  obtain ⟨h, c, ns, rfl, h1, h2, h3⟩ := x
  exact ⟨h, c, ns, rfl, e _ _ h1, e _ _ h2, h3⟩
/-! ## a value told by data -/
mutual
inductive Dq (K : PySem.W.Frag) (F : Hp) : V → D → Prop
  | non : Dq K F .non .none
  | bl (b : Bool) : Dq K F (.bl b) (.bool b)
  | int (i : Int) : Dq K F (.int i) (.int i)
  | str (x : Str) : Dq K F (.str x) (.str x)
  | lst {a : Addr} {xs : List V} {ds : List D} : F a = some (.lst xs) → ds.length ≤ 1000000 → DqA K F xs ds → Dq K F (.ref a) (.list ds)
  | tup {a : Addr} {xs : List V} {ds : List D} : F a = some (.tup xs) → ds.length ≤ 1000000 → DqA K F xs ds → Dq K F (.ref a) (.tuple ds)
  | dK {a : Addr} {kvs : List (Key × V)} {es : List (D × D)} {d : D} : Rd F a (.dK kvs) → es.length ≤ 1000000 → es.map (·.1) = kvs.map (fun p => kD p.1) → DqA K F (kvs.map (·.2)) (es.map (·.2)) → d = dicD false es → Dq K F (.ref a) d
  | dT {a : Addr} {kvs : List (List Key × V)} {es : List (D × D)} {d : D} : Rd F a (.dT kvs) → es.length ≤ 1000000 → es.map (·.1) = kvs.map (fun p => ktD p.1) → DqA K F (kvs.map (·.2)) (es.map (·.2)) → d = dicD true es → Dq K F (.ref a) d
  | obj {a C dx : Addr} {fs : List (Str × V)} {c : Str} {ds : List D} {d : D} : F a = some (.ins C dx fs) → clsAt K c = some C → d = objD c (fs.map (·.1)) ds → DqA K F (fs.map (·.2)) ds → Dq K F (.ref a) d
  | bag {v : V} {d : D} : d = bagD → BagAt F v → Dq K F v d
  | hand {v : V} {d : D} : d = handD → HandAt F v → Dq K F v d
  | scr {a : Addr} {ns : List Int} {d : D} : d = scrD ns → SqL K F a (ns.map V.int) → ns.length ≤ 1000000 → Dq K F (.ref a) d
  | adr {a : Addr} {d : D} : d = adrD a → Dq K F (.ref a) d
  | exf {a dx : Addr} {fs : List (Str × V)} {ds : List D} {d : D} : F dx = some (.xd fs) → d = exfD a dx (fs.map (·.1)) ds → DqA K F (fs.map (·.2)) ds → Dq K F (.ref a) d
inductive DqA (K : PySem.W.Frag) (F : Hp) : List V → List D → Prop
  | nil : DqA K F [] []
  | cons {v : V} {vs : List V} {d : D} {ds : List D} : Dq K F v d → DqA K F vs ds → DqA K F (v :: vs) (d :: ds)
end
section
variable {K : PySem.W.Frag} {F F' : Hp}
mutual
theorem Dq.ex (e : Ex F F') : ∀ {v : V} {d : D}, Dq K F v d → Dq K F' v d
  | _, _, .non => .non
  | _, _, .bl b => .bl b
  | _, _, .int i => .int i
  | _, _, .str x => .str x
  | _, _, .lst h l a => .lst (e _ _ h) l (DqA.ex e a)
  | _, _, .tup h l a => .tup (e _ _ h) l (DqA.ex e a)
  | _, _, .dK h l k a d => .dK (e.rd h) l k (DqA.ex e a) d
  | _, _, .dT h l k a d => .dT (e.rd h) l k (DqA.ex e a) d
  | _, _, .obj h c d a => .obj (e _ _ h) c d (DqA.ex e a)
  | _, _, .bag d h => .bag d (h.ex e)
  | _, _, .hand d h => .hand d (h.ex e)
  | _, _, .scr d h l => .scr d (e.l h) l
  | _, _, .adr d => .adr d
  | _, _, .exf h d a => .exf (e _ _ h) d (DqA.ex e a)
theorem DqA.ex (e : Ex F F') : ∀ {vs : List V} {ds : List D}, DqA K F vs ds → DqA K F' vs ds
  | _, _, .nil => .nil
  | _, _, .cons h t => .cons (Dq.ex e h) (DqA.ex e t)
end
theorem dq_bool {v : V} {b : Bool} (h : Dq K F v (.bool b)) : v = .bl b := by
  cases h with
  | bl _ => rfl
  | obj _ _ e _ => cases e
  | dK _ _ _ _ e => cases e
  | dT _ _ _ _ e => cases e
  | bag e _ => cases e
  | hand e _ => cases e
  | scr e _ _ => cases e
  | adr e => cases e
  | exf _ e _ => cases e
theorem dq_int {v : V} {b : Int} (h : Dq K F v (.int b)) : v = .int b := by
  cases h with
  | int _ => rfl
  | obj _ _ e _ => cases e
  | dK _ _ _ _ e => cases e
  | dT _ _ _ _ e => cases e
  | bag e _ => cases e
  | hand e _ => cases e
  | scr e _ _ => cases e
  | adr e => cases e
  | exf _ e _ => cases e
theorem dq_str {v : V} {b : Str} (h : Dq K F v (.str b)) : v = .str b := by
  cases h with
  | str _ => rfl
  | obj _ _ e _ => cases e
  | dK _ _ _ _ e => cases e
  | dT _ _ _ _ e => cases e
  | bag e _ => cases e
  | hand e _ => cases e
  | scr e _ _ => cases e
  | adr e => cases e
  | exf _ e _ => cases e
theorem dq_non {v : V} (h : Dq K F v .none) : v = .non := by
  cases h with
  | non => rfl
  | obj _ _ e _ => cases e
  | dK _ _ _ _ e => cases e
  | dT _ _ _ _ e => cases e
  | bag e _ => cases e
  | hand e _ => cases e
  | scr e _ _ => cases e
  | adr e => cases e
  | exf _ e _ => cases e
theorem dq_tup {v : V} {ds : List D} (h : Dq K F v (.tuple ds)) : ∃ a xs, v = .ref a ∧ F a = some (.tup xs) ∧ ds.length ≤ 1000000 ∧ DqA K F xs ds := by
  cases h with
  | tup h l a => exact ⟨_, _, rfl, h, l, a⟩
  | obj _ _ e _ => cases e
  | dK _ _ _ _ e => cases e
  | dT _ _ _ _ e => cases e
  | bag e _ => cases e
  | hand e _ => cases e
  | scr e _ _ => cases e
  | adr e => cases e
  | exf _ e _ => cases e
theorem dq_lst {v : V} {ds : List D} (h : Dq K F v (.list ds)) : ∃ a xs, v = .ref a ∧ F a = some (.lst xs) ∧ ds.length ≤ 1000000 ∧ DqA K F xs ds := by
  cases h with
  | lst h l a => exact ⟨_, _, rfl, h, l, a⟩
  | obj _ _ e _ => cases e
  | dK _ _ _ _ e => cases e
  | dT _ _ _ _ e => cases e
  | bag e _ => cases e
  | hand e _ => cases e
  | scr e _ _ => cases e
  | adr e => cases e
  | exf _ e _ => cases e
theorem dq_hand {v : V} (h : Dq K F v handD) : HandAt F v := by
  generalize e0 : handD = d at h
  cases h with
  | hand _ h => exact h
  | dK _ _ _ _ e => subst e0; simp [bagD, handD, objD, dicD] at e
  | dT _ _ _ _ e => subst e0; simp [bagD, handD, objD, dicD] at e
  | obj _ _ e _ => subst e0; simp [handD, objD] at e
  | bag e _ => subst e0; simp [bagD, handD] at e
  | scr e _ _ => subst e0; simp [handD, scrD] at e
  | adr e => subst e0; simp [handD, adrD] at e
  | exf _ e _ => subst e0; simp [handD, exfD] at e
  | _ => simp [handD] at e0
theorem objD_inj {c c' : Str} {ns ns' : List Str} {ds ds' : List D} (h : objD c ns ds = objD c' ns' ds') : c = c' ∧ ns = ns' ∧ ds = ds' := by
  unfold objD at h
  injection h with h
  injection h with h1 h2
  have h3 : PyData.list (.str c :: ns.map PyData.str) = .list (.str c' :: ns'.map PyData.str) := (Prod.mk.inj h1).2
  injection h3 with h3
  injection h3 with h4 h5
  injection h4 with h4
  refine ⟨h4, ?_, ?_⟩
  · have inj : ∀ {a b : List Str}, a.map PyData.str = b.map PyData.str → a = b := by
      intro a
      induction a with
      | nil => intro b hb; cases b with
        | nil => rfl
        | cons _ _ => simp at hb
      | cons x a ih => intro b hb; cases b with
        | nil => simp at hb
        | cons y b =>
          simp only [List.map_cons, List.cons.injEq, PyData.str.injEq] at hb
          rw [hb.1, ih hb.2]
    exact inj h5
  · have inj : ∀ {a b : List D}, a.map (fun d => (PyData.none, d)) = b.map (fun d => (PyData.none, d)) → a = b := by
      intro a
      induction a with
      | nil => intro b hb; cases b with
        | nil => rfl
        | cons _ _ => simp at hb
      | cons x a ih => intro b hb; cases b with
        | nil => simp at hb
        | cons y b =>
          simp only [List.map_cons, List.cons.injEq, Prod.mk.injEq, true_and] at hb
          rw [hb.1, ih hb.2]
    exact inj h2
theorem dq_obj {v : V} {c : Str} {ns : List Str} {ds : List D} (h : Dq K F v (objD c ns ds)) : ∃ a C dx fs, v = .ref a ∧ F a = some (.ins C dx fs) ∧ clsAt K c = some C ∧ fs.map (·.1) = ns ∧ DqA K F (fs.map (·.2)) ds := by
  generalize e0 : objD c ns ds = d at h
  cases h with
  | obj h hc e a =>
    obtain ⟨rfl, rfl, rfl⟩ := objD_inj (e0.trans e)
    exact ⟨_, _, _, _, rfl, h, hc, rfl, a⟩
  | dK _ _ _ _ e => subst e0; simp [bagD, handD, objD, dicD] at e
  | dT _ _ _ _ e => subst e0; simp [bagD, handD, objD, dicD] at e
  | bag e _ => subst e0; simp [bagD, objD] at e
  | hand e _ => subst e0; simp [objD, handD] at e
  | scr e _ _ => subst e0; simp [objD, scrD] at e
  | adr e => subst e0; simp [objD, adrD] at e
  | exf _ e _ => subst e0; simp [objD, exfD] at e
  | _ => simp [objD] at e0
/-! rows of values -/
theorem dqa_len : ∀ {vs : List V} {ds : List D}, DqA K F vs ds → vs.length = ds.length
  | _, _, .nil => rfl
  | _, _, .cons _ t => by simp [dqa_len t]
theorem dqa_get : ∀ {vs : List V} {ds : List D} {i : Nat} {v : V}, DqA K F vs ds → vs[i]? = some v → ∃ d, ds[i]? = some d ∧ Dq K F v d
  | _, _, _, _, .nil, e => by simp at e
  | _, _, 0, v, .cons h _, e => by
    simp at e
    subst e
    exact ⟨_, rfl, h⟩
  | _, _, i + 1, v, .cons _ t, e => by
    simp at e
    obtain ⟨d, h1, h2⟩ := dqa_get (i := i) t e
    exact ⟨d, by simpa using h1, h2⟩
theorem dqa_getD : ∀ {vs : List V} {ds : List D} {i : Nat} {d : D}, DqA K F vs ds → ds[i]? = some d → ∃ v, vs[i]? = some v ∧ Dq K F v d
  | _, _, _, _, .nil, e => by simp at e
  | _, _, 0, v, .cons h _, e => by
    simp at e
    subst e
    exact ⟨_, rfl, h⟩
  | _, _, i + 1, v, .cons _ t, e => by
    simp at e
    obtain ⟨d, h1, h2⟩ := dqa_getD (i := i) t e
    exact ⟨d, by simpa using h1, h2⟩
theorem dqa_append : ∀ {vs ws : List V} {ds es : List D}, DqA K F vs ds → DqA K F ws es → DqA K F (vs ++ ws) (ds ++ es)
  | _, _, _, _, .nil, s => s
  | _, _, _, _, .cons h t, s => .cons h (dqa_append t s)
theorem dqa_snoc {vs : List V} {ds : List D} {v : V} {d : D} (t : DqA K F vs ds) (h : Dq K F v d) : DqA K F (vs ++ [v]) (ds ++ [d]) := dqa_append t (.cons h .nil)
theorem dqa_take : ∀ {vs : List V} {ds : List D} (n : Nat), DqA K F vs ds → DqA K F (vs.take n) (ds.take n)
  | _, _, 0, _ => .nil
  | _, _, _ + 1, .nil => .nil
  | _, _, n + 1, .cons h t => .cons h (dqa_take n t)
theorem dqa_drop : ∀ {vs : List V} {ds : List D} (n : Nat), DqA K F vs ds → DqA K F (vs.drop n) (ds.drop n)
  | _, _, 0, r => r
  | _, _, _ + 1, .nil => .nil
  | _, _, n + 1, .cons _ t => dqa_drop n t
theorem dqa_ints_inv : ∀ {ns : List Int} {vs : List V}, DqA K F vs (ns.map PyData.int) → vs = ns.map V.int
  | [], _, .nil => rfl
  | n :: ns, _, .cons h t => by rw [dq_int h, dqa_ints_inv t]; rfl
theorem dqa_bools_inv : ∀ {ns : List Bool} {vs : List V}, DqA K F vs (ns.map PyData.bool) → vs = ns.map V.bl
  | [], _, .nil => rfl
  | n :: ns, _, .cons h t => by rw [dq_bool h, dqa_bools_inv t]; rfl
/-! ### no dict within: as the kit tells data -/
mutual
def pureD : D → Bool
  | .list ds => pureA ds
  | .tuple ds => pureA ds
  | .dict _ => false
  | _ => true
def pureA : List D → Bool
  | [] => true
  | d :: ds => pureD d && pureA ds
end
mutual
theorem Dq.dp : ∀ {d : D} {v : V}, Dq K F v d → pureD d = true → Dp K F v d
  | .none, _, h, _ => by rw [dq_non h]; exact .non
  | .bool b, _, h, _ => by rw [dq_bool h]; exact .bl b
  | .int i, _, h, _ => by rw [dq_int h]; exact .int i
  | .str x, _, h, _ => by rw [dq_str h]; exact .str x
  | .list ds, _, h, p => by
    obtain ⟨a, xs, rfl, h1, _, h2⟩ := dq_lst h
    exact .lst (sqL h1) (DqA.dp h2 (by simpa [pureD] using p))
  | .tuple ds, _, h, p => by
    obtain ⟨a, xs, rfl, h1, _, h2⟩ := dq_tup h
    exact .tup (sqT h1) (DqA.dp h2 (by simpa [pureD] using p))
  | .dict es, _, h, p => by simp [pureD] at p
theorem DqA.dp : ∀ {ds : List D} {vs : List V}, DqA K F vs ds → pureA ds = true → DpAll K F vs ds
  | [], _, h, _ => by cases h; exact .nil
  | d :: ds, _, h, p => by
    have p' : pureD d = true ∧ pureA ds = true := by simpa [pureA] using p
    cases h with
    | cons h1 h2 => exact .cons (Dq.dp h1 p'.1) (DqA.dp h2 p'.2)
end
end
/-! ## steps of the heap: F what is told by data, H all -/
structure Stp (F H F' H' : Hp) : Prop where
  e : Ex F F'
  h : Ex H H'
  eh : Ex F' H'
  nw : ∀ b o, F b = none → H b = some o → (∀ xs, o ≠ .tup xs) → F' b = none
theorem Stp.refl {F H : Hp} (e : Ex F H) : Stp F H F H := ⟨.refl _, .refl _, e, fun _ _ h _ _ => h⟩
theorem Stp.trans {F H F1 H1 F2 H2 : Hp} (a : Stp F H F1 H1) (b : Stp F1 H1 F2 H2) : Stp F H F2 H2 := ⟨a.e.trans b.e, a.h.trans b.h, b.eh, fun x o h1 h2 h3 => b.nw x o (a.nw x o h1 h2 h3) (a.h x o h2) h3⟩
theorem ex_none {F H : Hp} (e : Ex F H) {p : Addr} (h : H p = none) : F p = none := by
  cases e1 : F p with
  | none => rfl
  | some o => rw [e p o e1] at h; cases h
theorem Stp.new {F H : Hp} (e : Ex F H) {p : Addr} (o : HO) (h : H p = none) : Stp F H (upd F p o) (upd H p o) := ⟨.new (ex_none e h), .new h, e.both, fun b o h1 h2 _ => by
  rw [upd_ne fun z => by rw [z, h] at h2; cases h2]
  exact h1⟩
/-- new, and not told -/
theorem Stp.newH {F H : Hp} (e : Ex F H) {p : Addr} (o : HO) (h : H p = none) : Stp F H F (upd H p o) := ⟨.refl _, .new h, e.trans (.new h), fun b o h1 _ _ => h1⟩
/-- what is new is told now -/
theorem Stp.tell {F H F' H' : Hp} (s : Stp F H F' H') {p : Addr} {o : HO} (h : H p = none) (h' : H' p = some o) (hF : F' p = none) : Stp F H (upd F' p o) H' := ⟨s.e.trans (.new hF), s.h, fun a u x => by
  by_cases z : a = p
  · subst z
    rw [upd_same] at x
    rw [h', ← x]
  · rw [upd_ne z] at x
    exact s.eh a u x, fun b o h1 h2 h3 => by
  rw [upd_ne fun z => by rw [z, h] at h2; cases h2]
  exact s.nw b o h1 h2 h3⟩
/-! ## slots -/
inductive Sl where
  | non
  | val (d : D)
  | own (d : D)
  /-- an object of one's own with what it owns, cell by cell -/
  | dp (a : Addr) (cs : List (Addr × D))
def KvR (kvs : List (Key × V)) (es : List (D × D)) : Prop := es.map (·.1) = kvs.map (fun p => kD p.1)
def KtR (kvs : List (List Key × V)) (es : List (D × D)) : Prop := es.map (·.1) = kvs.map (fun p => ktD p.1)
/-- a dict's entries -/
def DcW (K : PySem.W.Frag) (F H : Hp) (a : Addr) : Bool → List (D × D) → Prop
  | false, es => ∃ kvs, H a = some (.dK kvs) ∧ KvR kvs es ∧ DqA K F (kvs.map (·.2)) (es.map (·.2))
  | true, es => ∃ kvs, H a = some (.dT kvs) ∧ KtR kvs es ∧ DqA K F (kvs.map (·.2)) (es.map (·.2))
def OwR (K : PySem.W.Frag) (F H : Hp) (a : Addr) : D → Prop
  | .list ds => ∃ xs, H a = some (.lst xs) ∧ ds.length ≤ 1000000 ∧ DqA K F xs ds
  | .dict es => es.length ≤ 1000001 ∧ ((∃ t es2, PyData.dict es = dicD t es2 ∧ DcW K F H a t es2) ∨ ∃ C dx fs c ds, H a = some (.ins C dx fs) ∧ clsAt K c = some C ∧ PyData.dict es = objD c (fs.map (·.1)) ds ∧ DqA K F (fs.map (·.2)) ds)
  | _ => False
theorem DcW.so {K : PySem.W.Frag} {F H : Hp} {a : Addr} {t : Bool} {es : List (D × D)} (h : DcW K F H a t es) : ∃ o, H a = some o ∧ (∀ xs, o ≠ .tup xs) ∧ ∀ C dx fs, o ≠ .ins C dx fs := by
  cases t with
  | false => obtain ⟨xs, e, _⟩ := h; exact ⟨_, e, fun _ z => (nomatch z), fun _ _ _ z => nomatch z⟩
  | true => obtain ⟨xs, e, _⟩ := h; exact ⟨_, e, fun _ z => (nomatch z), fun _ _ _ z => nomatch z⟩
theorem DcW.step {K : PySem.W.Frag} {F H F' H' : Hp} {a : Addr} {t : Bool} {es : List (D × D)} (h : DcW K F H a t es) (e : Ex F F') (g : H' a = H a) : DcW K F' H' a t es := by
  cases t with
  | false => obtain ⟨xs, e1, e2, e3⟩ := h; exact ⟨xs, g.trans e1, e2, e3.ex e⟩
  | true => obtain ⟨xs, e1, e2, e3⟩ := h; exact ⟨xs, g.trans e1, e2, e3.ex e⟩
theorem OwR.so {K : PySem.W.Frag} {F H : Hp} {a : Addr} {d : D} (h : OwR K F H a d) : ∃ o, H a = some o ∧ ∀ xs, o ≠ .tup xs := by
  cases d with
  | list ds => obtain ⟨xs, e, _⟩ := h; exact ⟨_, e, fun _ z => nomatch z⟩
  | dict es =>
    obtain ⟨_, ⟨t, es2, _, h⟩ | ⟨C, dx, fs, c, ds, e, _⟩⟩ := h
    · obtain ⟨o, h1, h2, _⟩ := h.so
      exact ⟨o, h1, h2⟩
    · exact ⟨_, e, fun _ z => nomatch z⟩
  | _ => exact h.elim
theorem OwR.nn {K : PySem.W.Frag} {F H : Hp} {a : Addr} {d : D} (h : OwR K F H a d) : H a ≠ none := by
  obtain ⟨o, e, _⟩ := h.so
  rw [e]
  exact fun z => nomatch z
theorem OwR.step {K : PySem.W.Frag} {F H F' H' : Hp} {a : Addr} {d : D} (h : OwR K F H a d) (e : Ex F F') (g : H' a = H a) : OwR K F' H' a d := by
  cases d with
  | list ds => obtain ⟨xs, e1, e2, e3⟩ := h; exact ⟨xs, g.trans e1, e2, e3.ex e⟩
  | dict es =>
    obtain ⟨l, ⟨t, es2, e1, e2⟩ | ⟨C, dx, fs, c, ds, e1, e2, e3, e4⟩⟩ := h
    · exact ⟨l, .inl ⟨t, es2, e1, e2.step e g⟩⟩
    · exact ⟨l, .inr ⟨C, dx, fs, c, ds, g.trans e1, e2, e3, e4.ex e⟩⟩
  | _ => exact h.elim
def SlotR (K : PySem.W.Frag) (H0 F H : Hp) (ov : Option V) : Sl → Prop
  | .non => True
  | .val d => ∃ v, ov = some v ∧ Dq K F v d
  | .own d => ∃ a, ov = some (.ref a) ∧ F a = none ∧ H0 a = none ∧ OwR K F H a d
  | .dp a cs => ov = some (.ref a) ∧ (cs.map (·.1)).Nodup ∧ ∀ p ∈ cs, F p.1 = none ∧ H0 p.1 = none ∧ OwR K F H p.1 p.2
/-- what one slot owns, another does not -/
def ApD (σ : L2.St) (δ : List Sl) : Prop := (∀ (i j : Nat) (a b : Addr) (cs es : List (Addr × D)), δ[i]? = some (.dp a cs) → δ[j]? = some (.dp b es) → i ≠ j → ∀ p ∈ cs, ∀ q ∈ es, p.1 ≠ q.1) ∧
  ∀ (i j : Nat) (a : Addr) (cs : List (Addr × D)) (d : D), δ[i]? = some (.dp a cs) → δ[j]? = some (.own d) → ∀ p ∈ cs, σ[j]? ≠ some (some (.ref p.1))
theorem apd_none {σ : L2.St} {δ : List Sl} (h : ∀ (i : Nat) (a : Addr) (cs : List (Addr × D)), δ[i]? ≠ some (.dp a cs)) : ApD σ δ := ⟨fun i _ a _ cs _ h1 => absurd h1 (h i a cs), fun i _ a cs _ h1 => absurd h1 (h i a cs)⟩
theorem no_dp {ds : List D} {n i : Nat} {a : Addr} {cs : List (Addr × D)} : (ds.map Sl.val ++ List.replicate n Sl.non)[i]? ≠ some (.dp a cs) := fun h => by
  rcases List.mem_append.mp (List.mem_of_getElem? h) with hm | hm
  · obtain ⟨_, _, z⟩ := List.mem_map.mp hm
    cases z
  · cases (List.mem_replicate.mp hm).2
/-- a slot that owns nothing now -/
theorem ApD.set {σ : L2.St} {δ : List Sl} (h : ApD σ δ) (i : Nat) (v : Option V) {s : Sl} (hs : s = .non ∨ ∃ d, s = .val d) : ApD (σ.set i v) (δ.set i s) := by
  have old : ∀ (j : Nat) (t : Sl), (δ.set i s)[j]? = some t → (∀ d, t ≠ .val d) → t ≠ .non → i ≠ j ∧ δ[j]? = some t := fun j t hj h1 h2 => by
    by_cases z : i = j
    · subst z
      have hl : i < δ.length := by
        have := (List.getElem?_eq_some_iff.mp hj).1
        rwa [List.length_set] at this
      rw [List.getElem?_set_self hl] at hj
      cases hj
      rcases hs with e | ⟨d, e⟩
      · exact absurd e h2
      · exact absurd e (h1 d)
    · rw [List.getElem?_set_ne z] at hj
      exact ⟨z, hj⟩
  refine ⟨fun j k a b cs es h1 h2 => ?_, fun j k a cs d h1 h2 p hp => ?_⟩
  · exact h.1 j k a b cs es (old _ _ h1 (fun _ z => nomatch z) fun z => nomatch z).2 (old _ _ h2 (fun _ z => nomatch z) fun z => nomatch z).2
  · obtain ⟨z, g⟩ := old _ _ h2 (fun _ z => nomatch z) fun z => nomatch z
    rw [List.getElem?_set_ne z]
    exact h.2 j k a cs d (old _ _ h1 (fun _ z => nomatch z) fun z => nomatch z).2 g p hp
structure Rl (K : PySem.W.Frag) (H0 F H : Hp) (σ : L2.St) (δ : List Sl) : Prop where
  ex : Ex F H
  len : σ.length = δ.length
  at' : ∀ (i : Nat) (s : Sl), δ[i]? = some s → ∃ ov, σ[i]? = some ov ∧ SlotR K H0 F H ov s
  apart : ∀ (i j : Nat) (a : Addr) (d e : D), δ[i]? = some (.own d) → δ[j]? = some (.own e) → σ[i]? = some (some (.ref a)) → σ[j]? = some (some (.ref a)) → i = j
  apd : ApD σ δ
section
variable {K : PySem.W.Frag} {H0 F H F' H' : Hp} {σ : L2.St} {δ : List Sl}
theorem Rl.step (r : Rl K H0 F H σ δ) (s : Stp F H F' H') : Rl K H0 F' H' σ δ := by
  refine ⟨s.eh, r.len, fun i sl h => ?_, r.apart, r.apd⟩
  obtain ⟨ov, h1, h2⟩ := r.at' i sl h
  refine ⟨ov, h1, ?_⟩
  cases sl with
  | non => trivial
  | val d => obtain ⟨v, e, q⟩ := h2; exact ⟨v, e, q.ex s.e⟩
  | own d =>
    obtain ⟨a, e, q1, q2, q3⟩ := h2
    obtain ⟨o, ho, hn⟩ := q3.so
    exact ⟨a, e, s.nw a o q1 ho hn, q2, q3.step s.e (by rw [ho]; exact s.h a o ho)⟩
  | dp a cs =>
    obtain ⟨e, nd, hc⟩ := h2
    refine ⟨e, nd, fun p hp => ?_⟩
    obtain ⟨q1, q2, q3⟩ := hc p hp
    obtain ⟨o, ho, hn⟩ := q3.so
    exact ⟨s.nw p.1 o q1 ho hn, q2, q3.step s.e (by rw [ho]; exact s.h p.1 o ho)⟩
theorem Rl.val (r : Rl K H0 F H σ δ) {i : Nat} {d : D} (h : δ[i]? = some (.val d)) : ∃ v, σ[i]? = some (some v) ∧ Dq K F v d := by
  obtain ⟨ov, h1, v, e, q⟩ := r.at' i _ h
  subst e
  exact ⟨v, h1, q⟩
theorem Rl.own (r : Rl K H0 F H σ δ) {i : Nat} {d : D} (h : δ[i]? = some (.own d)) : ∃ a, σ[i]? = some (some (.ref a)) ∧ F a = none ∧ H0 a = none ∧ OwR K F H a d := by
  obtain ⟨ov, h1, v, e, q⟩ := r.at' i _ h
  subst e
  exact ⟨v, h1, q⟩
theorem Rl.set (r : Rl K H0 F H σ δ) (i : Nat) {v : V} {d : D} (h : Dq K F v d) : Rl K H0 F H (σ.set i (some v)) (δ.set i (.val d)) := by
  refine ⟨r.ex, by rw [List.length_set, List.length_set, r.len], fun j s hj => ?_, fun j k a d e h1 h2 h3 h4 => ?_, r.apd.set i _ (.inr ⟨_, rfl⟩)⟩
  · by_cases z : i = j
    · subst z
      have hl : i < δ.length := by
        have := (List.getElem?_eq_some_iff.mp hj).1
        rwa [List.length_set] at this
      rw [List.getElem?_set_self hl] at hj
      cases hj
      exact ⟨_, List.getElem?_set_self (by rw [r.len]; exact hl), v, rfl, h⟩
    · rw [List.getElem?_set_ne z] at hj ⊢
      exact r.at' j s hj
  · have ne : ∀ {j : Nat} {d : D}, (δ.set i (.val d))[j]? = some (.own d) → False ∨ True := fun _ => .inr trivial
    by_cases z1 : i = j
    · subst z1
      have hl : i < δ.length := by
        have := (List.getElem?_eq_some_iff.mp h1).1
        rwa [List.length_set] at this
      rw [List.getElem?_set_self hl] at h1
      cases h1
    · by_cases z2 : i = k
      · subst z2
        have hl : i < δ.length := by
          have := (List.getElem?_eq_some_iff.mp h2).1
          rwa [List.length_set] at this
        rw [List.getElem?_set_self hl] at h2
        cases h2
      · rw [List.getElem?_set_ne z1] at h1 h3
        rw [List.getElem?_set_ne z2] at h2 h4
        exact r.apart j k a d e h1 h2 h3 h4
/-- a slot told less -/
theorem Rl.forget (r : Rl K H0 F H σ δ) (i : Nat) (ov : Option V) : Rl K H0 F H (σ.set i ov) (δ.set i .non) := by
  refine ⟨r.ex, by rw [List.length_set, List.length_set, r.len], fun j s hj => ?_, fun j k a d e h1 h2 h3 h4 => ?_, r.apd.set i _ (.inl rfl)⟩
  · by_cases z : i = j
    · subst z
      have hl : i < δ.length := by
        have := (List.getElem?_eq_some_iff.mp hj).1
        rwa [List.length_set] at this
      rw [List.getElem?_set_self hl] at hj
      cases hj
      exact ⟨_, List.getElem?_set_self (by rw [r.len]; exact hl), trivial⟩
    · rw [List.getElem?_set_ne z] at hj ⊢
      exact r.at' j s hj
  · by_cases z1 : i = j
    · subst z1
      have hl : i < δ.length := by
        have := (List.getElem?_eq_some_iff.mp h1).1
        rwa [List.length_set] at this
      rw [List.getElem?_set_self hl] at h1
      cases h1
    · by_cases z2 : i = k
      · subst z2
        have hl : i < δ.length := by
          have := (List.getElem?_eq_some_iff.mp h2).1
          rwa [List.length_set] at this
        rw [List.getElem?_set_self hl] at h2
        cases h2
      · rw [List.getElem?_set_ne z1] at h1 h3
        rw [List.getElem?_set_ne z2] at h2 h4
        exact r.apart j k a d e h1 h2 h3 h4
/-- a slot gets an object of its own -/
theorem Rl.setOwn (r : Rl K H0 F H σ δ) (i : Nat) {a : Addr} {d : D} (hF : F a = none) (h0 : H0 a = none) (ho : OwR K F H a d) (hap : ∀ j e, j ≠ i → δ[j]? = some (.own e) → σ[j]? ≠ some (some (.ref a))) (hapd : ∀ j b cs, j ≠ i → δ[j]? = some (.dp b cs) → ∀ p ∈ cs, p.1 ≠ a) : Rl K H0 F H (σ.set i (some (.ref a))) (δ.set i (.own d)) := by
  refine ⟨r.ex, by rw [List.length_set, List.length_set, r.len], fun j s hj => ?_, fun j k b d e h1 h2 h3 h4 => ?_, ?_⟩
  · by_cases z : i = j
    · subst z
      have hl : i < δ.length := by
        have := (List.getElem?_eq_some_iff.mp hj).1
        rwa [List.length_set] at this
      rw [List.getElem?_set_self hl] at hj
      cases hj
      exact ⟨_, List.getElem?_set_self (by rw [r.len]; exact hl), a, rfl, hF, h0, ho⟩
    · rw [List.getElem?_set_ne z] at hj ⊢
      exact r.at' j s hj
  · by_cases z1 : i = j
    · by_cases z2 : i = k
      · omega
      · subst z1
        have hl : i < σ.length := by
          have := (List.getElem?_eq_some_iff.mp h3).1
          rwa [List.length_set] at this
        rw [List.getElem?_set_self hl] at h3
        cases h3
        rw [List.getElem?_set_ne z2] at h2 h4
        exact absurd h4 (hap k _ (Ne.symm z2) h2)
    · by_cases z2 : i = k
      · subst z2
        have hl : i < σ.length := by
          have := (List.getElem?_eq_some_iff.mp h4).1
          rwa [List.length_set] at this
        rw [List.getElem?_set_self hl] at h4
        cases h4
        rw [List.getElem?_set_ne z1] at h1 h3
        exact absurd h3 (hap j _ (Ne.symm z1) h1)
      · rw [List.getElem?_set_ne z1] at h1 h3
        rw [List.getElem?_set_ne z2] at h2 h4
        exact r.apart j k b d e h1 h2 h3 h4
  · have old : ∀ (j : Nat) (t : Sl), (δ.set i (.own d))[j]? = some t → (i = j ∧ t = .own d ∧ i < σ.length) ∨ (i ≠ j ∧ δ[j]? = some t) := fun j t hj => by
      by_cases z : i = j
      · subst z
        have hl : i < δ.length := by
          have := (List.getElem?_eq_some_iff.mp hj).1
          rwa [List.length_set] at this
        rw [List.getElem?_set_self hl] at hj
        cases hj
        exact .inl ⟨rfl, rfl, by rw [r.len]; exact hl⟩
      · rw [List.getElem?_set_ne z] at hj
        exact .inr ⟨z, hj⟩
    refine ⟨fun j k b c cs es h1 h2 => ?_, fun j k b cs e h1 h2 p hp => ?_⟩
    · rcases old _ _ h1 with ⟨_, z, _⟩ | ⟨z1, g1⟩
      · cases z
      · rcases old _ _ h2 with ⟨_, z, _⟩ | ⟨z2, g2⟩
        · cases z
        · exact r.apd.1 j k b c cs es g1 g2
    · rcases old _ _ h1 with ⟨_, z, _⟩ | ⟨z1, g1⟩
      · cases z
      · rcases old _ _ h2 with ⟨z2, _, hl⟩ | ⟨z2, g2⟩
        · subst z2
          rw [List.getElem?_set_self hl]
          intro z
          cases z
          exact hapd j b cs (Ne.symm z1) g1 p hp rfl
        · rw [List.getElem?_set_ne z2]
          exact r.apd.2 j k b cs e g1 g2 p hp
/-- a slot gets an object of its own, with what it owns -/
theorem Rl.setDp (r : Rl K H0 F H σ δ) (i : Nat) {a : Addr} {cs : List (Addr × D)} (nd : (cs.map (·.1)).Nodup) (hc : ∀ p ∈ cs, F p.1 = none ∧ H0 p.1 = none ∧ OwR K F H p.1 p.2) (hap : ∀ j e, j ≠ i → δ[j]? = some (.own e) → ∀ p ∈ cs, σ[j]? ≠ some (some (.ref p.1))) (hapd : ∀ j b es, j ≠ i → δ[j]? = some (.dp b es) → ∀ p ∈ cs, ∀ q ∈ es, p.1 ≠ q.1) : Rl K H0 F H (σ.set i (some (.ref a))) (δ.set i (.dp a cs)) := by
  have old : ∀ (j : Nat) (t : Sl), (δ.set i (.dp a cs))[j]? = some t → (i = j ∧ t = .dp a cs ∧ i < σ.length) ∨ (i ≠ j ∧ δ[j]? = some t) := fun j t hj => by
    by_cases z : i = j
    · subst z
      have hl : i < δ.length := by
        have := (List.getElem?_eq_some_iff.mp hj).1
        rwa [List.length_set] at this
      rw [List.getElem?_set_self hl] at hj
      cases hj
      exact .inl ⟨rfl, rfl, by rw [r.len]; exact hl⟩
    · rw [List.getElem?_set_ne z] at hj
      exact .inr ⟨z, hj⟩
  refine ⟨r.ex, by rw [List.length_set, List.length_set, r.len], fun j s hj => ?_, fun j k b d e h1 h2 h3 h4 => ?_, fun j k b c ds es h1 h2 n => ?_, fun j k b ds e h1 h2 p hp => ?_⟩
  · rcases old _ _ hj with ⟨rfl, rfl, hl⟩ | ⟨z, g⟩
    · exact ⟨_, List.getElem?_set_self hl, rfl, nd, hc⟩
    · rw [List.getElem?_set_ne z]
      exact r.at' j s g
  · rcases old _ _ h1 with ⟨_, z, _⟩ | ⟨z1, g1⟩
    · cases z
    · rcases old _ _ h2 with ⟨_, z, _⟩ | ⟨z2, g2⟩
      · cases z
      · rw [List.getElem?_set_ne z1] at h3
        rw [List.getElem?_set_ne z2] at h4
        exact r.apart j k b d e g1 g2 h3 h4
  · rcases old _ _ h1 with ⟨z1, e1, _⟩ | ⟨z1, g1⟩
    · cases e1
      rcases old _ _ h2 with ⟨z2, _, _⟩ | ⟨z2, g2⟩
      · omega
      · exact hapd k c es (Ne.symm z2) g2
    · rcases old _ _ h2 with ⟨z2, e2, _⟩ | ⟨z2, g2⟩
      · cases e2
        exact fun p hp q hq z => hapd j b ds (Ne.symm z1) g1 q hq p hp z.symm
      · exact r.apd.1 j k b c ds es g1 g2 n
  · rcases old _ _ h2 with ⟨_, z, _⟩ | ⟨z2, g2⟩
    · cases z
    · rw [List.getElem?_set_ne z2]
      rcases old _ _ h1 with ⟨z1, e1, _⟩ | ⟨z1, g1⟩
      · cases e1
        exact hap k e (Ne.symm z2) g2 p hp
      · exact r.apd.2 j k b ds e g1 g2 p hp
/-- an owned object is written -/
theorem Rl.mut (r : Rl K H0 F H σ δ) {i : Nat} {a : Addr} {d d' : D} {o : HO} (hi : δ[i]? = some (.own d)) (ha : σ[i]? = some (some (.ref a))) (ho : ∀ G : Hp, G a = some o → OwR K F G a d') : Rl K H0 F (upd H a o) σ (δ.set i (.own d')) := by
  obtain ⟨a', h1, hF, h0, hw⟩ := r.own hi
  rw [ha] at h1
  cases h1
  have get : ∀ {j : Nat} {d : D}, (δ.set i (.own d'))[j]? = some (.own d) → ∃ d, δ[j]? = some (.own d) := fun {j d} hj => by
    by_cases z : i = j
    · exact ⟨_, z ▸ hi⟩
    · rw [List.getElem?_set_ne z] at hj
      exact ⟨_, hj⟩
  have getd : ∀ {j : Nat} {b : Addr} {cs : List (Addr × D)}, (δ.set i (.own d'))[j]? = some (.dp b cs) → δ[j]? = some (.dp b cs) := fun {j b cs} hj => by
    by_cases z : i = j
    · subst z
      have hl : i < δ.length := by
        have := (List.getElem?_eq_some_iff.mp hj).1
        rwa [List.length_set] at this
      rw [List.getElem?_set_self hl] at hj
      cases hj
    · rw [List.getElem?_set_ne z] at hj
      exact hj
  refine ⟨fun b u hb => ?_, by rw [List.length_set, r.len], fun j s hj => ?_, fun j k b d e h1 h2 h3 h4 => ?_, fun j k b c cs es h1 h2 => r.apd.1 j k b c cs es (getd h1) (getd h2), fun j k b cs e h1 h2 => by
    obtain ⟨d2, g2⟩ := get h2
    exact r.apd.2 j k b cs d2 (getd h1) g2⟩
  · rw [upd_ne fun z => by rw [z, hF] at hb; cases hb]
    exact r.ex b u hb
  · by_cases z : i = j
    · subst z
      have hl : i < δ.length := by
        have := (List.getElem?_eq_some_iff.mp hj).1
        rwa [List.length_set] at this
      rw [List.getElem?_set_self hl] at hj
      cases hj
      exact ⟨_, ha, a, rfl, hF, h0, ho _ upd_same⟩
    · rw [List.getElem?_set_ne z] at hj
      obtain ⟨ov, g1, g2⟩ := r.at' j s hj
      refine ⟨ov, g1, ?_⟩
      cases s with
      | non => trivial
      | val d => exact g2
      | own d =>
        obtain ⟨b, e, q1, q2, q3⟩ := g2
        refine ⟨b, e, q1, q2, q3.step (.refl _) (upd_ne fun zz => ?_)⟩
        subst zz
        exact z (r.apart i j b _ _ hi hj ha (by rw [g1, e]))
      | dp b cs =>
        obtain ⟨e, nd, hc⟩ := g2
        refine ⟨e, nd, fun p hp => ?_⟩
        obtain ⟨q1, q2, q3⟩ := hc p hp
        refine ⟨q1, q2, q3.step (.refl _) (upd_ne fun zz => ?_)⟩
        exact r.apd.2 j i b cs _ hj hi p hp (by rw [zz]; exact ha)
  · obtain ⟨d1, g1⟩ := get h1
    obtain ⟨d2, g2⟩ := get h2
    exact r.apart j k b d1 d2 g1 g2 h3 h4
end
end TH

namespace TH
open PySem PySem.Spec PyProof.Rows L2
/-! ## an error told by data: the class's name, the fields -/
structure XD where
  c : String
  fs : List (Str × D)
def clsV (K : PySem.W.Frag) (c : String) : Value := match clsAt K (Str.ofString c) with
  | some C => .ref C
  | none => .type c
def Xq (K : PySem.W.Frag) (F H : Hp) (cv : Value) (od : Option Addr) (x : XD) : Prop := cv = clsV K x.c ∧ match od with
  | none => x.fs = []
  | some d => x.fs ≠ [] ∧ ∃ fs, F d = some (.xd fs) ∧ fs.map (·.1) = x.fs.map (·.1) ∧ DqA K F (fs.map (·.2)) (x.fs.map (·.2))
abbrev EV := List Sl → (D → Prop) → (XD → Prop) → Prop
abbrev LV := List Sl → (List D → Prop) → (XD → Prop) → Prop
abbrev TV := List Sl → (Bool → Prop) → (XD → Prop) → Prop
def W0 : WX := fun _ _ _ _ => False
def XO (K : PySem.W.Frag) (W : WX) (kx : XD → Prop) (F H : Hp) (σ : L2.St) : Prop := ∀ c od x F' H', kx x → Stp F H F' H' → Xq K F' H' c od x → W c od σ H'
theorem XO.step {K : PySem.W.Frag} {W : WX} {kx : XD → Prop} {F H F' H' : Hp} {σ : L2.St} (h : XO K W kx F H σ) (s : Stp F H F' H') : XO K W kx F' H' σ := fun c od x F2 H2 a b d => h c od x F2 H2 a (s.trans b) d
theorem XO.no {K : PySem.W.Frag} {W : WX} {F H : Hp} {σ : L2.St} : XO K W (fun _ => False) F H σ := fun _ _ _ _ _ a => a.elim
/-! ## the readings -/
section
variable (K : PySem.W.Frag) (W : WX)
def tE (f : EV) : TE := fun σ H Q => ∃ H0 F δ k kx, Rl K H0 F H σ δ ∧ f δ k kx ∧ XO K W kx F H σ ∧ ∀ v d F' H', k d → Stp F H F' H' → Dq K F' v d → Q v H'
/-- a list, looked at -/
def tL (f : LV) : TE := fun σ H Q => ∃ H0 F δ k kx, Rl K H0 F H σ δ ∧ f δ k kx ∧ XO K W kx F H σ ∧ ∀ a xs ds F' H', k ds → Stp F H F' H' → H' a = some (.lst xs) → ds.length ≤ 1000000 → DqA K F' xs ds → Q (.ref a) H'
/-- a new list -/
def tF (f : LV) : TE := fun σ H Q => ∃ H0 F δ k kx, Rl K H0 F H σ δ ∧ f δ k kx ∧ XO K W kx F H σ ∧ ∀ a xs ds F' H', k ds → Stp F H F' H' → H a = none → F' a = none → H' a = some (.lst xs) → ds.length ≤ 1000000 → DqA K F' xs ds → Q (.ref a) H'
def tAs (f : LV) : TA := fun σ H Q => ∃ H0 F δ k kx, Rl K H0 F H σ δ ∧ f δ k kx ∧ XO K W kx F H σ ∧ ∀ vs ds F' H', k ds → Stp F H F' H' → DqA K F' vs ds → Q vs H'
def tTt (f : TV) : TT := fun σ H Q => ∃ H0 F δ k kx, Rl K H0 F H σ δ ∧ f δ k kx ∧ XO K W kx F H σ ∧ ∀ b F' H', k b → Stp F H F' H' → Q b H'
/-- a part of a slice -/
def tP (f : List Sl → (Option Int → Prop) → (XD → Prop) → Prop) : TO := fun σ H Q => ∃ H0 F δ k kx, Rl K H0 F H σ δ ∧ f δ k kx ∧ XO K W kx F H σ ∧ ∀ o F' H', k o → Stp F H F' H' → Q o H'
end
abbrev PV := List Sl → (Option Int → Prop) → (XD → Prop) → Prop
abbrev QE (X : Cx) (K : PySem.W.Frag) (W : WX) (e : Expr) (f : EV) : Prop := PE X e (tE K W f)
abbrev QL (X : Cx) (K : PySem.W.Frag) (W : WX) (e : Expr) (f : LV) : Prop := PE X e (tL K W f)
abbrev QF (X : Cx) (K : PySem.W.Frag) (W : WX) (e : Expr) (f : LV) : Prop := PE X e (tF K W f)
abbrev QA (X : Cx) (K : PySem.W.Frag) (W : WX) (es : List Expr) (f : LV) : Prop := PA X es (tAs K W f)
abbrev QT (X : Cx) (K : PySem.W.Frag) (W : WX) (e : Expr) (f : TV) : Prop := PT X e (tTt K W f)
abbrev QW (X : Cx) (K : PySem.W.Frag) (W : WX) (e : Expr) (f : TV) : Prop := PW X e (tTt K W f)
abbrev QP (X : Cx) (K : PySem.W.Frag) (W : WX) (e : Option Expr) (f : PV) : Prop := PO X e (tP K W f)
section
variable {X : Cx} {e : Expr} {es : List Expr}
theorem pe_mono {t t' : TE} (h : PE X e t) (m : ∀ σ H Q, t' σ H Q → t σ H Q) : PE X e t' := ⟨fun pins s σ H Q I q => h.run pins s σ H Q I (m σ H Q q)⟩
theorem pt_mono {t t' : TT} (h : PT X e t) (m : ∀ σ H Q, t' σ H Q → t σ H Q) : PT X e t' := ⟨fun pins s σ H Q I q => h.run pins s σ H Q I (m σ H Q q)⟩
theorem pw_mono {t t' : TT} (h : PW X e t) (m : ∀ σ H Q, t' σ H Q → t σ H Q) : PW X e t' := ⟨fun wh pins s σ H Q I q => h.run wh pins s σ H Q I (m σ H Q q)⟩
theorem pa_mono {t t' : TA} (h : PA X es t) (m : ∀ σ H Q, t' σ H Q → t σ H Q) : PA X es t' := ⟨fun pos pins s σ H Q I q => h.run pos pins s σ H Q I (m σ H Q q)⟩
theorem po_mono {oe : Option Expr} {t t' : TO} (h : PO X oe t) (m : ∀ σ H Q, t' σ H Q → t σ H Q) : PO X oe t' := ⟨fun pins s σ H Q I q => h.run pins s σ H Q I (m σ H Q q)⟩
end
/-! ## what expressions make -/
def eV (i : Nat) : EV := fun δ k _ => ∃ d, δ[i]? = some (.val d) ∧ k d
def eC (d : D) : EV := fun _ k _ => k d
def lO (i : Nat) : LV := fun δ k _ => ∃ ds, δ[i]? = some (.own (.list ds)) ∧ k ds
def lL (f : EV) : LV := fun δ k kx => f δ (fun d => ∃ ds, d = .list ds ∧ k ds) kx
def lT (f : EV) : LV := fun δ k kx => f δ (fun d => ∃ ds, d = .tuple ds ∧ k ds) kx
def eL (f : LV) : EV := fun δ k kx => f δ (fun ds => k (.list ds)) kx
def e2 (g : D → D → (D → Prop) → Prop) (a b : EV) : EV := fun δ k kx => a δ (fun x => b δ (fun y => g x y k) kx) kx
def e1 (g : D → (D → Prop) → Prop) (a : EV) : EV := fun δ k kx => a δ (fun x => g x k) kx
section
variable {X : Cx} {K : PySem.W.Frag} {W : WX} {e a b : Expr} {es : List Expr} {f fa fb fc : EV} {l la lb : LV} {pos : Pos}
theorem qe_var {i : Nat} (h : PE X e (tVar i)) : QE X K W e (eV i) := pe_mono h fun σ H Q ⟨H0, F, δ, k, kx, r, ⟨d, hd, hk⟩, _, q⟩ => by
  obtain ⟨v, e, hv⟩ := r.val hd
  exact ⟨v, e, q v d F H hk (.refl r.ex) hv⟩
theorem qe_c {v : V} {d : D} (h : PE X e (tC v)) (hd : ∀ F, Dq K F v d) : QE X K W e (eC d) := pe_mono h fun σ H Q ⟨H0, F, δ, k, kx, r, hk, _, q⟩ => q v d F H hk (.refl r.ex) (hd F)
theorem qe_int {i : Int} (h : PE X e (tC (.int i))) : QE X K W e (eC (.int i)) := qe_c h fun _ => .int i
theorem qe_str {i : Str} (h : PE X e (tC (.str i))) : QE X K W e (eC (.str i)) := qe_c h fun _ => .str i
theorem qe_bl {i : Bool} (h : PE X e (tC (.bl i))) : QE X K W e (eC (.bool i)) := qe_c h fun _ => .bl i
theorem qe_non (h : PE X e (tC .non)) : QE X K W e (eC .none) := qe_c h fun _ => .non
theorem ql_val (h : QE X K W e f) : QL X K W e (lL f) := pe_mono h fun σ H Q ⟨H0, F, δ, k, kx, r, hf, hx, q⟩ => ⟨H0, F, δ, _, kx, r, hf, hx, fun v d F' H' ⟨ds, e, hk⟩ s hv => by
  subst e
  obtain ⟨a, xs, rfl, h1, h2, h3⟩ := dq_lst hv
  exact q a xs ds F' H' hk s (s.eh _ _ h1) h2 h3⟩
theorem ql_new (h : QF X K W e l) : QL X K W e l := pe_mono h fun σ H Q ⟨H0, F, δ, k, kx, r, hf, hx, q⟩ => ⟨H0, F, δ, k, kx, r, hf, hx, fun a xs ds F' H' hk s _ _ h1 h2 h3 => q a xs ds F' H' hk s h1 h2 h3⟩
theorem qe_new (h : QF X K W e l) : QE X K W e (eL l) := pe_mono h fun σ H Q ⟨H0, F, δ, k, kx, r, hf, hx, q⟩ => ⟨H0, F, δ, _, kx, r, hf, hx, fun a xs ds F' H' hk s hn hF h1 h2 h3 =>
  q (.ref a) _ _ H' hk (s.tell hn h1 hF) (.lst upd_same h2 (h3.ex (.new hF)))⟩
/-! ### of two things -/
def OpD (K : PySem.W.Frag) (r : R2) (g : D → D → (D → Prop) → Prop) : Prop := ∀ (F H : Hp) (x y : V) (dx dy : D) (Q : VK) (k : D → Prop), Ex F H → Dq K F x dx → Dq K F y dy → g dx dy k → (∀ v d F' H', k d → Stp F H F' H' → Dq K F' v d → Q v H') → r x y H Q
theorem two {r : R2} {g : D → D → (D → Prop) → Prop} (o : OpD K r g) {σ : L2.St} {H : Hp} {Q : VK} (h : tE K W (e2 g fa fb) σ H Q) : tOp r (tE K W fa) (tE K W fb) σ H Q := by
  obtain ⟨H0, F, δ, k, kx, rl, hf, hx, q⟩ := h
  exact ⟨H0, F, δ, _, kx, rl, hf, hx, fun v d F1 H1 hb s1 q1 => ⟨H0, F1, δ, _, kx, rl.step s1, hb, hx.step s1, fun w d2 F2 H2 hg s2 q2 =>
    o F2 H2 v w d d2 Q k s2.eh (q1.ex s2.e) q2 hg fun u d3 F3 H3 hk s3 q3 => q u d3 F3 H3 hk ((s1.trans s2).trans s3) q3⟩⟩
theorem qe_op {op : Operator} {r : R2} {g : D → D → (D → Prop) → Prop} (ho : OpR X (binaryOp op) r) (o : OpD K r g) (ha : QE X K W a fa) (hb : QE X K W b fb) : QE X K W (.BinOp a op b pos) (e2 g fa fb) :=
  pe_mono (pe_op ho ha hb) fun _ _ _ h => two o h
theorem qe_cmp {op : CmpOp} {r : R2} {g : D → D → (D → Prop) → Prop} (ho : OpR X (compareOp op) r) (o : OpD K r g) (ha : QE X K W a fa) (hb : QE X K W b fb) (hm : behindInMarks op b = false) : QE X K W (.Compare a [op] [b] pos) (e2 g fa fb) :=
  pe_mono (pe_cmpR ho ha hb hm) fun _ _ _ h => two o h
def tB (f : EV) : TV := fun δ k kx => f δ (fun d => ∃ b, d = .bool b ∧ k b) kx
theorem qt_cmp {op : CmpOp} {r : R2} {g : D → D → (D → Prop) → Prop} (ho : OpR X (compareOp op) r) (o : OpD K r g) (ha : QE X K W a fa) (hb : QE X K W b fb) (hm : behindInMarks op b = false) : QT X K W (.Compare a [op] [b] pos) (tB (e2 g fa fb)) :=
  pt_mono (pt_cmpR ho ha hb hm) fun σ H Q ⟨H0, F, δ, k, kx, rl, hf, hx, q⟩ => two o ⟨H0, F, δ, _, kx, rl, hf, hx, fun v d F' H' ⟨b, e, hk⟩ s hv => by
    subst e
    exact ⟨b, dq_bool hv, q b F' H' hk s⟩⟩
def gI (g : Int → Int → D) : D → D → (D → Prop) → Prop := fun x y k => ∃ i j, x = .int i ∧ y = .int j ∧ k (g i j)
def gIc (C : Int → Int → Prop) (g : Int → Int → D) : D → D → (D → Prop) → Prop := fun x y k => ∃ i j, x = .int i ∧ y = .int j ∧ C i j ∧ k (g i j)
theorem oI {g : Int → Int → V} {g' : Int → Int → D} (h : ∀ F i j, Dq K F (g i j) (g' i j)) : OpD K (rI0 g) (gI g') := fun F H x y dx dy Q k ex hx hy ⟨i, j, e1, e2, hk⟩ q => by
  subst e1 e2
  exact ⟨i, j, dq_int hx, dq_int hy, q _ _ F H hk (.refl ex) (h F i j)⟩
theorem oIc {C C' : Int → Int → Prop} {g : Int → Int → V} {g' : Int → Int → D} (hC : ∀ i j, C' i j → C i j) (h : ∀ F i j, Dq K F (g i j) (g' i j)) : OpD K (rI C g) (gIc C' g') := fun F H x y dx dy Q k ex hx hy ⟨i, j, e1, e2, hc, hk⟩ q => by
  subst e1 e2
  exact ⟨i, j, dq_int hx, dq_int hy, hC i j hc, q _ _ F H hk (.refl ex) (h F i j)⟩
abbrev gAdd := gI fun i j => .int (i + j)
abbrev gMinus := gI fun i j => .int (i - j)
abbrev gMul := gIc CMul fun i j => .int (i * j)
abbrev gDiv := gIc CDiv fun i j => .int (i / j)
abbrev gMod := gIc (fun _ j => 0 < j) fun i j => .int (i % j)
abbrev gPow := gIc CPow fun i j => .int (i ^ j.toNat)
abbrev gLt := gI fun i j => .bool (decide (i < j))
abbrev gLe := gI fun i j => .bool (decide (i ≤ j))
abbrev gGt := gI fun i j => .bool (decide (j < i))
abbrev gGe := gI fun i j => .bool (decide (j ≤ i))
theorem oAdd : OpD K (rI0 fun i j => .int (i + j)) gAdd := oI fun _ _ _ => .int _
theorem oSub : OpD K (rI0 fun i j => .int (i - j)) gMinus := oI fun _ _ _ => .int _
theorem oMul : OpD K (rI CMul fun i j => .int (i * j)) gMul := oIc (fun _ _ h => h) fun _ _ _ => .int _
theorem oDiv : OpD K (rI CDiv fun i j => .int (i / j)) gDiv := oIc (fun _ _ h => h) fun _ _ _ => .int _
theorem oMod : OpD K (rI (fun _ j => 0 < j) fun i j => .int (i % j)) gMod := oIc (fun _ _ h => h) fun _ _ _ => .int _
theorem oPow : OpD K (rI CPow fun i j => .int (i ^ j.toNat)) gPow := oIc (fun _ _ h => h) fun _ _ _ => .int _
theorem oLt : OpD K (rI0 fun i j => .bl (decide (i < j))) gLt := oI fun _ _ _ => .bl _
theorem oLe : OpD K (rI0 fun i j => .bl (decide (i ≤ j))) gLe := oI fun _ _ _ => .bl _
theorem oGt : OpD K (rI0 fun i j => .bl (decide (j < i))) gGt := oI fun _ _ _ => .bl _
/-! data compared -/
def gEq (neg : Bool) : D → D → (D → Prop) → Prop := fun x y k => pureD x = true ∧ pureD y = true ∧ SeqAt.shaped x = true ∧ SeqAt.shaped y = true ∧ k (.bool (PyData.eqv x y != neg))
theorem oEqD : OpD K (rEqD K) (gEq false) := fun F H x y dx dy Q k ex hx hy ⟨p1, p2, s1, s2, hk⟩ q => ⟨dx, dy, ex.dp (hx.dp p1), ex.dp (hy.dp p2), s1, s2, by
  have := q _ _ F H hk (.refl ex) (.bl _)
  simpa using this⟩
theorem oNeD : OpD K (rNeD K) (gEq true) := fun F H x y dx dy Q k ex hx hy ⟨p1, p2, s1, s2, hk⟩ q => ⟨dx, dy, ex.dp (hx.dp p1), ex.dp (hy.dp p2), s1, s2, by
  have := q _ _ F H hk (.refl ex) (.bl _)
  have e : (PyData.eqv dx dy != true) = !PyData.eqv dx dy := by cases PyData.eqv dx dy <;> rfl
  rwa [e] at this⟩
/-- numbers, texts, truths, None among their like -/
def scD : D → D → Option Bool
  | .int i, .int j => some (decide (i = j))
  | .str x, .str y => some (decide (x = y))
  | .bool x, .bool y => some (decide (x = y))
  | .none, .none => some true
  | .none, .int _ => some false
  | .int _, .none => some false
  | .none, .str _ => some false
  | .str _, .none => some false
  | .int _, .str _ => some false
  | .str _, .int _ => some false
  | .none, .bool _ => some false
  | .bool _, .none => some false
  | _, _ => none
def gEqS (neg : Bool) : D → D → (D → Prop) → Prop := fun x y k => ∃ b, scD x y = some b ∧ k (.bool (b != neg))

theorem scD_of {F : Hp} {x y : V} {dx dy : D} {b : Bool} (h : scD dx dy = some b) (hx : Dq K F x dx) (hy : Dq K F y dy) : scal x y = true ∧ decide (x = y) = b := by
  cases dx <;> cases dy <;> simp only [scD] at h <;> first
    | (cases h; done)
    | (cases h
       first | rw [dq_int hx] | rw [dq_str hx] | rw [dq_bool hx] | rw [dq_non hx]
       first | rw [dq_int hy] | rw [dq_str hy] | rw [dq_bool hy] | rw [dq_non hy]
       exact ⟨rfl, by simp⟩)
theorem oEqS : OpD K rEq (gEqS false) := fun F H x y dx dy Q k ex hx hy ⟨b, hb, hk⟩ q => by
  obtain ⟨h1, h2⟩ := scD_of hb hx hy
  refine ⟨h1, ?_⟩
  rw [h2]
  have := q _ _ F H hk (.refl ex) (.bl _)
  simpa using this
theorem oNeS : OpD K rNe (gEqS true) := fun F H x y dx dy Q k ex hx hy ⟨b, hb, hk⟩ q => by
  obtain ⟨h1, h2⟩ := scD_of hb hx hy
  refine ⟨h1, ?_⟩
  rw [h2]
  have := q _ _ F H hk (.refl ex) (.bl _)
  have e : (b != true) = !b := by cases b <;> rfl
  rwa [e] at this
/-- x is None -/
def isNon : D → Bool
  | .none => true
  | _ => false
theorem isNon_of {F : Hp} {x : V} {d : D} (h : Dq K F x d) : decide (x = V.non) = isNon d := by
  cases h with
  | obj _ _ e _ => subst e; rfl
  | dK _ _ _ _ e => subst e; rfl
  | dT _ _ _ _ e => subst e; rfl
  | bag e h => subst e; obtain ⟨b, g, rfl, _⟩ := h; rfl
  | hand e h => subst e; obtain ⟨b, g, _, rfl, _⟩ := h; rfl
  | scr e _ _ => subst e; rfl
  | adr e => subst e; rfl
  | exf _ e _ => subst e; rfl
  | _ => rfl
def gIs (neg : Bool) : D → D → (D → Prop) → Prop := fun x y k => y = .none ∧ k (.bool (isNon x != neg))
theorem oNotN : OpD K (fun x y H Q => y = .non ∧ Q (.bl (!decide (x = .non))) H) (gIs true) := fun F H x y dx dy Q k ex hx hy ⟨e, hk⟩ q => by
  subst e
  refine ⟨dq_non hy, ?_⟩
  rw [isNon_of hx]
  have := q _ _ F H hk (.refl ex) (.bl _)
  have e : (isNon dx != true) = !isNon dx := by cases isNon dx <;> rfl
  rwa [e] at this
/-! chains of two comparisons -/
def eCh (g g' : D → D → (D → Prop) → Prop) (a b c : EV) : EV := fun δ k kx => a δ (fun x => b δ (fun y => g x y fun z => ∃ t, z = .bool t ∧ if t = true then c δ (fun w => g' y w k) kx else k (.bool false)) kx) kx
theorem qe_chain {op op' : CmpOp} {r r' : R2} {g g' : D → D → (D → Prop) → Prop} {c : Expr} (ho : OpR X (compareOp op) r) (ho' : OpR X (compareOp op') r') (o : OpD K r g) (o' : OpD K r' g') (ha : QE X K W a fa) (hb : QE X K W b fb) (hc : QE X K W c fc)
    (hm : lastMarks [op, op'] [b, c] = false := by with_unfolding_all rfl) : QE X K W (.Compare a [op, op'] [b, c] pos) (eCh g g' fa fb fc) :=
  pe_mono (pe_chain ho ho' ha hb hc hm) fun σ H Q ⟨H0, F, δ, k, kx, rl, hf, hx, q⟩ =>
    ⟨H0, F, δ, _, kx, rl, hf, hx, fun v d F1 H1 hb s1 q1 => ⟨H0, F1, δ, _, kx, rl.step s1, hb, hx.step s1, fun w d2 F2 H2 hg s2 q2 =>
      o F2 H2 v w d d2 _ _ s2.eh (q1.ex s2.e) q2 hg fun u d3 F3 H3 ⟨t, et, hk⟩ s3 q3 => ⟨t, by subst et; exact dq_bool q3, by
        cases t with
        | true =>
          simp only [if_true] at hk ⊢
          exact ⟨H0, F3, δ, _, kx, rl.step ((s1.trans s2).trans s3), hk, hx.step ((s1.trans s2).trans s3), fun u4 d4 F4 H4 hg4 s4 q4 =>
            o' F4 H4 w u4 d2 d4 Q k s4.eh ((q2.ex s3.e).ex s4.e) q4 hg4 fun u5 d5 F5 H5 hk5 s5 q5 => q u5 d5 F5 H5 hk5 ((((s1.trans s2).trans s3).trans s4).trans s5) q5⟩
        | false =>
          simp only [Bool.false_eq_true, if_false] at hk ⊢
          exact q _ _ F3 H3 hk ((s1.trans s2).trans s3) (.bl false)⟩⟩⟩
theorem qt_val (h : QE X K W e f) (he : ∀ whole, isTrue e X.env whole = (do let v ← whole; standAt e.pos; holding [v] (truthy v)) := by intro _; rfl) : QT X K W e (tB f) :=
  pt_mono (pt_val h he) fun σ H Q ⟨H0, F, δ, k, kx, rl, hf, hx, q⟩ => ⟨H0, F, δ, _, kx, rl, hf, hx, fun v d F1 H1 ⟨b, e, hk⟩ s1 q1 => by
    subst e
    exact ⟨b, dq_bool q1, q b F1 H1 hk s1⟩⟩
/-! ### of one thing; truths -/
def gNeg : D → (D → Prop) → Prop := fun x k => ∃ i, x = .int i ∧ k (.int (-i))
theorem qe_neg (ha : QE X K W a fa) : QE X K W (.UnaryOp .USub a pos) (e1 gNeg fa) := pe_mono (pe_un un_neg ha) fun σ H Q ⟨H0, F, δ, k, kx, rl, hf, hx, q⟩ => ⟨H0, F, δ, _, kx, rl, hf, hx, fun v d F1 H1 ⟨i, e, hk⟩ s1 q1 => by
  subst e
  exact ⟨i, dq_int q1, q _ _ F1 H1 hk s1 (.int _)⟩⟩
def eNot (a : EV) : EV := fun δ k kx => a δ (fun x => ∃ b, x = .bool b ∧ k (.bool (!b))) kx
theorem qe_not (ha : QE X K W a fa) : QE X K W (.UnaryOp .Not a pos) (eNot fa) := pe_mono (pe_not ha) fun σ H Q ⟨H0, F, δ, k, kx, rl, hf, hx, q⟩ => ⟨H0, F, δ, _, kx, rl, hf, hx, fun v d F1 H1 ⟨i, e, hk⟩ s1 q1 => by
  subst e
  exact ⟨i, dq_bool q1, q _ _ F1 H1 hk s1 (.bl _)⟩⟩
def eAnd (a b : EV) : EV := fun δ k kx => a δ (fun x => ∃ c, x = .bool c ∧ if c = true then b δ k kx else k (.bool false)) kx
def eOr (a b : EV) : EV := fun δ k kx => a δ (fun x => ∃ c, x = .bool c ∧ if c = true then k (.bool true) else b δ k kx) kx
theorem qe_one {op} (h : QE X K W a f) : QE X K W (.BoolOp op [a] pos) f := pe_one h
theorem qe_and {rest : List Expr} (ha : QE X K W a fa) (hb : QE X K W (.BoolOp .And (b :: rest) pos) fb) : QE X K W (.BoolOp .And (a :: b :: rest) pos) (eAnd fa fb) := pe_mono (pe_and ha hb) fun σ H Q ⟨H0, F, δ, k, kx, rl, hf, hx, q⟩ => ⟨H0, F, δ, _, kx, rl, hf, hx, fun v d F1 H1 ⟨c, e, hk⟩ s1 q1 => by
  subst e
  refine ⟨c, dq_bool q1, ?_⟩
  cases c with
  | true =>
    simp only [if_true] at hk ⊢
    exact ⟨H0, F1, δ, k, kx, rl.step s1, hk, hx.step s1, fun u d2 F2 H2 hk2 s2 q2 => q u d2 F2 H2 hk2 (s1.trans s2) q2⟩
  | false =>
    simp only [Bool.false_eq_true, if_false] at hk ⊢
    exact q _ _ F1 H1 hk s1 (.bl _)⟩
def tNt (a : TV) : TV := fun δ k kx => a δ (fun b => k (!b)) kx
def tAn (a b : TV) : TV := fun δ k kx => a δ (fun c => if c = true then b δ k kx else k false) kx
def tOr' (a b : TV) : TV := fun δ k kx => a δ (fun c => if c = true then k true else b δ k kx) kx
theorem qt_not {fa : TV} (ha : QT X K W a fa) : QT X K W (.UnaryOp .Not a pos) (tNt fa) := pt_mono (pt_not ha) fun σ H Q ⟨H0, F, δ, k, kx, rl, hf, hx, q⟩ => ⟨H0, F, δ, _, kx, rl, hf, hx, fun b F1 H1 hk s1 => q _ F1 H1 hk s1⟩
theorem qw_and1 {fa : TV} (ha : QT X K W a fa) : QW X K W (.BoolOp .And [a] pos) fa := pw_and1 ha
theorem qw_or1 {fa : TV} (ha : QT X K W a fa) : QW X K W (.BoolOp .Or [a] pos) fa := pw_or1 ha
theorem qw_and {fa fb : TV} {rest : List Expr} (ha : QT X K W a fa) (hb : QW X K W (.BoolOp .And (b :: rest) pos) fb) : QW X K W (.BoolOp .And (a :: b :: rest) pos) (tAn fa fb) := pw_mono (pw_and ha hb) fun σ H Q ⟨H0, F, δ, k, kx, rl, hf, hx, q⟩ => ⟨H0, F, δ, _, kx, rl, hf, hx, fun c F1 H1 hk s1 => by
  cases c with
  | true =>
    simp only [if_true] at hk ⊢
    exact ⟨H0, F1, δ, k, kx, rl.step s1, hk, hx.step s1, fun u F2 H2 hk2 s2 => q u F2 H2 hk2 (s1.trans s2)⟩
  | false =>
    simp only [Bool.false_eq_true, if_false] at hk ⊢
    exact q _ F1 H1 hk s1⟩
theorem qw_or {fa fb : TV} {rest : List Expr} (ha : QT X K W a fa) (hb : QW X K W (.BoolOp .Or (b :: rest) pos) fb) : QW X K W (.BoolOp .Or (a :: b :: rest) pos) (tOr' fa fb) := pw_mono (pw_or ha hb) fun σ H Q ⟨H0, F, δ, k, kx, rl, hf, hx, q⟩ => ⟨H0, F, δ, _, kx, rl, hf, hx, fun c F1 H1 hk s1 => by
  cases c with
  | false =>
    simp only [Bool.false_eq_true, if_false] at hk ⊢
    exact ⟨H0, F1, δ, k, kx, rl.step s1, hk, hx.step s1, fun u F2 H2 hk2 s2 => q u F2 H2 hk2 (s1.trans s2)⟩
  | true =>
    simp only [if_true] at hk ⊢
    exact q _ F1 H1 hk s1⟩
theorem qt_w {fa : TV} (h : QW X K W a fa) : QT X K W a fa := PW.pt h
def eIf (t : TV) (a b : EV) : EV := fun δ k kx => t δ (fun c => if c = true then a δ k kx else b δ k kx) kx
theorem qe_if {c : Expr} {ft : TV} (hc : QT X K W c ft) (ha : QE X K W a fa) (hb : QE X K W b fb) : QE X K W (.IfExp c a b pos) (eIf ft fa fb) := pe_mono (pe_ifExp hc ha hb) fun σ H Q ⟨H0, F, δ, k, kx, rl, hf, hx, q⟩ => ⟨H0, F, δ, _, kx, rl, hf, hx, fun c F1 H1 hk s1 => by
  cases c with
  | true =>
    simp only [if_true] at hk ⊢
    exact ⟨H0, F1, δ, k, kx, rl.step s1, hk, hx.step s1, fun u d2 F2 H2 hk2 s2 q2 => q u d2 F2 H2 hk2 (s1.trans s2) q2⟩
  | false =>
    simp only [Bool.false_eq_true, if_false] at hk ⊢
    exact ⟨H0, F1, δ, k, kx, rl.step s1, hk, hx.step s1, fun u d2 F2 H2 hk2 s2 q2 => q u d2 F2 H2 hk2 (s1.trans s2) q2⟩⟩
def lIf (t : TV) (a b : LV) : LV := fun δ k kx => t δ (fun c => if c = true then a δ k kx else b δ k kx) kx
/-! ### arguments, displays -/
def aN : LV := fun _ k _ => k []
def aC (a : EV) (b : LV) : LV := fun δ k kx => a δ (fun x => b δ (fun xs => k (x :: xs)) kx) kx
theorem qa_nil : QA X K W [] aN := pa_mono pa_nil fun σ H Q ⟨H0, F, δ, k, kx, rl, hf, hx, q⟩ => q [] [] F H hf (.refl rl.ex) .nil
theorem qa_cons {fr : LV} (ha : QE X K W e fa) (hr : QA X K W es fr) (hs : starEach (e :: es) X.env = (false, eval e X.env) :: starEach es X.env := by rfl) : QA X K W (e :: es) (aC fa fr) :=
  pa_mono (pa_cons ha hr hs) fun σ H Q ⟨H0, F, δ, k, kx, rl, hf, hx, q⟩ => ⟨H0, F, δ, _, kx, rl, hf, hx, fun v d F1 H1 hk s1 q1 => ⟨H0, F1, δ, _, kx, rl.step s1, hk, hx.step s1, fun vs ds F2 H2 hk2 s2 q2 => q (v :: vs) (d :: ds) F2 H2 hk2 (s1.trans s2) (.cons (q1.ex s2.e) q2)⟩⟩
def eT (f : LV) : EV := fun δ k kx => f δ (fun ds => ds.length ≤ 1000000 ∧ k (.tuple ds)) kx
theorem qe_tup {x1} (h : QA X K W es l) : QE X K W (.Tuple es x1 pos) (eT l) := pe_mono (pe_tup h) fun σ H Q ⟨H0, F, δ, k, kx, rl, hf, hx, q⟩ => ⟨H0, F, δ, _, kx, rl, hf, hx, fun vs ds F1 H1 ⟨hl, hk⟩ s1 q1 =>
  ⟨small2 (by rw [dqa_len q1]; exact hl), fun p hp => q _ _ _ _ hk (s1.trans (.new s1.eh _ hp)) (.tup upd_same hl (q1.ex (.new (ex_none s1.eh hp))))⟩⟩
def lD (f : LV) : LV := fun δ k kx => f δ (fun ds => ds.length ≤ 1000000 ∧ k ds) kx
theorem new_none {F H F1 H1 : Hp} (s : Stp F H F1 H1) {p : Addr} (h : H1 p = none) : H p = none := by
  cases z : H p with
  | none => rfl
  | some o => rw [s.h p o z] at h; cases h
theorem qf_lst (h : QA X K W es l) : QF X K W (.List es pos) (lD l) := pe_mono (pe_lst h) fun σ H Q ⟨H0, F, δ, k, kx, rl, hf, hx, q⟩ => ⟨H0, F, δ, _, kx, rl, hf, hx, fun vs ds F1 H1 ⟨hl, hk⟩ s1 q1 =>
  ⟨small2 (by rw [dqa_len q1]; exact hl), fun p hp => q p vs ds F1 _ hk (s1.trans (.newH s1.eh _ hp)) (new_none s1 hp) (ex_none s1.eh hp) upd_same hl q1⟩⟩
end
end TH

namespace TH
open PySem PySem.Spec PyProof.Rows L2
/-! ## lists and tuples -/
section
variable {K : PySem.W.Frag} {F : Hp}
theorem dqa_atI {vs : List V} {ds : List D} {i : Int} {d : D} (h : DqA K F vs ds) (e : atI ds i = some d) : ∃ v, atI vs i = some v ∧ Dq K F v d := by
  unfold atI at e ⊢
  rw [dqa_len h]
  cases g : ixN ds.length i with
  | none => rw [g] at e; cases e
  | some j =>
    rw [g] at e
    exact dqa_getD h e
end
def cutD (xs : List D) (lo hi : Option Int) : List D := (xs.drop (HT.sIx xs.length 0 lo)).take (HT.sIx xs.length xs.length hi - HT.sIx xs.length 0 lo)
theorem dqa_cut {K : PySem.W.Frag} {F : Hp} {vs : List V} {ds : List D} (h : DqA K F vs ds) (lo hi : Option Int) : DqA K F (cutV vs lo hi) (cutD ds lo hi) := by
  unfold cutV cutD
  rw [dqa_len h]
  exact dqa_take _ (dqa_drop _ h)
theorem cutD_len (xs : List D) (lo hi : Option Int) : (cutD xs lo hi).length ≤ xs.length := by
  unfold cutD
  rw [List.length_take, List.length_drop]
  omega
section
variable {X : Cx} {K : PySem.W.Frag} {W : WX} {e a b : Expr} {es : List Expr} {f fa fb fc : EV} {l la lb : LV} {pos : Pos}
/-- a tuple, looked at -/
theorem tupV {σ : L2.St} {H : Hp} {Q : VK} {H0 F : Hp} {δ : List Sl} {k : List D → Prop} {kx : XD → Prop} (r : Rl K H0 F H σ δ) (hf : lT f δ k kx) (hx : XO K W kx F H σ)
    (q : ∀ a xs ds F' H', k ds → Stp F H F' H' → F' a = some (.tup xs) → ds.length ≤ 1000000 → DqA K F' xs ds → Q (.ref a) H') : tE K W f σ H Q :=
  ⟨H0, F, δ, _, kx, r, hf, hx, fun v d F' H' ⟨ds, e, hk⟩ s hv => by
    subst e
    obtain ⟨a, xs, rfl, h1, h2, h3⟩ := dq_tup hv
    exact q a xs ds F' H' hk s h1 h2 h3⟩
def eIx (l : LV) (i : EV) : EV := fun δ k kx => l δ (fun ds => i δ (fun y => ∃ j d, y = .int j ∧ atI ds j = some d ∧ k d) kx) kx
theorem qe_ixL (hr : IxR X (rIxL K)) (ha : QL X K W a l) (hb : QE X K W b fb) (hs : PlainIx b) : QE X K W (.Subscript a b pos) (eIx l fb) := pe_mono (pe_ix hr ha hb hs) fun σ H Q ⟨H0, F, δ, k, kx, rl, hf, hx, q⟩ =>
  ⟨H0, F, δ, _, kx, rl, hf, hx, fun p xs ds F1 H1 hk s1 h1 h2 h3 => ⟨H0, F1, δ, _, kx, rl.step s1, hk, hx.step s1, fun w d2 F2 H2 ⟨j, d, ej, hd, hk2⟩ s2 q2 => by
    subst ej
    obtain ⟨v, hv, hq⟩ := dqa_atI h3 hd
    exact ⟨p, xs, j, v, rfl, dq_int q2, sqL (s2.h _ _ h1), hv, q v d F2 H2 hk2 (s1.trans s2) (hq.ex s2.e)⟩⟩⟩
theorem qe_ixT (hr : IxR X (rIxT K)) (ha : QE X K W a fa) (hb : QE X K W b fb) (hs : PlainIx b) : QE X K W (.Subscript a b pos) (eIx (lT fa) fb) := pe_mono (pe_ix hr ha hb hs) fun σ H Q ⟨H0, F, δ, k, kx, rl, hf, hx, q⟩ =>
  tupV rl hf hx fun p xs ds F1 H1 hk s1 h1 h2 h3 => ⟨H0, F1, δ, _, kx, rl.step s1, hk, hx.step s1, fun w d2 F2 H2 ⟨j, d, ej, hd, hk2⟩ s2 q2 => by
    subst ej
    obtain ⟨v, hv, hq⟩ := dqa_atI h3 hd
    exact ⟨p, xs, j, v, rfl, dq_int q2, sqT (s2.h _ _ (s1.eh _ _ h1)), hv, q v d F2 H2 hk2 (s1.trans s2) (hq.ex s2.e)⟩⟩
/-! slices -/
def pN : PV := fun _ k _ => k none
def pS (f : EV) : PV := fun δ k kx => f δ (fun d => ∃ i, d = .int i ∧ k (some i)) kx
theorem qp_none : QP X K W none pN := po_mono po_none fun σ H Q ⟨H0, F, δ, k, kx, rl, hf, hx, q⟩ => q none F H hf (.refl rl.ex)
theorem qp_some (h : QE X K W e f) : QP X K W (some e) (pS f) := po_mono (po_some h) fun σ H Q ⟨H0, F, δ, k, kx, rl, hf, hx, q⟩ => ⟨H0, F, δ, _, kx, rl, hf, hx, fun v d F1 H1 ⟨i, e, hk⟩ s1 q1 => by
  subst e
  exact ⟨i, dq_int q1, q _ F1 H1 hk s1⟩⟩
def lSl (l : LV) (lo hi : PV) : LV := fun δ k kx => l δ (fun ds => lo δ (fun x => hi δ (fun y => k (cutD ds x y)) kx) kx) kx
def eSlT (l : LV) (lo hi : PV) : EV := fun δ k kx => l δ (fun ds => lo δ (fun x => hi δ (fun y => k (.tuple (cutD ds x y))) kx) kx) kx
theorem cut_all {ds : List D} {x y : Option Int} (h : HT.sIx ds.length 0 x = 0 ∧ HT.sIx ds.length ds.length y = ds.length) : cutD ds x y = ds := by
  unfold cutD
  rw [h.1, h.2, List.drop_zero, Nat.sub_zero, List.take_length]
theorem qe_slT {lo hi : Option Expr} {pl ph : PV} {p2 : Pos} (hr : SlR X (rSlA K)) (ha : QE X K W a fa) (hl : QP X K W lo pl) (hh : QP X K W hi ph) : QE X K W (.Subscript a (.Slice lo hi none p2) pos) (eSlT (lT fa) pl ph) :=
  pe_mono (pe_slice hr ha hl hh) fun σ H Q ⟨H0, F, δ, k, kx, rl, hf, hx, q⟩ => tupV rl hf hx fun p xs ds F1 H1 hk s1 h1 h2 h3 => ⟨H0, F1, δ, _, kx, rl.step s1, hk, hx.step s1, fun x F2 H2 hk2 s2 =>
    ⟨H0, F2, δ, _, kx, rl.step (s1.trans s2), hk2, hx.step (s1.trans s2), fun y F3 H3 hk3 s3 => by
      have s := (s1.trans s2).trans s3
      have e3 := s2.e.trans s3.e
      have hc := cutD_len ds x y
      refine ⟨p, xs, rfl, sqT (s3.eh _ _ (e3 _ _ h1)), fun hw => ?_, fun hw p' hp' => ?_⟩
      · rw [dqa_len h3] at hw
        rw [cut_all hw] at hk3
        exact q _ _ F3 H3 hk3 s (.tup (e3 _ _ h1) h2 (h3.ex e3))
      · exact q _ _ _ _ hk3 (s.trans (.new s.eh _ hp')) (.tup upd_same (by omega) ((dqa_cut (h3.ex e3) x y).ex (.new (ex_none s.eh hp'))))⟩⟩
/-! added, repeated -/
def lCat (la lb : LV) : LV := fun δ k kx => la δ (fun xs => lb δ (fun ys => (xs ++ ys).length ≤ 1000000 ∧ k (xs ++ ys)) kx) kx
theorem qf_cat (ha : QL X K W a la) (hb : QL X K W b lb) : QF X K W (.BinOp a .Add b pos) (lCat la lb) := pe_mono (pe_op op_cat ha hb) fun σ H Q ⟨H0, F, δ, k, kx, rl, hf, hx, q⟩ =>
  ⟨H0, F, δ, _, kx, rl, hf, hx, fun p xs ds F1 H1 hk s1 h1 h2 h3 => ⟨H0, F1, δ, _, kx, rl.step s1, hk, hx.step s1, fun p2 ys es F2 H2 ⟨hl, hk2⟩ s2 g1 g2 g3 => by
    have s := s1.trans s2
    refine ⟨p, p2, xs, ys, rfl, rfl, s2.h _ _ h1, g1, small2 (by rw [dqa_len h3, dqa_len g3, ← List.length_append]; exact hl), fun p' hp' => ?_⟩
    exact q p' _ _ F2 _ hk2 (s.trans (.newH s.eh _ hp')) (new_none s hp') (ex_none s.eh hp') upd_same hl (dqa_append (h3.ex s2.e) g3)⟩⟩
def gCatT : D → D → (D → Prop) → Prop := fun x y k => ∃ xs ys, x = .tuple xs ∧ y = .tuple ys ∧ (xs ++ ys).length ≤ 1000000 ∧ k (.tuple (xs ++ ys))
theorem oCatT : OpD K (rCatA K) gCatT := fun F H x y dx dy Q k ex hx hy ⟨xs, ys, e1, e2, hl, hk⟩ q => by
  subst e1 e2
  obtain ⟨a, vs, rfl, h1, h2, h3⟩ := dq_tup hx
  obtain ⟨b, ws, rfl, g1, g2, g3⟩ := dq_tup hy
  refine ⟨a, b, vs, ws, rfl, rfl, sqT (ex _ _ h1), sqT (ex _ _ g1), small2 (by rw [dqa_len h3, dqa_len g3, ← List.length_append]; exact hl), fun z => ?_, fun _ z => ?_, fun _ _ p hp => ?_⟩
  · subst z
    cases h3
    exact q _ _ F H hk (.refl ex) hy
  · subst z
    cases g3
    rw [List.append_nil] at hk
    exact q _ _ F H hk (.refl ex) hx
  · exact q _ _ _ _ hk (.new ex _ hp) (.tup upd_same hl ((dqa_append h3 g3).ex (.new (ex_none ex hp))))
def repD (n : Int) (ds : List D) : List D := (List.replicate n.toNat ds).flatten
theorem dqa_flat {F : Hp} {vs : List V} {ds : List D} (h : DqA K F vs ds) : ∀ n : Nat, DqA K F (List.replicate n vs).flatten (List.replicate n ds).flatten
  | 0 => .nil
  | n + 1 => by
    rw [List.replicate_succ, List.replicate_succ, List.flatten_cons, List.flatten_cons]
    exact dqa_append h (dqa_flat h n)
theorem repD_len (n : Int) (ds : List D) : (repD n ds).length = ds.length * n.toNat := by
  unfold repD
  generalize n.toNat = m
  induction m with
  | zero => simp
  | succ m ih => rw [List.replicate_succ, List.flatten_cons, List.length_append, ih, Nat.mul_succ, Nat.add_comm]
def lRep (l : LV) (f : EV) : LV := fun δ k kx => l δ (fun ds => f δ (fun y => ∃ n, y = .int n ∧ -1000000 ≤ n ∧ n ≤ 1000000 ∧ ds.length * n.toNat ≤ 1000000 ∧ k (repD n ds)) kx) kx
def gRepT : D → D → (D → Prop) → Prop := fun x y k => ∃ xs n, x = .tuple xs ∧ y = .int n ∧ xs ≠ [] ∧ -1000 ≤ n ∧ n ≤ 1000 ∧ xs.length ≤ 1000 ∧ k (.tuple (repD n xs))
theorem oRepT : OpD K (rRepA K) gRepT := fun F H x y dx dy Q k ex hx hy ⟨xs, n, e1, e2, hne, n0, n1, hl, hk⟩ q => by
  subst e1 e2
  obtain ⟨a, vs, rfl, h1, h2, h3⟩ := dq_tup hx
  refine ⟨a, n, vs, rfl, dq_int hy, sqT (ex _ _ h1), fun z => ?_, n0, n1, by rw [dqa_len h3]; exact hl, fun z => ?_, fun z p hp => ?_⟩
  · subst z
    cases h3
    exact hne rfl
  · subst z
    have e : repD 1 xs = xs := by simp [repD]
    rw [e] at hk
    exact q _ _ F H hk (.refl ex) hx
  · refine q _ _ _ _ hk (.new ex _ hp) (.tup upd_same ?_ ((dqa_flat h3 _).ex (.new (ex_none ex hp))))
    rw [repD_len]
    have : xs.length * n.toNat ≤ 1000 * 1000 := Nat.mul_le_mul hl (by omega)
    omega
/-! in, not in -/
def eIn (neg : Bool) (a : EV) (l : LV) : EV := fun δ k kx => a δ (fun x => l δ (fun ds => pureD x = true ∧ pureA ds = true ∧ PyData.plainAll ds = true ∧ x.plain = true ∧ x.depth ≤ 50 ∧ k (.bool (ds.any (fun y => PyData.eqv y x) != neg))) kx) kx
/-! ### builtins -/
/-- how a builtin answers of a list, of a tuple -/
def BiD (K : PySem.W.Frag) (r : List V → Hp → VK → Prop) (tup : Bool) (g : List D → (D → Prop) → Prop) : Prop := ∀ (F H : Hp) (a : Addr) (xs : List V) (ds : List D) (Q : VK) (k : D → Prop), Ex F H → (if tup then F a = some (.tup xs) else H a = some (.lst xs)) → ds.length ≤ 1000000 → DqA K F xs ds → g ds k →
  (∀ v d F' H', k d → Stp F H F' H' → Dq K F' v d → Q v H') → r [.ref a] H Q
def eBi (g : List D → (D → Prop) → Prop) (l : LV) : EV := fun δ k kx => l δ (fun ds => g ds k) kx
theorem qe_biL {r : List V → Hp → VK → Prop} {g : List D → (D → Prop) → Prop} {fn : Expr} (o : BiD K r false g) (hc : PE X (.Call fn [e] [] pos) (tCB r (tCons (tL K W l) tNil))) : QE X K W (.Call fn [e] [] pos) (eBi g l) :=
  pe_mono hc fun σ H Q ⟨H0, F, δ, k, kx, rl, hf, hx, q⟩ => ⟨H0, F, δ, _, kx, rl, hf, hx, fun a xs ds F1 H1 hk s1 h1 h2 h3 => o F1 H1 a xs ds Q k s1.eh h1 h2 h3 hk fun v d F2 H2 hk2 s2 q2 => q v d F2 H2 hk2 (s1.trans s2) q2⟩
theorem qe_biT {r : List V → Hp → VK → Prop} {g : List D → (D → Prop) → Prop} {fn : Expr} (o : BiD K r true g) (hc : PE X (.Call fn [e] [] pos) (tCB r (tCons (tE K W f) tNil))) : QE X K W (.Call fn [e] [] pos) (eBi g (lT f)) :=
  pe_mono hc fun σ H Q ⟨H0, F, δ, k, kx, rl, hf, hx, q⟩ => tupV rl hf hx fun a xs ds F1 H1 hk s1 h1 h2 h3 => o F1 H1 a xs ds Q k s1.eh h1 h2 h3 hk fun v d F2 H2 hk2 s2 q2 => q v d F2 H2 hk2 (s1.trans s2) q2
def gLen : List D → (D → Prop) → Prop := fun ds k => k (.int ds.length)
theorem bLen {t : Bool} : BiD K (fun xs H Q => ∃ p ys, xs = [.ref p] ∧ (SqL K H p ys ∨ SqT K H p ys) ∧ Q (.int ys.length) H) t gLen := fun F H a xs ds Q k ex ha hl hd hk q => by
  refine ⟨a, xs, rfl, ?_, ?_⟩
  · cases t
    · exact .inl (sqL ha)
    · exact .inr (sqT (ex _ _ ha))
  · rw [dqa_len hd]
    exact q _ _ F H hk (.refl ex) (.int _)
def gSum : List D → (D → Prop) → Prop := fun ds k => ∃ ns : List Int, ds = ns.map .int ∧ k (.int ns.sum)
theorem bSumT : BiD K (rSumT K) true gSum := fun F H a xs ds Q k ex ha hl hd ⟨ns, e, hk⟩ q => by
  subst e
  rw [dqa_ints_inv hd] at ha
  exact ⟨a, ns, rfl, sqT (ex _ _ ha), q _ _ F H hk (.refl ex) (.int _)⟩
def gAll : List D → (D → Prop) → Prop := fun ds k => ∃ bs : List Bool, ds = bs.map .bool ∧ k (.bool (bs.all id))
def gAny : List D → (D → Prop) → Prop := fun ds k => ∃ bs : List Bool, ds = bs.map .bool ∧ k (.bool (bs.any id))
theorem bAll : BiD K (rAll K) false gAll := fun F H a xs ds Q k ex ha hl hd ⟨ns, e, hk⟩ q => by
  subst e
  rw [dqa_bools_inv hd] at ha
  exact ⟨a, ns, rfl, sqL ha, q _ _ F H hk (.refl ex) (.bl _)⟩
def gTupl : List D → (D → Prop) → Prop := fun ds k => k (.tuple ds)
theorem bTup {t : Bool} : BiD K (fun xs H Q => ∃ p ys, xs = [.ref p] ∧ ((SqL K H p ys ∧ ∀ l, H l = none → Q (.ref l) (upd H l (.tup ys))) ∨ (SqT K H p ys ∧ Q (.ref p) H))) t gTupl := fun F H a xs ds Q k ex ha hl hd hk q => by
  refine ⟨a, xs, rfl, ?_⟩
  cases t
  · exact .inl ⟨sqL ha, fun p hp => q _ _ _ _ hk (.new ex _ hp) (.tup upd_same hl (hd.ex (.new (ex_none ex hp))))⟩
  · exact .inr ⟨sqT (ex _ _ ha), q _ _ F H hk (.refl ex) (.tup ha hl hd)⟩
theorem qf_listT {fn : Expr} (hc : PE X (.Call fn [e] [] pos) (tCB (fun xs H Q => ∃ p ys, xs = [.ref p] ∧ (SqL K H p ys ∨ SqT K H p ys) ∧ ∀ l, H l = none → Q (.ref l) (upd H l (.lst ys))) (tCons (tE K W f) tNil))) : QF X K W (.Call fn [e] [] pos) (lT f) :=
  pe_mono hc fun σ H Q ⟨H0, F, δ, k, kx, rl, hf, hx, q⟩ => tupV rl hf hx fun a xs ds F1 H1 hk s1 h1 h2 h3 => ⟨a, xs, rfl, .inr (sqT (s1.eh _ _ h1)), fun p hp => q p xs ds F1 _ hk (s1.trans (.newH s1.eh _ hp)) (new_none s1 hp) (ex_none s1.eh hp) upd_same h2 h3⟩
end
end TH

namespace TH
open PySem PySem.Spec PyProof.Rows L2
abbrev Fn := List D → (D → Prop) → (XD → Prop) → Prop
/-! ## defs -/
def spD0 (K : PySem.W.Frag) (fn : Fn) : Sp := fun vs H Q _ => ∃ F ds k, Ex F H ∧ DqA K F vs ds ∧ fn ds k (fun _ => False) ∧ ∀ v d F' H', k d → Stp F H F' H' → Dq K F' v d → Q v H'
def spD (K : PySem.W.Frag) (fn : Fn) : Sp := fun vs H Q E => ∃ F ds k kx, Ex F H ∧ DqA K F vs ds ∧ fn ds k kx ∧ (∀ v d F' H', k d → Stp F H F' H' → Dq K F' v d → Q v H') ∧ ∀ c od x F' H', kx x → Stp F H F' H' → Xq K F' H' c od x → E c od H'
def eCall (fn : Fn) (fa : LV) : EV := fun δ k kx => fa δ (fun ds => fn ds k (fun _ => False)) kx
def eCallX (fn : Fn) (fa : LV) : EV := fun δ k kx => fa δ (fun ds => fn ds k kx) kx
/-- the facts of an own class -/
structure ClC (K : PySem.W.Frag) (c : Str) (ns : List Str) (C : Addr) : Prop where
  at' : clsAt K c = some C
  cl : Cls K C
  no : ∀ n ∈ ns, NoAttr K C n
  ha : PySem.W.findIn K (.ref C) "__class__" = some (some (.builtin "object.__class__"))
  hn : PySem.W.specialIn K (.builtin "object.__class__") "__get__" = some (some (.builtin "getset_descriptor.__get__"))
  htk : PySem.W.takesIn K (.builtin "object.__class__") = some true
  hm : PySem.W.mroIn K C (.type "object") = some true
section
variable {X : Cx} {K : PySem.W.Frag} {W : WX} {e a b : Expr} {es : List Expr} {f fa fb fc : EV} {l la lb : LV} {pos : Pos}
theorem qe_call {fn : Fn} (h : PE X e (tCall (spD0 K fn) [] C8.E0 (tAs K W la))) : QE X K W e (eCall fn la) := pe_mono h fun σ H Q ⟨H0, F, δ, k, kx, rl, hf, hx, q⟩ => ⟨H0, F, δ, _, kx, rl, hf, hx, fun vs ds F1 H1 hk s1 q1 => by
  show spD0 K fn (vs ++ []) H1 Q C8.E0
  rw [List.append_nil]
  exact ⟨F1, ds, k, s1.eh, q1, hk, fun v d F2 H2 hk2 s2 q2 => q v d F2 H2 hk2 (s1.trans s2) q2⟩⟩
theorem qe_callX {fn : Fn} (h : PE X e (tCallS (spD K fn) (WE W) (tAs K W la))) : QE X K W e (eCallX fn la) := pe_mono h fun σ H Q ⟨H0, F, δ, k, kx, rl, hf, hx, q⟩ => ⟨H0, F, δ, _, kx, rl, hf, hx, fun vs ds F1 H1 hk s1 q1 =>
  ⟨F1, ds, k, kx, s1.eh, q1, hk, fun v d F2 H2 hk2 s2 q2 => q v d F2 H2 hk2 (s1.trans s2) q2, fun c od x F2 H2 a b d => hx c od x F2 H2 a (s1.trans b) d⟩⟩
/-! a builtin of several values -/
def BaD (K : PySem.W.Frag) (r : List V → Hp → VK → Prop) (g : List D → (D → Prop) → Prop) : Prop := ∀ (F H : Hp) (vs : List V) (ds : List D) (Q : VK) (k : D → Prop), Ex F H → DqA K F vs ds → g ds k → (∀ v d F' H', k d → Stp F H F' H' → Dq K F' v d → Q v H') → r vs H Q
theorem qe_ba {r : List V → Hp → VK → Prop} {g : List D → (D → Prop) → Prop} (o : BaD K r g) (h : PE X e (tCB r (tAs K W la))) : QE X K W e (eBi g la) :=
  pe_mono h fun σ H Q ⟨H0, F, δ, k, kx, rl, hf, hx, q⟩ => ⟨H0, F, δ, _, kx, rl, hf, hx, fun vs ds F1 H1 hk s1 q1 => o F1 H1 vs ds Q k s1.eh q1 hk fun v d F2 H2 hk2 s2 q2 => q v d F2 H2 hk2 (s1.trans s2) q2⟩
theorem dqa1 {F : Hp} {vs : List V} {d : D} (h : DqA K F vs [d]) : ∃ v, vs = [v] ∧ Dq K F v d := by
  cases h with
  | cons h t => cases t; exact ⟨_, rfl, h⟩
theorem dqa2 {F : Hp} {vs : List V} {d d2 : D} (h : DqA K F vs [d, d2]) : ∃ v w, vs = [v, w] ∧ Dq K F v d ∧ Dq K F w d2 := by
  cases h with
  | cons h t =>
    obtain ⟨w, rfl, h2⟩ := dqa1 t
    exact ⟨_, _, rfl, h, h2⟩
/-- int of a number, of a truth -/
def intD : D → Option Int
  | .int i => some i
  | .bool b => some (if b = true then 1 else 0)
  | _ => none
def gInt : List D → (D → Prop) → Prop := fun ds k => ∃ d i, ds = [d] ∧ intD d = some i ∧ k (.int i)
theorem bInt : BaD K (fun xs H Q => (∃ i, xs = [.int i] ∧ Q (.int i) H) ∨ ∃ k, xs = [.bl k] ∧ Q (.int (if k then 1 else 0)) H) gInt := fun F H vs ds Q k ex h ⟨d, i, e, hi, hk⟩ q => by
  subst e
  obtain ⟨v, rfl, hv⟩ := dqa1 h
  cases d <;> simp only [intD] at hi <;> first
    | (cases hi; done)
    | (cases hi; first
        | (rw [dq_int hv]; exact .inl ⟨_, rfl, q _ _ F H hk (.refl ex) (.int _)⟩)
        | (rw [dq_bool hv]; exact .inr ⟨_, rfl, q _ _ F H hk (.refl ex) (.int _)⟩))
def gAbs : List D → (D → Prop) → Prop := fun ds k => ∃ i : Int, ds = [.int i] ∧ k (.int (if i < 0 then -i else i))
theorem bAbs : BaD K (fun xs H Q => ∃ i, xs = [.int i] ∧ Q (.int (if i < 0 then -i else i)) H) gAbs := fun F H vs ds Q k ex h ⟨i, e, hk⟩ q => by
  subst e
  obtain ⟨v, rfl, hv⟩ := dqa1 h
  rw [dq_int hv]
  exact ⟨i, rfl, q _ _ F H hk (.refl ex) (.int _)⟩
def gMin : List D → (D → Prop) → Prop := fun ds k => ∃ i j : Int, ds = [.int i, .int j] ∧ k (.int (if j < i then j else i))
def gMax : List D → (D → Prop) → Prop := fun ds k => ∃ i j : Int, ds = [.int i, .int j] ∧ k (.int (if j > i then j else i))
def gLenS : List D → (D → Prop) → Prop := fun ds k => ∃ z : Str, ds = [.str z] ∧ z.length ≤ sizeLine ∧ k (.int z.length)
/-! ### isinstance -/
/-- what kind of thing it is: a builtin's name -/
def kindD : D → String
  | .none => "NoneType"
  | .bool _ => "bool"
  | .int _ => "int"
  | .str _ => "str"
  | .list _ => "list"
  | .tuple _ => "tuple"
  | .dict _ => "dict"
/-- its kind can be asked: no object of an own class -/
def noDict : D → Bool
  | .dict ((.list _, .none) :: _) => true
  | .dict _ => false
  | _ => true
/-- a value's type: a dict that is being walked, too -/
inductive TyD (K : PySem.W.Frag) (H : Hp) : V → Value → Prop
  | x {v : V} {t : Value} : TyX K H v t → TyD K H v t
  | fT {a : Addr} {o : Obj} {kvs : List (List Key × V)} : H a = some (.frz o (.dT kvs)) → TyD K H (.ref a) (.type "dict")
theorem kit_ofD {X : Cx} {pins : List (Addr × Obj)} {σ : L2.St} {H : Hp} {s : Shared} {x : V} {u t : Value} (I : Inv X pins σ H s) (rx : RelV x u) (ty : TyD X.K H x t) : ∃ P : Heap → Prop, PySem.W.KitX X.K u t P ∧ P s.heap ∧ u ≠ .builtin "__main__.__loader__#opaque" := by
  cases ty with
  | x h => exact kit_of I rx h
  | @fT a o kvs e =>
    cases (show u = Value.ref a from rx)
    obtain ⟨_, _, _, xs, _, o, es, ep, h1, h2, _⟩ := (show ObjOk X.prog X.w H s.heap a (.frz o (.dT kvs)) from I.hok a _ e)
    exact ⟨_, PySem.W.kitx_dict, ⟨o, h1, h2.1⟩, fun z => nomatch z⟩
def rIsiD (K : PySem.W.Frag) : List V → Hp → VK → Prop := fun xs H Q => ∃ (x c : V) (t u : Value) (b : Bool), xs = [x, c] ∧ ClsV c u ∧ TyD K H x t ∧ PySem.W.kitOne K t u = some b ∧ Q (.bl b) H
def rIsiTD (K : PySem.W.Frag) : List V → Hp → VK → Prop := fun xs H Q => ∃ (x : V) (tp : Addr) (cs : List V) (t : Value) (us : List Value) (b : Bool), xs = [x, .ref tp] ∧ H tp = some (.tup cs) ∧ Paired ClsV cs us ∧ TyD K H x t ∧ PySem.W.kitAny K t us = some b ∧ Q (.bl b) H
theorem call_isiD {X : Cx} (hK : X.K = K := by rfl) : CallR X (.builtin "isinstance") (rIsiD K) := by
  subst hK
  intro pins s σ H xs us Q I r h
  obtain ⟨x, c, t, u, b, rfl, k, ty, e, q⟩ := h
  obtain ⟨u1, u2, rfl, r1, r2⟩ := vals2 r
  have e2 := k.eq r2
  subst e2
  obtain ⟨P, Z, p, hx⟩ := kit_ofD I r1 ty
  exact PySem.W.kia_one Z I.kIn p e hx fun tk => ⟨.bl b, H, I.tok tk, rfl, q⟩
theorem call_isiTD {X : Cx} (hK : X.K = K := by rfl) : CallR X (.builtin "isinstance") (rIsiTD K) := by
  subst hK
  intro pins s σ H xs us Q I r h
  obtain ⟨x, tp, cs, t, ws, b, rfl, hT, k, ty, e, q⟩ := h
  obtain ⟨u1, u2, rfl, r1, r2⟩ := vals2 r
  cases (show u2 = Value.ref tp from r2)
  obtain ⟨P, Z, p, hx⟩ := kit_ofD I r1 ty
  obtain ⟨_, its, rv, o, h1, h2, n, h3⟩ := (show ObjOk X.prog X.w H s.heap tp (.tup cs) from I.hok tp _ hT)
  have e3 := ClsV.all k rv
  subst e3
  obtain ⟨oc, od, dt, sl⟩ := o
  simp only at h2 h3
  subst h2 h3
  exact PySem.W.kia_tup Z I.kIn p h1 e hx fun tk => ⟨.bl b, H, I.tok tk, rfl, q⟩
theorem rd_dK {F H : Hp} {a : Addr} {kvs : List (Key × V)} (ex : Ex F H) (h : Rd F a (.dK kvs)) : TyD K H (.ref a) (.type "dict") := by
  rcases h with h | ⟨o, h⟩
  · exact .x (.base (.dK (ex _ _ h)))
  · exact .x (.fDict (ex _ _ h))
theorem rd_dT {F H : Hp} {a : Addr} {kvs : List (List Key × V)} (ex : Ex F H) (h : Rd F a (.dT kvs)) : TyD K H (.ref a) (.type "dict") := by
  rcases h with h | ⟨o, h⟩
  · exact .x (.base (.dT (ex _ _ h)))
  · exact .fT (ex _ _ h)
theorem dq_kind {F H : Hp} (ex : Ex F H) {v : V} {d : D} (h : Dq K F v d) (n : noDict d = true) : TyD K H v (.type (kindD d)) := by
  cases d with
  | none => rw [dq_non h]; exact .x (.base .non)
  | bool b => rw [dq_bool h]; exact .x (.base (.bl b))
  | int i => rw [dq_int h]; exact .x (.base (.int i))
  | str x => rw [dq_str h]; exact .x (.base (.str x))
  | list ds => obtain ⟨a, xs, rfl, h1, _⟩ := dq_lst h; exact .x (.base (.lst (ex _ _ h1)))
  | tuple ds => obtain ⟨a, xs, rfl, h1, _⟩ := dq_tup h; exact .x (.base (.tup (ex _ _ h1)))
  | dict es =>
    match es, n, h with
    | (.list l, .none) :: es, _, h =>
      generalize e0 : PyData.dict ((.list l, .none) :: es) = d at h
      cases h with
      | dK h1 _ _ _ e => subst e; exact rd_dK ex h1
      | dT h1 _ _ _ e => subst e; exact rd_dT ex h1
      | obj _ _ e _ => subst e0; simp [objD] at e
      | bag e _ => subst e0; simp [bagD] at e
      | hand e _ => subst e0; simp [handD] at e
      | scr e _ _ => subst e0; simp [scrD] at e
      | adr e => subst e0; simp [adrD] at e
      | exf _ e _ => subst e0; simp [exfD] at e
      | _ => cases e0
/-- is it of that kind -/
def isKs (t k : String) : Bool := decide (k = t) || (decide (t = "int") && decide (k = "bool"))
def isK (t : String) (d : D) : Bool := isKs t (kindD d)
theorem kitB_all : ∀ k ∈ ["NoneType", "bool", "int", "str", "list", "tuple", "dict"], ∀ t ∈ ["int", "bool", "str", "list", "tuple", "dict"], kitB k t = some (isKs t k) := by decide +kernel
def eIs (t : String) (a : EV) : EV := fun δ k kx => a δ (fun d => noDict d = true ∧ k (.bool (isK t d))) kx
theorem kitB_is {t : String} (ht : t ∈ ["int", "bool", "str", "list", "tuple", "dict"]) {d : D} (n : noDict d = true) : kitB (kindD d) t = some (isK t d) := by
  refine kitB_all _ ?_ t ht
  cases d <;> simp only [kindD] <;> decide
theorem qe_isi {t : String} {fn x : Expr} (ht : t ∈ ["int", "bool", "str", "list", "tuple", "dict"] := by decide) (h : PE X (.Call fn [e, x] [] pos) (tCB (rIsiD K) (tCons (tE K W fa) (tCons (tC (.ty t)) tNil)))) : QE X K W (.Call fn [e, x] [] pos) (eIs t fa) :=
  pe_mono h fun σ H Q ⟨H0, F, δ, k, kx, rl, hf, hx, q⟩ => ⟨H0, F, δ, _, kx, rl, hf, hx, fun v d F1 H1 ⟨n, hk⟩ s1 q1 => ⟨v, .ty t, .type (kindD d), .type t, _, rfl, .ty t, dq_kind s1.eh q1 n, kit_ty (kitB_is ht n), q _ _ F1 H1 hk s1 (.bl _)⟩⟩
def eIs2 (t u : String) (a : EV) : EV := fun δ k kx => a δ (fun d => noDict d = true ∧ k (.bool (isK t d || isK u d))) kx
theorem qe_isi2 {t u : String} {fn x : Expr} (ht : t ∈ ["int", "bool", "str", "list", "tuple", "dict"] := by decide) (hu : u ∈ ["int", "bool", "str", "list", "tuple", "dict"] := by decide)
    (h : PE X (.Call fn [e, x] [] pos) (tCB (rIsiTD K) (tCons (tE K W fa) (tCons (tTup (tCons (tC (.ty t)) (tCons (tC (.ty u)) tNil))) tNil)))) : QE X K W (.Call fn [e, x] [] pos) (eIs2 t u fa) :=
  pe_mono h fun σ H Q ⟨H0, F, δ, k, kx, rl, hf, hx, q⟩ => ⟨H0, F, δ, _, kx, rl, hf, hx, fun v d F1 H1 ⟨n, hk⟩ s1 q1 => ⟨small2 (show 2 ≤ 1000000 by decide), fun p hp => by
    have s2 := Stp.newH s1.eh (.tup [.ty t, .ty u]) hp
    exact ⟨v, p, _, .type (kindD d), [.type t, .type u], _, rfl, upd_same, .cons (.ty _) (.cons (.ty _) .nil), dq_kind s2.eh q1 n, kit2 (kitB_is ht n) (kitB_is hu n), q _ _ F1 _ hk (s1.trans s2) (.bl _)⟩⟩⟩
/-! ### fields -/
def eFld (c : Str) (ns : List Str) (i : Nat) (a : EV) : EV := fun δ k kx => a δ (fun d => ∃ ds x, d = objD c ns ds ∧ ds[i]? = some x ∧ k x) kx
theorem lookup_at : ∀ {fs : List (Str × V)} {i : Nat} {f : Str} {v : V}, (fs.map (·.1)).idxOf? f = some i → (fs.map (·.2))[i]? = some v → fs.lookup f = some v
  | [], _, _, _, h, _ => by simp [List.idxOf?, List.findIdx?, List.findIdx?.go] at h
  | (n, w) :: fs, i, f, v, h, e => by
    rw [List.map_cons, List.idxOf?_cons] at h
    by_cases z : (n == f) = true
    · rw [if_pos z] at h
      cases h
      simp at e
      subst e
      have : f = n := (eq_of_beq z).symm
      subst this
      simp [List.lookup]
    · rw [if_neg z] at h
      cases g : (fs.map (·.1)).idxOf? f with
      | none => rw [g] at h; cases h
      | some j =>
        rw [g] at h
        cases h
        have := lookup_at g (by simpa using e)
        have z2 : (f == n) = false := by
          have : ¬ f = n := fun y => z (by rw [y]; simp)
          simpa using this
        simp [List.lookup, z2, this]
theorem qe_fld {c : Str} {ns : List Str} {C : Addr} {i : Nat} {n : Str} (T : ClC K c ns C) (hi : ns.idxOf? n = some i) (h : PE X e (tFld K (tE K W fa) n)) : QE X K W e (eFld c ns i fa) :=
  pe_mono h fun σ H Q ⟨H0, F, δ, k, kx, rl, hf, hx, q⟩ => ⟨H0, F, δ, _, kx, rl, hf, hx, fun v d F1 H1 ⟨ds, x, ed, hd, hk⟩ s1 q1 => by
    subst ed
    obtain ⟨a, C', dx, fs, rfl, h1, h2, h3, h4⟩ := dq_obj q1
    rw [T.at'] at h2
    cases h2
    obtain ⟨v, hv, hq⟩ := dqa_getD h4 hd
    have hmem : n ∈ ns := by
      have := List.isSome_idxOf?.mp (by rw [hi]; rfl : (ns.idxOf? n).isSome = true)
      exact this
    exact ⟨a, C, dx, fs, v, rfl, s1.eh _ _ h1, T.cl, T.no n hmem, lookup_at (by rw [h3]; exact hi) hv, q v x F1 H1 hk s1 hq⟩⟩
/-! ### sorted -/
open PySem.W in
def gSort (ds : List D) (k : List D → Prop) : Prop := pureA ds = true ∧ AllAlike ds ∧ Sortable ds ∧ (∀ d ∈ ds, d.depth ≤ 50) ∧ k (ds.mergeSort (dataLe false id))
open PySem.W in
def lSort (l : LV) : LV := fun δ k kx => l δ (fun ds => gSort ds k) kx
end
end TH

namespace TH
open PySem PySem.Spec PyProof.Rows L2
/-! ## what is walked -/
structure Wk (K : PySem.W.Frag) (J : It) (G : Hp → Hp → Prop) (items : List D) : Prop where
  go : ∀ i F H, i < items.length → G F H → Ex F H → J.go i H
  stop : ∀ F H, G F H → Ex F H → J.stop items.length H
  yld : ∀ i F H x H', i < items.length → G F H → Ex F H → J.yld i H x H' → ∃ F' d, Stp F H F' H' ∧ items[i]? = some d ∧ Dq K F' x d
def tI (K : PySem.W.Frag) (W : WX) (st : Bool) (f : LV) : TI := fun σ H R => ∃ H0 F δ k kx, Rl K H0 F H σ δ ∧ f δ k kx ∧ XO K W kx F H σ ∧ ∀ J items F' H', k items → Stp F H F' H' → items.length ≤ 1000000 → Wk K J (fun F2 H2 => Ex F' F2 ∧ (st = false → Ex H' H2)) items → R J H'
abbrev QI (X : Cx) (K : PySem.W.Frag) (W : WX) (st : Bool) (tg e : Expr) (f : LV) : Prop := PI X tg e (tI K W st f)
section
variable {K : PySem.W.Frag} {J : It} {G : Hp → Hp → Prop} {items : List D} {n : Nat} {Gh : Hp → Prop}
theorem wk_at {F0 : Hp} {xs : List V} (hd : DqA K F0 xs items) (w : Walk J xs.length Gh (YAt xs)) (hG : ∀ F H, G F H → Ex F H → Gh H) (h0 : ∀ F H, G F H → Ex F0 F) : Wk K J G items := by
  have hl := dqa_len hd
  refine ⟨fun i F H hi g e => w.goes i H (by omega) (hG F H g e), fun F H g e => by rw [← hl]; exact w.stops H (hG F H g e), fun i F H x H' hi g e y => ?_⟩
  obtain ⟨e1, e2⟩ := w.yields i H x H' (by omega) (hG F H g e) y
  subst e1
  obtain ⟨d, h1, h2⟩ := dqa_get hd e2
  exact ⟨F, d, .refl e, h1, h2.ex (h0 F _ g)⟩
theorem wk_fn {f : Nat → V} {g : Nat → D} (hg : ∀ F i, Dq K F (f i) (g i)) (hi : ∀ i, i < items.length → items[i]? = some (g i)) (w : Walk J items.length Gh (YFn f)) (hG : ∀ F H, G F H → Ex F H → Gh H) : Wk K J G items := by
  refine ⟨fun i F H hi g e => w.goes i H (by omega) (hG F H g e), fun F H g e => w.stops H (hG F H g e), fun i F H x H' hi' g' e y => ?_⟩
  obtain ⟨e1, e2⟩ := w.yields i H x H' hi' (hG F H g' e) y
  subst e1 e2
  exact ⟨F, g i, .refl e, hi i hi', hg F i⟩
def pairD (x y : D) : D := .tuple [x, y]
theorem wk_pair {F0 : Hp} {xs ys : Nat → Option V} {dx dy : Nat → Option D} (hx : ∀ i v, xs i = some v → ∃ d, dx i = some d ∧ Dq K F0 v d) (hy : ∀ i v, ys i = some v → ∃ d, dy i = some d ∧ Dq K F0 v d)
    (hi : ∀ i a b, i < items.length → dx i = some a → dy i = some b → items[i]? = some (pairD a b)) (w : Walk J items.length Gh (YPair xs ys)) (hG : ∀ F H, G F H → Ex F H → Gh H) (h0 : ∀ F H, G F H → Ex F0 F) : Wk K J G items := by
  refine ⟨fun i F H hi g e => w.goes i H (by omega) (hG F H g e), fun F H g e => w.stops H (hG F H g e), fun i F H x H' hi' g' e y => ?_⟩
  obtain ⟨T, u, v, rfl, hT, rfl, e1, e2⟩ := w.yields i H x H' hi' (hG F H g' e) y
  obtain ⟨a, ha, qa⟩ := hx i u e1
  obtain ⟨b, hb, qb⟩ := hy i v e2
  have ef := h0 F H g'
  have en : Ex F (upd F T (.tup [u, v])) := .new (ex_none e hT)
  exact ⟨_, pairD a b, .new e _ hT, hi i a b hi' ha hb, .tup upd_same (show 2 ≤ 1000000 by decide) (.cons (qa.ex (ef.trans en)) (.cons (qb.ex (ef.trans en)) .nil))⟩
end
def rngD (lo : Int) (n : Nat) : List D := (List.range n).map fun i => .int (lo + (i : Nat))
theorem rngD_len (lo : Int) (n : Nat) : (rngD lo n).length = n := by simp [rngD]
theorem rngD_at {lo : Int} {n i : Nat} (h : i < (rngD lo n).length) : (rngD lo n)[i]? = some (.int (lo + (i : Nat))) := by
  rw [rngD_len] at h
  unfold rngD
  rw [List.getElem?_map, List.getElem?_range h]
  rfl
section
variable {X : Cx} {K : PySem.W.Frag} {W : WX} {st : Bool} {tg e a b : Expr} {f fa fb : EV} {l la lb : LV}
theorem pi_mono {t t' : TI} (h : PI X tg e t) (m : ∀ σ H R, t' σ H R → t σ H R) : PI X tg e t' := ⟨fun pins s σ H R I q => h.run pins s σ H R I (m σ H R q)⟩
theorem qi_list (h : PI X tg e (iList K (tL K W l))) : QI X K W false tg e l := pi_mono h fun σ H R ⟨H0, F, δ, k, kx, rl, hf, hx, q⟩ => ⟨H0, F, δ, _, kx, rl, hf, hx, fun p xs ds F1 H1 hk s1 h1 h2 h3 =>
  ⟨p, rfl, ⟨xs, sqL h1⟩, q _ ds F1 H1 hk s1 h2 (wk_at h3 walk_list (fun F H g e => sqL (g.2 rfl _ _ h1)) fun F H g => g.1)⟩⟩
theorem qi_listS (h : PI X tg e (iList K (tE K W f))) : QI X K W st tg e (lL f) := pi_mono h fun σ H R ⟨H0, F, δ, k, kx, rl, hf, hx, q⟩ => ⟨H0, F, δ, _, kx, rl, hf, hx, fun v d F1 H1 ⟨ds, ed, hk⟩ s1 q1 => by
  subst ed
  obtain ⟨p, xs, rfl, h1, h2, h3⟩ := dq_lst q1
  exact ⟨p, rfl, ⟨xs, sqL (s1.eh _ _ h1)⟩, q _ ds F1 H1 hk s1 h2 (wk_at h3 walk_list (fun F H g e => sqL (e _ _ (g.1 _ _ h1))) fun F H g => g.1)⟩⟩
theorem qi_tup (h : PI X tg e (iTup K (tE K W f))) : QI X K W st tg e (lT f) := pi_mono h fun σ H R ⟨H0, F, δ, k, kx, rl, hf, hx, q⟩ => tupV rl hf hx fun p xs ds F1 H1 hk s1 h1 h2 h3 =>
  ⟨p, rfl, ⟨xs, sqT (s1.eh _ _ h1)⟩, q _ ds F1 H1 hk s1 h2 (wk_at h3 walk_tup (fun F H g e => sqT (e _ _ (g.1 _ _ h1))) fun F H g => g.1)⟩
def iRg1 (f : LV) : LV := fun δ k kx => f δ (fun ds => ∃ n : Int, ds = [.int n] ∧ -1000000 ≤ n ∧ n ≤ 1000000 ∧ k (rngD 0 n.toNat)) kx
def iRg2 (f : LV) : LV := fun δ k kx => f δ (fun ds => ∃ m n : Int, ds = [.int m, .int n] ∧ -1000000 ≤ m ∧ m ≤ 1000000 ∧ -1000000 ≤ n ∧ n ≤ 1000000 ∧ (n - m).toNat ≤ 1000000 ∧ k (rngD m (n - m).toNat)) kx
theorem qi_rng1 (h : PI X tg e (iRng1 (tAs K W l))) : QI X K W st tg e (iRg1 l) := pi_mono h fun σ H R ⟨H0, F, δ, k, kx, rl, hf, hx, q⟩ => ⟨H0, F, δ, _, kx, rl, hf, hx, fun vs ds F1 H1 ⟨n, ed, h0, h1, hk⟩ s1 q1 => by
  subst ed
  obtain ⟨v, rfl, hv⟩ := dqa1 q1
  refine ⟨n, by rw [dq_int hv], by omega, by omega, q _ _ F1 H1 hk s1 (by rw [rngD_len]; omega) (wk_fn (f := fun i => .int (0 + (i : Nat))) (g := fun i => .int (0 + (i : Nat))) (Gh := fun _ => True) (fun _ _ => .int _) (fun i hi => rngD_at hi) ?_ fun _ _ _ _ => trivial)⟩
  rw [rngD_len]
  exact walk_range⟩
def enumD (ds : List D) : List D := List.zipWith pairD ((List.range ds.length).map fun i => .int (i : Nat)) ds
def iEn (l : LV) : LV := fun δ k kx => l δ (fun ds => k (enumD ds)) kx
def zipD (xs ys : List D) : List D := List.zipWith pairD xs ys
theorem zipD_len (xs ys : List D) : (zipD xs ys).length = min xs.length ys.length := by simp [zipD]
theorem zipD_at {xs ys : List D} {i : Nat} {a b : D} (h1 : xs[i]? = some a) (h2 : ys[i]? = some b) : (zipD xs ys)[i]? = some (pairD a b) := by
  unfold zipD
  rw [List.getElem?_zipWith, h1, h2]
def iZp (la lb : LV) : LV := fun δ k kx => la δ (fun xs => lb δ (fun ys => k (zipD xs ys)) kx) kx
theorem wk_zip {F0 : Hp} {xs ys : List V} {ds es : List D} {J : It} {G : Hp → Hp → Prop} {Gh : Hp → Prop} (hd : DqA K F0 xs ds) (he : DqA K F0 ys es) (w : ∀ n, n = min xs.length ys.length → Walk J n Gh (YPair (fun i => xs[i]?) (fun i => ys[i]?))) (hG : ∀ F H, G F H → Ex F H → Gh H) (h0 : ∀ F H, G F H → Ex F0 F) : Wk K J G (zipD ds es) :=
  wk_pair (F0 := F0) (dx := fun i => ds[i]?) (dy := fun i => es[i]?) (fun i v e => dqa_get hd e) (fun i v e => dqa_get he e) (fun i x y hi h1 h2 => zipD_at h1 h2) (w _ (by rw [zipD_len, dqa_len hd, dqa_len he])) hG h0
theorem zip_le {ds es : List D} (h : ds.length ≤ 1000000) : (zipD ds es).length ≤ 1000000 := by rw [zipD_len]; omega
theorem qi_zipL (h : PI X tg e (RZ.iZipA K (tCons (tL K W la) (tCons (tL K W lb) tNil)))) : QI X K W false tg e (iZp la lb) := pi_mono h fun σ H R ⟨H0, F, δ, k, kx, rl, hf, hx, q⟩ => ⟨H0, F, δ, _, kx, rl, hf, hx, fun p xs ds F1 H1 hk s1 h1 h2 h3 =>
  ⟨H0, F1, δ, _, kx, rl.step s1, hk, hx.step s1, fun p' ys es F2 H2 hk2 s2 g1 g2 g3 => ⟨p, p', xs, ys, rfl, .inl ⟨sqL (s2.h _ _ h1), sqL g1, q _ _ F2 H2 hk2 (s1.trans s2) (zip_le h2)
    (wk_zip (h3.ex s2.e) g3 (fun n hn => walk_zip hn) (fun F H g e => ⟨sqL (g.2 rfl _ _ (s2.h _ _ h1)), sqL (g.2 rfl _ _ g1)⟩) fun F H g => g.1)⟩⟩⟩⟩
/-- a tuple and a list -/
theorem qi_zipN (h : PI X tg e (iZipN K (tCons (tE K W fa) (tCons (tL K W lb) tNil)))) : QI X K W false tg e (iZp (lT fa) lb) := pi_mono h fun σ H R ⟨H0, F, δ, k, kx, rl, hf, hx, q⟩ => tupV rl hf hx fun p xs ds F1 H1 hk s1 h1 h2 h3 =>
  ⟨H0, F1, δ, _, kx, rl.step s1, hk, hx.step s1, fun p' ys es F2 H2 hk2 s2 g1 g2 g3 => ⟨p, p', xs, ys, rfl, sqT (s2.h _ _ (s1.eh _ _ h1)), sqL g1, q _ _ F2 H2 hk2 (s1.trans s2) (zip_le h2)
    (wk_zip (h3.ex s2.e) g3 (fun n hn => walk_zipN hn) (fun F H g e => ⟨sqT (g.2 rfl _ _ (s2.h _ _ (s1.eh _ _ h1))), sqL (g.2 rfl _ _ g1)⟩) fun F H g => g.1)⟩⟩
end
/-! ## targets -/
abbrev GV := D → List Sl → (List Sl → Prop) → Prop
abbrev GsV := List D → List Sl → (List Sl → Prop) → Prop
def wipeD (δ : List Sl) : List Nat → List Sl
  | [] => δ
  | v :: vs => (wipeD δ vs).set v .non
/-- what is owned was owned -/
def Ow (σ : L2.St) (δ : List Sl) (σ' : L2.St) (δ' : List Sl) : Prop := ∀ (i : Nat) (s : Sl), (∀ d, s ≠ .val d) → s ≠ .non → δ'[i]? = some s → δ[i]? = some s ∧ σ'[i]? = σ[i]?
theorem Ow.refl (σ : L2.St) (δ : List Sl) : Ow σ δ σ δ := fun _ _ _ _ h => ⟨h, rfl⟩
theorem Ow.trans {σ σ1 σ2 : L2.St} {δ δ1 δ2 : List Sl} (a : Ow σ δ σ1 δ1) (b : Ow σ1 δ1 σ2 δ2) : Ow σ δ σ2 δ2 := fun i d n1 n2 h => ⟨(a i d n1 n2 (b i d n1 n2 h).1).1, (b i d n1 n2 h).2.trans (a i d n1 n2 (b i d n1 n2 h).1).2⟩
theorem Ow.set (σ : L2.St) (δ : List Sl) (i : Nat) (v : Option V) {s : Sl} (hs : s = .non ∨ ∃ d, s = .val d) : Ow σ δ (σ.set i v) (δ.set i s) := fun j d n1 n2 h => by
  by_cases z : i = j
  · subst z
    have hl : i < δ.length := by
      have := (List.getElem?_eq_some_iff.mp h).1
      rwa [List.length_set] at this
    rw [List.getElem?_set_self hl] at h
    cases h
    rcases hs with e | ⟨d, e⟩
    · exact absurd e n2
    · exact absurd e (n1 d)
  · rw [List.getElem?_set_ne z] at h
    exact ⟨h, List.getElem?_set_ne z⟩
theorem Ow.wipe (σ : L2.St) (δ : List Sl) : ∀ vs : List Nat, Ow σ δ (L2.wipe σ vs) (wipeD δ vs)
  | [] => .refl σ δ
  | v :: vs => (Ow.wipe σ δ vs).trans (.set _ _ v none (.inl rfl))
def GR (K : PySem.W.Frag) (vs : List Nat) (g : TG) (gv : GV) : Prop := ∀ H0 F H σ δ x d kd QS, Rl K H0 F H σ δ → Dq K F x d → gv d δ kd → (∀ σ' δ', kd δ' → Rl K H0 F H σ' δ' → L2.wipe σ' vs = L2.wipe σ vs → Ow σ δ σ' δ' → QS σ' H) → g x σ H QS
def GsR (K : PySem.W.Frag) (vs : List Nat) (g : TGs) (gv : GsV) : Prop := ∀ H0 F H σ δ xs ds kd QS, Rl K H0 F H σ δ → DqA K F xs ds → gv ds δ kd → (∀ σ' δ', kd δ' → Rl K H0 F H σ' δ' → L2.wipe σ' vs = L2.wipe σ vs → Ow σ δ σ' δ' → QS σ' H) → g xs σ H QS
theorem wipe_set {σ : L2.St} {i : Nat} {v : Option V} : ∀ {vs : List Nat}, i ∈ vs → L2.wipe (σ.set i v) vs = wipe σ vs
  | j :: vs, h => by
    unfold wipe
    by_cases z : i = j
    · subst z
      by_cases hm : i ∈ vs
      · rw [wipe_set hm]
      · have : L2.wipe (σ.set i v) vs = (wipe σ vs).set i v := by
          clear h
          revert hm
          induction vs with
          | nil => intro _; rfl
          | cons k vs ih =>
            intro hm
            unfold wipe
            rw [ih fun m => hm (.tail _ m), List.set_comm]
            exact fun e => hm (e ▸ .head _)
        rw [this, List.set_set]
    · have hm : i ∈ vs := by
        rcases List.mem_cons.mp h with e | h
        · exact absurd e z
        · exact h
      rw [wipe_set hm]
theorem wipe_wipe (σ : L2.St) (vs : List Nat) : wipe (wipe σ vs) vs = wipe σ vs := by
  have gen : ∀ us : List Nat, (∀ i ∈ us, i ∈ vs) → wipe (wipe σ us) vs = wipe σ vs := by
    intro us
    induction us with
    | nil => intro _; rfl
    | cons u us ih =>
      intro h
      show wipe ((wipe σ us).set u none) vs = _
      rw [wipe_set (h u (.head _)), ih fun i hi => h i (.tail _ hi)]
  exact gen vs fun _ h => h
theorem Rl.wipe {K : PySem.W.Frag} {H0 F H : Hp} {σ : L2.St} {δ : List Sl} (r : Rl K H0 F H σ δ) : ∀ vs : List Nat, Rl K H0 F H (L2.wipe σ vs) (wipeD δ vs)
  | [] => r
  | v :: vs => (r.wipe vs).forget v none
def gN (i : Nat) : GV := fun d δ k => k (δ.set i (.val d))
theorem gr_name {K : PySem.W.Frag} {vs : List Nat} {i : Nat} (h : i ∈ vs) : GR K vs (gName i) (gN i) := fun H0 F H σ δ x d kd QS rl hx hg q => q _ _ hg (rl.set i hx) (wipe_set h) (.set _ _ _ _ (.inr ⟨_, rfl⟩))
def gsN : GsV := fun ds δ k => ds = [] ∧ k δ
def gsC (g : GV) (u : GsV) : GsV := fun ds δ k => ∃ d r, ds = d :: r ∧ g d δ fun δ' => u r δ' k
theorem gsr_nil {K : PySem.W.Frag} {vs : List Nat} : GsR K vs gNil gsN := fun H0 F H σ δ xs ds kd QS rl hx ⟨e, hk⟩ q => by
  subst e
  cases hx
  exact ⟨rfl, q _ _ hk rl rfl (.refl _ _)⟩
theorem gsr_cons {K : PySem.W.Frag} {vs : List Nat} {g : TG} {u : TGs} {gv : GV} {uv : GsV} (hg : GR K vs g gv) (hu : GsR K vs u uv) : GsR K vs (gCons g u) (gsC gv uv) := fun H0 F H σ δ xs ds kd QS rl hx ⟨d, r, e, hk⟩ q => by
  subst e
  cases hx with
  | cons h t => exact ⟨_, _, rfl, hg H0 F H σ δ _ d _ _ rl h hk fun σ' δ' hk' rl' hw ow => hu H0 F H σ' δ' _ r kd QS rl' t hk' fun σ2 δ2 hk2 rl2 hw2 ow2 => q σ2 δ2 hk2 rl2 (hw2.trans hw) (ow.trans ow2)⟩
def gT (n : Nat) (u : GsV) : GV := fun d δ k => ∃ ds, d = .tuple ds ∧ ds.length = n ∧ u ds δ k
theorem gr_tup {K : PySem.W.Frag} {vs : List Nat} {n : Nat} {u : TGs} {uv : GsV} (hu : GsR K vs u uv) : GR K vs (gTup K n u) (gT n uv) := fun H0 F H σ δ x d kd QS rl hx ⟨ds, e, hl, hk⟩ q => by
  subst e
  obtain ⟨a, xs, rfl, h1, h2, h3⟩ := dq_tup hx
  exact ⟨a, xs, rfl, sqT (rl.ex _ _ h1), by rw [dqa_len h3, hl], hu H0 F H σ δ xs ds kd QS rl h3 hk q⟩
/-! ## comprehensions -/
def tY : TV := fun _ k _ => k true
theorem pts_mono {X : Cx} {ifs : List Expr} {t t' : TT} (h : PTs X ifs t) (m : ∀ σ H Q, t' σ H Q → t σ H Q) : PTs X ifs t' := ⟨fun pins s σ H Q I q => h.run pins s σ H Q I (m σ H Q q)⟩
theorem qts_nil {X : Cx} {K : PySem.W.Frag} {W : WX} : PTs X [] (tTt K W tY) := pts_mono pts_nil fun σ H Q ⟨H0, F, δ, k, kx, rl, hf, hx, q⟩ => q true F H hf (.refl rl.ex)
def lcD (gv : GV) (tv : TV) (ev : EV) (δ : List Sl) : List D → List D → (List D → Prop) → Prop
  | [], acc, k => k acc
  | x :: xs, acc, k => gv x δ fun δ' => tv δ' (fun b => if b = true then ev δ' (fun d => lcD gv tv ev δ xs (acc ++ [d]) k) (fun _ => False) else lcD gv tv ev δ xs acc k) (fun _ => False)
def lLc (it : LV) (gv : GV) (tv : TV) (ev : EV) (vs : List Nat) : LV := fun δ k kx => it δ (fun items => lcD gv tv ev (wipeD δ vs) items [] k) kx
theorem drop_at {α : Type} {xs : List α} {i : Nat} {x : α} (h : xs[i]? = some x) : xs.drop i = x :: xs.drop (i + 1) := by
  obtain ⟨h1, h2⟩ := List.getElem?_eq_some_iff.mp h
  rw [List.drop_eq_getElem_cons h1, h2]
/-- the walk of a comprehension over items in hand -/
theorem lc_cor {K : PySem.W.Frag} {W : WX} {J : It} {items : List D} {H0 F1 H1 : Hp} {σ : L2.St} {δ : List Sl} {g : TG} {gv : GV} {tv : TV} {ev : EV} {vs : List Nat} {k : List D → Prop} {Q : VK} (hg : GR K vs g gv) (rl : Rl K H0 F1 H1 σ δ) (hk : lcD gv tv ev (wipeD δ vs) items [] k) (hlen : items.length ≤ 1000000) (wk : Wk K J (fun F2 H2 => Ex F1 F2 ∧ (false = false → Ex H1 H2)) items)
    (q : ∀ a xs ds F' H', k ds → Stp F1 H1 F' H' → H1 a = none → F' a = none → H' a = some (.lst xs) → ds.length ≤ 1000000 → DqA K F' xs ds → Q (.ref a) H') : tLc (fun _ _ R => R J H1) g (tTt K W0 tv) (tE K W0 ev) vs σ H1 Q := by
  intro Dl hD
  refine ⟨fun i m H2 => m = items.length - i ∧ i ≤ items.length ∧ ∃ F2 ws acc, Stp F1 H1 F2 H2 ∧ F2 Dl = none ∧ H2 Dl = some (.lst ws) ∧ DqA K F2 ws acc ∧ acc.length ≤ i ∧ lcD gv tv ev (wipeD δ vs) (items.drop i) acc k, ⟨_, rfl, Nat.zero_le _, F1, [], [], .newH rl.ex _ hD, ex_none rl.ex hD, upd_same, .nil, Nat.le_refl _, hk⟩, ?_⟩
  rintro i m H2 ⟨rfl, hi, F2, ws, acc, s2, hF, hH, hda, hal, hk2⟩
  have gG : Ex F1 F2 ∧ (false = false → Ex H1 H2) := ⟨s2.e, fun _ => s2.h⟩
  by_cases hlt : i < items.length
  · refine .inr ⟨wk.go i F2 H2 hlt gG s2.eh, _, fun H' p => ⟨_, (by omega : items.length - (i + 1) < items.length - i), rfl, hlt, p⟩, fun x H3 hy => ?_⟩
    obtain ⟨F3, d, s3, hd, hq⟩ := wk.yld i F2 H2 x H3 hlt gG s2.eh hy
    rw [drop_at hd] at hk2
    have n3 : F3 Dl = none := s3.nw Dl _ hF hH fun _ z => nomatch z
    have r3 : Rl K H0 F3 H3 (L2.wipe σ vs) (wipeD δ vs) := (rl.step (s2.trans s3)).wipe vs
    refine hg H0 F3 H3 _ _ x d _ _ r3 hq hk2 fun σ' δ' hk' rl' hw _ => ⟨by rw [hw, wipe_wipe], H0, F3, δ', _, _, rl', hk', .no, fun b F4 H4 hk4 s4 => ?_⟩
    have hH4 : H4 Dl = some (.lst ws) := s4.h _ _ (s3.h _ _ hH)
    have n4 : F4 Dl = none := s4.nw Dl _ n3 (s3.h _ _ hH) fun _ z => nomatch z
    cases b with
    | false =>
      simp only [Bool.false_eq_true, if_false] at hk4 ⊢
      exact ⟨F4, ws, acc, (s2.trans s3).trans s4, n4, hH4, hda.ex (s3.e.trans s4.e), by omega, hk4⟩
    | true =>
      simp only [if_true] at hk4 ⊢
      refine ⟨H0, F4, δ', _, _, rl'.step s4, hk4, .no, fun y d5 F5 H5 hk5 s5 q5 => ?_⟩
      have hH5 : H5 Dl = some (.lst ws) := s5.h _ _ hH4
      have n5 : F5 Dl = none := s5.nw Dl _ n4 hH4 fun _ z => nomatch z
      have s := ((s2.trans s3).trans s4).trans s5
      refine ⟨ws, hH5, Nat.lt_of_lt_of_le (show ws.length < 1000000 by rw [dqa_len hda]; omega) (small2 (Nat.le_refl _)), F5, ws ++ [y], acc ++ [d5], ⟨s.e, s.h.mut hD, s.eh.mut n5, s.nw⟩, n5, upd_same, dqa_snoc (hda.ex ((s3.e.trans s4.e).trans s5.e)) q5, by rw [List.length_append]; simp; omega, hk5⟩
  · have ei : i = items.length := by omega
    subst ei
    rw [List.drop_length] at hk2
    exact .inl ⟨wk.stop F2 H2 gG s2.eh, q Dl ws acc F2 H2 hk2 s2 hD hF hH (by omega) hda⟩
theorem qf_lc {X : Cx} {K : PySem.W.Frag} {W : WX} {e : Expr} {it : LV} {g : TG} {gv : GV} {tv : TV} {ev : EV} {vs : List Nat} (hg : GR K vs g gv) (h : PE X e (tLc (tI K W false it) g (tTt K W0 tv) (tE K W0 ev) vs)) : QF X K W e (lLc it gv tv ev vs) :=
  pe_mono h fun σ H Q ⟨H0, F, δ, k, kx, rl, hf, hx, q⟩ => ⟨H0, F, δ, _, kx, rl, hf, hx, fun J items F1 H1 hk s1 hlen wk => lc_cor (W := W) hg (rl.step s1) hk hlen wk fun a xs ds F2 H2 h1 s2 h2 => q a xs ds F2 H2 h1 (s1.trans s2) (new_none s1 h2)⟩
end TH

namespace TH
open PySem PySem.Spec PyProof.Rows L2
/-! ## what a slot gets -/
abbrev SlV := List Sl → (Sl → Prop) → (XD → Prop) → Prop
def SlN (K : PySem.W.Frag) (H F' H' : Hp) (v : V) : Sl → Prop
  | .non => True
  | .val d => Dq K F' v d
  | .own d => ∃ a, v = .ref a ∧ H a = none ∧ F' a = none ∧ OwR K F' H' a d
  | .dp a cs => v = .ref a ∧ (cs.map (·.1)).Nodup ∧ ∀ p ∈ cs, H p.1 = none ∧ F' p.1 = none ∧ OwR K F' H' p.1 p.2
def tSl (K : PySem.W.Frag) (W : WX) (f : SlV) : TE := fun σ H Q => ∃ H0 F δ k kx, Rl K H0 F H σ δ ∧ f δ k kx ∧ XO K W kx F H σ ∧ ∀ v s F' H', k s → Stp F H F' H' → SlN K H F' H' v s → Q v H'
def slV (f : EV) : SlV := fun δ k kx => f δ (fun d => k (.val d)) kx
def slO (l : LV) : SlV := fun δ k kx => l δ (fun ds => k (.own (.list ds))) kx
section
variable {X : Cx} {K : PySem.W.Frag} {W : WX} {e : Expr} {f : EV} {l : LV}
theorem sl_val {t : TE} (m : ∀ σ H Q, tE K W f σ H Q → t σ H Q) : ∀ σ H Q, tSl K W (slV f) σ H Q → t σ H Q := fun σ H Q ⟨H0, F, δ, k, kx, r, hf, hx, q⟩ => m σ H Q ⟨H0, F, δ, _, kx, r, hf, hx, fun v d F' H' hk s h => q v (.val d) F' H' hk s h⟩
theorem sl_own {t : TE} (m : ∀ σ H Q, tF K W l σ H Q → t σ H Q) : ∀ σ H Q, tSl K W (slO l) σ H Q → t σ H Q := fun σ H Q ⟨H0, F, δ, k, kx, r, hf, hx, q⟩ => m σ H Q ⟨H0, F, δ, _, kx, r, hf, hx, fun a xs ds F' H' hk s h1 h2 h3 h4 h5 => q (.ref a) (.own (.list ds)) F' H' hk s ⟨a, rfl, h1, h2, xs, h3, h4, h5⟩⟩
end
theorem Rl.setS {K : PySem.W.Frag} {H0 F0 F H F' H' : Hp} {σ : L2.St} {δ : List Sl} (r : Rl K H0 F H σ δ) (h0 : Ex H0 H) (s : Stp F H F' H') (i : Nat) {v : V} {sl : Sl} (h : SlN K H F' H' v sl) : Rl K H0 F' H' (σ.set i (some v)) (δ.set i sl) := by
  cases sl with
  | non => exact (r.step s).forget i _
  | val d => exact (r.step s).set i h
  | own d =>
    obtain ⟨a, rfl, h1, h2, h3⟩ := h
    refine (r.step s).setOwn i h2 (ex_none h0 h1) h3 (fun j e _ hj hσ => ?_) fun j b cs _ hj p hp => ?_
    · obtain ⟨b, g1, _, _, g4⟩ := r.own hj
      rw [hσ] at g1
      cases g1
      exact g4.nn h1
    · obtain ⟨ov, _, _, _, hc⟩ := r.at' j _ hj
      exact fun z => (hc p hp).2.2.nn (by rw [z]; exact h1)
  | dp a cs =>
    obtain ⟨rfl, nd, hc⟩ := h
    exact (r.step s).setDp i nd (fun p hp => ⟨(hc p hp).2.1, ex_none h0 (hc p hp).1, (hc p hp).2.2⟩) (fun j e _ hj p hp hσ => by
      obtain ⟨b, g1, _, _, g4⟩ := r.own hj
      rw [hσ] at g1
      cases g1
      exact g4.nn (hc p hp).1) fun j b es _ hj p hp q hq z => by
      obtain ⟨ov, _, _, _, ho⟩ := r.at' j _ hj
      exact (ho q hq).2.2.nn (by rw [← z]; exact (hc p hp).1)
/-! ## statements -/
structure ED where
  nx : List Sl → Prop
  rt : D → Prop
  bk : List Sl → Prop := fun _ => False
  ct : List Sl → Prop := fun _ => False
  xx : XD → List Sl → Prop := fun _ _ => False
  ro : D → Prop := fun _ => False
abbrev SV := ED → List Sl → Prop
/-- where a statement stands: against the def's start (F0, H0), against a place on the way (Fb) -/
structure Sg (z : Bool) (v0 : V) (Fb F0 H0 F H : Hp) (σ : L2.St) : Prop where
  s : Stp F0 H0 F H
  b : Ex Fb F
  /-- z: the first slot is kept -/
  k : z = true → σ[0]? = some (some v0)
theorem Sg.trans {z : Bool} {v0 : V} {Fb F0 H0 F H F' H' : Hp} {σ : L2.St} (g : Sg z v0 Fb F0 H0 F H σ) (s : Stp F H F' H') : Sg z v0 Fb F0 H0 F' H' σ := ⟨g.s.trans s, g.b.trans s.e, g.k⟩
theorem Sg.set {z : Bool} {v0 : V} {Fb F0 H0 F H : Hp} {σ : L2.St} (g : Sg z v0 Fb F0 H0 F H σ) {i : Nat} {v : Option V} (h : z = false ∨ i ≠ 0) : Sg z v0 Fb F0 H0 F H (σ.set i v) := ⟨g.s, g.b, fun e => by
  rcases h with h | h
  · rw [h] at e; cases e
  · rw [List.getElem?_set_ne h]
    exact g.k e⟩
theorem Sg.wiped {z : Bool} {v0 : V} {Fb F0 H0 F H : Hp} {σ σ' : L2.St} {vs : List Nat} (g : Sg z v0 Fb F0 H0 F H σ) (h : z = false ∨ 0 ∉ vs) (hw : L2.wipe σ' vs = L2.wipe σ vs) : Sg z v0 Fb F0 H0 F H σ' := ⟨g.s, g.b, fun e => by
  rcases h with h | h
  · rw [h] at e; cases e
  · rw [← wipe_out h, hw, wipe_out h]
    exact g.k e⟩
theorem Sg.h {z : Bool} {v0 : V} {Fb F0 H0 F H : Hp} {σ : L2.St} (g : Sg z v0 Fb F0 H0 F H σ) : Ex H0 H := g.s.h
structure EO (K : PySem.W.Frag) (W : WX) (z : Bool) (v0 : V) (Fb F0 H0 : Hp) (E : ED) (Dn : Ends) : Prop where
  nx : ∀ F H σ δ, E.nx δ → Rl K H0 F H σ δ → Sg z v0 Fb F0 H0 F H σ → Dn.nx σ H
  rt : ∀ v d F H σ, E.rt d → Sg z v0 Fb F0 H0 F H σ → Dq K F v d → Dn.rt v H
  bk : ∀ F H σ δ, E.bk δ → Rl K H0 F H σ δ → Sg z v0 Fb F0 H0 F H σ → Dn.bk σ H
  ct : ∀ F H σ δ, E.ct δ → Rl K H0 F H σ δ → Sg z v0 Fb F0 H0 F H σ → Dn.ct σ H
  xx : ∀ c od x F H σ δ, E.xx x δ → Rl K H0 F H σ δ → Sg z v0 Fb F0 H0 F H σ → Xq K F H c od x → W c od σ H
  ro : ∀ a d F H σ, E.ro d → Sg z v0 Fb F0 H0 F H σ → F a = none → H0 a = none → OwR K F H a d → Dn.rt (.ref a) H
def tS (K : PySem.W.Frag) (W : WX) (z : Bool) (f : SV) : TS := fun Dn σ H => ∃ v0 Fb F0 H0 F δ E, Rl K H0 F H σ δ ∧ Sg z v0 Fb F0 H0 F H σ ∧ f E δ ∧ EO K W z v0 Fb F0 H0 E Dn
abbrev QS (X : Cx) (K : PySem.W.Frag) (W : WX) (z : Bool) (st : Stmt) (f : SV) : Prop := PS X st (tS K W z f)
abbrev QSs (X : Cx) (K : PySem.W.Frag) (W : WX) (z : Bool) (st : List Stmt) (f : SV) : Prop := PSs X st (tS K W z f)
section
variable {X : Cx}
theorem ps_mono {st : Stmt} {t t' : TS} (h : PS X st t) (m : ∀ D σ H, t' D σ H → t D σ H) : PS X st t' := ⟨fun pins s σ H D I q => h.run pins s σ H D I (m D σ H q)⟩
theorem pss_mono {st : List Stmt} {t t' : TS} (h : PSs X st t) (m : ∀ D σ H, t' D σ H → t D σ H) : PSs X st t' := ⟨fun pins s σ H D I q => h.run pins s σ H D I (m D σ H q)⟩
end
/-- what an error is wished, in a statement's expression -/
theorem EO.xo {K : PySem.W.Frag} {W : WX} {z : Bool} {v0 : V} {Fb F0 H0 F H : Hp} {E : ED} {Dn : Ends} {σ : L2.St} {δ : List Sl} (o : EO K W z v0 Fb F0 H0 E Dn) (r : Rl K H0 F H σ δ) (s : Sg z v0 Fb F0 H0 F H σ) : XO K W (fun x => E.xx x δ) F H σ :=
  fun c od x F' H' hx s' hq => o.xx c od x F' H' σ δ hx (r.step s') (s.trans s') hq
def sNx : SV := fun E δ => E.nx δ
def sBk : SV := fun E δ => E.bk δ
def sCt : SV := fun E δ => E.ct δ
def sSeq (f g : SV) : SV := fun E δ => f { E with nx := g E } δ
def sRet (f : EV) : SV := fun E δ => f δ E.rt fun x => E.xx x δ
def sRetN : SV := fun E _ => E.rt .none
def sEx (f : EV) : SV := fun E δ => f δ (fun _ => E.nx δ) fun x => E.xx x δ
def sIf (t : TV) (a b : SV) : SV := fun E δ => t δ (fun c => if c = true then a E δ else b E δ) fun x => E.xx x δ
def sSet (i : Nat) (f : SlV) : SV := fun E δ => f δ (fun s => E.nx (δ.set i s)) fun x => E.xx x δ
def sAsg (g : GV) (f : EV) : SV := fun E δ => f δ (fun d => g d δ E.nx) fun x => E.xx x δ
def sPar (i j : Nat) (a b : SlV) : SV := fun E δ => a δ (fun x => b δ (fun y => E.nx ((δ.set i x).set j y)) fun x => E.xx x δ) fun x => E.xx x δ
def sPar3 (i j m : Nat) (a b c : SlV) : SV := fun E δ => a δ (fun x => b δ (fun y => c δ (fun z => E.nx (((δ.set i x).set j y).set m z)) fun x => E.xx x δ) fun x => E.xx x δ) fun x => E.xx x δ
def sAug (i : Nat) (g : D → D → (D → Prop) → Prop) (f : EV) : SV := fun E δ => ∃ x, δ[i]? = some (.val x) ∧ f δ (fun y => g x y fun z => E.nx (δ.set i (.val z))) fun x => E.xx x δ
section
variable {X : Cx} {K : PySem.W.Frag} {W : WX} {z : Bool} {e a b c : Expr} {st : Stmt} {rest : List Stmt} {f fa fb : EV} {l : LV} {g h : SV} {pos : Pos}
theorem qss_nil : QSs X K W z [] sNx := pss_mono pss_nil fun Dn σ H ⟨v0, Fb, F0, H0, F, δ, E, r, s, hf, o⟩ => o.nx F H σ δ hf r s
theorem qss_cons (h1 : QS X K W z st g) (h2 : QSs X K W z rest h) : QSs X K W z (st :: rest) (sSeq g h) := pss_mono (pss_cons h1 h2) fun Dn σ H ⟨v0, Fb, F0, H0, F, δ, E, r, s, hf, o⟩ =>
  ⟨v0, Fb, F0, H0, F, δ, _, r, s, hf, fun F1 H1 σ1 δ1 hk r1 s1 => ⟨v0, Fb, F0, H0, F1, δ1, E, r1, s1, hk, o⟩, o.rt, o.bk, o.ct, o.xx, o.ro⟩
theorem qss_one (h1 : QS X K W z st g) : QSs X K W z [st] g := pss_one h1
theorem qs_ret (he : QE X K W e f) : QS X K W z (.Return (some e) pos) (sRet f) := ps_mono (ps_ret he) fun Dn σ H ⟨v0, Fb, F0, H0, F, δ, E, r, s, hf, o⟩ => ⟨H0, F, δ, _, _, r, hf, o.xo r s, fun v d F1 H1 hk s1 q1 => o.rt v d F1 H1 _ hk (s.trans s1) q1⟩
theorem qs_expr (he : QE X K W e f) (hs : swapsWith e none pos.line X.env = pure false := by rfl) : QS X K W z (.Expr e pos) (sEx f) := ps_mono (ps_expr he hs) fun Dn σ H ⟨v0, Fb, F0, H0, F, δ, E, r, s, hf, o⟩ => ⟨H0, F, δ, _, _, r, hf, o.xo r s, fun v d F1 H1 hk s1 q1 => o.nx F1 H1 σ δ hk (r.step s1) (s.trans s1)⟩
theorem qs_if {ft : TV} {sa sb : List Stmt} (hc : QT X K W c ft) (ha : QSs X K W z sa g) (hb : QSs X K W z sb h) : QS X K W z (.If c sa sb pos) (sIf ft g h) := ps_mono (ps_if hc ha hb) fun Dn σ H ⟨v0, Fb, F0, H0, F, δ, E, r, s, hf, o⟩ => ⟨H0, F, δ, _, _, r, hf, o.xo r s, fun b F1 H1 hk s1 => by
  cases b with
  | true =>
    simp only [if_true] at hk ⊢
    exact ⟨v0, Fb, F0, H0, F1, δ, E, r.step s1, s.trans s1, hk, o⟩
  | false =>
    simp only [Bool.false_eq_true, if_false] at hk ⊢
    exact ⟨v0, Fb, F0, H0, F1, δ, E, r.step s1, s.trans s1, hk, o⟩⟩
theorem qs_set' {i : Nat} {t : TE} {fs : SlV} (hp : PS X st (tAsg t (gName i))) (m : ∀ σ H Q, tSl K W fs σ H Q → t σ H Q) (hz : z = false ∨ i ≠ 0 := by first | exact .inl rfl | exact .inr (by decide)) : QS X K W z st (sSet i fs) := ps_mono hp fun Dn σ H ⟨v0, Fb, F0, H0, F, δ, E, r, s, hf, o⟩ =>
  m σ H _ ⟨H0, F, δ, _, _, r, hf, o.xo r s, fun v sl F1 H1 hk s1 q1 => o.nx F1 H1 _ _ hk (r.setS (F0 := F0) s.h s1 i q1) ((s.trans s1).set hz)⟩
theorem qs_asg {tg : TG} {gv : GV} {vs : List Nat} (hg : GR K vs tg gv) (hp : PS X st (tAsg (tE K W f) tg)) (hz : z = false ∨ 0 ∉ vs := by first | exact .inl rfl | exact .inr (by decide)) : QS X K W z st (sAsg gv f) := ps_mono hp fun Dn σ H ⟨v0, Fb, F0, H0, F, δ, E, r, s, hf, o⟩ =>
  ⟨H0, F, δ, _, _, r, hf, o.xo r s, fun v d F1 H1 hk s1 q1 => hg H0 F1 H1 σ δ v d _ _ (r.step s1) q1 hk fun σ' δ' hk' r' hw _ => o.nx F1 H1 σ' δ' hk' r' ((s.trans s1).wiped hz hw)⟩
def forD (gv : GV) (b : SV) : List D → SV
  | [] => fun E δ => E.nx δ
  | x :: xs => fun E δ => gv x δ fun δ' => b { E with nx := forD gv b xs E, ct := forD gv b xs E, bk := E.nx } δ'
def sFor (it : LV) (gv : GV) (b : SV) : SV := fun E δ => it δ (fun items => forD gv b items E δ) fun x => E.xx x δ
theorem for_cor {K : PySem.W.Frag} {W : WX} {z : Bool} {J : It} {items : List D} {v0 : V} {Fb F0 H0 F1 H1 : Hp} {σ : L2.St} {δ : List Sl} {E : ED} {Dn : Ends} {tg : TG} {gv : GV} {vs : List Nat} {g : SV} {tb : TS} (hg : GR K vs tg gv) (hb : ∀ D σ H, tS K W z g D σ H → tb D σ H) (r : Rl K H0 F1 H1 σ δ) (s : Sg z v0 Fb F0 H0 F1 H1 σ) (hk : forD gv g items E δ) (o : EO K W z v0 Fb F0 H0 E Dn) (wk : Wk K J (fun F2 H2 => Ex F1 F2 ∧ (true = false → Ex H1 H2)) items) (hz : z = false ∨ 0 ∉ vs) :
    tFor (fun _ _ R => R J H1) tg tb Dn σ H1 := by
  refine ⟨fun i m σ' H' => m = items.length - i ∧ i ≤ items.length ∧ ∃ F' δ', Rl K H0 F' H' σ' δ' ∧ Sg z v0 Fb F0 H0 F' H' σ' ∧ Ex F1 F' ∧ forD gv g (items.drop i) E δ', ⟨_, rfl, Nat.zero_le _, F1, δ, r, s, .refl _, hk⟩, ?_⟩
  rintro i m σ2 H2 ⟨rfl, hi, F2, δ2, r2, s2, e2, hk2⟩
  have gG : Ex F1 F2 ∧ (true = false → Ex H1 H2) := ⟨e2, fun z => nomatch z⟩
  by_cases hlt : i < items.length
  · refine .inr ⟨wk.go i F2 H2 hlt gG r2.ex, fun σ' H' => (items.length - (i + 1) = items.length - (i + 1)) ∧ i + 1 ≤ items.length ∧ ∃ F' δ', Rl K H0 F' H' σ' δ' ∧ Sg z v0 Fb F0 H0 F' H' σ' ∧ Ex F1 F' ∧ forD gv g (items.drop (i + 1)) E δ', fun σ' H' p => ⟨_, (by omega : items.length - (i + 1) < items.length - i), p⟩, fun x H3 hy => ?_⟩
    obtain ⟨F3, d, s3, hd, hq⟩ := wk.yld i F2 H2 x H3 hlt gG r2.ex hy
    rw [drop_at hd] at hk2
    refine hg H0 F3 H3 σ2 δ2 x d _ _ (r2.step s3) hq hk2 fun σ' δ' hk' r' hw _ => hb _ _ _ ?_
    have sw := (s2.trans s3).wiped hz hw
    have tb' := s.b
    exact ⟨v0, F1, F0, H0, F3, δ', _, r', ⟨sw.s, e2.trans s3.e, sw.k⟩, hk', ⟨fun F4 H4 σ4 δ4 h4 r4 s4 => ⟨rfl, hlt, F4, δ4, r4, ⟨s4.s, tb'.trans s4.b, s4.k⟩, s4.b, h4⟩, fun v d F4 H4 σ4 h4 s4 q4 => o.rt v d F4 H4 σ4 h4 ⟨s4.s, tb'.trans s4.b, s4.k⟩ q4,
      fun F4 H4 σ4 δ4 h4 r4 s4 => o.nx F4 H4 σ4 δ4 h4 r4 ⟨s4.s, tb'.trans s4.b, s4.k⟩, fun F4 H4 σ4 δ4 h4 r4 s4 => ⟨rfl, hlt, F4, δ4, r4, ⟨s4.s, tb'.trans s4.b, s4.k⟩, s4.b, h4⟩, fun c od x F4 H4 σ4 δ4 h4 r4 s4 q4 => o.xx c od x F4 H4 σ4 δ4 h4 r4 ⟨s4.s, tb'.trans s4.b, s4.k⟩ q4, fun a d F4 H4 σ4 h4 s4 => o.ro a d F4 H4 σ4 h4 ⟨s4.s, tb'.trans s4.b, s4.k⟩⟩⟩
  · have ei : i = items.length := by omega
    subst ei
    rw [List.drop_length] at hk2
    exact .inl ⟨wk.stop F2 H2 gG r2.ex, o.nx F2 H2 σ2 δ2 hk2 r2 s2⟩
theorem qs_for {it : LV} {tg : TG} {gv : GV} {vs : List Nat} {tb : TS} (hg : GR K vs tg gv) (hb : ∀ D σ H, tS K W z g D σ H → tb D σ H) (hp : PS X st (tFor (tI K W true it) tg tb)) (hz : z = false ∨ 0 ∉ vs := by first | exact .inl rfl | exact .inr (by decide)) : QS X K W z st (sFor it gv g) :=
  ps_mono hp fun Dn σ H ⟨v0, Fb, F0, H0, F, δ, E, r, s, hf, o⟩ => ⟨H0, F, δ, _, _, r, hf, o.xo r s, fun J items F1 H1 hk s1 hlen wk => for_cor hg hb (r.step s1) (s.trans s1) hk o wk hz⟩
end
end TH

namespace TH
open PySem PySem.Spec PyProof.Rows L2
/-! ## things of one's own, changed -/
section
variable {K : PySem.W.Frag} {W : WX} {Fb F0 H0 F H : Hp} {σ : L2.St} {δ : List Sl}
theorem Sg.mut {z : Bool} {v0 : V} {a : Addr} {o : HO} (g : Sg z v0 Fb F0 H0 F H σ) (h0 : H0 a = none) (hF : F a = none) : Sg z v0 Fb F0 H0 F (upd H a o) σ := ⟨⟨g.s.e, g.s.h.mut h0, g.s.eh.mut hF, g.s.nw⟩, g.b, g.k⟩
/-- an owned list is written -/
theorem Rl.mutL (r : Rl K H0 F H σ δ) {i : Nat} {a : Addr} {d : D} {xs : List V} {ds : List D} (hi : δ[i]? = some (.own d)) (ha : σ[i]? = some (some (.ref a))) (hl : ds.length ≤ 1000000) (hd : DqA K F xs ds) : Rl K H0 F (upd H a (.lst xs)) σ (δ.set i (.own (.list ds))) :=
  r.mut hi ha fun G hG => ⟨xs, hG, hl, hd⟩
end
/-- what a change of an owned list makes of it: xs.f(args) -/
def MuD (K : PySem.W.Frag) (r : V → List V → Hp → VK → Prop) (g : List D → List D → (D → List D → Prop) → Prop) : Prop := ∀ (F H : Hp) (a : Addr) (xs vs : List V) (ds args : List D) (Q : VK) (k : D → List D → Prop), Ex F H → F a = none → H a = some (.lst xs) → ds.length ≤ 1000000 → DqA K F xs ds → DqA K F vs args → g ds args k →
  (∀ v d ys es, k d es → es.length ≤ 1000000 → DqA K F ys es → Dq K F v d → Q v (upd H a (.lst ys))) → r (.ref a) vs H Q
def mDo (g : List D → List D → (D → List D → Prop) → Prop) (i : Nat) (la : LV) (kn : D → List Sl → Prop) : List Sl → (XD → Prop) → Prop := fun δ kx => ∃ ds, δ[i]? = some (.own (.list ds)) ∧ la δ (fun args => g ds args fun d es => kn d (δ.set i (.own (.list es)))) kx
/-- xs.f(args) as a statement -/
def sMu (g : List D → List D → (D → List D → Prop) → Prop) (i : Nat) (la : LV) : SV := fun E δ => mDo g i la (fun _ δ' => E.nx δ') δ fun x => E.xx x δ
/-- y = xs.f(args) -/
def sMuS (g : List D → List D → (D → List D → Prop) → Prop) (i : Nat) (la : LV) (j : Nat) : SV := fun E δ => mDo g i la (fun d δ' => E.nx (δ'.set j (.val d))) δ fun x => E.xx x δ
/-- a, b = xs.f(args) -/
def sMuG (g : List D → List D → (D → List D → Prop) → Prop) (i : Nat) (la : LV) (gv : GV) : SV := fun E δ => mDo g i la (fun d δ' => gv d δ' E.nx) δ fun x => E.xx x δ
section
variable {X : Cx} {K : PySem.W.Frag} {W : WX} {z : Bool} {v0 : V} {st : Stmt} {la : LV} {i j : Nat} {r : V → List V → Hp → VK → Prop} {g : List D → List D → (D → List D → Prop) → Prop}
theorem mu_core (o : MuD K r g) {σ : L2.St} {H : Hp} {Q : VK} {Fb F0 H0 F : Hp} {δ : List Sl} {kn : D → List Sl → Prop} {kx : XD → Prop} (rl : Rl K H0 F H σ δ) (sg : Sg z v0 Fb F0 H0 F H σ) (hf : mDo g i la kn δ kx) (hx : XO K W kx F H σ)
    (q : ∀ v d δ' F' H', kn d δ' → Rl K H0 F' H' σ δ' → Sg z v0 Fb F0 H0 F' H' σ → Dq K F' v d → Q v H') : tBM K "list" r (tVar i) (tAs K W la) σ H Q := by
  obtain ⟨ds, hi, hf⟩ := hf
  obtain ⟨a, e, hF, h0, xs, h1, h2, h3⟩ := rl.own hi
  refine ⟨.ref a, e, tyL h1, H0, F, δ, _, kx, rl, hf, hx, fun vs args F1 H1 hk s1 q1 => ?_⟩
  have h1' := s1.h _ _ h1
  have n1 : F1 a = none := s1.nw a _ hF h1 fun _ z => nomatch z
  refine o F1 H1 a xs vs ds args Q _ s1.eh n1 h1' h2 (h3.ex s1.e) q1 hk fun v d ys es hk2 hl hd hv => ?_
  exact q v d _ F1 _ hk2 ((rl.step s1).mutL hi e hl hd) ((sg.trans s1).mut h0 n1) hv
theorem qs_mu (o : MuD K r g) (hp : PS X st (tDrop (tBM K "list" r (tVar i) (tAs K W la)))) : QS X K W z st (sMu g i la) := ps_mono hp fun Dn σ H ⟨v0, Fb, F0, H0, F, δ, E, rl, s, hf, eo⟩ => mu_core o rl s hf (eo.xo rl s) fun v d δ' F' H' hk r' s' _ => eo.nx F' H' σ δ' hk r' s'
/-! append, extend, pop, insert, remove -/
def gApp : List D → List D → (D → List D → Prop) → Prop := fun ds args k => ∃ d, args = [d] ∧ ds.length < 1000000 ∧ k .none (ds ++ [d])
theorem mApp : MuD K rAppend gApp := fun F H a xs vs ds args Q k ex hF ha hl hd hv ⟨d, e, hlt, hk⟩ q => by
  subst e
  obtain ⟨v, rfl, hv'⟩ := dqa1 hv
  exact ⟨a, xs, v, rfl, rfl, ha, Nat.lt_of_lt_of_le (by rw [dqa_len hd]; exact hlt) (small2 (Nat.le_refl _)), q _ _ _ _ hk (by rw [List.length_append]; simp; omega) (dqa_snoc hd hv') .non⟩
/-- xs.extend(ys): ys a list looked at -/
def sExt (i : Nat) (l : LV) : SV := fun E δ => ∃ ds, δ[i]? = some (.own (.list ds)) ∧ l δ (fun es => (ds ++ es).length ≤ 1000000 ∧ E.nx (δ.set i (.own (.list (ds ++ es))))) fun x => E.xx x δ
/-- xs[j] = e -/
def sIx (i : Nat) (fi fv : EV) : SV := fun E δ => fv δ (fun d => ∃ ds, δ[i]? = some (.own (.list ds)) ∧ fi δ (fun y => ∃ (j : Int) (m : Nat), y = .int j ∧ ixN ds.length j = some m ∧ E.nx (δ.set i (.own (.list (ds.set m d))))) fun x => E.xx x δ) fun x => E.xx x δ
end
/-! ## what was one's own is told -/
/-- no object of a class -/
def noObj : D → Bool
  | .dict ((.none, _) :: _) => false
  | _ => true
theorem OwR.dq {K : PySem.W.Frag} {F H : Hp} {a : Addr} {d : D} (h : OwR K F H a d) (hF : F a = none) : ∃ o, H a = some o ∧ Dq K (upd F a o) (.ref a) d ∧ (∀ xs, o ≠ .tup xs) ∧ (noObj d = true → ∀ C dx fs, o ≠ .ins C dx fs) := by
  have e : ∀ o : HO, Ex F (upd F a o) := fun o => .new hF
  cases d with
  | list ds => obtain ⟨xs, e1, e2, e3⟩ := h; exact ⟨_, e1, .lst upd_same e2 (e3.ex (e _)), fun _ z => (nomatch z), fun _ _ _ _ z => nomatch z⟩
  | dict es =>
    obtain ⟨l, ⟨t, es2, e1, e2⟩ | ⟨C, dx, fs, c, ds, e1, e2, e3, e4⟩⟩ := h
    · have e5 : es = (.list (if t = true then [] else [.none]), .none) :: es2 := by injection e1
      have l2 : es2.length ≤ 1000000 := by rw [e5, List.length_cons] at l; omega
      cases t with
      | false =>
        obtain ⟨kvs, g1, g2, g3⟩ := e2
        exact ⟨_, g1, .dK (.inl upd_same) l2 g2 (g3.ex (e _)) e1, fun _ z => (nomatch z), fun _ _ _ _ z => nomatch z⟩
      | true =>
        obtain ⟨kvs, g1, g2, g3⟩ := e2
        exact ⟨_, g1, .dT (.inl upd_same) l2 g2 (g3.ex (e _)) e1, fun _ z => (nomatch z), fun _ _ _ _ z => nomatch z⟩
    · exact ⟨_, e1, .obj upd_same e2 e3 (e4.ex (e _)), fun _ z => (nomatch z), fun n => by rw [e3] at n; simp [noObj, objD] at n⟩
  | _ => exact h.elim
theorem Rl.tell {K : PySem.W.Frag} {H0 F H : Hp} {σ : L2.St} {δ : List Sl} (r : Rl K H0 F H σ δ) {i : Nat} {d : D} (hi : δ[i]? = some (.own d)) : ∃ a o, F a = none ∧ H0 a = none ∧ H a = some o ∧ ((∀ xs, o ≠ .tup xs) ∧ (noObj d = true → ∀ C dx fs, o ≠ .ins C dx fs)) ∧ Rl K H0 (upd F a o) H σ (δ.set i (.val d)) := by
  obtain ⟨a, e, hF, h0, hw⟩ := r.own hi
  obtain ⟨o, ho, hq, hno⟩ := hw.dq hF
  have ef : Ex F (upd F a o) := .new hF
  have eh : Ex (upd F a o) H := fun b u hb => by
    by_cases z : b = a
    · subst z
      rw [upd_same] at hb
      rw [ho, ← hb]
    · rw [upd_ne z] at hb
      exact r.ex b u hb
  refine ⟨a, o, hF, h0, ho, hno, eh, by rw [List.length_set, r.len], fun j s hj => ?_, fun j k b d1 d2 h1 h2 h3 h4 => ?_, ?_⟩
  · by_cases z : i = j
    · subst z
      have hl : i < δ.length := (List.getElem?_eq_some_iff.mp hi).1
      rw [List.getElem?_set_self hl] at hj
      cases hj
      exact ⟨_, e, _, rfl, hq⟩
    · rw [List.getElem?_set_ne z] at hj
      obtain ⟨ov, g1, g2⟩ := r.at' j s hj
      refine ⟨ov, g1, ?_⟩
      cases s with
      | non => trivial
      | val d' => obtain ⟨v, e1, e2⟩ := g2; exact ⟨v, e1, e2.ex ef⟩
      | own d' =>
        obtain ⟨b, e1, e2, e3, e4⟩ := g2
        refine ⟨b, e1, ?_, e3, e4.step ef rfl⟩
        rw [upd_ne fun zz => ?_]
        · exact e2
        · subst zz
          exact z (r.apart i j b _ _ hi hj e (by rw [g1, e1]))
      | dp b cs =>
        obtain ⟨e1, nd, hc⟩ := g2
        refine ⟨e1, nd, fun p hp => ?_⟩
        obtain ⟨e2, e3, e4⟩ := hc p hp
        exact ⟨by rw [upd_ne fun zz => r.apd.2 j i b cs _ hj hi p hp (by rw [zz]; exact e)]; exact e2, e3, e4.step ef rfl⟩
  · have nj : ∀ {j : Nat} {d1 : D}, (δ.set i (.val d))[j]? = some (.own d1) → δ[j]? = some (.own d1) := fun {j d1} hj => by
      by_cases z : i = j
      · subst z
        rw [List.getElem?_set_self (List.getElem?_eq_some_iff.mp hi).1] at hj
        cases hj
      · rwa [List.getElem?_set_ne z] at hj
    exact r.apart j k b d1 d2 (nj h1) (nj h2) h3 h4
  · have nj : ∀ {j : Nat} {t : Sl}, (∀ x, t ≠ .val x) → (δ.set i (.val d))[j]? = some t → δ[j]? = some t := fun {j t} n hj => by
      by_cases z : i = j
      · subst z
        rw [List.getElem?_set_self (List.getElem?_eq_some_iff.mp hi).1] at hj
        cases hj
        exact absurd rfl (n d)
      · rwa [List.getElem?_set_ne z] at hj
    exact ⟨fun j k b c cs es h1 h2 => r.apd.1 j k b c cs es (nj (fun _ z => nomatch z) h1) (nj (fun _ z => nomatch z) h2), fun j k b cs x h1 h2 => r.apd.2 j k b cs x (nj (fun _ z => nomatch z) h1) (nj (fun _ z => nomatch z) h2)⟩
def sTell (i : Nat) (g : SV) : SV := fun E δ => ∃ d, δ[i]? = some (.own d) ∧ g E (δ.set i (.val d))
theorem tell_core {K : PySem.W.Frag} {W : WX} {z : Bool} {i : Nat} {g : SV} {Dn : Ends} {σ : L2.St} {H : Hp} (h : tS K W z (sTell i g) Dn σ H) : tS K W z g Dn σ H := by
  obtain ⟨v0, Fb, F0, H0, F, δ, E, r, s, ⟨d, hi, hf⟩, o⟩ := h
  obtain ⟨a, u, hF, h0, hH, _, r'⟩ := r.tell hi
  have ef : Ex F (upd F a u) := .new hF
  exact ⟨v0, Fb, F0, H0, _, _, E, r', ⟨⟨s.s.e.trans ef, s.s.h, r'.ex, fun b o h1 h2 h3 => by
    rw [upd_ne fun z => by rw [z, h0] at h2; cases h2]
    exact s.s.nw b o h1 h2 h3⟩, s.b.trans ef, s.k⟩, hf, o⟩
section
variable {X : Cx} {K : PySem.W.Frag} {W : WX} {z : Bool} {i : Nat} {g : SV}
theorem qs_tell {st : Stmt} (h : QS X K W z st g) : QS X K W z st (sTell i g) := ps_mono h fun _ _ _ z => tell_core z
end
/-! ## what is one's own is lent: what comes back holds no list -/
mutual
def immD : D → Bool
  | .list _ => false
  | .tuple ds => immA ds
  | .dict es => immO es
  | _ => true
def immA : List D → Bool
  | [] => true
  | d :: ds => immD d && immA ds
def immO : List (D × D) → Bool
  | [] => false
  | (.none, .list _) :: es => immF es
  | _ => false
def immF : List (D × D) → Bool
  | [] => true
  | (_, d) :: es => immD d && immF es
end
theorem immO_obj (c : Str) (ns : List Str) (ds : List D) : immD (objD c ns ds) = immA ds := by
  unfold objD
  rw [immD, immO]
  induction ds with
  | nil => rfl
  | cons d ds ih => rw [List.map_cons, immF, immA, ih]
section
variable {K : PySem.W.Frag} {F F' : Hp}
/-- tuples and objects stand -/
def Tz (F F' : Hp) : Prop := ∀ a o, F a = some o → ((∃ xs, o = .tup xs) ∨ ∃ C dx fs, o = .ins C dx fs) → F' a = some o
mutual
theorem Dq.imm (e : Tz F F') : ∀ {v : V} {d : D}, Dq K F v d → immD d = true → Dq K F' v d
  | _, _, .non, _ => .non
  | _, _, .bl b, _ => .bl b
  | _, _, .int i, _ => .int i
  | _, _, .str x, _ => .str x
  | _, _, .lst h l a, i => by simp [immD] at i
  | _, _, .tup h l a, i => .tup (e _ _ h (.inl ⟨_, rfl⟩)) l (DqA.imm e a (by simpa [immD] using i))
  | _, _, .dK h l k a d, i => by rw [d] at i; simp [dicD, immD, immO] at i
  | _, _, .dT h l k a d, i => by rw [d] at i; simp [dicD, immD, immO] at i
  | _, _, .obj h c d a, i => .obj (e _ _ h (.inr ⟨_, _, _, rfl⟩)) c d (DqA.imm e a (by rw [d, immO_obj] at i; exact i))
  | _, _, .bag d h, i => by rw [d] at i; simp [bagD, immD, immO] at i
  | _, _, .hand d h, i => by rw [d] at i; simp [handD, immD, immO] at i
  | _, _, .scr d h l, i => by rw [d] at i; simp [scrD, immD, immO] at i
  | _, _, .adr d, i => by rw [d] at i; simp [adrD, immD, immO] at i
  | _, _, .exf h d a, i => by rw [d] at i; simp [exfD, immD, immO] at i
theorem DqA.imm (e : Tz F F') : ∀ {vs : List V} {ds : List D}, DqA K F vs ds → immA ds = true → DqA K F' vs ds
  | _, _, .nil, _ => .nil
  | _, _, .cons (d := d) (ds := ds) h t, i => by
    have i' : immD d = true ∧ immA ds = true := by simpa [immA] using i
    exact .cons (Dq.imm e h i'.1) (DqA.imm e t i'.2)
end
end
/-! ## a def's promise -/
def fnD (n m : Nat) (f : SV) : Fn := fun ds k kx => ds.length = n ∧ f ⟨fun _ => k .none, k, fun _ => False, fun _ => False, fun x _ => kx x, fun _ => False⟩ (ds.map .val ++ List.replicate (m - n) .non)
section
variable {P : Program} {w : World} {K : PySem.W.Frag} {mg : Str → Option Value} {base : Heap}
theorem rl_start {F H : Hp} {vs : List V} {ds : List D} (ex : Ex F H) (h : DqA K F vs ds) (N : List Str) (n : Nat) (hn : ds.length = n) : Rl K H F H (start N vs) (ds.map .val ++ List.replicate (N.length - n) .non) := by
  have hl := dqa_len h
  refine ⟨ex, by simp [L2.start, hl, hn], fun i s hi => ?_, fun i j a d e h1 _ _ _ => ?_, apd_none fun i a cs => no_dp⟩
  · unfold L2.start
    by_cases z : i < ds.length
    · rw [List.getElem?_append_left (by simpa using z), List.getElem?_map] at hi
      rw [List.getElem?_append_left (by simp [hl]; exact z), List.getElem?_map]
      obtain ⟨d, hd⟩ : ∃ d, ds[i]? = some d := ⟨_, List.getElem?_eq_getElem z⟩
      rw [hd] at hi
      cases hi
      obtain ⟨v, hv, hq⟩ := dqa_getD h hd
      rw [hv]
      exact ⟨_, rfl, v, rfl, hq⟩
    · rw [List.getElem?_append_right (by simpa using z)] at hi
      have hs : s = .non := (List.mem_replicate.mp (List.mem_of_getElem? hi)).2
      subst hs
      have hb := (List.getElem?_eq_some_iff.mp hi).1
      simp at hb z
      rw [List.getElem?_append_right (by simp [hl]; exact z)]
      exact ⟨none, by rw [List.getElem?_replicate, if_pos (by simp [hl]; omega)], trivial⟩
  · by_cases z : i < ds.length
    · rw [List.getElem?_append_left (by simpa using z), List.getElem?_map] at h1
      obtain ⟨d', hd⟩ : ∃ d, ds[i]? = some d := ⟨_, List.getElem?_eq_getElem z⟩
      rw [hd] at h1
      cases h1
    · rw [List.getElem?_append_right (by simpa using z)] at h1
      have := (List.mem_replicate.mp (List.mem_of_getElem? h1)).2
      cases this
/-- a def that raises nothing -/
theorem calD {x : Str} {st : Stmt} {f : Addr} {fd : FuncData} {N ps : List Str} {k n : Nat} {g : SV} (F : C8.Def K mg x st f fd) (b : Binds K fd ps []) (S : FnScope N ps (C8.fnScope st)) (hn : ps.length = n)
    (hbody : ∀ (cdv : Value) (A : Around) (outer : List Env) (s : Shared) (H : Hp) (E : XK), Room k (A.deeper (envOfC x (C8.fnScope st) s.heap.objs.size f cdv)) → QSs (cxOf C8.CX0 P w K mg base N x (C8.fnScope st) f cdv A outer s H E).nox K W0 false (C8.fnBody st) g) :
    C8.Cal P w K mg base (k + 1) x (spD0 K (fnD n N.length g)) [] := by
  refine C8.cal0 F b .nil S (fun vs H Q E ⟨F1, ds, k1, ex, hd, ⟨hl, _⟩, _⟩ => by rw [dqa_len hd, hl, hn]) (fun cdv A outer s H vs Q E hr ⟨F1, ds, k1, ex, hd, ⟨hl, hf⟩, q⟩ => ?_)
  refine ⟨_, hbody cdv A outer s H E hr, .non, F1, F1, H, F1, _, _, rl_start ex hd N n hl, ⟨.refl ex, .refl _, fun z => nomatch z⟩, hf, fun F2 H2 σ δ h r s => q _ _ F2 H2 h s.s .non, fun v d F2 H2 σ h s hv => q v d F2 H2 h s.s hv, fun _ _ _ _ h => h.elim, fun _ _ _ _ h => h.elim, fun _ _ _ _ _ _ _ h => h.elim, fun _ _ _ _ _ h => h.elim⟩
/-- a def that may raise -/
theorem calDX {x : Str} {st : Stmt} {f : Addr} {fd : FuncData} {N ps : List Str} {k n : Nat} {g : SV} (F : C8.Def K mg x st f fd) (b : Binds K fd ps []) (S : FnScope N ps (C8.fnScope st)) (hn : ps.length = n)
    (hbody : ∀ (cdv : Value) (A : Around) (outer : List Env) (s : Shared) (H : Hp) (E : XK), Room k (A.deeper (envOfC x (C8.fnScope st) s.heap.objs.size f cdv)) → QSs (cxOf (L2.CX P w) P w K mg base N x (C8.fnScope st) f cdv A outer s H E) K (fun c d _ H => E c d H) false (C8.fnBody st) g) :
    CalX P w K mg base (k + 1) x (spD K (fnD n N.length g)) := by
  refine calX F b S (fun vs H Q E ⟨F1, ds, k1, kx, ex, hd, ⟨hl, _⟩, _⟩ => by rw [dqa_len hd, hl, hn]) (fun cdv A outer s H vs Q E hr ⟨F1, ds, k1, kx, ex, hd, ⟨hl, hf⟩, q, qx⟩ => ?_)
  refine ⟨_, hbody cdv A outer s H E hr, .non, F1, F1, H, F1, _, _, rl_start ex hd N n hl, ⟨.refl ex, .refl _, fun z => nomatch z⟩, hf, fun F2 H2 σ δ h r s => q _ _ F2 H2 h s.s .non, fun v d F2 H2 σ h s hv => q v d F2 H2 h s.s hv, fun _ _ _ _ h => h.elim, fun _ _ _ _ h => h.elim, fun c od x F2 H2 σ δ h r s hq => qx c od x F2 H2 h s.s hq, fun _ _ _ _ _ h => h.elim⟩
/-- a promise told otherwise -/
theorem cal_by {x : Str} {k : Nat} {f g : Fn} (c : C8.Cal P w K mg base k x (spD0 K f) []) (h : ∀ ds kk, g ds kk (fun _ => False) → f ds kk (fun _ => False)) : C8.Cal P w K mg base k x (spD0 K g) [] :=
  cal_mono c fun vs H Q E ⟨F, ds, kk, ex, hd, hf, q⟩ => ⟨F, ds, kk, ex, hd, h ds kk hf, q⟩
theorem calX_by {x : Str} {k : Nat} {f g : Fn} (c : CalX P w K mg base k x (spD K f)) (h : ∀ ds kk kx, g ds kk kx → f ds kk kx) : CalX P w K mg base k x (spD K g) :=
  calOf c fun vs H Q E ⟨F, ds, kk, kx, ex, hd, hf, q⟩ => ⟨F, ds, kk, kx, ex, hd, h ds kk kx hf, q⟩
/-- one that may raise, where it does not -/
theorem calX_no {x : Str} {k : Nat} {f : Fn} (c : CalX P w K mg base k x (spD K f)) : C8.Cal P w K mg base k x (spD0 K f) [] := cal_mono c.cal fun vs H Q E ⟨F, ds, kk, ex, hd, hf, q⟩ => ⟨F, ds, kk, _, ex, hd, hf, q, fun _ _ _ _ _ z => z.elim⟩
end
end TH

namespace TH
open PySem PySem.Spec PyProof.Rows L2
section
variable {X : Cx} {K : PySem.W.Frag} {W : WX} {e a b : Expr} {st : Stmt} {es : List Expr} {f fa fb fc : EV} {l la lb : LV} {pos : Pos}
/-! two for -/
def lc2D (gv : GV) (tv : TV) (it1 : LV) (gv1 : GV) (tv1 : TV) (ev : EV) (vs1 : List Nat) (δ : List Sl) : List D → List D → (List D → Prop) → Prop
  | [], acc, k => k acc
  | x :: xs, acc, k => gv x δ fun δ' => tv δ' (fun b => if b = true then it1 δ' (fun items => lcD gv1 tv1 ev (wipeD δ' vs1) items acc fun acc' => acc'.length ≤ 1000000 ∧ lc2D gv tv it1 gv1 tv1 ev vs1 δ xs acc' k) (fun _ => False) else lc2D gv tv it1 gv1 tv1 ev vs1 δ xs acc k) (fun _ => False)
def lLc2 (it : LV) (gv : GV) (tv : TV) (it1 : LV) (gv1 : GV) (tv1 : TV) (ev : EV) (vs vs1 : List Nat) : LV := fun δ k kx => it δ (fun items => lc2D gv tv it1 gv1 tv1 ev vs1 (wipeD δ vs) items [] k) kx
end
end TH

namespace TH
open PySem PySem.Spec PyProof.Rows L2
/-! ## what is never come to; errors raised -/
def sNever : SV := fun _ _ => False
def sRaise (c : String) : SV := fun E δ => E.xx ⟨c, []⟩ δ
section
variable {X : Cx} {K : PySem.W.Frag} {W : WX} {z : Bool} {e a b : Expr} {st : Stmt} {es : List Expr} {f fa fb fc : EV} {l la lb : LV} {pos : Pos}
/-! ## an object made -/
def spMk (K : PySem.W.Frag) (c : Str) (fn : Fn) : Sp := fun vs H Q _ => ∃ F x dx C args ds k, vs = .ref x :: args ∧ clsAt K c = some C ∧ H x = some (.ins C dx []) ∧ F x = none ∧ Ex F H ∧ DqA K F args ds ∧ fn ds k (fun _ => False) ∧
  ∀ d F' H', k d → Ex F F' → (∀ b o, b ≠ x → H b = some o → H' b = some o) → Ex F' H' → (∀ b o, b ≠ x → F b = none → H b = some o → (∀ xs, o ≠ .tup xs) → F' b = none) → Dq K F' (.ref x) d → Q .non H'
theorem qe_mk {c : Str} {C : Addr} {fn : Fn} (hc : clsAt K c = some C) (h : PE X e (tMake C (spMk K c fn) [] C8.E0 (tAs K W la))) : QE X K W e (eCall fn la) := pe_mono h fun σ H Q ⟨H0, F, δ, k, kx, rl, hf, hx, q⟩ => ⟨H0, F, δ, _, kx, rl, hf, hx, fun vs ds F1 H1 hk s1 q1 => by
  intro x dx hx1 hdx hne
  show spMk K c fn (.ref x :: (vs ++ [])) _ _ _
  rw [List.append_nil]
  have n1 : F1 x = none := ex_none s1.eh hx1
  have ex1 : Ex F1 (upd (upd H1 dx (.own x)) x (.ins C dx [])) := (s1.eh.mut (ex_none s1.eh hdx)).mut n1
  refine ⟨F1, x, dx, C, vs, ds, k, rfl, hc, upd_same, n1, ex1, q1, hk, fun d F' H' hk2 e2 hz e3 nz hd => ⟨rfl, ?_⟩⟩
  refine q _ d F' H' hk2 (s1.trans ⟨e2, fun b o hb => ?_, e3, fun b o h1 h2 h3 => ?_⟩) hd
  · have b1 : b ≠ x := ne_of_none hb hx1
    have b2 : b ≠ dx := ne_of_none hb hdx
    exact hz b o b1 (by rw [upd_ne b1, upd_ne b2]; exact hb)
  · have b1 : b ≠ x := ne_of_none h2 hx1
    have b2 : b ≠ dx := ne_of_none h2 hdx
    exact nz b o b1 h1 (by rw [upd_ne b1, upd_ne b2]; exact h2) h3⟩
/-- self.f = e, self a new object's slot -/
def putD (n : Str) (x : D) : List Str → List D → List Str × List D
  | m :: ns, d :: ds => if m = n then (m :: ns, x :: ds) else let r := putD n x ns ds; (m :: r.1, d :: r.2)
  | _, _ => ([n], [x])
def sFldO (i : Nat) (c : Str) (n : Str) (f : EV) : SV := fun E δ => f δ (fun d => ∃ ns ds, δ[i]? = some (.own (objD c ns ds)) ∧ ns.length < 100 ∧ E.nx (δ.set i (.own (objD c (putD n d ns ds).1 (putD n d ns ds).2)))) fun x => E.xx x δ
theorem putF_put {F : Hp} {n : Str} {v : V} {d : D} (hd : Dq K F v d) : ∀ {fs : List (Str × V)} {ds : List D}, DqA K F (fs.map (·.2)) ds → (putF n v fs).map (·.1) = (putD n d (fs.map (·.1)) ds).1 ∧ DqA K F ((putF n v fs).map (·.2)) (putD n d (fs.map (·.1)) ds).2 ∧ (putF n v fs).length ≤ fs.length + 1
  | [], ds, h => by
    have h' : DqA K F [] ds := h
    cases h'
    exact ⟨rfl, .cons hd .nil, Nat.le_refl _⟩
  | (m, w) :: fs, ds, h => by
    have h' : DqA K F (w :: fs.map (·.2)) ds := h
    cases h' with
    | @cons _ _ x ds h1 h2 =>
      obtain ⟨g1, g2, g3⟩ := putF_put hd (fs := fs) h2
      have e1 : putF n v ((m, w) :: fs) = if m = n then (m, v) :: fs else (m, w) :: putF n v fs := rfl
      have e2 : putD n d (m :: fs.map (·.1)) (x :: ds) = if m = n then (m :: fs.map (·.1), d :: ds) else (m :: (putD n d (fs.map (·.1)) ds).1, x :: (putD n d (fs.map (·.1)) ds).2) := rfl
      show (putF n v ((m, w) :: fs)).map (·.1) = (putD n d (m :: fs.map (·.1)) (x :: ds)).1 ∧ DqA K F ((putF n v ((m, w) :: fs)).map (·.2)) (putD n d (m :: fs.map (·.1)) (x :: ds)).2 ∧ _
      rw [e1, e2]
      by_cases z : m = n
      · rw [if_pos z, if_pos z]
        exact ⟨rfl, .cons hd h2, by simp⟩
      · rw [if_neg z, if_neg z]
        exact ⟨by simp [g1], .cons h1 g2, by simpa using g3⟩
theorem own_obj {c : Str} {ns0 ns : List Str} {C a : Addr} {F H : Hp} {ds : List D} (T : ClC K c ns0 C) (hw : OwR K F H a (objD c ns ds)) : ∃ dx fs, H a = some (.ins C dx fs) ∧ fs.map (·.1) = ns ∧ DqA K F (fs.map (·.2)) ds := by
  obtain ⟨_, ⟨t, es2, e1, _⟩ | ⟨C', dx, fs, c3, ds3, g1, g2, g3, g4⟩⟩ := hw
  · simp [dicD] at e1
  · have g3' : objD c ns ds = objD c3 (fs.map (·.1)) ds3 := g3
    obtain ⟨rfl, rfl, rfl⟩ := objD_inj g3'
    rw [T.at'] at g2
    cases g2
    exact ⟨dx, fs, g1, rfl, g4⟩
theorem qs_fldO {c : Str} {ns0 : List Str} {C : Addr} {i : Nat} {n : Str} (T : ClC K c ns0 C) (hn : n ∈ ns0) (hp : PS X st (sFld K (tVar i) (tE K W f) n)) : QS X K W z st (sFldO i c n f) := ps_mono hp fun Dn σ H ⟨v0, Fb, F0, H0, F, δ, E, rl, s, hf, eo⟩ =>
  ⟨H0, F, δ, _, _, rl, hf, eo.xo rl s, fun v d F1 H1 ⟨ns, ds, hi, hl, hk⟩ s1 q1 => by
    have r1 := rl.step s1
    obtain ⟨a, e1, hF, h0, hw⟩ := r1.own hi
    obtain ⟨dx, fs, h1, h2, h4⟩ := own_obj T hw
    subst h2
    have hlen : fs.length < 100 := by simpa using hl
    refine ⟨.ref a, e1, a, C, dx, fs, rfl, h1, T.cl, T.no n hn, by omega, ?_⟩
    obtain ⟨p1, p2, p3⟩ := putF_put (K := K) (n := n) q1 h4
    refine eo.nx F1 _ _ _ hk (r1.mut hi e1 fun G hG => ?_) ((s.trans s1).mut h0 hF)
    refine ⟨?_, .inr ⟨C, dx, _, c, _, hG, T.at', ?_, p2⟩⟩
    · have := dqa_len p2
      rw [List.length_map] at this
      rw [List.length_cons, List.length_map, ← this]
      omega
    · rw [p1]
      rfl⟩
/-! ## back to front; ranges as lists and tuples -/
def eRevT (f : EV) : EV := fun δ k kx => f δ (fun d => ∃ ds, d = .tuple ds ∧ k (.tuple ds.reverse)) kx
def lRev (l : LV) : LV := fun δ k kx => l δ (fun ds => k ds.reverse) kx
def lRg1 (f : LV) : LV := iRg1 f
def lRg2 (f : LV) : LV := iRg2 f
def eTRg1 (f : LV) : EV := fun δ k kx => iRg1 f δ (fun ds => k (.tuple ds)) kx
def eTRg2 (f : LV) : EV := fun δ k kx => iRg2 f δ (fun ds => k (.tuple ds)) kx
/-! ## rows of numbers in order; texts added -/
def gLtT : D → D → (D → Prop) → Prop := fun x y k => ∃ ns ms : List Int, x = .tuple (ns.map .int) ∧ y = .tuple (ms.map .int) ∧ k (.bool (HT.lexLt ns ms))
def gCatS : D → D → (D → Prop) → Prop := fun x y k => ∃ i j : Str, x = .str i ∧ y = .str j ∧ i.length + j.length ≤ sizeLine ∧ k (.str (i ++ j))
end
/-! ## __init__, told by what it makes -/
/-- what __init__ makes of its arguments: the object's slot is the first -/
def fnI (c : Str) (n m : Nat) (f : SV) : Fn := fun ds k kx => ds.length = n ∧ f ⟨fun δ => ∃ d, δ[0]? = some (.own d) ∧ k d, fun _ => False, fun _ => False, fun _ => False, fun x _ => kx x, fun _ => False⟩ (.own (objD c [] []) :: (ds.map .val ++ List.replicate (m - (n + 1)) .non))
section
variable {P : Program} {w : World} {K : PySem.W.Frag} {mg : Str → Option Value} {base : Heap}
end
end TH

namespace TH
open PySem PySem.Spec PyProof.Rows L2
/-! ## dicts -/
def keyD : D → Option Key
  | .int i => some (.inl i)
  | .str x => some (.inr x)
  | _ => none
/-- a key, as the dict holds it (t: keys are tuples) -/
def keyK : Bool → D → Option (List Key)
  | false, d => (keyD d).map fun k => [k]
  | true, .tuple ds => ds.mapM keyD
  | true, _ => none
def lookD (t : Bool) (es : List (D × D)) (y : D) : Option D := (es.find? fun p => decide (keyK t p.1 = keyK t y)).map (·.2)
def storeD (t : Bool) (es : List (D × D)) (y v : D) : List (D × D) := if (es.any fun p => decide (keyK t p.1 = keyK t y)) = true then es.map (fun p => if keyK t p.1 = keyK t y then (p.1, v) else p) else es ++ [(y, v)]
theorem keyD_kD (k : Key) : keyD (kD k) = some k := by cases k <;> rfl
theorem keyK_kD (k : Key) : keyK false (kD k) = some [k] := by simp [keyK, keyD_kD]
theorem keyD_of {d : D} {k : Key} (h : keyD d = some k) : d = kD k := by
  cases d <;> simp only [keyD] at h <;> first | (cases h; rfl) | cases h
theorem mapM_of : ∀ {ds : List D} {ks : List Key}, ds.mapM keyD = some ks → ds = ks.map kD
  | [], ks, h => by
    simp at h
    subst h
    rfl
  | d :: ds, ks, h => by
    rw [List.mapM_cons] at h
    cases e : keyD d with
    | none => rw [e] at h; cases h
    | some k =>
      rw [e] at h
      cases e2 : ds.mapM keyD with
      | none => rw [e2] at h; cases h
      | some ks' =>
        rw [e2] at h
        cases h
        rw [keyD_of e, mapM_of e2]
        rfl
section
variable {K : PySem.W.Frag} {F H : Hp} {κ : Type} [DecidableEq κ] {t : Bool} {kf : κ → D}
theorem store_g (inj : ∀ k k', keyK t (kf k) = keyK t (kf k') → k = k') {kvs : List (κ × V)} {es : List (D × D)} (h : es.map (·.1) = kvs.map (fun p => kf p.1)) (ha : DqA K F (kvs.map (·.2)) (es.map (·.2))) {k : κ} {v : V} {d : D} (hd : Dq K F v d) :
    (storeD t es (kf k) d).map (·.1) = (putK kvs k v).map (fun p => kf p.1) ∧ DqA K F ((putK kvs k v).map (·.2)) ((storeD t es (kf k) d).map (·.2)) := by
  have any : (es.any fun p => decide (keyK t p.1 = keyK t (kf k))) = (kvs.any fun kv => decide (kv.1 = k)) := by
    clear ha
    induction kvs generalizing es with
    | nil => cases es with
      | nil => rfl
      | cons p es => simp at h
    | cons q kvs ih => cases es with
      | nil => simp at h
      | cons p es =>
        simp only [List.map_cons, List.cons.injEq] at h
        rw [List.any_cons, List.any_cons, ih h.2]
        congr 1
        have e1 : p.1 = kf q.1 := h.1
        rw [e1]
        by_cases z : q.1 = k
        · simp [z]
        · have : ¬ keyK t (kf q.1) = keyK t (kf k) := fun y => z (inj _ _ y)
          simp [z, this]
  unfold storeD putK
  rw [any]
  by_cases z : (kvs.any fun kv => decide (kv.1 = k)) = true
  · rw [if_pos z, if_pos z]
    clear z any
    induction kvs generalizing es with
    | nil => cases es with
      | nil => exact ⟨rfl, .nil⟩
      | cons p es => simp at h
    | cons q kvs ih => cases es with
      | nil => simp at h
      | cons p es =>
        simp only [List.map_cons, List.cons.injEq] at h
        have ha' : DqA K F (q.2 :: kvs.map (·.2)) (p.2 :: es.map (·.2)) := ha
        cases ha' with
        | cons h1 h2 =>
          obtain ⟨g1, g2⟩ := ih h.2 h2
          have e1 : p.1 = kf q.1 := h.1
          simp only [List.map_cons]
          by_cases z : q.1 = k
          · have z2 : keyK t p.1 = keyK t (kf k) := by rw [e1, z]
            rw [if_pos z, if_pos z2]
            exact ⟨by rw [e1]; exact congrArg (List.cons _) g1, .cons hd g2⟩
          · have z2 : ¬ keyK t p.1 = keyK t (kf k) := fun y => z (inj _ _ (by rw [← e1]; exact y))
            rw [if_neg z, if_neg z2]
            exact ⟨by rw [e1]; exact congrArg (List.cons _) g1, .cons h1 g2⟩
  · rw [if_neg z, if_neg z]
    simp only [List.map_append, List.map_cons, List.map_nil]
    exact ⟨by rw [h], dqa_append ha (.cons hd .nil)⟩
end
theorem injK : ∀ k k' : Key, keyK false (kD k) = keyK false (kD k') → k = k' := fun k k' h => by
  rw [keyK_kD, keyK_kD] at h
  injection h with h
  injection h
theorem storeD_len (t : Bool) (es : List (D × D)) (y v : D) : (storeD t es y v).length ≤ es.length + 1 := by
  unfold storeD
  split
  · rw [List.length_map]; omega
  · simp
/-- a dict looked at -/
def DcR (K : PySem.W.Frag) (F H : Hp) (a : Addr) : Bool → List (D × D) → Prop
  | false, es => ∃ kvs, Rd H a (.dK kvs) ∧ KvR kvs es ∧ DqA K F (kvs.map (·.2)) (es.map (·.2))
  | true, es => ∃ kvs, Rd H a (.dT kvs) ∧ KtR kvs es ∧ DqA K F (kvs.map (·.2)) (es.map (·.2))
section
variable {K : PySem.W.Frag} {F H F' H' : Hp} {a : Addr} {t : Bool} {es : List (D × D)} {v : V} {y : D}
theorem DcW.r (h : DcW K F H a t es) : DcR K F H a t es := by
  cases t with
  | false => obtain ⟨kvs, h1, h2⟩ := h; exact ⟨kvs, .inl h1, h2⟩
  | true => obtain ⟨kvs, h1, h2⟩ := h; exact ⟨kvs, .inl h1, h2⟩
theorem DcR.step (h : DcR K F H a t es) (s : Stp F H F' H') : DcR K F' H' a t es := by
  cases t with
  | false => obtain ⟨kvs, h1, h2, h3⟩ := h; exact ⟨kvs, s.h.rd h1, h2, h3.ex s.e⟩
  | true => obtain ⟨kvs, h1, h2, h3⟩ := h; exact ⟨kvs, s.h.rd h1, h2, h3.ex s.e⟩
theorem key_dq (hv : Dq K F v y) (hk : (keyK t y).isSome = true) : if t = true then ∃ b ks, y = ktD ks ∧ v = .ref b ∧ F b = some (.tup (ks.map kV)) else ∃ k, y = kD k ∧ v = kV k := by
  cases t with
  | false =>
    simp only [Bool.false_eq_true, if_false]
    cases y <;> simp only [keyK, keyD, Option.map_none, Option.isSome_none] at hk <;> first
      | (cases hk; done)
      | exact ⟨.inl _, rfl, dq_int hv⟩
      | exact ⟨.inr _, rfl, dq_str hv⟩
  | true =>
    simp only [if_true]
    cases y with
    | tuple ds =>
      obtain ⟨b, xs, rfl, h1, h2, h3⟩ := dq_tup hv
      cases e : ds.mapM keyD with
      | none => simp [keyK, e] at hk
      | some ks =>
        have e2 := mapM_of e
        refine ⟨b, ks, by rw [e2]; rfl, rfl, ?_⟩
        rw [h1]
        congr 2
        subst e2
        clear e h1 h2 hk hv
        induction ks generalizing xs with
        | nil => cases h3; rfl
        | cons k ks ih =>
          cases h3 with
          | cons g1 g2 =>
            rw [ih _ g2]
            cases k
            · rw [show kD (Sum.inl _) = PyData.int _ from rfl] at g1
              rw [dq_int g1]
              rfl
            · rw [show kD (Sum.inr _) = PyData.str _ from rfl] at g1
              rw [dq_str g1]
              rfl
    | _ => simp [keyK] at hk
end
abbrev DV := List Sl → (Bool → List (D × D) → Prop) → (XD → Prop) → Prop
def dO (i : Nat) : DV := fun δ k _ => ∃ t es, δ[i]? = some (.own (dicD t es)) ∧ k t es
def dV (f : EV) : DV := fun δ k kx => f δ (fun d => ∃ t es, d = dicD t es ∧ k t es) kx
def eGet (d : DV) (i : EV) : EV := fun δ k kx => d δ (fun t es => i δ (fun y => ∃ x, (keyK t y).isSome = true ∧ lookD t es y = some x ∧ k x) kx) kx
def eInD (neg : Bool) (a : EV) (d : DV) : EV := fun δ k kx => a δ (fun x => d δ (fun t es => (keyK t x).isSome = true ∧ k (.bool ((lookD t es x).isSome != neg))) kx) kx
def eGet2 (d : DV) (i j : EV) : EV := fun δ k kx => d δ (fun t es => i δ (fun y => j δ (fun z => (keyK t y).isSome = true ∧ k ((lookD t es y).getD z)) kx) kx) kx
def slD (t : Bool) : SlV := fun _ k _ => k (.own (dicD t []))
def sPut (i : Nat) (fi fv : EV) : SV := fun E δ => fv δ (fun d => ∃ t es, δ[i]? = some (.own (dicD t es)) ∧ fi δ (fun y => (keyK t y).isSome = true ∧ es.length < 1000000 ∧ E.nx (δ.set i (.own (dicD t (storeD t es y d))))) fun x => E.xx x δ) fun x => E.xx x δ
section
variable {X : Cx} {K : PySem.W.Frag} {W : WX} {z : Bool} {e a b : Expr} {st : Stmt} {es : List Expr} {f fa fb fc : EV} {d : DV} {pos : Pos}
end
end TH

namespace TH
open PySem PySem.Spec PyProof.Rows L2
/-! ## methods of an object that stays as it is -/
section
variable {X : Cx} {K : PySem.W.Frag} {W : WX} {z : Bool} {e a b : Expr} {st : Stmt} {es : List Expr} {f fa fb fc : EV} {l la : LV} {pos : Pos}
/-- the object itself is the first argument -/
def eMeth (c : Str) (ns : List Str) (fn : Fn) (a : EV) (la : LV) : EV := fun δ k kx => a δ (fun o => ∃ ds, o = objD c ns ds ∧ la δ (fun xs => fn (o :: xs) k fun _ => False) kx) kx
/-! ## isinstance of an own class -/
def eIsC (c : Str) (ns : List Str) (a : EV) : EV := fun δ k kx => a δ (fun d => (∃ ds, d = objD c ns ds) ∧ k (.bool true)) kx
end
/-- numbers and texts: no matter which went where -/
def flatD : D → Bool
  | .int _ => true
  | .str _ => true
  | _ => false
section
open PySem.W
variable {X : Cx} {K : PySem.W.Frag} {W : WX} {e : Expr} {f : EV} {pos : Pos}
end
def lSortF (l : LV) : LV := fun δ k kx => l δ (fun ds => (∀ d ∈ ds, flatD d = true) ∧ gSort ds k) kx
/-! ## a method's promise -/
section
variable {P : Program} {w : World} {K : PySem.W.Frag} {mg : Str → Option Value} {base : Heap}
theorem metD {m qual : Str} {C : Addr} {st : Stmt} {f : Addr} {fd : FuncData} {N ps : List Str} {k n : Nat} {g : SV} (c : Cls K C) (me : Meth K C m f) (F : C8.Fun K m qual st f fd) (b : Binds K fd ps []) (S : FnScope N ps (C8.fnScope st)) (hn : ps.length = n)
    (hbody : ∀ (cdv : Value) (A : Around) (outer : List Env) (s : Shared) (H : Hp) (E : XK), Room k (A.deeper (envOfC qual (C8.fnScope st) s.heap.objs.size f cdv)) → QSs (cxOf C8.CX0 P w K mg base N qual (C8.fnScope st) f cdv A outer s H E).nox K W0 false (C8.fnBody st) g) :
    C8.Met P w K mg base (k + 1) C m (spD0 K (fnD n N.length g)) [] := by
  refine C8.met0 c me F b S (fun vs H Q E ⟨F1, ds, k1, ex, hd, ⟨hl, _⟩, _⟩ => by rw [dqa_len hd, hl, hn]) (fun cdv A outer s H vs Q E hr ⟨F1, ds, k1, ex, hd, ⟨hl, hf⟩, q⟩ => ?_)
  exact ⟨_, hbody cdv A outer s H E hr, .non, F1, F1, H, F1, _, _, rl_start ex hd N n hl, ⟨.refl ex, .refl _, fun z => nomatch z⟩, hf, fun F2 H2 σ δ h r s => q _ _ F2 H2 h s.s .non, fun v d F2 H2 σ h s hv => q v d F2 H2 h s.s hv, fun _ _ _ _ h => h.elim, fun _ _ _ _ h => h.elim, fun _ _ _ _ _ _ _ h => h.elim, fun _ _ _ _ _ h => h.elim⟩
theorem met_by {m : Str} {C : Addr} {k : Nat} {f g : Fn} (c : C8.Met P w K mg base k C m (spD0 K f) []) (h : ∀ ds kk, g ds kk (fun _ => False) → f ds kk (fun _ => False)) : C8.Met P w K mg base k C m (spD0 K g) [] :=
  met_mono c fun vs H Q E ⟨F, ds, kk, ex, hd, hf, q⟩ => ⟨F, ds, kk, ex, hd, h ds kk hf, q⟩
end
end TH

namespace TH
open PySem PySem.Spec PyProof.Rows L2
/-! ## a dict locked while it is walked -/
def IsDc (u : HO) : Prop := (∃ kvs, u = .dK kvs) ∨ ∃ kvs, u = .dT kvs
def IsDz (u : HO) : Prop := IsDc u ∨ ∃ o u', u = .frz o u' ∧ IsDc u'
structure Ag (F F' : Hp) : Prop where
  k : ∀ a o, F a = some o → ¬ IsDz o → F' a = some o
  d : ∀ a o, IsDc o → Rd F a o → Rd F' a o
  n : ∀ a, F a = none → F' a = none
theorem ndz {o : HO} (h1 : ∀ kvs, o ≠ .dK kvs) (h2 : ∀ kvs, o ≠ .dT kvs) (h3 : ∀ od u, o = .frz od u → ¬ IsDc u) : ¬ IsDz o := fun z => by
  rcases z with (⟨kvs, e⟩ | ⟨kvs, e⟩) | ⟨od, u, e, hu⟩
  · exact h1 _ e
  · exact h2 _ e
  · exact h3 _ _ e hu
theorem ndz_lst {xs : List V} : ¬ IsDz (.lst xs) := (ndz (fun _ z => nomatch z) (fun _ z => nomatch z) (fun _ _ z => nomatch z))
theorem ndz_flst {od : Obj} {xs : List V} : ¬ IsDz (.frz od (.lst xs)) := ndz (fun _ z => nomatch z) (fun _ z => nomatch z) (fun _ _ z h => by cases z; rcases h with ⟨_, h⟩ | ⟨_, h⟩ <;> cases h)
section
variable {K : PySem.W.Frag} {F F' : Hp}
theorem Ag.l (e : Ag F F') {a : Addr} {xs : List V} (h : SqL K F a xs) : SqL K F' a xs := by
  rcases h with (h | ⟨od, h⟩) | h
  · exact .inl (.inl (e.k _ _ h ndz_lst))
  · exact .inl (.inr ⟨od, e.k _ _ h ndz_flst⟩)
  · exact .inr h
end
section
variable {K : PySem.W.Frag} {H0 F0 Fb F H F' H' : Hp} {σ : L2.St} {δ : List Sl} {d : Addr} {o o' : HO}
end
section
variable {X : Cx} {K : PySem.W.Frag} {W : WX} {z : Bool}
end
/-! ## walks over a dict -/
section
variable {X : Cx} {K : PySem.W.Frag} {W : WX} {z : Bool}
theorem pe_or {e : Expr} {t t' : TE} (h : PE X e t) (h' : PE X e t') : PE X e (fun σ H Q => t σ H Q ∨ t' σ H Q) := ⟨fun pins s σ H Q I q => q.elim (h.run pins s σ H Q I) (h'.run pins s σ H Q I)⟩
end
end TH

namespace TH
open PySem PySem.Spec PyProof.Rows L2
/-! ## {k: v for ..}, the keys numbers, texts or tuples of them -/
section
variable {X : Cx} {pins : List (Addr × Obj)} {σ : L2.St} {H H' : Hp} {s : Shared} {a : Addr}
end
section
variable {X : Cx} {kx vx tg iter : Expr} {ifs : List Expr} {scope : Scope} {own : List (Str × Nat)} {pos : Pos} {t : Bool} {wi : TI} {g : TG} {tt : TT} {tk tv : TE}
end
end TH

namespace TH
open PySem PySem.Spec PyProof.Rows L2
/-! ## new dicts -/
abbrev CV := List Sl → (List (D × D) → Prop) → (XD → Prop) → Prop
def eDc (t : Bool) (f : CV) : EV := fun δ k kx => f δ (fun es => k (dicD t es)) kx
section
variable (K : PySem.W.Frag) (W : WX)
def tFd (t : Bool) (f : CV) : TE := fun σ H Q => ∃ H0 F δ k kx, Rl K H0 F H σ δ ∧ f δ k kx ∧ XO K W kx F H σ ∧ ∀ a es F' H', k es → Stp F H F' H' → H a = none → F' a = none → es.length ≤ 1000000 → DcW K F' H' a t es → Q (.ref a) H'
end
section
variable {X : Cx} {K : PySem.W.Frag} {W : WX} {e : Expr} {t : Bool} {f : CV}
theorem dcw_tell {F H : Hp} {a : Addr} {es : List (D × D)} (h : DcW K F H a t es) (hF : F a = none) (hl : es.length ≤ 1000000) : ∃ o, H a = some o ∧ Dq K (upd F a o) (.ref a) (dicD t es) := by
  cases t with
  | false => obtain ⟨kvs, h1, h2, h3⟩ := h; exact ⟨_, h1, .dK (.inl upd_same) hl h2 (h3.ex (.new hF)) rfl⟩
  | true => obtain ⟨kvs, h1, h2, h3⟩ := h; exact ⟨_, h1, .dT (.inl upd_same) hl h2 (h3.ex (.new hF)) rfl⟩
theorem new_dc {te : TE} (m : ∀ σ H Q, tFd K W t f σ H Q → te σ H Q) : ∀ σ H Q, tE K W (eDc t f) σ H Q → te σ H Q := fun σ H Q ⟨H0, F, δ, k, kx, r, hf, hx, q⟩ =>
  m σ H Q ⟨H0, F, δ, _, kx, r, hf, hx, fun a es F' H' hk s h1 h2 h3 h4 => by
    obtain ⟨o, ho, hd⟩ := dcw_tell h4 h2 h3
    exact q (.ref a) _ _ H' hk (s.tell h1 ho h2) hd⟩
theorem qe_newDc (h : PE X e (tFd K W t f)) : QE X K W e (eDc t f) := pe_mono h (new_dc fun _ _ _ z => z)
end
end TH

namespace TH
open PySem PySem.Spec PyProof.Rows L2
section
variable {X : Cx} {K : PySem.W.Frag} {W : WX} {e : Expr} {pos : Pos}
/-! ## dict(a list of pairs) -/
def mergeD (t : Bool) (es : List (D × D)) : List (D × D) := es.foldl (fun acc p => storeD t acc p.1 p.2) []
theorem merge_len (t : Bool) : ∀ (es acc : List (D × D)), (es.foldl (fun acc p => storeD t acc p.1 p.2) acc).length ≤ acc.length + es.length
  | [], acc => by simp
  | p :: es, acc => by
    have h := merge_len t es (storeD t acc p.1 p.2)
    have h2 := storeD_len t acc p.1 p.2
    simp only [List.foldl_cons, List.length_cons]
    omega
theorem merge_K {F : Hp} : ∀ {es : List (D × D)} {kvs : List (Key × V)} {acc : List (D × D)} {av : List (Key × V)}, es.map (·.1) = kvs.map (fun p => kD p.1) → DqA K F (kvs.map (·.2)) (es.map (·.2)) → acc.map (·.1) = av.map (fun p => kD p.1) → DqA K F (av.map (·.2)) (acc.map (·.2)) →
    (es.foldl (fun acc p => storeD false acc p.1 p.2) acc).map (·.1) = (kvs.foldl (fun acc kv => putK acc kv.1 kv.2) av).map (fun p => kD p.1) ∧ DqA K F ((kvs.foldl (fun acc kv => putK acc kv.1 kv.2) av).map (·.2)) ((es.foldl (fun acc p => storeD false acc p.1 p.2) acc).map (·.2))
  | [], kvs, _, _, h, _, g1, g2 => by
    have : kvs = [] := by simpa using h.symm
    subst this
    exact ⟨g1, g2⟩
  | e :: es, [], _, _, h, _, _, _ => by simp at h
  | e :: es, kv :: kvs, _, _, h, hd, g1, g2 => by
    simp only [List.map_cons, List.cons.injEq] at h
    cases hd with
    | cons d1 d2 =>
      obtain ⟨p1, p2⟩ := store_g (t := false) injK g1 g2 (k := kv.1) d1
      simp only [List.foldl_cons]
      rw [h.1]
      exact merge_K h.2 d2 p1 p2
end
/-! ## three names at once, whatever they are -/
section
variable {X : Cx} {K : PySem.W.Frag} {W : WX} {z : Bool} {st : Stmt}
end
section
variable {X : Cx} {K : PySem.W.Frag} {W : WX} {z : Bool} {st : Stmt}
end
end TH

namespace TH
open PySem PySem.Spec PyProof.Rows L2
section
variable {X : Cx} {K : PySem.W.Frag} {W : WX} {z : Bool} {v0 : V} {st : Stmt} {la : LV} {i j : Nat} {r1 r2 : V → List V → Hp → VK → Prop} {g1 g2 : MG}
end
end TH

namespace TH
open PySem PySem.Spec PyProof.Rows L2
/-! ## a list or a tuple: either reading -/
def eAlt (f g : EV) : EV := fun δ k kx => f δ k kx ∨ g δ k kx
def lOr (f g : LV) : LV := fun δ k kx => f δ k kx ∨ g δ k kx
section
variable {X : Cx} {K : PySem.W.Frag} {W : WX} {e : Expr} {f g : EV} {l m : LV} {t u : TV} {st : Bool} {tg : Expr}
theorem qe_alt (h1 : QE X K W e f) (h2 : QE X K W e g) : QE X K W e (eAlt f g) := pe_mono (pe_or h1 h2) fun σ H Q ⟨H0, F, δ, k, kx, rl, hf, hx, q⟩ => hf.elim (fun h => .inl ⟨H0, F, δ, k, kx, rl, h, hx, q⟩) fun h => .inr ⟨H0, F, δ, k, kx, rl, h, hx, q⟩
theorem pi_or {t t' : TI} (h : PI X tg e t) (h' : PI X tg e t') : PI X tg e (fun σ H R => t σ H R ∨ t' σ H R) := ⟨fun pins s σ H R I q => q.elim (h.run pins s σ H R I) (h'.run pins s σ H R I)⟩
theorem qi_or (h1 : QI X K W st tg e l) (h2 : QI X K W st tg e m) : QI X K W st tg e (lOr l m) := pi_mono (pi_or h1 h2) fun σ H Q ⟨H0, F, δ, k, kx, rl, hf, hx, q⟩ => hf.elim (fun h => .inl ⟨H0, F, δ, k, kx, rl, h, hx, q⟩) fun h => .inr ⟨H0, F, δ, k, kx, rl, h, hx, q⟩
end
end TH

namespace TH
open PySem PySem.Spec PyProof.Rows L2
/-! ## two objects of one class compared by its own __eq__ -/
def gOwn (c : Str) (ns : List Str) (fn : Fn) (neg : Bool) (x y : D) (k : D → Prop) : Prop := (∃ ds, x = objD c ns ds) ∧ (∃ es, y = objD c ns es) ∧ fn [x, y] (fun r => ∃ b : Bool, r = .bool b ∧ k (.bool (b != neg))) fun _ => False
theorem oOwn {K : PySem.W.Frag} {c : Str} {ns : List Str} {C : Addr} {fn : Fn} {neg : Bool} (T : ClC K c ns C) : OpD K (rOwn C (spD0 K fn) neg) (gOwn c ns fn neg) := by
  rintro F H x y dx dy Q k ex hx hy ⟨⟨ds, rfl⟩, ⟨es, rfl⟩, hf⟩ q
  obtain ⟨a, C1, d1, fs, rfl, h1, h2, _, _⟩ := dq_obj hx
  obtain ⟨b, C2, d2, gs, rfl, g1, g2, _, _⟩ := dq_obj hy
  rw [T.at'] at h2 g2
  cases h2
  cases g2
  exact ⟨a, b, d1, d2, fs, gs, rfl, rfl, ex _ _ h1, ex _ _ g1, F, _, _, ex, .cons hx (.cons hy .nil), hf, fun v d F' H' ⟨r, e, hk⟩ s hv => by
    subst e
    exact ⟨r, dq_bool hv, q _ _ F' H' hk s (.bl _)⟩⟩
/-! ## {} -/
def cNil : CV := fun _ k _ => k []
section
variable {X : Cx} {K : PySem.W.Frag} {W : WX} {e : Expr}
theorem qd_nilK (h : PE X e tDNewK) : PE X e (tFd K W false cNil) := pe_mono h fun σ H Q ⟨H0, F, δ, k, kx, r, hf, hx, q⟩ p hp => q p [] F _ hf (.newH r.ex _ hp) hp (ex_none r.ex hp) (Nat.zero_le _) ⟨[], upd_same, rfl, .nil⟩
end
end TH

namespace TH
open PySem PySem.Spec PyProof.Rows L2
section
variable {X : Cx} {K : PySem.W.Frag} {W : WX} {z : Bool} {st : Stmt} {e : Expr}
end
section
variable {P : Program} {w : World} {K : PySem.W.Frag} {mg : Str → Option Value} {base : Heap}
end
end TH

namespace TH
open PySem PySem.Spec PyProof.Rows L2
section
variable {X : Cx} {K : PySem.W.Frag}
end
section
variable {K : PySem.W.Frag}
end
end TH

namespace TH
open PySem PySem.Spec PyProof.Rows L2
section
variable {X : Cx} {K : PySem.W.Frag} {W : WX} {z : Bool} {st : Stmt} {i : Nat}
end
end TH

namespace TH
open PySem PySem.Spec PyProof.Rows L2
/-! ## {k: v, ..}, the keys numbers or texts -/
def dispD : List (EV × EV) → List Sl → List (D × D) → (List (D × D) → Prop) → (XD → Prop) → Prop
  | [], _, acc, k, _ => k acc
  | p :: r, δ, acc, k, kx => p.1 δ (fun x => p.2 δ (fun y => (keyK false x).isSome = true ∧ dispD r δ (acc ++ [(x, y)]) k kx) kx) kx
def cDisp (ps : List (EV × EV)) : CV := fun δ k kx => dispD ps δ [] (fun es => es.length ≤ 15 ∧ k (mergeD false es)) kx
section
variable {K : PySem.W.Frag} {W : WX}
def PRel (K : PySem.W.Frag) (F : Hp) (xs : List (V × V)) (es : List (D × D)) : Prop := Paired (fun (x : V × V) (e : D × D) => Dq K F x.1 e.1 ∧ Dq K F x.2 e.2 ∧ (keyK false e.1).isSome = true) xs es
theorem PRel.ex {F F' : Hp} (e : Ex F F') {xs : List (V × V)} {es : List (D × D)} (h : PRel K F xs es) : PRel K F' xs es := h.mono fun x d ⟨a, b, c⟩ => ⟨a.ex e, b.ex e, c⟩
theorem PRel.snoc {F : Hp} {x : V × V} {e : D × D} (h2 : Dq K F x.1 e.1 ∧ Dq K F x.2 e.2 ∧ (keyK false e.1).isSome = true) : ∀ {xs : List (V × V)} {es : List (D × D)}, PRel K F xs es → PRel K F (xs ++ [x]) (es ++ [e])
  | _, _, .nil => .cons h2 .nil
  | _, _, .cons h t => .cons h (PRel.snoc h2 t)
theorem pairs_sound {σ : L2.St} {δ : List Sl} {H0 : Hp} {kx : XD → Prop} {k : List (D × D) → Prop} : ∀ (ps : List (EV × EV)) (acc : List (D × D)) (xs : List (V × V)) (F H : Hp) (Q : List (V × V) → Hp → Prop), dispD ps δ acc k kx → Rl K H0 F H σ δ → XO K W kx F H σ → PRel K F xs acc →
    (∀ ys es F' H', k es → Stp F H F' H' → PRel K F' (xs ++ ys) es → Q ys H') → tPairs (ps.map fun p => (tE K W p.1, tE K W p.2)) σ H Q
  | [], acc, xs, F, H, Q, hk, rl, hx, hp, q => q [] acc F H hk (.refl rl.ex) (by rw [List.append_nil]; exact hp)
  | p :: r, acc, xs, F, H, Q, hk, rl, hx, hp, q => ⟨H0, F, δ, _, kx, rl, hk, hx, fun v d F1 H1 hk1 s1 q1 => ⟨H0, F1, δ, _, kx, rl.step s1, hk1, hx.step s1, fun w y F2 H2 ⟨hky, hk2⟩ s2 q2 =>
      pairs_sound r _ (xs ++ [(v, w)]) F2 H2 _ hk2 ((rl.step s1).step s2) ((hx.step s1).step s2) (PRel.snoc ⟨q1.ex s2.e, q2, hky⟩ (hp.ex (s1.e.trans s2.e))) fun ys es F' H' h s hr => q ((v, w) :: ys) es F' H' h ((s1.trans s2).trans s) (by simpa using hr)⟩⟩
theorem prel_K {F : Hp} : ∀ {xs : List (V × V)} {es : List (D × D)}, PRel K F xs es → ∃ kvs : List (Key × V), xs = kvs.map (fun kv => (kV kv.1, kv.2)) ∧ kvs.length = es.length ∧ es.map (·.1) = kvs.map (fun p => kD p.1) ∧ DqA K F (kvs.map (·.2)) (es.map (·.2))
  | _, _, .nil => ⟨[], rfl, rfl, rfl, .nil⟩
  | _, _, .cons (a := x) (b := e) ⟨h1, h2, h3⟩ t => by
    obtain ⟨kvs, e1, e2, e3, e4⟩ := prel_K t
    have ky := key_dq h1 h3
    simp only [Bool.false_eq_true, if_false] at ky
    obtain ⟨k, g1, g2⟩ := ky
    obtain ⟨x1, x2⟩ := x
    simp only at g2 h2
    subst g2
    exact ⟨(k, x2) :: kvs, by rw [e1]; rfl, by simp [e2], by simp [e3, g1], .cons h2 e4⟩
theorem qd_disp {X : Cx} {e : Expr} {ps : List (EV × EV)} (h : PE X e (tDisp (ps.map fun p => (tE K W p.1, tE K W p.2)))) : PE X e (tFd K W false (cDisp ps)) :=
  pe_mono h fun σ H Q ⟨H0, F, δ, k, kx, rl, hf, hx, q⟩ p hp => by
    have s0 : Stp F H F (upd H p (.dK [])) := .newH rl.ex _ hp
    refine pairs_sound ps [] [] F _ _ hf (rl.step s0) (hx.step s0) .nil fun ys es F' H' ⟨hl, hk⟩ s hr => ?_
    have n' : F' p = none := s.nw p _ (ex_none rl.ex hp) upd_same fun _ z => nomatch z
    refine ⟨s.h _ _ upd_same, ?_⟩
    obtain ⟨kvs, e1, e2, e3, e4⟩ := prel_K (by simpa using hr)
    obtain ⟨m1, m2⟩ := merge_K e3 e4 (acc := []) (av := []) rfl .nil
    refine ⟨kvs, e1, by omega, q p _ F' _ hk ?_ hp n' ?_ ⟨_, upd_same, m1, m2⟩⟩
    · have s2 := s0.trans s
      exact ⟨s2.e, s2.h.mut hp, s2.eh.mut n', s2.nw⟩
    · have := merge_len false es []
      simp only [List.length_nil, Nat.zero_add] at this
      exact Nat.le_trans this (by omega)
end
end TH

namespace TH
open PySem PySem.Spec PyProof.Rows L2
section
variable {X : Cx} {pins : List (Addr × Obj)} {σ : L2.St} {H : Hp} {s : Shared} {d : Addr} {o : Obj}
end
section
variable {P : Program} {w : World} {K : PySem.W.Frag} {d : Addr} {o : Obj} {es : Array DictEntry} {ep : Nat}
end
section
variable {X : Cx} {e : Expr} {td : TE} {apos cpos : Pos}
end
section
variable {K : PySem.W.Frag}
end
section
variable {K : PySem.W.Frag}
end
end TH

namespace TH
open PySem PySem.Spec PyProof.Rows L2
section
variable {X : Cx} {K : PySem.W.Frag} {W : WX} {e : Expr} {pos : Pos}
end
section
variable {X : Cx} {K : PySem.W.Frag}
end
section
variable {X : Cx} {K : PySem.W.Frag} {W : WX} {e : Expr} {pos : Pos}
end
section
variable {X : Cx} {K : PySem.W.Frag} {W : WX} {e : Expr} {pos : Pos}
end
/-! ## a dict in a tuple of one's own list, walked -/
section
variable {K : PySem.W.Frag}
end
end TH

namespace TH
open PySem PySem.Spec PyProof.Rows L2
section
variable {X : Cx} {K : PySem.W.Frag}
end
end TH

namespace TH
open PySem PySem.Spec PyProof.Rows L2
/-! ## ranges that go by 1 or by -1 -/
def rngC (lo c : Int) (n : Nat) : List D := (List.range n).map fun i => .int (lo + (i : Nat) * c)
def stepN (m n c : Int) : Nat := if c = 1 then (n - m).toNat else (m - n).toNat
def iRg3 (f : LV) : LV := fun δ k kx => f δ (fun ds => ∃ m n c : Int, ds = [.int m, .int n, .int c] ∧ (c = 1 ∨ c = -1) ∧ -1000000 ≤ m ∧ m ≤ 1000000 ∧ -1000000 ≤ n ∧ n ≤ 1000000 ∧ stepN m n c ≤ 1000000 ∧ k (rngC m c (stepN m n c))) kx
section
variable {X : Cx} {K : PySem.W.Frag} {W : WX} {st : Bool} {tg e a b c : Expr} {f fa fb : EV} {l la lb : LV} {pos : Pos}
def lRg3 (l : LV) : LV := iRg3 l
/-! ## divmod -/
def gDivM : List D → (D → Prop) → Prop := fun ds k => ∃ i j : Int, ds = [.int i, .int j] ∧ CDiv i j ∧ k (.tuple [.int (i / j), .int (i % j)])
theorem bDivM : BaD K (fun xs H Q => ∃ i j, xs = [.int i, .int j] ∧ CDiv i j ∧ ∀ p, H p = none → Q (.ref p) (upd H p (.tup [.int (i / j), .int (i % j)]))) gDivM := fun F H vs ds Q k ex h ⟨i, j, e, hc, hk⟩ q => by
  subst e
  obtain ⟨v, w, rfl, hv, hw⟩ := dqa2 h
  refine ⟨i, j, by rw [dq_int hv, dq_int hw], hc, fun p hp => q _ _ _ _ hk (.new ex _ hp) (.tup upd_same (show 2 ≤ 1000000 by decide) (.cons (.int _) (.cons (.int _) .nil)))⟩
/-! ## xs.count(y), xs.index(y) of lists -/
def eqAt (x : D) (ds : List D) : Prop := pureD x = true ∧ pureA ds = true ∧ PyData.plainAll ds = true ∧ x.plain = true ∧ x.depth ≤ 50
def MeD (K : PySem.W.Frag) (r : V → List V → Hp → VK → Prop) (g : List D → List D → (D → Prop) → Prop) : Prop := ∀ (F H : Hp) (a : Addr) (xs vs : List V) (ds args : List D) (Q : VK) (k : D → Prop), Ex F H → H a = some (.lst xs) → ds.length ≤ 1000000 → DqA K F xs ds → DqA K F vs args → g ds args k →
  (∀ v d F' H', k d → Stp F H F' H' → Dq K F' v d → Q v H') → r (.ref a) vs H Q
def eLm (g : List D → List D → (D → Prop) → Prop) (l la : LV) : EV := fun δ k kx => l δ (fun ds => la δ (fun args => g ds args k) kx) kx
theorem qe_lm {r : V → List V → Hp → VK → Prop} {g : List D → List D → (D → Prop) → Prop} (o : MeD K r g) (h : PE X e (tBM K "list" r (tL K W l) (tAs K W la))) : QE X K W e (eLm g l la) := pe_mono h fun σ H Q ⟨H0, F, δ, k, kx, rl, hf, hx, q⟩ =>
  ⟨H0, F, δ, _, kx, rl, hf, hx, fun a xs ds F1 H1 hk s1 h1 h2 h3 => ⟨tyL h1, H0, F1, δ, _, kx, rl.step s1, hk, hx.step s1, fun vs args F2 H2 hk2 s2 q2 =>
    o F2 H2 a xs vs ds args Q k s2.eh (s2.h _ _ h1) h2 (h3.ex s2.e) q2 hk2 fun v d F3 H3 hk3 s3 q3 => q v d F3 H3 hk3 ((s1.trans s2).trans s3) q3⟩⟩
def rCountD (K : PySem.W.Frag) : V → List V → Hp → VK → Prop := fun x vs H Q => ∃ (l : Addr) (xs : List V) (y : V) (ds : List D) (d : D), x = .ref l ∧ vs = [y] ∧ SqL K H l xs ∧ DpAll K H xs ds ∧ Dp K H y d ∧ PyData.plainAll ds = true ∧ d.plain = true ∧ d.depth ≤ 50 ∧ Q (.int ((ds.countP fun z => PyData.eqv z d : Nat) : Int)) H
theorem mt_countD (hu : X.A.units + 64 < cLine) (hK : X.K = K := by rfl) : MtR X "list.count" (rCountD K) := by
  subst hK
  intro pins s σ H x xs v us Q I rx rxs h
  obtain ⟨l, ys, y, ds, d, rfl, rfl, hs, ha, hy, p1, p2, hdep, q⟩ := h
  cases rx
  obtain ⟨u, rfl, ru⟩ := rxs.one
  obtain ⟨its, rv, ⟨⟨cls, dd, data, sl⟩, n, ho, hc, hdn, hd⟩, hlen⟩ := I.list hs
  simp only at hc hd
  subst hc hd
  obtain ⟨as, h4⟩ := Dp.readsAll I ds _ its ha rv
  obtain ⟨bs, r1⟩ := Dp.reads I d y u hy ru
  exact SeqAt.count_list_data (vs := its.toArray) ⟨_, ho, rfl, n, rfl⟩ (by simpa using h4) r1 p1 p2 (by omega) ⟨.int _, H, I.tok _, ⟨_, rfl⟩, q⟩
def gCount : List D → List D → (D → Prop) → Prop := fun ds args k => ∃ d, args = [d] ∧ eqAt d ds ∧ k (.int ((ds.countP fun z => PyData.eqv z d : Nat) : Int))
theorem mCount : MeD K (rCountD K) gCount := fun F H a xs vs ds args Q k ex ha hl hd hv ⟨d, e, ⟨p1, p2, p3, p4, p5⟩, hk⟩ q => by
  subst e
  obtain ⟨v, rfl, hv'⟩ := dqa1 hv
  exact ⟨a, xs, v, ds, d, rfl, rfl, sqL ha, ex.dpa (hd.dp p2), ex.dp (hv'.dp p1), p3, p4, p5, q _ _ F H hk (.refl ex) (.int _)⟩
/-! the first place -/
def rIndexP (K : PySem.W.Frag) : V → List V → Hp → VK → Prop := fun x vs H Q => ∃ (l : Addr) (xs : List V) (y : V) (ds : List D) (d : D) (j : Nat), x = .ref l ∧ vs = [y] ∧ SqL K H l xs ∧ DpAll K H xs ds ∧ Dp K H y d ∧ PyData.plainAll ds = true ∧ d.plain = true ∧ d.depth ≤ 50 ∧
  (ds.findIdx? fun z => PyData.eqv z d) = some j ∧ Q (.int (j : Nat)) H
theorem mt_indexP (hu : X.A.units + 64 < cLine) (hK : X.K = K := by rfl) : MtR X "list.index" (rIndexP K) := by
  subst hK
  intro pins s σ H x xs v us Q I rx rxs h
  obtain ⟨l, ys, y, ds, d, j, rfl, rfl, hs, ha, hy, p1, p2, hdep, hj, q⟩ := h
  cases rx
  obtain ⟨u, rfl, ru⟩ := rxs.one
  obtain ⟨its, rv, ⟨⟨cls, dd, data, sl⟩, n, ho, hc, hdn, hd⟩, hlen⟩ := I.list hs
  simp only at hc hd
  subst hc hd
  obtain ⟨as, h4⟩ := Dp.readsAll I ds _ its ha rv
  obtain ⟨bs, r1⟩ := Dp.reads I d y u hy ru
  have hmap : its.map (SeqAt.readOf s.heap) = ds := SeqAt.readsAll_map_plain ds its as p1 h4
  obtain ⟨hjd, e1, e2⟩ := List.findIdx?_eq_some_iff_getElem.mp hj
  have hn : its.length = ds.length := by rw [← hmap, List.length_map]
  have hvl := rv.length
  have hsl : sizeLine = 16777216 := sizeLine_eq
  have hjs : j < its.toArray.size := by simpa [hn] using hjd
  have at_ : ∀ (m : Nat) (hm : m < its.toArray.size) (hd : m < ds.length), SeqAt.readOf s.heap its.toArray[m] = ds[m] := fun m hm hd => by
    have hml : m < its.length := by simpa using hm
    have : (its.map (SeqAt.readOf s.heap))[m]? = ds[m]? := by rw [hmap]
    rw [List.getElem?_map, List.getElem?_eq_getElem hml, List.getElem?_eq_getElem hd] at this
    simpa using this
  refine call_meets PySem.F.slot_list_index ⟨_, ho, rfl⟩ PySem.F.entry_list_index (PySem.F.args_list_index_2 _ _)
    (SeqAt.list_indexAt l its.toArray n dd sl u (fun z => PyData.eqv (SeqAt.readOf s.heap z) d) j hjs (by simp; omega) ?_ ?_) ⟨ho, SeqAt.items_plain (vs := its.toArray) (show ReadsAll s.heap its.toArray.toList ds as from by simpa using h4) r1 p1 p2 (by show X.A.units + 1 + min (PyData.depthAll ds) d.depth < cLine; omega), ?_⟩
  · show PyData.eqv (SeqAt.readOf s.heap its.toArray[j]) d = true
    rw [at_ j hjs hjd]
    exact e1
  · intro m hm hmj
    have hmd : m < ds.length := by omega
    show PyData.eqv (SeqAt.readOf s.heap its.toArray[m]) d = false
    rw [at_ m hm hmd]
    simpa using e2 m hmj
  · exact ⟨.int (j : Nat), H, I.tok _, ⟨_, rfl⟩, q⟩
def gIndex : List D → List D → (D → Prop) → Prop := fun ds args k => ∃ (d : D) (j : Nat), args = [d] ∧ eqAt d ds ∧ (ds.findIdx? fun z => PyData.eqv z d) = some j ∧ k (.int (j : Nat))
theorem mIndex : MeD K (rIndexP K) gIndex := fun F H a xs vs ds args Q k ex ha hl hd hv ⟨d, j, e, ⟨p1, p2, p3, p4, p5⟩, hj, hk⟩ q => by
  subst e
  obtain ⟨v, rfl, hv'⟩ := dqa1 hv
  exact ⟨a, xs, v, ds, d, j, rfl, rfl, sqL ha, ex.dpa (hd.dp p2), ex.dp (hv'.dp p1), p3, p4, p5, hj, q _ _ F H hk (.refl ex) (.int _)⟩
end
end TH

namespace TH
open PySem PySem.Spec PyProof.Rows L2
/-! ## errors raised, caught, looked at -/
/-- which classes of errors are of which (a table) -/
def subT (tab : List (String × List String)) (cs : List String) (e c : String) : Option Bool := match tab.lookup e with
  | some as => if cs.contains c then some (as.contains c) else none
  | none => none
abbrev ESub := String → String → Option Bool
structure ErrAll (K : PySem.W.Frag) (sb : ESub) : Prop where
  is : ∀ e c b, sb e c = some b → ∃ D, clsAt K (Str.ofString e) = some D ∧ ExcC K D ∧ PySem.W.exmOne K (.ref D) (clsV K c) = some b ∧ PySem.W.kitOne K (.ref D) (clsV K c) = some b
/-- an error's class by its name -/
structure ErX (K : PySem.W.Frag) (mg : Str → Option Value) (x : String) (C : Addr) : Prop where
  gC : mg (Str.ofString x) = some (.ref C)
  at' : clsAt K (Str.ofString x) = some C
theorem ErX.v {K : PySem.W.Frag} {mg : Str → Option Value} {x : String} {C : Addr} (h : ErX K mg x C) : clsV K x = .ref C := by unfold clsV; rw [h.at']
/-- an error in hand, as data -/
def excIs (x : XD) (d : D) : Prop := (x.fs = [] ∧ ∃ a, d = adrD a) ∨ (x.fs ≠ [] ∧ ∃ a dx, d = exfD a dx (x.fs.map (·.1)) (x.fs.map (·.2)))
def sTry (sb : ESub) (c : String) (i : Nat) (g : SV) (sv : XD → D → SV) : SV := fun E δ =>
  g { E with xx := fun x δ' => ∃ b, sb x.c c = some b ∧ if b = true then ∀ d, excIs x d → sv x d { E with nx := fun δ2 => E.nx (δ2.set i .non), bk := fun δ2 => E.bk (δ2.set i .non), ct := fun δ2 => E.ct (δ2.set i .non), xx := fun _ _ => False } (δ'.set i (.val d)) else E.xx x δ' } δ
section
variable {X : Cx} {K : PySem.W.Frag} {W : WX} {z : Bool}
theorem adr_inj {F : Hp} {v : V} {a : Addr} (h : Dq K F v (adrD a)) : v = .ref a := by
  generalize e0 : adrD a = d at h
  cases h with
  | adr e => subst e0; simp [adrD] at e; exact congrArg V.ref (Int.ofNat_inj.mp e).symm
  | exf _ e _ => subst e0; simp [adrD, exfD] at e
  | dK _ _ _ _ e => subst e0; simp [adrD, dicD] at e
  | dT _ _ _ _ e => subst e0; simp [adrD, dicD] at e
  | obj _ _ e _ => subst e0; simp [adrD, objD] at e
  | bag e _ => subst e0; simp [adrD, bagD] at e
  | hand e _ => subst e0; simp [adrD, handD] at e
  | scr e _ _ => subst e0; simp [adrD, scrD] at e
  | _ => simp [adrD] at e0
theorem exfD_inj {a b dx dy : Addr} {ns ms : List Str} {ds es : List D} (h : exfD a dx ns ds = exfD b dy ms es) : a = b ∧ dx = dy ∧ ns = ms ∧ ds = es := by
  have inj : ∀ {f : Str → D} (_ : ∀ x y, f x = f y → x = y) {a b : List Str}, a.map f = b.map f → a = b := by
    intro f hf a
    induction a with
    | nil => intro b hb; cases b with
      | nil => rfl
      | cons _ _ => simp at hb
    | cons x a ih => intro b hb; cases b with
      | nil => simp at hb
      | cons y b =>
        simp only [List.map_cons, List.cons.injEq] at hb
        rw [hf _ _ hb.1, ih hb.2]
  have inj2 : ∀ {a b : List D}, a.map (fun d => (PyData.none, d)) = b.map (fun d => (PyData.none, d)) → a = b := by
    intro a
    induction a with
    | nil => intro b hb; cases b with
      | nil => rfl
      | cons _ _ => simp at hb
    | cons x a ih => intro b hb; cases b with
      | nil => simp at hb
      | cons y b =>
        simp only [List.map_cons, List.cons.injEq, Prod.mk.injEq, true_and] at hb
        rw [hb.1, ih hb.2]
  unfold exfD at h
  injection h with h
  injection h with h1 h2
  obtain ⟨h3, h4⟩ := Prod.mk.inj h1
  injection h3 with h3
  injection h4 with h4
  injection h4 with h4 h5
  injection h4 with h4
  have e1 : (a : Nat) = b := Int.ofNat.inj h3
  have e2 : (dx : Nat) = dy := Int.ofNat.inj h4
  exact ⟨e1, e2, inj (fun x y e => PyData.str.inj e) h5, inj2 h2⟩
theorem exf_inj {F : Hp} {v : V} {a dx : Addr} {ns : List Str} {ds : List D} (h : Dq K F v (exfD a dx ns ds)) : v = .ref a ∧ ∃ fs, F dx = some (.xd fs) ∧ fs.map (·.1) = ns ∧ DqA K F (fs.map (·.2)) ds := by
  generalize e0 : exfD a dx ns ds = d at h
  cases h with
  | adr e => subst e0; simp [adrD, exfD] at e
  | exf h1 e h2 =>
    obtain ⟨rfl, rfl, rfl, rfl⟩ := exfD_inj (e0.trans e)
    exact ⟨rfl, _, h1, rfl, h2⟩
  | dK _ _ _ _ e => subst e0; simp [exfD, dicD] at e
  | dT _ _ _ _ e => subst e0; simp [exfD, dicD] at e
  | obj _ _ e _ => subst e0; simp [exfD, objD] at e
  | bag e _ => subst e0; simp [exfD, bagD] at e
  | hand e _ => subst e0; simp [exfD, handD] at e
  | scr e _ _ => subst e0; simp [exfD, scrD] at e
  | _ => simp [exfD] at e0
/-- the error at a, with its dict or without -/
def excAt (a : Addr) (od : Option Addr) (x : XD) (d : D) : Prop := match od with
  | none => x.fs = [] ∧ d = adrD a
  | some dx => x.fs ≠ [] ∧ d = exfD a dx (x.fs.map (·.1)) (x.fs.map (·.2))
theorem excAt.is {a : Addr} {od : Option Addr} {x : XD} {d : D} (h : excAt a od x d) : excIs x d := by
  cases od with
  | none => exact .inl ⟨h.1, a, h.2⟩
  | some dx => exact .inr ⟨h.1, a, dx, h.2⟩
theorem excAt.v {a : Addr} {od : Option Addr} {x : XD} {d : D} (h : excAt a od x d) {F : Hp} {v : V} (hv : Dq K F v d) : v = .ref a := by
  cases od with
  | none => obtain ⟨_, rfl⟩ := h; exact adr_inj hv
  | some dx => obtain ⟨_, rfl⟩ := h; exact (exf_inj hv).1
theorem qs_try {x n : Str} {c : String} {C : Addr} {i : Nat} {body suite : List Stmt} {b₀ : Stmt} {np pos pos' : Pos} {g : SV} {sv : XD → D → SV} {sb : ESub} (EA : ErrAll X.K sb) (hK : X.K = K) (hC : clsV K c = .ref C) (hs : X.stack = X.env :: X.outer) (hf : X.env.frame = some X.env.locals) (hN : X.N.Nodup) (hi : X.N[i]? = some n) (hln : X.env.kindOf n = some .local) (hc : Names X x (.ref C)) (tk : Takes X W)
    (hb : ∀ (W : WX) (pn : List (Addr × Obj)) (xe : Value → Shared → Prop), Takes (X.tr pn xe) W → PassesOwn (model X.prog X.w) X.A X.env xe → QSs (X.tr pn xe) K W z body g)
    (hsu : ∀ (a DD : Addr) (oe : Obj) (y : XD) (dd : D) (od : Option Addr) (pn : List (Addr × Obj)), clsAt K (Str.ofString y.c) = some DD → ExcC K DD → Zc (.ref DD) od oe → (∃ vs, oe.data = .fields vs) → excAt a od y dd → QSs (X.suite a ((a, oe) :: pn)) K W z (b₀ :: suite) (sv y dd))
    (hz : z = false ∨ i ≠ 0 := by first | exact .inl rfl | exact .inr (by decide)) :
    QS X K W z (.Try body [.ExceptHandler (some (.Name x np)) (some n) (b₀ :: suite) pos'] [] [] pos) (sTry sb c i g sv) := by
  subst hK
  refine ps_mono (ps_try_as (i := i) (tb := fun W => tS X.K W z g) (ts := fun a cls od Dn σ H => ∃ y DD dd, cls = .ref DD ∧ clsAt X.K (Str.ofString y.c) = some DD ∧ ExcC X.K DD ∧ excAt a od y dd ∧ tS X.K W z (sv y dd) Dn σ H) hs hf hN hi hln hc tk hb fun a oe cls od pn hz1 hf1 => ⟨fun pins s σ H Dn I ⟨y, D, dd, e1, e2, eE, e3, h⟩ => ?_⟩) fun Dn σ H ⟨v0, Fb, F0, H0, F, δ, E, r, s, hg, o⟩ => ?_
  · subst e1
    exact (hsu a D oe y dd od pn e2 eE hz1 hf1 e3).run pins s σ H Dn I h
  · refine ⟨v0, Fb, F0, H0, F, δ, _, r, s, hg, ⟨o.nx, o.rt, o.bk, o.ct, fun cv od y F1 H1 σ1 δ1 hx r1 s1 hq => ?_, o.ro⟩⟩
    obtain ⟨b, hb1, hx⟩ := hx
    obtain ⟨D, hD, hE, hm, _⟩ := EA.is _ _ _ hb1
    rw [hC] at hm
    obtain ⟨q1, q2⟩ := hq
    have ec : cv = .ref D := by rw [q1]; unfold clsV; rw [hD]
    subst ec
    refine ⟨b, hm, fun eb a ha => ?_, fun eb => ?_⟩
    · subst eb
      rw [if_pos rfl] at hx
      obtain ⟨dd, hdd, hdq⟩ : ∃ dd, excAt a od y dd ∧ Dq X.K F1 (.ref a) dd := by
        cases od with
        | none => exact ⟨_, ⟨q2, rfl⟩, .adr rfl⟩
        | some dx =>
          obtain ⟨f0, fs, f1, f2, f3⟩ := q2
          exact ⟨_, ⟨f0, rfl⟩, .exf f1 (by rw [f2]) f3⟩
      refine ⟨y, D, dd, rfl, hD, hE, hdd, v0, Fb, F0, H0, F1, _, _, r1.set i hdq, s1.set hz, hx dd hdd.is, ⟨fun F2 H2 σ2 δ2 h2 r2 s2 => o.nx F2 H2 _ _ h2 (r2.forget i none) (s2.set hz), o.rt, fun F2 H2 σ2 δ2 h2 r2 s2 => o.bk F2 H2 _ _ h2 (r2.forget i none) (s2.set hz), fun F2 H2 σ2 δ2 h2 r2 s2 => o.ct F2 H2 _ _ h2 (r2.forget i none) (s2.set hz), fun _ _ _ _ _ _ _ h => h.elim, o.ro⟩⟩
    · subst eb
      rw [if_neg Bool.false_ne_true] at hx
      exact o.xx (.ref D) od y F1 H1 σ1 δ1 hx r1 s1 ⟨q1, q2⟩
/-- where all errors caught are without fields -/
def sTry0 (sb : ESub) (c : String) (i : Nat) (g : SV) (sv : XD → D → SV) : SV := sTry sb c i g fun x d E δ => x.fs = [] ∧ sv x d E δ
theorem qs_try0 {x n : Str} {c : String} {C : Addr} {i : Nat} {body suite : List Stmt} {b₀ : Stmt} {np pos pos' : Pos} {g : SV} {sv : XD → D → SV} {sb : ESub} (EA : ErrAll X.K sb) (hK : X.K = K) (hC : clsV K c = .ref C) (hs : X.stack = X.env :: X.outer) (hf : X.env.frame = some X.env.locals) (hN : X.N.Nodup) (hi : X.N[i]? = some n) (hln : X.env.kindOf n = some .local) (hc : Names X x (.ref C)) (tk : Takes X W)
    (hb : ∀ (W : WX) (pn : List (Addr × Obj)) (xe : Value → Shared → Prop), Takes (X.tr pn xe) W → PassesOwn (model X.prog X.w) X.A X.env xe → QSs (X.tr pn xe) K W z body g)
    (hsu : ∀ (a DD : Addr) (oe : Obj) (y : XD) (dd : D) (pn : List (Addr × Obj)), clsAt K (Str.ofString y.c) = some DD → ExcC K DD → Zc (.ref DD) none oe → (∃ vs, oe.data = .fields vs) → excAt a none y dd → QSs (X.suite a ((a, oe) :: pn)) K W z (b₀ :: suite) (sv y dd))
    (hz : z = false ∨ i ≠ 0 := by first | exact .inl rfl | exact .inr (by decide)) :
    QS X K W z (.Try body [.ExceptHandler (some (.Name x np)) (some n) (b₀ :: suite) pos'] [] [] pos) (sTry0 sb c i g sv) := by
  refine qs_try EA hK hC hs hf hN hi hln hc tk hb (fun a DD oe y dd od pn h1 h2 h3 h4 h5 => ?_) hz
  cases od with
  | none => exact pss_mono (hsu a DD oe y dd pn h1 h2 h3 h4 h5) fun Dn σ H ⟨v0, Fb, F0, H0, F, δ, E, r, s, hg, o⟩ => ⟨v0, Fb, F0, H0, F, δ, E, r, s, hg.2, o⟩
  | some dx => exact ⟨fun pins s σ H Dn I ⟨v0, Fb, F0, H0, F, δ, E, r, sg, hg, o⟩ => absurd hg.1 h5.1⟩
/-! isinstance(e, C) in the suite -/
def eIsE (sb : ESub) (e c : String) (dd : D) (f : EV) : EV := fun δ k kx => f δ (fun d => d = dd ∧ ∃ b, sb e c = some b ∧ k (.bool b)) kx
/-- the class as a value, in an expression -/
inductive ClsE (K : PySem.W.Frag) (c : String) : V → Prop
  | own {C : Addr} : clsV K c = .ref C → ClsE K c (.ref C)
  | ty {T : String} : clsV K c = .type T → ClsE K c (.ty T)
theorem qe_isE {a DD : Addr} {oe : Obj} {y : XD} {dd : D} {pn : List (Addr × Obj)} {sb : ESub} {c : String} {cv : V} {fn e xe : Expr} {f : EV} {pos : Pos} (EA : ErrAll X.K sb) (hK : X.K = K) (hD : clsAt K (Str.ofString y.c) = some DD) (hd : excAt a none y dd) (hcv : ClsE K c cv)
    (h : PE (X.suite a ((a, oe) :: pn)) (.Call fn [e, xe] [] pos) (tCB (rIsE K DD a) (tCons (tE K W f) (tCons (tC cv) tNil)))) : QE (X.suite a ((a, oe) :: pn)) K W (.Call fn [e, xe] [] pos) (eIsE sb y.c c dd f) := by
  subst hK
  refine pe_mono h fun σ H Q ⟨H0, F, δ, k, kx, r, hf, hx, q⟩ => ⟨H0, F, δ, _, kx, r, hf, hx, fun v d F1 H1 ⟨ed, b, hb, hk⟩ s1 hv => ?_⟩
  subst ed
  obtain ⟨D', e1, e2, _, e4⟩ := EA.is _ _ _ hb
  rw [hD] at e1
  cases e1
  have ev := hd.v hv
  subst ev
  refine ⟨cv, clsV X.K c, b, rfl, fun u ru => ?_, e4, q _ _ F1 H1 hk s1 (.bl b)⟩
  cases hcv with
  | own e => rw [e]; exact ru
  | ty e => rw [e]; exact ru
end
end TH

namespace TH
open PySem PySem.Spec PyProof.Rows L2
theorem takes_no {X : Cx} : Takes X W0 := fun _ _ ⟨_, _, _, _, _, _, _, _, _, _, _, _, _, _, _, _, w⟩ => w.elim
theorem dq_scr {K : PySem.W.Frag} {F : Hp} {v : V} {ns : List Int} (h : Dq K F v (scrD ns)) : ∃ a, v = .ref a ∧ SqL K F a (ns.map V.int) ∧ ns.length ≤ 1000000 := by
  have inj : ∀ {xs ys : List Int}, scrD xs = scrD ys → xs = ys := fun {xs ys} h => by
    unfold scrD at h
    injection h with h
    injection h with h _
    have h2 := (Prod.mk.inj h).2
    injection h2 with h2
    have inj : ∀ {a b : List Int}, a.map PyData.int = b.map PyData.int → a = b := by
      intro a
      induction a with
      | nil => intro b hb; cases b with
        | nil => rfl
        | cons _ _ => simp at hb
      | cons x a ih => intro b hb; cases b with
        | nil => simp at hb
        | cons y b =>
          simp only [List.map_cons, List.cons.injEq, PyData.int.injEq] at hb
          rw [hb.1, ih hb.2]
    exact inj h2
  generalize e0 : scrD ns = d at h
  cases h with
  | scr e h1 h2 => cases inj (e0.trans e); exact ⟨_, rfl, h1, h2⟩
  | adr e => subst e0; simp [adrD, scrD] at e
  | exf _ e _ => subst e0; simp [exfD, scrD] at e
  | dK _ _ _ _ e => subst e0; simp [scrD, dicD] at e
  | dT _ _ _ _ e => subst e0; simp [scrD, dicD] at e
  | obj _ _ e _ => subst e0; simp [scrD, objD] at e
  | bag e _ => subst e0; simp [scrD, bagD] at e
  | hand e _ => subst e0; simp [scrD, handD] at e
  | _ => simp [scrD] at e0

theorem qs_raiseE {X : Cx} {K : PySem.W.Frag} {W : WX} {z : Bool} {st : Stmt} {C : Addr} {x : String} (hx : clsAt K (Str.ofString x) = some C) (h : PS X st (fun _ σ H => W (.ref C) none σ H)) : QS X K W z st (sRaise x) :=
  ps_mono h fun Dn σ H ⟨v0, Fb, F0, H0, F, δ, E, r, s, hf, o⟩ => o.xx _ none ⟨x, []⟩ F H σ δ hf r s ⟨by simp [clsV, hx], rfl⟩
end TH

namespace TH
open PySem PySem.Spec PyProof.Rows L2
section
variable {P : Program} {w : World} {K : PySem.W.Frag} {mg : Str → Option Value} {base : Heap}
/-- a def by its address -/
theorem fnD0 {x : Str} {st : Stmt} {f : Addr} {fd : FuncData} {N ps : List Str} {k n : Nat} {g : SV} (F : C8.Def K mg x st f fd) (b : Binds K fd ps []) (S : FnScope N ps (C8.fnScope st)) (hn : ps.length = n)
    (hbody : ∀ (cdv : Value) (A : Around) (outer : List Env) (s : Shared) (H : Hp) (E : XK), Room k (A.deeper (envOfC x (C8.fnScope st) s.heap.objs.size f cdv)) → QSs (cxOf C8.CX0 P w K mg base N x (C8.fnScope st) f cdv A outer s H E).nox K W0 false (C8.fnBody st) g) :
    FnOk P w K mg base C8.CX0 (k + 1) f fd ps (spD0 K (fnD n N.length g)) := by
  refine C8.fn0 F.fn S (fun vs H Q E ⟨F1, ds, k1, ex, hd, ⟨hl, _⟩, _⟩ => by rw [dqa_len hd, hl, hn]) (fun cdv A outer s H vs Q E hr ⟨F1, ds, k1, ex, hd, ⟨hl, hf⟩, q⟩ => ?_)
  exact ⟨_, hbody cdv A outer s H E hr, .non, F1, F1, H, F1, _, _, rl_start ex hd N n hl, ⟨.refl ex, .refl _, fun z => nomatch z⟩, hf, fun F2 H2 σ δ h r s => q _ _ F2 H2 h s.s .non, fun v d F2 H2 σ h s hv => q v d F2 H2 h s.s hv, fun _ _ _ _ h => h.elim, fun _ _ _ _ h => h.elim, fun _ _ _ _ _ _ _ h => h.elim, fun _ _ _ _ _ h => h.elim⟩
/-- what a law is asked: a script of numbers; the answer True -/
def spLaw (K : PySem.W.Frag) : Sp := fun vs H Q _ => ∃ (a : Addr) (ns : List Int), vs = [.ref a] ∧ SqL K H a (ns.map V.int) ∧ ns.length ≤ 1000000 ∧ ∀ H', Q (.bl true) H'
theorem fn_law {k : Nat} {f : Addr} {fd : FuncData} {ps : List Str} {fn : Fn} (G : FnOk P w K mg base C8.CX0 k f fd ps (spD0 K fn)) (h : ∀ ns kk, kk (.bool true) → fn [scrD ns] kk (fun _ => False)) : FnOk P w K mg base C8.CX0 k f fd ps (spLaw K) :=
  fn_mono G fun vs H Q E ⟨a, ns, e, hs, hl, q⟩ => ⟨H, [scrD ns], fun d => d = .bool true, .refl H, by rw [e]; exact .cons (.scr rfl hs hl) .nil, h ns _ rfl, fun v d F' H' hk _ hv => by
    subst hk
    rw [dq_bool hv]
    exact q H'⟩
/-- a promise of nothing -/
theorem cal_nil {x : Str} {st : Stmt} {f : Addr} {fd : FuncData} {N ps : List Str} {k : Nat} (F : C8.Def K mg x st f fd) (b : Binds K fd ps []) (S : FnScope N ps (C8.fnScope st)) : C8.Cal P w K mg base (k + 1) x (spD0 K fun _ _ _ => False) [] :=
  C8.cal0 F b .nil S (fun vs H Q E ⟨_, _, _, _, _, h, _⟩ => h.elim) fun cdv A outer s H vs Q E hr ⟨_, _, _, _, _, h, _⟩ => h.elim
end
theorem kit_of_sub {K : PySem.W.Frag} {Dx C : Addr} {b : Bool} (hd : PySem.W.hasDictIn K C = true) (ht : PySem.W.typeIn K (.ref C) = some (.type "type")) (hs : PySem.W.subIn K (.ref Dx) (.ref C) = some b) (hx : PySem.W.subIn K (.ref Dx) (.ref Dx) = some true) : PySem.W.kitOne K (.ref Dx) (.ref C) = some b := by
  unfold PySem.W.kitOne
  by_cases e : Dx = C
  · subst e
    rw [if_pos (by simp)]
    exact hx.symm.trans hs
  · have hn : (Value.ref Dx == Value.ref C) = false := by simpa using e
    rw [hn, if_neg Bool.false_ne_true]
    obtain ⟨cd, hc, _⟩ := PySem.W.any_some hd
    have e2 : ((PySem.W.clsIn K C).isSome && PySem.W.typeIn K (.ref C) == some (.type "type")) = true := by rw [hc, ht] <;> rfl
    show (if ((PySem.W.clsIn K C).isSome && PySem.W.typeIn K (.ref C) == some (.type "type")) = true then PySem.W.subIn K (.ref Dx) (.ref C) else none) = some b
    rw [if_pos e2]
    exact hs
theorem kit_of_ve {K : PySem.W.Frag} {Dx : Addr} {b : Bool} (hs : PySem.W.subIn K (.ref Dx) (.type "ValueError") = some b) : PySem.W.kitOne K (.ref Dx) (.type "ValueError") = some b := by
  unfold PySem.W.kitOne
  rw [if_neg (by simp)]
  show (if PySem.W.kitMeta "ValueError" = true then PySem.W.subIn K (.ref Dx) (.type "ValueError") else none) = some b
  rw [if_pos (by decide +kernel)]
  exact hs
theorem exm_of_ve {K : PySem.W.Frag} {Dx : Addr} {b : Bool} (h0 : PySem.W.subIn K (.type "ValueError") (.type "BaseException") = some true) (hs : PySem.W.subIn K (.ref Dx) (.type "ValueError") = some b) : PySem.W.exmOne K (.ref Dx) (.type "ValueError") = some b := by
  unfold PySem.W.exmOne
  rw [h0, if_pos (by rfl)]
  show (if PySem.W.kitMeta "ValueError" = true then PySem.W.subIn K (.ref Dx) (.type "ValueError") else none) = some b
  rw [if_pos (by decide +kernel)]
  exact hs
theorem lookup_mem {α : Type} : ∀ {tab : List (String × α)} {e : String} {as : α}, tab.lookup e = some as → (e, as) ∈ tab
  | [], _, _, h => nomatch h
  | (x, a) :: t, e, as, h => by
    unfold List.lookup at h
    by_cases z : e = x
    · subst z
      simp at h
      subst h
      exact .head _
    · have : (e == x) = false := by simpa using z
      rw [this] at h
      exact .tail _ (lookup_mem h)
theorem errAll_of {K : PySem.W.Frag} {tab : List (String × List String)} {cs : List String} (h : ∀ p ∈ tab, ∃ Dx, clsAt K (Str.ofString p.1) = some Dx ∧ ExcC K Dx ∧ ∀ c ∈ cs, PySem.W.exmOne K (.ref Dx) (clsV K c) = some (p.2.contains c) ∧ PySem.W.kitOne K (.ref Dx) (clsV K c) = some (p.2.contains c)) : ErrAll K (subT tab cs) := by
  refine ⟨fun e c b hb => ?_⟩
  unfold subT at hb
  cases hl : tab.lookup e with
  | none => rw [hl] at hb; cases hb
  | some as =>
    rw [hl] at hb
    dsimp only at hb
    by_cases hc : cs.contains c = true
    · rw [if_pos hc] at hb
      cases hb
      obtain ⟨Dx, h1, h2, h3⟩ := h (e, as) (lookup_mem hl)
      obtain ⟨h4, h5⟩ := h3 c (by simpa using hc)
      exact ⟨Dx, h1, h2, h4, h5⟩
    · rw [if_neg hc] at hb
      cases hb
end TH

namespace TH
open PySem PySem.Spec PyProof.Rows L2
/-! ## one's own, with its address known -/
section
variable {K : PySem.W.Frag} {H0 F H : Hp} {σ : L2.St} {δ : List Sl} {i : Nat} {a : Addr} {d : D}
end
section
variable {X : Cx} {K : PySem.W.Frag} {W : WX} {z : Bool} {st : Stmt}
end
end TH

namespace TH
open PySem PySem.Spec PyProof.Rows L2
section
variable {X : Cx} {K : PySem.W.Frag} {W : WX} {z : Bool} {st : Stmt}
end
end TH

namespace TH
open PySem PySem.W PySem.Calls PyProof.Rows PySem.Spec PySem.HandSPX L2
/-! ## an own error whose __init__ says super().__init__(text) and keeps one field -/
section
variable {prog : Program} {w : World} {A : Around} {E : Value → Shared → Prop} {h : Heap} {g : Array GenState} {d : Drawn} {t : Nat} {os : OsState}
/-- the bound ValueError.__init__ called: the args are laid anew -/
theorem su_call {K : PySem.W.Frag} {u e C t0 : Addr} {rest : List Value} {Q : Value → Shared → Prop} (T : OexC K C) (X : K.In h)
    (he : h.get? e = some (excO C t0)) (hu : h.get? u = some (kxs_mw "ValueError.__init__" e)) (hrest : rest.length ≤ sizeLine)
    (hq : ∀ h' t1, (∀ b o, b ≠ e → h.get? b = some o → h'.get? b = some o) → h'.get? e = some (excO C t1) → Q .none ⟨h', g, d, t, os⟩) :
    wpAny (model prog w) A (call (.ref u) rest) Q E ⟨h, g, d, t, os⟩ := by
  obtain ⟨nm, q, N, bs, bm, sn, sub, ab, col, dd, k0, k1, k2, k3, k5, hC0, hbm⟩ := T.cls
  have hC := X _ _ hC0
  refine wpAny_call (codeAny_of_tree ?_)
  show wpAny _ A.in1 (callAny (.ref u) ⟨rest, []⟩) _ _ _
  simp only [callAny]
  refine wpAny_bind (wpAny_load hu ?_)
  simp only [kxs_mw]
  refine KFB.if_so (by decide) ?_
  refine wpAny_bind (ESX.check_bound PySem.F.excBase_ValueError hC he rfl ?_)
  refine wpAny_bind (wpAny_pure (wpAny_pure ?_))
  refine ⟨Code.quiet_builtin _ (by decide +kernel), codeAny_builtin PySem.F.excBase_ValueError.initEntry ?_⟩
  rw [Around.under_plainId PySem.F.excBase_ValueError.init.plain _]
  wp_walk
  refine hq _ h.objs.size (fun b o hb ho => ?_) ?_
  · exact (Heap.get?_update_other _ _ (Ne.symm hb)).trans (Heap.get?_push_of_some _ ho)
  · exact Heap.get?_update_self _ (Heap.get?_push_of_some _ he) rfl
end
/-- the body: super().__init__("part"); self.part = part -/
def suBody (p0 p1 p2 p3 p4 p5 p6 p7 p8 p9 : Pos) : List Stmt := [.Expr (.Call (.Attribute (.Call (.Name "super" p0) [] [] p1) "__init__" p2) [.Constant (.str "part") 0 p3] [] p4) p5, .Assign [.Attribute (.Name "self" p6) "part" p7] (.Name "part" p8) p9]
def suScope : Scope := { kind := .function, names := [(Str.ofString "self", .local), (Str.ofString "part", .local), (Str.ofString "__class__", .free), (Str.ofString "super", .globalImplicit)], isGenerator := false, isCoroutine := false, more := [] }
/-- what the written part says of such a class and its __init__ -/
structure SupC (P : Program) (K : PySem.W.Frag) (mg : Str → Option Value) (C : Addr) : Prop where
  T : OexC K C
  fn : ∃ (fI cda cc : Addr) (qual : Str) (params : Arguments) (p0 p1 p2 p3 p4 p5 p6 p7 p8 p9 ap : Pos) (an0 : Option Expr) (dV kV doc pm ct oc ccl cl : Value) (an od cdd cld : Option Addr) (osl ccs csl : Array (Option Value)) (vs : Array Value) (file : Str) (tf : Tok),
    PySem.W.findIn K (.ref C) "__init__" = some (some (.ref fI)) ∧ PySem.W.typeIn K (.ref fI) = some (.type "function") ∧
    K.lookup fI = some ⟨oc, od, .func (ksFn "__init__" qual params (suBody p0 p1 p2 p3 p4 p5 p6 p7 p8 p9) suScope dV kV doc pm an (.ref cda) ct cc), osl⟩ ∧ PySem.W.codeIn K (.ref cda) qual = true ∧
    K.lookup cda = some ⟨ccl, cdd, .fields vs, ccs⟩ ∧ vs[2]? = some (.str file tf) ∧ ((P.main.file : Str) == file) = true ∧ K.lookup cc = some ⟨cl, cld, .cell (some (.ref C)), csl⟩ ∧
    (params.posonlyargs ++ params.args).head? = some ⟨"self", an0, ap⟩ ∧
    (∀ (a b : Value), bindArgs (ksFn "__init__" qual params (suBody p0 p1 p2 p3 p4 p5 p6 p7 p8 p9) suScope dV kV doc pm an (.ref cda) ct cc) ⟨[a, b], []⟩ = pure [(("self" : Str), a), (("part" : Str), b)]) ∧
    (∀ L : Addr, ∃ pl : Sem Bool, eval (.Call (.Attribute (.Call (.Name "super" p0) [] [] p1) "__init__" p2) [.Constant (.str "part") 0 p3] [] p4) (ksEnv qual suScope L fI (.ref cda) cc) = (do
      let ov ← attributeBase (.Call (.Name "super" p0) [] [] p1) "__init__" (ksEnv qual suScope L fI (.ref cda) cc) (eval (.Call (.Name "super" p0) [] [] p1) (ksEnv qual suScope L fI (.ref cda) cc))
      standAt p2.atName
      let (f, first) ← holding [ov] (getMethod ov "__init__" pl)
      callWith p4 f first (backTo p4 (starEach [.Constant (.str "part") 0 p3] (ksEnv qual suScope L fI (.ref cda) cc))) []))
  sup : ks_superIn K C C "__init__" = some (some (.builtin "ValueError.__init__"))
  opq : nsIn K cStatics "thirdparty.any" = some none
  sub : subIn K (.ref C) (.type "ValueError") = some true
  mro : mroIn K C (.ref C) = some true
  noF : PySem.W.findIn K (.ref C) "part" = some none
  noS : mg "super" = none
  top : (P.main.scope.names.lookup ("super" : Str)).isSome = false
section
variable {P : Program} {w : World} {A : Around} {K : PySem.W.Frag} {mg : Str → Option Value} {base hp : Heap} {g : Array GenState} {d : Drawn} {t : Nat} {os : OsState} {R : Result → Shared → Prop}
theorem su_run {C e t0 : Addr} {u : Value} (S : SupC P K mg C) (MO : Mod K mg base) (bk : ∀ b o, base.get? b = some o → hp.get? b = some o) (hdep : A.depth < recursionLimit) (he : hp.get? e = some (excO C t0)) (heC : e ≠ C) (heC' : ∀ a o, K.lookup a = some o → a ≠ e) {fI : Addr} (hfI : PySem.W.findIn K (.ref C) "__init__" = some (some (.ref fI)))
    (hq : ∀ h' t' t1 dx, (∀ b o, b ≠ e → hp.get? b = some o → h'.get? b = some o) → hp.objs.size ≤ dx → dx ≠ e → h'.get? e = some ({ cls := .ref C, dict := some dx, data := .fields #[.ref t1, .none, .none, .none, .bool false, .none] } : Obj) →
      h'.Ns1 dx (fun y => if y = "part" then some u else none) → R (.ok (.ret .none)) ⟨h', g, d, t', os⟩) :
    codeAny (model P w) A (.call (.ref fI) ⟨[.ref e, u], []⟩) R ⟨hp, g, d, t, os⟩ := by
  obtain ⟨fI', cda, cc, qual, params, p0, p1, p2, p3, p4, p5, p6, p7, p8, p9, ap, an0, dV, kV, doc, pm, ct, oc, ccl, cl, an, od, cdd, cld, osl, ccs, csl, vs, file, tf, e1, tI, lk, hcd, hcode, hvs, hfile, hcell, hpar, hbind, hev⟩ := S.fn
  rw [hfI] at e1
  cases e1
  have T := S.T
  obtain ⟨nm, q, N, bs, bm, sn, sub, ab, col, dd, k0, k1, k2, k3, k5, hC0, hbm⟩ := T.cls
  have X : K.In hp := MO.kin.keeps bk
  obtain ⟨mb, hb1, hb2⟩ := MO.blt
  refine ks_codeAny_call_defAt (fd := ksFn "__init__" qual params (suBody p0 p1 p2 p3 p4 p5 p6 p7 p8 p9) suScope dV kV doc pm an (.ref cda) ct cc) (binds := [("self", .ref e), ("part", u)]) hdep (X _ _ lk) rfl (MO.nolimit.keeps bk) (codeRec_of X hcd) rfl (BindsTo.of_eq (hbind _ _)) (show ∀ x ∈ suScope.names, x.2 ≠ .cell by decide) (locs rfl) (fun h₁ hns hk₁ => ?_)
  show _root_.PySem.wpAt _ _ (.func (suBody p0 p1 p2 p3 p4 p5 p6 p7 p8 p9) (ksEnv qual suScope hp.objs.size fI (.ref cda) cc)) (execs (suBody p0 p1 p2 p3 p4 p5 p6 p7 p8 p9) (ksEnv qual suScope hp.objs.size fI (.ref cda) cc)) _ _ _
  have X1 : K.In h₁ := X.keeps hk₁
  have bk1 : ∀ b o, base.get? b = some o → h₁.get? b = some o := fun b o z => hk₁ b o (bk b o z)
  have lt : e < hp.objs.size := Heap.lt_size he
  obtain ⟨pl, hev⟩ := hev hp.objs.size
  refine ks_wpAt_execs_cons (ks_wpAt_Expr_any (ks_wpAt_MethodCall (pl := pl) ?_ hev))
  refine ks_wpAt_super_base (env := ksEnv qual suScope hp.objs.size fI (.ref cda) cc) rfl rfl (by decide) rfl (X1 _ _ lk) rfl hpar rfl (X1 _ _ hcode) rfl hvs hfile S.top ?_
  refine ks_loadName_global rfl rfl (loadGlobal_builtin (env := ksEnv qual suScope hp.objs.size fI (.ref cda) cc) (MO.glob.keeps bk1) S.noS (hb1.keeps bk1) ((hb2 "super" (by decide)).trans PyProof.Rows.Boot.«super») ⟨rfl, ?_⟩)
  refine wpAny_loadName_free rfl rfl rfl ⟨_, X1 _ _ hcell, rfl⟩ ?_
  refine wpAny_loadName_local rfl rfl hns rfl ?_
  refine ks_wpAny_isType_cls (X1 _ _ hC0) rfl ⟨rfl, ?_⟩
  refine ks_wpAny_call_super (X1 _ _ hC0) rfl (hk₁ _ _ he) rfl (fun c z => by cases z) (looks_mroIn X1 S.mro) (fun h₂ hso k2 => ?_)
  have X2 : K.In h₂ := X1.keeps k2
  have he2 : h₂.get? e = some (excO C t0) := k2 _ _ (hk₁ _ _ he)
  have I2 : InstAt h₂ e (excO C t0) C none := ⟨he2, rfl, rfl, trivial⟩
  obtain ⟨cd, hcd1, hcd2⟩ : ∃ cd, clsIn K C = some cd ∧ alongIn K "__init__" ((cd.mro.dropWhile (· != .ref C)).drop 1) = some (some (.builtin "ValueError.__init__")) := by
    have z := S.sup
    unfold ks_superIn at z
    cases hz : clsIn K C with
    | none => rw [hz] at z; cases z
    | some cd => rw [hz] at z; exact ⟨cd, rfl, z⟩
  refine kxs_getMethod kxs_ValueError hso (looks_opaque X2 S.opq) (l₀ := cd.mro) (fun A Q E s k q => wpAny_bind ((looks_clsIn X2 hcd1) A _ E s k (wpAny_pure q))) rfl X2 hcd2 (I2.type.andThen (looks_subIn X2 S.sub)) heC (by decide) ?_
  have hu : (h₂.push (kxs_mw "ValueError.__init__" e)).get? h₂.objs.size = some (kxs_mw "ValueError.__init__" e) := Heap.get?_push_at rfl rfl
  refine kxs_callWith (i := "ValueError.__init__") (x := e) rfl (evalArgs_plain ?_)
  repeat wp_step
  refine ⟨hu, ?_⟩
  have X3 : K.In (h₂.push (kxs_mw "ValueError.__init__" e)) := X2.keeps fun b o z => Heap.get?_push_of_some _ z
  refine su_call T X3 (Heap.get?_push_of_some _ he2) hu (show 1 ≤ sizeLine by rw [sizeLine_eq]; decide) (fun h₃ t1 k3 he4 => ?_)
  have kk : ∀ b o, b ≠ e → h₁.get? b = some o → h₃.get? b = some o := fun b o hb z => k3 b o hb (Heap.get?_push_of_some _ (k2 b o z))
  have neC : ∀ {a : Addr} {o : Obj}, K.lookup a = some o → a ≠ e := fun {a o} z y => by
    exact heC' _ _ z y
  have X4 : K.In h₃ := fun a o z => k3 a o (neC z) (X3 a o z)
  have hns3 := hns.at fun o z => kk _ _ (Nat.ne_of_gt lt) z
  refine ks_wpAt_execs_cons (wpAt_of_wpAny (plainObj_wpAny_Assign_Attribute ?_))
  refine wpAny_Name (wpAny_loadName_local rfl rfl hns3 rfl ?_) (by decide)
  refine wpAny_Name (wpAny_loadName_local rfl rfl hns3 rfl ?_) (by decide)
  have hcl : PySem.W.clsIn K C = some { name := nm, bases := bs, mro := .ref C :: bm, ns := N, qualname := q, hasDict := true, slotNames := sn, subclasses := sub, abstract := ab, collection := col, hasDel := false } := by unfold PySem.W.clsIn; rw [hC0] <;> rfl
  refine PySem.W.set_plain X4 (ox := excO C t1) (od := none) ⟨he4, rfl, rfl, trivial⟩ T.sa ?_
  refine PySem.HandSPX.exc_osa X4 he4 hcl (show PySem.HandSPX.refsVE (.ref C :: bm) = true from hbm) rfl S.noF (fun h₄ tk' dx k4 dn dne hx hn => ?_)
  refine wpAt_of_wpAny (wpAny_pure ?_)
  have sz : hp.objs.size ≤ h₃.objs.size := Nat.le_of_lt (Heap.lt_size (hns3.choose_spec).choose_spec.choose_spec.1)
  exact hq h₄ tk' t1 dx (fun b o hb z => k4 b o hb (kk b o hb (hk₁ b o z))) (Nat.le_trans sz dn) dne hx hn
end
/-- C(e): the error's one field is what is passed -/
def tMkS (C : Addr) (ta : TA) : L2.St → Hp → XK → Prop := fun σ H Q => ta σ H fun vs H1 => ∃ y, vs = [y] ∧ ∀ d, H1 d = none → Q (.ref C) (some d) (upd H1 d (.xd [("part", y)]))
section
variable {X : Cx} {e : Expr} {es : List Expr} {ta : TA} {p pos : Pos}
theorem pmk_sup {x : Str} {C : Addr} (S : SupC X.prog X.K X.mg C) (hr : Room 1 X.A) (hg : Gl X x) (hm : X.mg x = some (.ref C)) (ha : PA X (e :: es) ta)
    (hdb : (x == ("__debug__" : Str)) = false := by decide) (he : starEach (e :: es) X.env = (false, eval e X.env) :: starEach es X.env := by rfl) (hpl : (backTo pos (starEach es X.env)).any (·.1) = false := by rfl) :
    PMk X (.Call (.Name x p) (e :: es) [] pos) (tMkS C ta) := by
  intro pins s σ H Q I h
  have T := S.T
  obtain ⟨nm, q, N, bs, bm, sn, sub, ab, col, dd, k0, k1, k2, k3, k5, hC, hbm⟩ := T.cls
  obtain ⟨fI, iC, tI⟩ : ∃ fI, PySem.W.findIn X.K (.ref C) "__init__" = some (some (.ref fI)) ∧ PySem.W.typeIn X.K (.ref fI) = some (.type "function") := by
    obtain ⟨fI, cda, cc, qual, params, p0, p1, p2, p3, p4, p5, p6, p7, p8, p9, ap, an0, dV, kV, doc, pm, ct, oc, ccl, cl, an, od, cdd, cld, osl, ccs, csl, vs, file, tf, h1, h2, _⟩ := S.fn
    exact ⟨fI, h1, h2⟩
  refine wpAny_Call_Name_kw (ld_glob I hg hm ?_ hdb)
  refine PySem.W.callWith_K (h₀ := X.base) I.ok.mod.kin T.kC (thn (ha.run pos pins s σ H _ I h) fun us s1 ⟨vs, H1, I1, r1, y, hv, q1⟩ => ⟨I1.kIn, ?_⟩) he hpl
  subst hv
  cases r1 with
  | @cons _ u _ us ru rr =>
  cases rr
  show wpAny _ _ (call (.ref C) [u]) _ _ _
  obtain ⟨hp, g, dr, tk, os⟩ := s1
  have hsz : hp.objs.size ≤ hp.objs.size + 1 := Nat.le_succ _
  have hn : H1 (hp.objs.size + 1) = none := I1.hok.fresh hsz
  have kk : ∀ b o, hp.get? b = some o → ((hp.push (PySem.W.kdv_tup [u])).push (PySem.HandSPX.excO C hp.objs.size)).get? b = some o := fun b o e => Heap.get?_push_of_some _ (Heap.get?_push_of_some _ e)
  have hget : ((hp.push (PySem.W.kdv_tup [u])).push (PySem.HandSPX.excO C hp.objs.size)).get? (hp.objs.size + 1) = some (PySem.HandSPX.excO C hp.objs.size) := by heap_get
  have I2 : Inv X pins σ (upd H1 (hp.objs.size + 1) (exo (hp.objs.size + 1) C none)) ⟨(hp.push (PySem.W.kdv_tup [u])).push (PySem.HandSPX.excO C hp.objs.size), g, dr, tk, os⟩ :=
    I1.laid (t' := tk) (a := hp.objs.size + 1) (o := exo (hp.objs.size + 1) C none) (h' := (hp.push (PySem.W.kdv_tup [u])).push (PySem.HandSPX.excO C hp.objs.size)) kk hsz (exo_ok hget)
  have hus : [u].length ≤ sizeLine := show 1 ≤ sizeLine by rw [sizeLine_eq]; decide
  have kold : ∀ a o, X.K.lookup a = some o → a ≠ hp.objs.size + 1 := fun a o z y => by
    have z1 := Heap.lt_size (I1.kIn _ _ z)
    rw [y] at z1
    exact absurd z1 (Nat.not_lt.mpr hsz)
  refine wpAny_call (PySem.HandSPX.call_own PySem.F.excBase_ValueError (fun Y => PySem.HandSPX.refsVE_contains Y bm hbm) (I1.kIn _ _ hC) (PySem.W.looks_findIn I1.kIn iC) (fun self => PySem.W.bind_fn I1.kIn self tI) hus
    (su_run S I2.ok.mod (fun b o z => kk b o (I1.bk b o z)) (hr.make C [u] []).depth hget (Ne.symm (kold _ _ hC)) kold iC fun h2 t2 t1 dx k dn dne hx hns => ?_))
  have hnd : upd H1 (hp.objs.size + 1) (exo (hp.objs.size + 1) C none) dx = none := I2.hok.fresh dn
  have hnd1 : H1 dx = none := by rw [← hnd, upd_ne dne]
  have ea : upd H1 (hp.objs.size + 1) (exo (hp.objs.size + 1) C none) (hp.objs.size + 1) = some (exo (hp.objs.size + 1) C none) := upd_same
  have nd : ∀ {b : Addr} {o : Obj}, ((hp.push (PySem.W.kdv_tup [u])).push (PySem.HandSPX.excO C hp.objs.size)).get? b = some o → b ≠ dx := fun {b o} q => Nat.ne_of_lt (Nat.lt_of_lt_of_le (Heap.lt_size q) dn)
  have na : ∀ {b : Addr}, upd H1 (hp.objs.size + 1) (exo (hp.objs.size + 1) C none) b = none → b ≠ hp.objs.size + 1 := fun {b} n z => by
    rw [z, ea] at n
    cases n
  have Un1 : Un (frs X.stack) [] (upd H1 (hp.objs.size + 1) (exo (hp.objs.size + 1) C none)) (upd (upd (upd H1 (hp.objs.size + 1) (exo (hp.objs.size + 1) C none)) dx (exd dx [("part", y)])) (hp.objs.size + 1) (exo (hp.objs.size + 1) C (some dx))) ((hp.push (PySem.W.kdv_tup [u])).push (PySem.HandSPX.excO C hp.objs.size)) h2 := {
    keep := fun b o q n _ _ => k b o (na n) q
    slot := fun b o q n _ _ => ⟨o.slots, k b o (na n) q⟩
    free := fun b o q n _ => by rw [upd_ne (na n), upd_ne (nd q)]; exact n
    there := fun b o q _ => by
      by_cases hb : b = hp.objs.size + 1
      · exact ⟨_, by rw [hb]; exact hx⟩
      · exact ⟨o, k b o hb q⟩
    tups := fun b xs q => by rw [upd_ne (at_ne ea q exo_tup), upd_ne (ne_of_none q hnd)]; exact q
    frzs := fun b o v q => by rw [upd_ne (at_ne ea q exo_frz), upd_ne (ne_of_none q hnd)]; exact q
    tbls := fun b ps q => ⟨#[], by rw [upd_ne (at_ne ea q exo_tbl), upd_ne (ne_of_none q hnd), q]; simp⟩ }
  have hok2 : HOk X.prog X.w (upd (upd (upd H1 (hp.objs.size + 1) (exo (hp.objs.size + 1) C none)) dx (exd dx [("part", y)])) (hp.objs.size + 1) (exo (hp.objs.size + 1) C (some dx))) h2 := fun b o q => by
    by_cases hb : b = hp.objs.size + 1
    · subst hb
      rw [upd_same] at q
      cases q
      exact exo_ok hx
    · rw [upd_ne hb] at q
      by_cases hd : b = dx
      · subst hd
        rw [upd_same] at q
        cases q
        exact exd_ok hns (relO_put (fs := []) ru fun g => True.intro)
      · rw [upd_ne hd] at q
        exact (I2.hok b o q).stay (fun c v hc z => k c v (by
            rcases hc with hc | hc
            · rw [hc]
              exact hb
            · exact at_ne ea hc exo_own) z)
          (fun c hc => by rw [upd_ne (at_ne ea hc exo_own), upd_ne (ne_of_none hc hnd)]; exact hc) (fun c xs hc => by rw [upd_ne (at_ne ea hc exo_tup), upd_ne (ne_of_none hc hnd)]; exact hc)
  have eqH : upd (del (upd (upd (upd H1 (hp.objs.size + 1) (exo (hp.objs.size + 1) C none)) dx (exd dx [("part", y)])) (hp.objs.size + 1) (exo (hp.objs.size + 1) C (some dx))) (hp.objs.size + 1)) dx (.xd [("part", y)]) = upd H1 dx (.xd [("part", y)]) := by
    funext b
    by_cases hb : b = dx
    · subst hb; rw [upd_same, upd_same]
    · rw [upd_ne hb, upd_ne hb]
      by_cases hc : b = hp.objs.size + 1
      · subst hc; rw [del_same, hn]
      · rw [del_ne hc, upd_ne hc, upd_ne hb, upd_ne hc]
  refine ⟨rfl, mk_end (fs := [("part", y)]) (raises_own T.exC T.tyC) I1 hsz kk Un1 hok2 rfl I1.bare upd_same ?_ hnd1 ?_⟩
  · rw [upd_ne dne]; exact upd_same
  · rw [eqH]
    exact q1 dx hnd1
end
end TH

namespace TH
open PySem PySem.Spec PyProof.Rows L2
/-! ## isinstance of a caught error that has fields -/
section
open PySem.W PySem.Calls
variable {prog : Program} {w : World} {A : Around} {E : Value → Shared → Prop} {s : Shared} {K : Frag} {x D : Addr} {ox od : Obj}
theorem xd_find (N : ExcC K D) : findObj K D (some od) "__class__" = some (.bind (.builtin "getset_descriptor.__get__") (.builtin "object.__class__")) := by
  obtain ⟨cd, hcd, _⟩ := any_some N.hd
  have h1 := N.ha; have h2 := N.hn; have h3 := N.ht
  unfold findObj
  rw [show clsIn K D = some cd from hcd, Option.bind_some, h1, Option.bind_some]
  simp [h2, h3]
theorem xd_class {Q : Option Value → Shared → Prop} (N : ExcC K D) (X : K.In s.heap) (I : InstAt s.heap x ox D (some od)) (q : Q (some (.ref D)) { s with toks := s.toks + 1 }) : wpAny (model prog w) A (getAttr? (.ref x) "__class__") Q E s := by
  have hf := xd_find (od := od) N
  obtain ⟨hp, g, dr, tk, os⟩ := s
  have l0 := I.type (M := model prog w); have l1 := looks_findIn (M := model prog w) X N.hg; have l2 := looks_findIn (M := model prog w) X N.hk; have l3 := looks_find (M := model prog w) X I hf
  have sb : Looks (model prog w) hp (isInstance (.ref x) (.type "BaseException")) true := l0.andThen (looks_subIn X N.hs)
  have n2 : (Value.builtin "BaseException.__getattribute__" == Value.builtin "object.__getattribute__") = false := by decide +kernel
  have n1 : (onTheHeap (Value.ref D) && Value.builtin "BaseException.__getattribute__" == Value.builtin "object.__getattribute__") = false := by rw [n2]; rfl
  unfold getAttr? getAttrBy? getAttrBy
  refine wpAny_bind (wpAny_mkText (wpAny_bind (wpAny_attempt (wpAny_holding (wpAny_bind (l0.at (wpAny_bind (l1.at ?_))))))))
  show wpAny _ _ (if (onTheHeap (Value.ref D) && Value.builtin "BaseException.__getattribute__" == Value.builtin "object.__getattribute__") = true then _ else _) _ _ _
  rw [n1, if_neg Bool.false_ne_true]
  unfold getAttrByItsOwn hookBefore
  refine wpAny_bind (by rw [if_pos (show onTheHeap (Value.ref D) = true from rfl)]; refine l2.at (wpAny_bind (wpAny_attempt (wpAny_holding ?_))); unfold callGetattribute; rw [show (false && onTheHeap (Value.builtin "BaseException.__getattribute__")) = false from rfl, if_neg Bool.false_ne_true]; unfold boundAndCalled; rw [PySem.F.excAttr_ValueError.ga.bind (.ref x)]; refine wpAny_bind (wpAny_pure ?_); refine wpAny_call (codeAny_call_builtin PySem.F.excAttr_ValueError.ga.plain PySem.F.entry_bexc_ga ?_); refine @check_slot (model prog w) _ _ ⟨hp, g, dr, tk + 1, os⟩ "BaseException.__getattribute__" "BaseException" "__getattribute__" (.ref x) [.str "__class__" tk] [] _ (by decide +kernel) (by decide +kernel) sb (PySem.F.args_bexc_ga (.ref x) (.str "__class__" tk)) ?_; unfold Builtin.«object.__getattribute__»; refine wpAny_bind (wpAny_of_eq (a := ((Value.ref x : Value), [Value.str "__class__" tk])) (by first | rfl | (simp only [slotArgs]; rfl)) ?_); refine wpAny_bind (wpAny_pure (wpAny_bind (l0.at (wpAny_bind (l3.at ?_))))); refine wpAny_bind (wpAny_holding (wpAny_call (class_get (s := ⟨hp, g, dr, tk + 1, os⟩) (ox := ox) (od := some od) X I N.hm ?_))); refine wpAny_pure ?_; show wpAny _ _ (handedOut (.ref D)) _ _ _; rw [handedOut_of (v := .ref D) rfl]; first | exact wpAny_pure (wpAny_pure q) | exact wpAny_pure q | exact wpAny_pure (wpAny_bind (wpAny_pure (wpAny_pure q))))
theorem xd_kit (N : ExcC K D) : KitX K (.ref x) (.ref D) (fun h => InstAt h x ox D (some od)) where
  ty := fun _ _ _ I => I.type
  it := fun M h X _ => by
    obtain ⟨cd, hcd, _⟩ := any_some N.hd
    unfold clsIn at hcd
    split at hcd
    · rename_i ho
      exact fun A' Q' E' ⟨h', g', d', t', o'⟩ k q => ks_wpAny_isType_cls (k _ _ (X _ _ ho)) rfl q
    · cases hcd
  ne := (handS_kitx_exc (ox := ox) (x := x) N.hg N.hk N.hs N.hd N.ha N.hn N.ht N.hm).ne
  ca := fun X I k => xd_class N X I k
end
theorem call_isEx {X : Cx} {a D dx : Addr} {oe : Obj} {pn : List (Addr × Obj)} {fs : List (Str × V)} (C : ExcC X.K D) (hz : Zc (.ref D) (some dx) oe) (hf : ∃ vs, oe.data = .fields vs) : CallR (X.suite a ((a, oe) :: pn)) (.builtin "isinstance") (fun xs H Q => (∃ fs, H dx = some (.xd fs)) ∧ rIsE X.K D a xs H Q) := by
  intro pins s σ H xs us Q I r ⟨⟨fs, hx⟩, c, cv, b, e1, hcv, e, q⟩
  subst e1
  cases r with
  | cons rx rr =>
  cases rr with
  | cons rt rr =>
  cases rr
  cases rx
  have ec := hcv _ rt
  subst ec
  obtain ⟨hget, _⟩ := I.pin (a, oe) (List.mem_append.mpr (.inl List.mem_cons_self))
  obtain ⟨vs, hv⟩ := hf
  have hd : ObjOk X.prog X.w H s.heap dx (.xd fs) := I.hok dx _ hx
  obtain ⟨mA, ⟨od, es, ep, ho, _⟩, _⟩ := hd
  have J : PySem.W.InstAt s.heap a oe D (some od) := ⟨hget, hz.1, by unfold PySem.W.notCls; rw [hv] <;> rfl, by rw [hz.2]; exact ho⟩
  exact PySem.W.kia_one (xd_kit C) I.kIn J e (fun z => nomatch z) fun tk => ⟨.bl b, H, I.kept (t' := tk) fun _ _ z => z, rfl, q⟩
/-! ## the suite of an except: isinstance(e, C), e.f, where the error has fields -/
section
variable {X : Cx} {K : PySem.W.Frag} {W : WX} {z : Bool}
/-- e's class is one of C's, whatever e is -/
def eIsX (sb : ESub) (y : XD) (c : String) (dd : D) (f : EV) : EV := fun δ k kx => f δ (fun d => d = dd ∧ ∃ b, sb y.c c = some b ∧ k (.bool b)) kx
theorem qe_isX {a DD dx : Addr} {oe : Obj} {y : XD} {dd : D} {pn : List (Addr × Obj)} {sb : ESub} {c : String} {cv : V} {fn e xe : Expr} {f : EV} {pos : Pos} (EA : ErrAll X.K sb) (hK : X.K = K) (hD : clsAt K (Str.ofString y.c) = some DD) (hd : excAt a (some dx) y dd) (hcv : ClsE K c cv)
    (h : PE (X.suite a ((a, oe) :: pn)) (.Call fn [e, xe] [] pos) (tCB (fun xs H Q => (∃ fs, H dx = some (.xd fs)) ∧ rIsE K DD a xs H Q) (tCons (tE K W f) (tCons (tC cv) tNil)))) : QE (X.suite a ((a, oe) :: pn)) K W (.Call fn [e, xe] [] pos) (eIsX sb y c dd f) := by
  subst hK
  refine pe_mono h fun σ H Q ⟨H0, F, δ, k, kx, r, hf, hx, q⟩ => ⟨H0, F, δ, _, kx, r, hf, hx, fun v d F1 H1 ⟨ed, b, hb, hk⟩ s1 hv => ?_⟩
  subst ed
  obtain ⟨D', e1, e2, _, e4⟩ := EA.is _ _ _ hb
  rw [hD] at e1
  cases e1
  obtain ⟨hy, rfl⟩ := hd
  obtain ⟨ev, fs, hfx, _⟩ := exf_inj hv
  subst ev
  refine ⟨⟨fs, s1.eh _ _ hfx⟩, cv, clsV X.K c, b, rfl, fun u ru => ?_, e4, q _ _ F1 H1 hk s1 (.bl b)⟩
  cases hcv with
  | own e => rw [e]; exact ru
  | ty e => rw [e]; exact ru
/-- e.f -/
def eXf (y : XD) (n : Str) (dd : D) (f : EV) : EV := fun δ k kx => f δ (fun d => d = dd ∧ ∃ v, y.fs.lookup n = some v ∧ k v) kx
theorem look_dq {F : Hp} {n : Str} : ∀ {fs : List (Str × V)} {gs : List (Str × D)} {v : D}, fs.map (·.1) = gs.map (·.1) → DqA K F (fs.map (·.2)) (gs.map (·.2)) → gs.lookup n = some v → ∃ u, fs.lookup n = some u ∧ Dq K F u v
  | [], [], v, _, _, h => nomatch h
  | [], _ :: _, v, h1, _, _ => nomatch h1
  | _ :: _, [], v, h1, _, _ => nomatch h1
  | (m, u) :: fs, (m', d) :: gs, v, h1, h2, h3 => by
    simp only [List.map_cons, List.cons.injEq] at h1
    obtain ⟨rfl, h1⟩ := h1
    have h2' : DqA K F (u :: fs.map (·.2)) (d :: gs.map (·.2)) := h2
    cases h2' with
    | cons g1 g2 =>
    by_cases hm : (n == m) = true
    · simp only [List.lookup_cons, hm] at h3 ⊢
      cases h3
      exact ⟨u, rfl, g1⟩
    · simp only [List.lookup_cons, hm] at h3 ⊢
      exact look_dq h1 g2 h3
theorem qe_xf {a DD dx : Addr} {oe : Obj} {y : XD} {dd : D} {pn : List (Addr × Obj)} {n : Str} {e : Expr} {f : EV} {pos : Pos} (hK : X.K = K) (hd : excAt a (some dx) y dd)
    (h : PE (X.suite a ((a, oe) :: pn)) (.Attribute e n pos) (tXf a (.ref DD) (some dx) DD n (tE K W f))) : QE (X.suite a ((a, oe) :: pn)) K W (.Attribute e n pos) (eXf y n dd f) := by
  subst hK
  refine pe_mono h fun σ H Q ⟨H0, F, δ, k, kx, r, hf, hx, q⟩ => ⟨H0, F, δ, _, kx, r, hf, hx, fun v d F1 H1 ⟨ed, v', hl, hk⟩ s1 hv => ?_⟩
  subst ed
  obtain ⟨hy, rfl⟩ := hd
  obtain ⟨ev, fs, hfx, hn, ha⟩ := exf_inj hv
  subst ev
  obtain ⟨u, hu, hq⟩ := look_dq hn ha hl
  exact ⟨rfl, rfl, dx, fs, u, rfl, s1.eh _ _ hfx, hu, q _ _ F1 H1 hk s1 hq⟩
/-! ## raise C(e), C an error with one field, set behind super().__init__ -/
def sRaiseF (c : String) (f : EV) : SV := fun E δ => f δ (fun d => E.xx ⟨c, [("part", d)]⟩ δ) fun x => E.xx x δ
theorem qs_raiseF {C : Addr} {x : String} {f : EV} {st : Stmt} (hx : clsAt K (Str.ofString x) = some C) (h : PS X st (fun _ σ H => tMkS C (tCons (tE K W f) tNil) σ H fun cls d H' => W cls d σ H')) : QS X K W z st (sRaiseF x f) :=
  ps_mono h fun Dn σ H ⟨v0, Fb, F0, H0, F, δ, E, r, s, hf, o⟩ => ⟨H0, F, δ, _, _, r, hf, o.xo r s, fun v d F1 H1 hk s1 q1 => ⟨v, rfl, fun dx hdx => by
    have r1 := r.step s1
    have s2 := Stp.new r1.ex (.xd [("part", v)]) hdx
    refine o.xx (.ref C) (some dx) ⟨x, [("part", d)]⟩ _ _ σ δ hk (r1.step s2) ((s.trans s1).trans s2) ⟨by simp [clsV, hx], by simp, _, upd_same, rfl, .cons (q1.ex s2.e) .nil⟩⟩⟩
end
/-- where all errors caught have fields -/
def sTryF (sb : ESub) (c : String) (i : Nat) (g : SV) (sv : XD → D → SV) : SV := sTry sb c i g fun x d E δ => x.fs ≠ [] ∧ sb x.c c = some true ∧ sv x d E δ
section
variable {X : Cx} {K : PySem.W.Frag} {W : WX} {z : Bool}
theorem qs_tryF {x n : Str} {c : String} {C : Addr} {i : Nat} {body suite : List Stmt} {b₀ : Stmt} {np pos pos' : Pos} {g : SV} {sv : XD → D → SV} {sb : ESub} (EA : ErrAll X.K sb) (hK : X.K = K) (hC : clsV K c = .ref C) (hs : X.stack = X.env :: X.outer) (hf : X.env.frame = some X.env.locals) (hN : X.N.Nodup) (hi : X.N[i]? = some n) (hln : X.env.kindOf n = some .local) (hc : Names X x (.ref C)) (tk : Takes X W)
    (hb : ∀ (W : WX) (pn : List (Addr × Obj)) (xe : Value → Shared → Prop), Takes (X.tr pn xe) W → PassesOwn (model X.prog X.w) X.A X.env xe → QSs (X.tr pn xe) K W z body g)
    (hsu : ∀ (a DD dx : Addr) (oe : Obj) (y : XD) (dd : D) (pn : List (Addr × Obj)), sb y.c c = some true → clsAt K (Str.ofString y.c) = some DD → ExcC K DD → Zc (.ref DD) (some dx) oe → (∃ vs, oe.data = .fields vs) → excAt a (some dx) y dd → QSs (X.suite a ((a, oe) :: pn)) K W z (b₀ :: suite) (sv y dd))
    (hz : z = false ∨ i ≠ 0 := by first | exact .inl rfl | exact .inr (by decide)) :
    QS X K W z (.Try body [.ExceptHandler (some (.Name x np)) (some n) (b₀ :: suite) pos'] [] [] pos) (sTryF sb c i g sv) := by
  refine qs_try EA hK hC hs hf hN hi hln hc tk hb (fun a DD oe y dd od pn h1 h2 h3 h4 h5 => ?_) hz
  by_cases hy : y.fs ≠ [] ∧ sb y.c c = some true
  · cases od with
    | none => exact absurd h5.1 hy.1
    | some dx => exact pss_mono (hsu a DD dx oe y dd pn hy.2 h1 h2 h3 h4 h5) fun Dn σ H ⟨v0, Fb, F0, H0, F, δ, E, r, s, hg, o⟩ => ⟨v0, Fb, F0, H0, F, δ, E, r, s, hg.2.2, o⟩
  · exact ⟨fun pins s σ H Dn I ⟨v0, Fb, F0, H0, F, δ, E, r, sg, hg, o⟩ => absurd ⟨hg.1, hg.2.1⟩ hy⟩
end
/-! ## constructors that may raise -/
def tMakeS (C : Addr) (sp : Sp) (E : L2.St → XK) (t : TA) : TE := fun σ H Q => t σ H fun vs H1 => ∀ x dx, H1 x = none → H1 dx = none → dx ≠ x → sp (.ref x :: vs) (upd (upd H1 dx (.own x)) x (.ins C dx [])) (fun v H2 => v = .non ∧ Q (.ref x) H2) (E σ)
/-- a class whose __init__ may raise -/
structure MakX (P : Program) (w : World) (K : PySem.W.Frag) (mg : Str → Option Value) (base : Heap) (k : Nat) (x : Str) (C : Addr) (sp : Sp) : Prop where
  ex : ∃ (f : Addr) (fd : FuncData) (ps : List Str), Mk K C f ∧ FnOk P w K mg base (L2.CX P w) k f fd ps sp ∧ mg x = some (.ref C) ∧ Binds K fd ps []
section
variable {X : Cx} {K : PySem.W.Frag} {W : WX} {C : Addr} {sp : Sp} {t : TA} {e : Expr} {es : List Expr} {p pos : Pos}
theorem run_mkX {k : Nat} {f : Addr} {fd : FuncData} {ps : List Str} {pins : List (Addr × Obj)} {σ : L2.St} {H : Hp} {s : Shared} {Q : VK} {us : List Value} {vs : List V} {E : L2.St → XK} (M : Mk X.K C f) (F : FnOk X.prog X.w X.K X.mg X.base (L2.CX X.prog X.w) k f fd ps sp) (hr : Room (k + 1) X.A) (hb : Binds X.K fd ps [])
    (hx : PassesAt (L2.CX X.prog X.w) X σ (E σ)) (I : Inv X pins σ H s) (r : Vals vs us)
    (h : ∀ x dx, H x = none → H dx = none → dx ≠ x → sp (.ref x :: vs) (upd (upd H dx (.own x)) x (.ins C dx [])) (fun v H2 => v = .non ∧ Q (.ref x) H2) (E σ)) :
    wpAny (model X.prog X.w) X.A (call (.ref C) us) (EP X pins σ Q) X.xe s := by
  have q := h (s.heap.objs.size + 1) s.heap.objs.size (I.hok.fresh (Nat.le_succ _)) (I.hok.fresh (Nat.le_refl _)) (Nat.ne_of_lt (Nat.lt_succ_self _))
  have J := Inv.made (C := C) I
  have rr : Vals (V.ref (s.heap.objs.size + 1) :: vs) (Value.ref (s.heap.objs.size + 1) :: us) := .cons rfl r
  have ln : (Value.ref (s.heap.objs.size + 1) :: us ++ []).length = ps.length := by
    rw [List.append_nil]
    exact rr.length.symm.trans (F.len _ _ _ _ q)
  have bb := hb _ (Value.ref (s.heap.objs.size + 1) :: us) J.kIn ln
  rw [List.append_nil] at bb
  refine wpAny_call (make_map (f := f) I.kIn M.makes M.init (beq_iff_eq.mp M.fn) (codeAny_mono (F.run _ X.stack _ _ ⟨Value.ref (s.heap.objs.size + 1) :: us, []⟩ _ _ _ (E σ) (hr.make C us []) (J.env0.make C us []) bb rr q) fun r s' z => ?_))
  rcases r with er | fl
  · exact hx pins _ _ er s' J z
  · cases fl with
    | ret u =>
      obtain ⟨v, H', J2, rv, ev, q3⟩ := J.after z
      subst ev
      exact ⟨rv, V.ref (s.heap.objs.size + 1), H', J2, rfl, q3⟩
    | next => exact False.elim z
    | brk => exact False.elim z
    | cont => exact False.elim z
theorem pe_mkX {k j : Nat} {x : Str} (c : MakX X.prog X.w X.K X.mg X.base k x C sp) (hr : Room j X.A) (hk : k + 1 ≤ j) (hg : Gl X x) (tk : Takes X W) (ha : PA X (e :: es) t)
    (hdb : (x == ("__debug__" : Str)) = false := by decide) (he : starEach (e :: es) X.env = (false, eval e X.env) :: starEach es X.env := by rfl) (hpl : (backTo pos (starEach es X.env)).any (·.1) = false := by rfl) :
    PE X (.Call (.Name x p) (e :: es) [] pos) (tMakeS C sp (WE W) t) := by
  obtain ⟨f, fd, ps, M, F, hm, b⟩ := c.ex
  refine ⟨fun pins s σ H Q I h => wpAny_Call_Name_kw (ld_glob I hg hm ?_ hdb)⟩
  refine PySem.W.callWith_K (h₀ := X.base) I.ok.mod.kin M.kp (thn (ha.run pos pins s σ H _ I h) fun us s1 ⟨vs, H1, J, r, q⟩ => ⟨J.kIn, ?_⟩) he hpl
  exact run_mkX M F (hr.mono hk) b (passAt tk σ) J r q
def spMkX (K : PySem.W.Frag) (c : Str) (fn : Fn) : Sp := fun vs H Q E => ∃ F x dx C args ds k kx, vs = .ref x :: args ∧ clsAt K c = some C ∧ H x = some (.ins C dx []) ∧ F x = none ∧ Ex F H ∧ DqA K F args ds ∧ fn ds k kx ∧
  (∀ d F' H', k d → Ex F F' → (∀ b o, b ≠ x → H b = some o → H' b = some o) → Ex F' H' → (∀ b o, b ≠ x → F b = none → H b = some o → (∀ xs, o ≠ .tup xs) → F' b = none) → Dq K F' (.ref x) d → Q .non H') ∧
  ∀ cv od y F' H', kx y → Ex F F' → (∀ b o, b ≠ x → H b = some o → H' b = some o) → Ex F' H' → (∀ b o, b ≠ x → F b = none → H b = some o → (∀ xs, o ≠ .tup xs) → F' b = none) → Xq K F' H' cv od y → E cv od H'
theorem qe_mkX {c : Str} {fn : Fn} {la : LV} (hc : clsAt K c = some C) (h : PE X e (tMakeS C (spMkX K c fn) (WE W) (tAs K W la))) : QE X K W e (eCallX fn la) := pe_mono h fun σ H Q ⟨H0, F, δ, k, kx, rl, hf, hx, q⟩ => ⟨H0, F, δ, _, kx, rl, hf, hx, fun vs ds F1 H1 hk s1 q1 => by
  intro x dx hx1 hdx hne
  have n1 : F1 x = none := ex_none s1.eh hx1
  have ex1 : Ex F1 (upd (upd H1 dx (.own x)) x (.ins C dx [])) := (s1.eh.mut (ex_none s1.eh hdx)).mut n1
  have st : ∀ F' H', Ex F1 F' → (∀ b o, b ≠ x → upd (upd H1 dx (.own x)) x (.ins C dx []) b = some o → H' b = some o) → Ex F' H' → (∀ b o, b ≠ x → F1 b = none → upd (upd H1 dx (.own x)) x (.ins C dx []) b = some o → (∀ xs, o ≠ .tup xs) → F' b = none) → Stp F1 H1 F' H' := fun F' H' e2 hz e3 nz => ⟨e2, fun b o hb => by
    have b1 : b ≠ x := ne_of_none hb hx1
    have b2 : b ≠ dx := ne_of_none hb hdx
    exact hz b o b1 (by rw [upd_ne b1, upd_ne b2]; exact hb), e3, fun b o h1 h2 h3 => by
    have b1 : b ≠ x := ne_of_none h2 hx1
    have b2 : b ≠ dx := ne_of_none h2 hdx
    exact nz b o b1 h1 (by rw [upd_ne b1, upd_ne b2]; exact h2) h3⟩
  exact ⟨F1, x, dx, C, vs, ds, k, kx, rfl, hc, upd_same, n1, ex1, q1, hk, fun d F' H' hk2 e2 hz e3 nz hd => ⟨rfl, q _ d F' H' hk2 (s1.trans (st F' H' e2 hz e3 nz)) hd⟩, fun cv od y F' H' hk2 e2 hz e3 nz hq => hx cv od y F' H' hk2 (s1.trans (st F' H' e2 hz e3 nz)) hq⟩⟩
end
section
variable {P : Program} {w : World} {K : PySem.W.Frag} {mg : Str → Option Value} {base : Heap}
theorem makDX {c qual : Str} {C : Addr} {st : Stmt} {f : Addr} {fd : FuncData} {N ps : List Str} {k n : Nat} {g : SV} (M : Mk K C f) (F : C8.Fun K "__init__" qual st f fd) (hm : mg c = some (.ref C)) (b : Binds K fd ps []) (S : FnScope N ps (C8.fnScope st)) (hn : ps.length = n + 1)
    (hbody : ∀ (cdv : Value) (A : Around) (outer : List Env) (s : Shared) (H : Hp) (E : XK), Room k (A.deeper (envOfC qual (C8.fnScope st) s.heap.objs.size f cdv)) → QSs (cxOf (L2.CX P w) P w K mg base N qual (C8.fnScope st) f cdv A outer s H E) K (fun c d _ H => E c d H) true (C8.fnBody st) g) :
    MakX P w K mg base (k + 1) c C (spMkX K c (fnI c n N.length g)) := by
  refine ⟨f, fd, ps, M, fnX F S (fun vs H Q E ⟨F1, x, dx, C', args, ds, k1, kx, ev, _, _, _, _, hd, ⟨hl, _⟩, _⟩ => by rw [ev, List.length_cons, dqa_len hd, hl, hn]) (fun cdv A outer s H vs Q E hr ⟨F1, x, dx, C', args, ds, k1, kx, ev, hC, hx, hF, ex, hd, ⟨hl, hf⟩, q, qx⟩ => ?_), hm, b⟩
  subst ev
  have hla := dqa_len hd
  have no : ∀ {i : Nat} {d : D}, (ds.map Sl.val ++ List.replicate (N.length - (n + 1)) Sl.non)[i]? = some (.own d) → False := fun {i d} hi => by
    rcases List.mem_append.mp (List.mem_of_getElem? hi) with hm | hm
    · obtain ⟨_, _, z⟩ := List.mem_map.mp hm
      cases z
    · cases (List.mem_replicate.mp hm).2
  have rl : Rl K (fun b => if b = x then none else H b) F1 H (L2.start N (.ref x :: args)) (.own (objD c [] []) :: (ds.map .val ++ List.replicate (N.length - (n + 1)) .non)) := by
    have r0 := rl_start (H := H) ex hd (N.drop 1) n hl
    refine ⟨ex, by simp [L2.start, hla, hl], fun i s hi => ?_, fun i j a d e h1 h2 _ _ => ?_, apd_none fun i a cs => by
      cases i with
      | zero => exact fun z => nomatch z
      | succ i => rw [List.getElem?_cons_succ]; exact no_dp⟩
    · cases i with
      | zero => cases hi; exact ⟨some (.ref x), by simp [L2.start], x, rfl, hF, by simp, by simp, .inr ⟨C', dx, [], c, [], hx, hC, rfl, .nil⟩⟩
      | succ i =>
        have hi' : (ds.map Sl.val ++ List.replicate (N.length - (n + 1)) Sl.non)[i]? = some s := by simpa using hi
        have en : (N.drop 1).length - n = N.length - (n + 1) := by rw [List.length_drop]; omega
        obtain ⟨ov, g1, g2⟩ := r0.at' i s (by rw [en]; exact hi')
        refine ⟨ov, ?_, ?_⟩
        · rw [← g1]
          simp only [L2.start, List.map_cons, List.cons_append, List.getElem?_cons_succ, List.length_cons, List.length_drop]
          congr 3
          omega
        · cases s with
          | non => trivial
          | val d => exact g2
          | own d => exact (no hi').elim
          | dp a cs => exact absurd hi' no_dp
    · cases i with
      | zero => cases j with
        | zero => rfl
        | succ j => exact (no (by simpa using h2)).elim
      | succ i => exact (no (by simpa using h1)).elim
  have gt : ∀ {F2 H2 : Hp} {σ : L2.St}, Sg true (.ref x) F1 F1 (fun b => if b = x then none else H b) F2 H2 σ → ∀ b u, b ≠ x → H b = some u → H2 b = some u := fun sg b u hb hu => sg.s.h b u (by show (if b = x then none else H b) = some u; rw [if_neg hb]; exact hu)
  have gn : ∀ {F2 H2 : Hp} {σ : L2.St}, Sg true (.ref x) F1 F1 (fun b => if b = x then none else H b) F2 H2 σ → ∀ b u, b ≠ x → F1 b = none → H b = some u → (∀ xs, u ≠ .tup xs) → F2 b = none := fun sg b u hb h1 h2 h3 => sg.s.nw b u h1 (by show (if b = x then none else H b) = some u; rw [if_neg hb]; exact h2) h3
  have fin : ∀ F2 H2 σ δ, (∃ d, δ[0]? = some (.own d) ∧ k1 d) → Rl K (fun b => if b = x then none else H b) F2 H2 σ δ → Sg true (.ref x) F1 F1 (fun b => if b = x then none else H b) F2 H2 σ → Q .non H2 := fun F2 H2 σ δ ⟨d, h0, hk⟩ r sg => by
    obtain ⟨a, g1, g2, _, g4⟩ := r.own h0
    rw [sg.k rfl] at g1
    cases g1
    obtain ⟨o, ho, hq, _⟩ := g4.dq g2
    refine q d (upd F2 x o) H2 hk (sg.b.trans (.new g2)) (gt sg) (fun b u hb => ?_) (fun b u hb h1 h2 h3 => by rw [upd_ne hb]; exact gn sg b u hb h1 h2 h3) hq
    by_cases z : b = x
    · subst z; rw [upd_same] at hb; rw [ho, ← hb]
    · rw [upd_ne z] at hb; exact r.ex b u hb
  refine ⟨_, hbody cdv A outer s H E hr, .ref x, F1, F1, _, F1, _, _, rl, ⟨⟨.refl _, fun b u hb => ?_, ex, fun b u h1 _ _ => h1⟩, .refl _, fun _ => by simp [L2.start]⟩, hf, fun F2 H2 σ δ h r sg => fin F2 H2 σ δ h r sg, fun _ _ _ _ _ h => h.elim, fun _ _ _ _ h => h.elim, fun _ _ _ _ h => h.elim, fun cv od y F2 H2 σ δ hy r sg hq => qx cv od y F2 H2 hy sg.b (gt sg) r.ex (gn sg) hq, fun _ _ _ _ _ h => h.elim⟩
  have hb : (if b = x then none else H b) = some u := hb
  by_cases z : b = x
  · rw [if_pos z] at hb
    cases hb
  · rw [if_neg z] at hb
    exact hb
/-- told otherwise -/
theorem makX_by {c : Str} {C : Addr} {k : Nat} {f g : Fn} (m : MakX P w K mg base k c C (spMkX K c f)) (h : ∀ ds kk kx, g ds kk kx → f ds kk kx) : MakX P w K mg base k c C (spMkX K c g) := by
  obtain ⟨f1, fd, ps, M, F, hm, b⟩ := m.ex
  exact ⟨f1, fd, ps, M, F.imp fun vs H Q E ⟨F1, x, dx, C', args, ds, k1, kx, e1, e2, e3, e4, e5, e6, hf, q, qx⟩ => ⟨F1, x, dx, C', args, ds, k1, kx, e1, e2, e3, e4, e5, e6, h _ _ _ hf, q, qx⟩, hm, b⟩
/-- where it raises nothing -/
theorem makX_no {c : Str} {C : Addr} {k : Nat} {f : Fn} (m : MakX P w K mg base k c C (spMkX K c f)) : C8.Mak P w K mg base k c C (spMk K c f) [] := by
  obtain ⟨f1, fd, ps, M, F, hm, b⟩ := m.ex
  refine ⟨f1, fd, ps, [], M, (fn_noX F).imp fun vs H Q E ⟨F1, x, dx, C', args, ds, k1, e1, e2, e3, e4, e5, e6, hf, q⟩ => ⟨F1, x, dx, C', args, ds, k1, _, e1, e2, e3, e4, e5, e6, hf, q, fun _ _ _ _ _ z => z.elim⟩, hm, b, .nil⟩
end
end TH

namespace TH
open PySem PySem.Spec PyProof.Rows L2
/-! ## [f, g][i](..) -/
/-- one of two defs, by a number -/
def eSel (f1 f2 : Fn) (fi : EV) (la : LV) : EV := fun δ k kx => ∀ a b : Addr, eIx (lD (aC (eC (adrD a)) (aC (eC (adrD b)) aN))) fi δ (fun d => (d = adrD a ∧ la δ (fun ds => f1 ds k kx) kx) ∨ (d = adrD b ∧ la δ (fun ds => f2 ds k kx) kx)) kx
section
variable {X : Cx} {K : PySem.W.Frag} {W : WX} {ie e : Expr} {es : List Expr} {fi : EV} {la : LV}
theorem call_sub {M : Model} {A : Around} {E : Value → Shared → Prop} {s : Shared} {env : Env} {a b : Expr} {p pos : Pos} {args : List Expr} {Q : Value → Shared → Prop}
    (h : wpAny M A (eval (.Subscript a b p) env) (fun f s₁ => wpAny M A (callWith pos f [] (backTo pos (starEach args env)) (backToKw pos (keywordEach [] env))) Q E s₁) E s) :
    wpAny M A (eval (.Call (.Subscript a b p) args [] pos) env) Q E s := by
  rw [show eval (.Call (.Subscript a b p) args [] pos) env = (do callWith pos (← eval (.Subscript a b p) env) [] (backTo pos (starEach args env)) (backToKw pos (keywordEach [] env))) from rfl]
  exact wpAny_bind h
theorem qe_sel {x1 x2 : Str} {f1 f2 : Fn} {k1 k2 j : Nat} {p1 p2 p3 p4 pos : Pos} (c1 : CalX X.prog X.w X.K X.mg X.base k1 x1 (spD X.K f1)) (c2 : CalX X.prog X.w X.K X.mg X.base k2 x2 (spD X.K f2)) (hr : Room j X.A) (hk1 : k1 ≤ j) (hk2 : k2 ≤ j)
    (hg1 : Gl X x1) (hg2 : Gl X x2) (tk : Takes X W) (hK : X.K = K) (hi : QE X K W ie fi) (hs : PlainIx ie) (ha : QA X K W (e :: es) la)
    (hs1 : starEach [.Name x1 p1, .Name x2 p2] X.env = (false, eval (.Name x1 p1) X.env) :: starEach [.Name x2 p2] X.env := by rfl) (hs2 : starEach [.Name x2 p2] X.env = (false, eval (.Name x2 p2) X.env) :: starEach [] X.env := by rfl)
    (hd1 : (x1 == ("__debug__" : Str)) = false := by decide) (hd2 : (x2 == ("__debug__" : Str)) = false := by decide)
    (he : starEach (e :: es) X.env = (false, eval e X.env) :: starEach es X.env := by rfl) (hpl : (backTo pos (starEach es X.env)).any (·.1) = false := by rfl) :
    QE X K W (.Call (.Subscript (.List [.Name x1 p1, .Name x2 p2] p3) ie p4) (e :: es) [] pos) (eSel f1 f2 fi la) := by
  subst hK
  obtain ⟨g1, fd1, ps1, F1, m1, kp1, b1⟩ := c1.ex
  obtain ⟨g2, fd2, ps2, F2, m2, kp2, b2⟩ := c2.ex
  have q1 : QE X X.K W (.Name x1 p1) (eC (adrD g1)) := qe_c (pe_glob hg1 m1 (v := .ref g1) rfl hd1) fun _ => .adr rfl
  have q2 : QE X X.K W (.Name x2 p2) (eC (adrD g2)) := qe_c (pe_glob hg2 m2 (v := .ref g2) rfl hd2) fun _ => .adr rfl
  have qs := qe_ixL (K := X.K) (pos := p4) kix_list (ql_new (qf_lst (pos := p3) (qa_cons q1 (qa_cons q2 qa_nil hs2) hs1))) hi hs
  refine ⟨fun pins s σ H Q I ⟨H0, F, δ, k, kx, rl, hf, hx, q⟩ => ?_⟩
  refine call_sub (thn (qs.run pins s σ H (fun v H1 => ∃ F1, Stp F H F1 H1 ∧ ((v = .ref g1 ∧ la δ (fun ds => f1 ds k kx) kx) ∨ (v = .ref g2 ∧ la δ (fun ds => f2 ds k kx) kx))) I
    ⟨H0, F, δ, fun d => (d = adrD g1 ∧ la δ (fun ds => f1 ds k kx) kx) ∨ (d = adrD g2 ∧ la δ (fun ds => f2 ds k kx) kx), kx, rl, ?_, hx, fun v d F' H' hk s' hv => ?_⟩) fun u s1 ⟨v, H1, I1, rv, F1', s1', hsel⟩ => ?_)
  · exact hf g1 g2
  · refine ⟨F', s', ?_⟩
    rcases hk with ⟨rfl, z⟩ | ⟨rfl, z⟩
    · exact .inl ⟨adr_inj hv, z⟩
    · exact .inr ⟨adr_inj hv, z⟩
  · have go : ∀ {k3 : Nat} {g : Addr} {fd : FuncData} {ps : List Str} {fn : Fn}, FnOk X.prog X.w X.K X.mg X.base (L2.CX X.prog X.w) k3 g fd ps (spD X.K fn) → k3 ≤ j → PySem.W.keepIn X.K (.ref g) = true → Binds X.K fd ps [] → v = .ref g → la δ (fun ds => fn ds k kx) kx →
        wpAny (model X.prog X.w) X.A (callWith pos u [] (backTo pos (starEach (e :: es) X.env)) (backToKw pos (keywordEach [] X.env))) (EP X pins σ Q) X.xe s1 := fun {k3 g fd ps fn} Fk hk kp b ev hl => by
      subst ev
      obtain rfl : u = Value.ref g := rv
      refine PySem.W.callWith_K (h₀ := X.base) I.ok.mod.kin kp (thn (ha.run pos pins s1 σ H1 (fun vs H2 => ∃ F2 ds, Stp F H F2 H2 ∧ DqA X.K F2 vs ds ∧ fn ds k kx) I1 ⟨H0, F1', δ, _, kx, rl.step s1', hl, hx.step s1', fun vs ds F2 H2 hk2 s2 hv2 => ⟨F2, ds, s1'.trans s2, hv2, hk2⟩⟩) fun us s2 ⟨vs, H2, I2, r, F2, ds, s3, hv2, hk2⟩ => ⟨I2.kIn, ?_⟩) he hpl
      exact run_fnS Fk (hr.mono hk) b (passAt tk σ) I2 r ⟨F2, ds, k, kx, s3.eh, hv2, hk2, fun v d F' H' hk3 s4 hv4 => q v d F' H' hk3 (s3.trans s4) hv4, fun c od x F' H' hk3 s4 hq4 => hx c od x F' H' hk3 (s3.trans s4) hq4⟩
    rcases hsel with ⟨ev, z⟩ | ⟨ev, z⟩
    · exact go F1 hk1 kp1 b1 ev z
    · exact go F2 hk2 kp2 b2 ev z
end
/-! ## an object compared with a tuple by its own == -/
def rOwnT (C : Addr) (sp : Sp) : R2 := fun x y H Q => ∃ a b dx fs xs, x = .ref a ∧ y = .ref b ∧ H a = some (.ins C dx fs) ∧ H b = some (.tup xs) ∧ sp [.ref a, .ref b] H (fun v H' => ∃ r : Bool, v = .bl r ∧ Q (.bl r) H') C8.E0
theorem op_eqT {X : Cx} {k : Nat} {C : Addr} {sp : Sp} (c : C8.Met X.prog X.w X.K X.mg X.base k C "__eq__" sp []) {j : Nat} (hr : Room j X.A) (hk : k ≤ j) (nt : PySem.W.subIn X.K (.type "tuple") (.ref C) = some false) : OpR X (compareOp .Eq) (rOwnT C sp) := by
  rintro pins s σ H x y v u Q I rx ry ⟨a, b, dx, fs, xs, rfl, rfl, ha, hb, h⟩
  cases rx
  cases ry
  obtain ⟨mA, J, _⟩ := ins_get I.hok ha
  obtain ⟨od, J, _⟩ := J.look
  obtain ⟨m, hF⟩ := I.fr
  have ht : PySem.W.KitAt b "tuple" s.heap := by
    have z : ObjOk X.prog X.w H s.heap b (.tup xs) := I.hok b _ hb
    obtain ⟨_, its, _, n, hn⟩ := z
    exact ⟨n, hn.1, hn.2.1⟩
  obtain ⟨f, h1, h2, h3⟩ := run_own c (hr.mono hk) rfl I h
  refine PySem.W.cmp_K (op := .Eq) (tb := .type "tuple") (hr.mono hk).units0 hF I.ok.mod.kin J (PySem.W.kitAt_ty _ _ ht) (by unfold PySem.W.notFirst; rw [nt]; simp) h1 h2 (wpAny_mono h3 (fun w s' z => ?_) fun _ _ e => e)
  obtain ⟨z, H', I', rz, r, ez, q⟩ := z
  subst ez
  cases rz
  exact ⟨.bl r, H', I', rfl, q⟩
def gOwnT (c : Str) (ns : List Str) (fn : Fn) (x y : D) (k : D → Prop) : Prop := (∃ ds, x = objD c ns ds) ∧ (∃ es, y = .tuple es) ∧ fn [x, y] (fun r => ∃ b : Bool, r = .bool b ∧ k (.bool b)) fun _ => False
theorem oOwnT {K : PySem.W.Frag} {c : Str} {ns : List Str} {C : Addr} {fn : Fn} (T : ClC K c ns C) : OpD K (rOwnT C (spD0 K fn)) (gOwnT c ns fn) := by
  rintro F H x y dx dy Q k ex hx hy ⟨⟨ds, rfl⟩, ⟨es, rfl⟩, hf⟩ q
  obtain ⟨a, C1, d1, fs, rfl, h1, h2, _, _⟩ := dq_obj hx
  obtain ⟨b, xs, rfl, g1, _, _⟩ := dq_tup hy
  rw [T.at'] at h2
  cases h2
  exact ⟨a, b, d1, fs, xs, rfl, rfl, ex _ _ h1, ex _ _ g1, F, _, _, ex, .cons hx (.cons hy .nil), hf, fun v d F' H' ⟨r, e, hk⟩ s hv => by
    subst e
    exact ⟨r, dq_bool hv, q _ _ F' H' hk s (.bl _)⟩⟩
/-! ## isinstance of an own class, of an object or of plain data -/
def eIsCD (c : Str) (ns : List Str) (a : EV) : EV := fun δ k kx => a δ (fun d => ((∃ ds, d = objD c ns ds) ∧ k (.bool true)) ∨ (noDict d = true ∧ k (.bool false))) kx
/-- no plain kind is of the class -/
structure NoKind (K : PySem.W.Frag) (C : Addr) : Prop where
  k0 : PySem.W.subIn K (.type "NoneType") (.ref C) = some false
  k1 : PySem.W.subIn K (.type "bool") (.ref C) = some false
  k2 : PySem.W.subIn K (.type "int") (.ref C) = some false
  k3 : PySem.W.subIn K (.type "str") (.ref C) = some false
  k4 : PySem.W.subIn K (.type "list") (.ref C) = some false
  k5 : PySem.W.subIn K (.type "tuple") (.ref C) = some false
  k6 : PySem.W.subIn K (.type "dict") (.ref C) = some false
  cl : (PySem.W.clsIn K C).isSome = true
  ty : PySem.W.typeIn K (.ref C) = some (.type "type")
theorem NoKind.kit {K : PySem.W.Frag} {C : Addr} (N : NoKind K C) {t : Value} (h : PySem.W.subIn K t (.ref C) = some false) (ht : (t == Value.ref C) = false) : PySem.W.kitOne K t (.ref C) = some false := by
  unfold PySem.W.kitOne
  rw [ht, if_neg Bool.false_ne_true]
  show (if ((PySem.W.clsIn K C).isSome && PySem.W.typeIn K (.ref C) == some (.type "type")) = true then PySem.W.subIn K t (.ref C) else none) = some false
  rw [if_pos (by rw [N.cl, N.ty]; rfl)]
  exact h
theorem NoKind.of {K : PySem.W.Frag} {C : Addr} (N : NoKind K C) (d : D) : PySem.W.kitOne K (.type (kindD d)) (.ref C) = some false := by
  cases d <;> first | exact N.kit N.k0 rfl | exact N.kit N.k1 rfl | exact N.kit N.k2 rfl | exact N.kit N.k3 rfl | exact N.kit N.k4 rfl | exact N.kit N.k5 rfl | exact N.kit N.k6 rfl
theorem qe_isCD {X : Cx} {K : PySem.W.Frag} {W : WX} {e : Expr} {fa : EV} {pos : Pos} {c : Str} {ns : List Str} {C : Addr} {fn x : Expr} (T : ClC K c ns C) (N : NoKind K C) (h : PE X (.Call fn [e, x] [] pos) (tCB (rIsiD K) (tCons (tE K W fa) (tCons (tC (.ref C)) tNil)))) : QE X K W (.Call fn [e, x] [] pos) (eIsCD c ns fa) :=
  pe_mono h fun σ H Q ⟨H0, F, δ, k, kx, rl, hf, hx, q⟩ => ⟨H0, F, δ, _, kx, rl, hf, hx, fun v d F1 H1 hk s1 hv => by
    rcases hk with ⟨⟨ds, ed⟩, hk⟩ | ⟨n, hk⟩
    · subst ed
      obtain ⟨p, C', dx, fs, rfl, h1, h2, h3, h4⟩ := dq_obj hv
      rw [T.at'] at h2
      cases h2
      refine ⟨.ref p, .ref C, .ref C, .ref C, true, rfl, .own C, .x (.base (.ins (s1.eh _ _ h1) T.cl T.ha T.hn T.htk T.hm)), ?_, q _ _ F1 H1 hk s1 (.bl _)⟩
      unfold PySem.W.kitOne
      rw [if_pos (by simp)]
    · exact ⟨v, .ref C, .type (kindD d), .ref C, false, rfl, .own C, dq_kind s1.eh hv n, N.of d, q _ _ F1 H1 hk s1 (.bl _)⟩⟩
theorem subT_true {tab : List (String × List String)} {cs : List String} {e c : String} (h : subT tab cs e c = some true) : ∃ as, (e, as) ∈ tab ∧ as.contains c = true := by
  unfold subT at h
  cases hl : tab.lookup e with
  | none => rw [hl] at h; cases h
  | some as =>
    rw [hl] at h
    dsimp only at h
    split at h
    · refine ⟨as, ?_, by injection h⟩
      clear h
      induction tab with
      | nil => cases hl
      | cons p tab ih =>
        obtain ⟨x, ys⟩ := p
        rw [List.lookup_cons] at hl
        by_cases hx : (e == x) = true
        · rw [hx] at hl
          cases hl
          rw [beq_iff_eq.mp hx]
          exact .head _
        · rw [Bool.not_eq_true] at hx
          rw [hx] at hl
          exact .tail _ (ih hl)
    · cases h
theorem noKind_of {K : PySem.W.Frag} {C : Addr} (hd : PySem.W.hasDictIn K C = true) (k0 : PySem.W.subIn K (.type "NoneType") (.ref C) = some false) (k1 : PySem.W.subIn K (.type "bool") (.ref C) = some false) (k2 : PySem.W.subIn K (.type "int") (.ref C) = some false) (k3 : PySem.W.subIn K (.type "str") (.ref C) = some false) (k4 : PySem.W.subIn K (.type "list") (.ref C) = some false) (k5 : PySem.W.subIn K (.type "tuple") (.ref C) = some false) (k6 : PySem.W.subIn K (.type "dict") (.ref C) = some false) (ty : PySem.W.typeIn K (.ref C) = some (.type "type")) : NoKind K C :=
  ⟨k0, k1, k2, k3, k4, k5, k6, by obtain ⟨cd, hc, _⟩ := PySem.W.any_some hd; rw [hc]; rfl, ty⟩
end TH

/-! # what defs make of data: rules -/
namespace TH
open PySem
theorem objD_iff {c : Str} {ns : List Str} {ds ds' : List D} : objD c ns ds = objD c ns ds' ↔ ds = ds' := ⟨fun h => (objD_inj h).2.2, fun h => by rw [h]⟩
/-! ## comprehensions -/
/-- one turn -/
def lcB (gv : GV) (tv : TV) (ev : EV) (δ : List Sl) (x : D) (k1 : D → Prop) (k0 : Prop) : Prop := gv x δ fun δ' => tv δ' (fun b => if b = true then ev δ' (fun d => k1 d) (fun _ => False) else k0) (fun _ => False)
theorem lc_g {α : Type} {gv : GV} {tv : TV} {ev : EV} {δ : List Sl} {k : List D → Prop} (enc : α → D) (keep : α → Bool) (g : α → D) : ∀ (ys : List α) (acc : List D), (∀ y ∈ ys, ∀ (k1 : D → Prop) (k0 : Prop), (keep y = true → k1 (g y)) → (keep y = false → k0) → lcB gv tv ev δ (enc y) k1 k0) → k (acc ++ (ys.filter keep).map g) → lcD gv tv ev δ (ys.map enc) acc k
  | [], acc, _, hk => by
    rw [List.filter_nil, List.map_nil, List.append_nil] at hk
    exact hk
  | y :: ys, acc, h, hk => by
    refine h y (.head _) (fun d => lcD gv tv ev δ (ys.map enc) (acc ++ [d]) k) (lcD gv tv ev δ (ys.map enc) acc k) (fun e => ?_) (fun e => ?_)
    · refine lc_g enc keep g ys _ (fun z hz => h z (.tail _ hz)) ?_
      rw [List.filter_cons_of_pos e, List.map_cons] at hk
      rw [List.append_assoc]
      exact hk
    · refine lc_g enc keep g ys _ (fun z hz => h z (.tail _ hz)) ?_
      rw [List.filter_cons_of_neg (by rw [e]; decide)] at hk
      exact hk
/-- what is kept, turned -/
theorem lc_if {α : Type} {gv : GV} {tv : TV} {ev : EV} {δ : List Sl} {k : List D → Prop} (enc : α → D) (keep : α → Bool) (g : α → D) {ys : List α} (h : ∀ y ∈ ys, ∀ (k1 : D → Prop) (k0 : Prop), (keep y = true → k1 (g y)) → (keep y = false → k0) → lcB gv tv ev δ (enc y) k1 k0) (hk : k ((ys.filter keep).map g)) : lcD gv tv ev δ (ys.map enc) [] k := lc_g enc keep g ys [] h hk
/-- all turned -/
theorem lc_map {α : Type} {gv : GV} {tv : TV} {ev : EV} {δ : List Sl} {k : List D → Prop} (enc : α → D) (g : α → D) {ys : List α} (h : ∀ y ∈ ys, ∀ (k1 : D → Prop) (k0 : Prop), k1 (g y) → lcB gv tv ev δ (enc y) k1 k0) (hk : k (ys.map g)) : lcD gv tv ev δ (ys.map enc) [] k := by
  refine lc_if enc (fun _ => true) g (fun y hy k1 k0 a _ => h y hy k1 k0 (a rfl)) ?_
  rw [List.filter_eq_self.mpr fun _ _ => rfl]
  exact hk
/-- each by each -/
inductive Each {α β : Type} (φ : α → β → Prop) : List α → List β → Prop
  | nil : Each φ [] []
  | cons {x : α} {y : β} {xs : List α} {ys : List β} : φ x y → Each φ xs ys → Each φ (x :: xs) (y :: ys)
/-- each told by a word alone -/
theorem lc_wrd {α : Type} {gv : GV} {tv : TV} {ev : EV} {δ : List Sl} {k : List D → Prop} (enc : α → D) (φ : α → D → Prop) : ∀ {ys : List α}, (∀ y ∈ ys, ∀ (k1 : D → Prop) (k0 : Prop), (∀ d, φ y d → k1 d) → lcB gv tv ev δ (enc y) k1 k0) → (∀ ds, Each φ ys ds → k ds) → lcD gv tv ev δ (ys.map enc) [] k := by
  have gen : ∀ (ys : List α) (acc : List D), (∀ y ∈ ys, ∀ (k1 : D → Prop) (k0 : Prop), (∀ d, φ y d → k1 d) → lcB gv tv ev δ (enc y) k1 k0) → (∀ ds, Each φ ys ds → k (acc ++ ds)) → lcD gv tv ev δ (ys.map enc) acc k := by
    intro ys
    induction ys with
    | nil =>
      intro acc _ hk
      have := hk [] .nil
      rw [List.append_nil] at this
      exact this
    | cons y ys ih =>
      intro acc h hk
      refine h y (.head _) _ _ fun d hd => ih _ (fun z hz => h z (.tail _ hz)) fun ds hds => ?_
      have := hk (d :: ds) (.cons hd hds)
      rwa [List.append_assoc]
  intro ys h hk
  exact gen ys [] h fun ds hds => hk ds hds
theorem rngD_map (lo : Int) (n : Nat) : rngD lo n = (List.range n).map fun i => .int (lo + (i : Nat)) := rfl
/-! ## loops -/
theorem for_inv {α : Type} {gv : GV} {b : SV} {E : ED} (enc : α → D) (I : Nat → List Sl → Prop) {ys : List α} {δ : List Sl} (h0 : I 0 δ)
    (hs : ∀ i y δ, ys[i]? = some y → I i δ → ∀ N : List Sl → Prop, (∀ δ', I (i + 1) δ' → N δ') → gv (enc y) δ fun δ' => b { E with nx := N, ct := N, bk := E.nx } δ') (hd : ∀ δ, I ys.length δ → E.nx δ) : forD gv b (ys.map enc) E δ := by
  have gen : ∀ (zs : List α) (i : Nat) (δ : List Sl), i ≤ ys.length → ys.drop i = zs → I i δ → forD gv b (zs.map enc) E δ := by
    intro zs
    induction zs with
    | nil =>
      intro i δ hl hz hi
      have e : i = ys.length := by have := List.drop_eq_nil_iff.mp hz; omega
      subst e
      exact hd δ hi
    | cons z zs ih =>
      intro i δ hl hz hi
      have h1 : ys[i]? = some z := by
        have := congrArg (·[0]?) hz
        simpa using this
      refine hs i z δ h1 hi _ fun δ' hi' => ih (i + 1) δ' (List.getElem?_eq_some_iff.mp h1).1 ?_ hi'
      have := drop_at h1
      rw [hz] at this
      exact (List.cons.inj this).2.symm
  exact gen ys 0 δ (Nat.zero_le _) rfl h0
end TH

namespace PD
open PySem TH
open L2 (atI ixN)
theorem atI_of {α : Type} {ds : List α} {i : Int} (n : Nat) {d : α} (h : i = n) (hd : ds[n]? = some d) : atI ds i = some d := by
  subst h
  have hn := (List.getElem?_eq_some_iff.mp hd).1
  unfold atI ixN
  have h1 : ¬ ((n : Int) < 0) := by omega
  simp [h1, hn]
  exact (List.getElem?_eq_some_iff.mp hd).2
theorem atI_0 {α : Type} {a : α} {r : List α} : atI (a :: r) 0 = some a := atI_of 0 rfl rfl
theorem atI_1 {α : Type} {a b : α} {r : List α} : atI (a :: b :: r) 1 = some b := atI_of 1 rfl rfl
theorem atI_2 {α : Type} {a b c : α} {r : List α} : atI (a :: b :: c :: r) 2 = some c := atI_of 2 rfl rfl
theorem atI_3 {α : Type} {a b c d : α} {r : List α} : atI (a :: b :: c :: d :: r) 3 = some d := atI_of 3 rfl rfl
theorem atI_4 {α : Type} {a b c d e : α} {r : List α} : atI (a :: b :: c :: d :: e :: r) 4 = some e := atI_of 4 rfl rfl
theorem nd_none : noDict .none = true := rfl
theorem nd_bool {b : Bool} : noDict (.bool b) = true := rfl
theorem nd_int {b : Int} : noDict (.int b) = true := rfl
theorem nd_str {b : Str} : noDict (.str b) = true := rfl
theorem nd_list {b : List D} : noDict (.list b) = true := rfl
theorem nd_tuple {b : List D} : noDict (.tuple b) = true := rfl
theorem nd_dic {t : Bool} {es : List (D × D)} : noDict (dicD t es) = true := rfl
local macro_rules | `(tactic| walk_at "pw") => `(tactic| simp (config := { decide := false }) only [fnD, iRg3, lRg3, gDivM, eLm, gCount, gIndex, eDc, cNil, cDisp, dispD, sNever, fnI, eV, eC, lO, lL, lT, eL, e2, e1, tB, gI, gIc, gAdd, gMinus, gMul, gDiv, gMod, gPow, gLt, gLe, gGt, gGe, gEq, gEqS, scD, gIs, isNon, eCh, gNeg, eNot, eAnd, eOr, tNt, tAn, tOr', eIf, lIf, aN, aC, eT, lD, eIx, pN, pS, lSl, eSlT, lCat, gCatT, lRep, gRepT, eIn, eBi, gLen, gSum, gAll, gAny, gTupl, eCall, eCallX, gInt, intD, gAbs, gMin, gMax, gLenS, eIs, eIs2, isK, isKs, kindD.eq_1, kindD.eq_2, kindD.eq_3, kindD.eq_4, kindD.eq_5, kindD.eq_6, kindD.eq_7, atI_0, atI_1, atI_2, atI_3, atI_4, nd_none, nd_bool, nd_int, nd_str, nd_list, nd_tuple, nd_dic, eFld, lSort, lSortF, iRg1, iRg2, iEn, iZp, gN, gsN, gsC, gT, tY, lLc, wipeD, slV, slO, slD, sNx, sBk, sCt, sSeq, sRet, sRetN, sEx, sIf, sSet, sAsg, sPar, sPar3, sAug, sFor, sMu, sMuS, sMuG, mDo, gApp, sExt, sIx, sTell, sRaise, sRaiseF, sFldO, putD, eRevT, lRev, lRg1, lRg2, eTRg1, eTRg2, gLtT, gCatS, lLc2, eGet, eInD, eGet2, dO, dV, sPut, eMeth, eIsC, eIsCD, row, rowsT,
  List.map_cons, List.map_nil, List.cons_append, List.nil_append, List.replicate_succ, List.replicate_zero, List.set_cons_zero, List.set_cons_succ, List.getElem?_cons_zero, List.getElem?_cons_succ, List.length_cons, List.length_nil, List.length_map, Nat.reduceAdd, Nat.reduceSub, Nat.reduceLeDiff, Nat.reduceEqDiff,
  and_assoc, Option.some.injEq, Sl.val.injEq, Sl.own.injEq, PyData.int.injEq, PyData.str.injEq, PyData.bool.injEq, PyData.tuple.injEq, PyData.list.injEq, List.cons.injEq, objD_iff, exists_eq_left', exists_eq_left, exists_eq, exists_eq', and_true, true_and, exists_and_left, exists_and_right, eAlt, lOr, false_or, or_false, false_and, and_false, exists_false, if_true, if_false, Bool.false_eq_true, Bool.true_eq_false, Bool.not_true, Bool.not_false, Bool.or_true, Bool.or_false, Bool.true_or, Bool.false_or, Bool.and_true, Bool.true_and, Bool.and_false, Bool.false_and, decide_true, decide_false, bne_self_eq_false, Bool.bne_false, Bool.bne_true, reduceCtorEq, String.reduceEq])

theorem lc_mapI {gv : GV} {tv : TV} {ev : EV} {δ : List Sl} {k : List D → Prop} (g : D → D) {ds : List D} (h : ∀ y ∈ ds, ∀ (k1 : D → Prop) (k0 : Prop), k1 (g y) → lcB gv tv ev δ y k1 k0) (hk : k (ds.map g)) : lcD gv tv ev δ ds [] k := by
  have := lc_map (gv := gv) (tv := tv) (ev := ev) (δ := δ) (k := k) id g (ys := ds) h hk
  rwa [List.map_id] at this
/-! ## things looked at -/
/-- an integer, no flag, within bounds -/
def inB (d : D) (lo hi : Int) : Bool := match d with
  | .int i => decide (lo ≤ i) && decide (i ≤ hi)
  | _ => false
theorem inB_iff {d : D} {lo hi : Int} : inB d lo hi = true ↔ ∃ i, d = .int i ∧ lo ≤ i ∧ i ≤ hi := by
  cases d <;> simp [inB]
def isInt : D → Bool
  | .int _ => true
  | _ => false
def p_is_integer : Fn := fun ds k _ => ∃ d, ds = [d] ∧ noDict d = true ∧ k (.bool (isInt d))
def m_is_integer : Fn := fnD 1 1 (sRet (eAnd (eIs "int" (eV 0)) (eNot (eIs "bool" (eV 0)))))

theorem p_is_integer_ok {ds k kx} (h : p_is_integer ds k kx) : m_is_integer ds k kx := by
  obtain ⟨d, rfl, hd, hk⟩ := h
  unfold m_is_integer
  cases d <;> (try walk_at "pw") <;> first | exact hk | exact ⟨hd, hk⟩
def p_is_within : Fn := fun ds k _ => ∃ d lo hi, ds = [d, .int lo, .int hi] ∧ noDict d = true ∧ k (.bool (inB d lo hi))
def m_is_within : Fn := fnD 3 3 (sRet (eAnd (eCall p_is_integer (aC (eV 0) aN)) (eCh gLe gLe (eV 1) (eV 0) (eV 2))))

theorem p_is_within_ok {ds k kx} (h : p_is_within ds k kx) : m_is_within ds k kx := by
  obtain ⟨d, lo, hi, rfl, hd, hk⟩ := h
  unfold m_is_within
  (try walk_at "pw")
  refine ⟨d, rfl, hd, ?_⟩
  cases d <;> simp only [isInt, inB] at hk ⊢ <;> (try walk_at "pw") <;> try exact hk
  rename_i i
  by_cases h1 : lo ≤ i <;> simp [h1] at hk ⊢ <;> exact hk
def isPair : D → Bool
  | .tuple ds => decide (ds.length = 2)
  | _ => false
def p_is_pair : Fn := fun ds k _ => ∃ d, ds = [d] ∧ noDict d = true ∧ k (.bool (isPair d))
def m_is_pair : Fn := fnD 1 1 (sRet (eAnd (eIs "tuple" (eV 0)) (e2 (gEqS false) (eBi gLen (lT (eV 0))) (eC (.int 2)))))

theorem p_is_pair_ok {ds k kx} (h : p_is_pair ds k kx) : m_is_pair ds k kx := by
  obtain ⟨d, rfl, hd, hk⟩ := h
  unfold m_is_pair
  cases d <;> (try walk_at "pw") <;> try first | exact hk | exact ⟨hd, hk⟩
  rename_i xs
  have : (decide ((xs.length : Int) = 2)) = decide (xs.length = 2) := by by_cases h : xs.length = 2 <;> simp [h]; omega
  simpa [isPair, this] using hk
/-! ## openings -/
abbrev Op := List Int × List Int
def nuD (ns : List Int) : D := .tuple (ns.map .int)
def opD (o : Op) : D := .tuple [nuD o.1, nuD o.2]
structure GoodN (ns : List Int) : Prop where
  l : ns.length ≤ 40
  b : ∀ n ∈ ns, 0 ≤ n ∧ n ≤ 8
structure Good (o : Op) : Prop where
  b : GoodN o.1
  t : GoodN o.2
  n : 0 < o.2.length
def ns_Timing : List Str := ["right", "left"]
def tmD (R L : List Op) : D := objD "Timing" ns_Timing [.tuple (R.map opD), .tuple (L.map opD)]
/-- things within things: how they are built, two and three deep -/
def thingOk (d : D) : Prop := noDict d = true ∧ ∀ xs, d = .tuple xs → xs.length ≤ 1000 ∧ ∀ x ∈ xs, noDict x = true
def thing2 (d : D) : Prop := noDict d = true ∧ ∀ xs, d = .tuple xs → xs.length ≤ 1000 ∧ ∀ x ∈ xs, thingOk x
def thing3 (d : D) : Prop := noDict d = true ∧ ∀ xs, d = .tuple xs → xs.length ≤ 1000 ∧ ∀ x ∈ xs, thing2 x
/-- numbers of places -/
def isNums : D → Bool
  | .tuple xs => decide (xs.length ≤ 40) && xs.all fun x => inB x 0 8
  | _ => false
def someT : D → Bool
  | .tuple (_ :: _) => true
  | _ => false
def isOpen : D → Bool
  | .tuple [a, b] => isNums a && (isNums b && someT b)
  | _ => false
def areOps : D → Bool
  | .tuple xs => decide (xs.length ≤ 23) && xs.all isOpen
  | _ => false
def p_is_numbers : Fn := fun ds k _ => ∃ d, ds = [d] ∧ thingOk d ∧ k (.bool (isNums d))
def m_is_numbers : Fn := fnD 1 2 (sSeq (sIf (tOr' (tNt (tB (eIs "tuple" (eV 0)))) (tB (e2 gGt (eBi gLen (lT (eV 0))) (eC (.int (40)))))) (sRet (eC (.bool false))) sNx)
  (sRet (eBi gAll (lLc (lT (eV 0)) (gN 1) tY (eCall p_is_within (aC (eV 1) (aC (eC (.int 0)) (aC (eC (.int (8))) aN)))) [1]))))

theorem all_bools {α : Type} (f : α → Bool) (xs : List α) : ∃ bs : List Bool, xs.map (fun x => PyData.bool (f x)) = bs.map .bool ∧ bs.all id = xs.all f := ⟨xs.map f, by rw [List.map_map]; rfl, by simp [List.all_map]⟩
theorem p_is_numbers_ok {ds k kx} (h : p_is_numbers ds k kx) : m_is_numbers ds k kx := by
  obtain ⟨d, rfl, hd, hk⟩ := h
  unfold m_is_numbers
  cases d <;> (try walk_at "pw") <;> try first | exact hk | exact ⟨hd.1, hk⟩
  rename_i xs
  obtain ⟨hl, hx⟩ := hd.2 xs rfl
  by_cases h : xs.length ≤ 40
  · simp only [show ¬ (xs.length : Int) > 40 by omega, decide_false]
    (try walk_at "pw")
    refine lc_mapI (fun y => .bool (inB y 0 8)) (fun y hy k1 k0 h1 => ?_) ?_
    · unfold lcB p_is_within
      (try walk_at "pw")
      exact ⟨hx y hy, h1⟩
    · obtain ⟨bs, e1, e2⟩ := all_bools (fun y => inB y 0 8) xs
      refine ⟨bs, e1, ?_⟩
      rw [e2]
      simpa [isNums, h] using hk
  · simp only [show (xs.length : Int) > 40 by omega, decide_true]
    (try walk_at "pw")
    simpa [isNums, h] using hk
def p_is_opening : Fn := fun ds k _ => ∃ d, ds = [d] ∧ thing2 d ∧ k (.bool (isOpen d))
def m_is_opening : Fn := fnD 1 1 (sRet (eAnd (eCall p_is_pair (aC (eV 0) aN)) (eAnd (eCall p_is_numbers (aC (eIx (lT (eV 0)) (eC (.int 0))) aN)) (eAnd (eCall p_is_numbers (aC (eIx (lT (eV 0)) (eC (.int 1))) aN)) (e2 gGt (eBi gLen (lT (eIx (lT (eV 0)) (eC (.int 1))))) (eC (.int 0)))))))

theorem pair_or (d : D) : (∃ a b, d = .tuple [a, b]) ∨ (isPair d = false ∧ isOpen d = false) := by
  cases d <;> try exact .inr ⟨rfl, rfl⟩
  rename_i xs
  rcases xs with _ | ⟨a, _ | ⟨b, _ | ⟨c, xs⟩⟩⟩
  · exact .inr ⟨rfl, rfl⟩
  · exact .inr ⟨rfl, rfl⟩
  · exact .inl ⟨a, b, rfl⟩
  · exact .inr ⟨by simp [isPair], rfl⟩
theorem nums_tup {d : D} (h : isNums d = true) : ∃ xs, d = .tuple xs ∧ xs.length ≤ 40 := by
  cases d <;> simp [isNums] at h
  exact ⟨_, rfl, h.1⟩
theorem some_len (xs : List D) : someT (.tuple xs) = decide ((0 : Int) < xs.length) := by
  cases xs with
  | nil => rfl
  | cons x xs => exact (decide_eq_true (by simp)).symm
theorem p_is_opening_ok {ds k kx} (h : p_is_opening ds k kx) : m_is_opening ds k kx := by
  obtain ⟨d, rfl, hd, hk⟩ := h
  unfold m_is_opening
  (try walk_at "pw")
  refine ⟨d, rfl, hd.1, ?_⟩
  rcases pair_or d with ⟨a, b, rfl⟩ | ⟨h1, h2⟩
  · obtain ⟨_, hx⟩ := hd.2 _ rfl
    have ha := hx a (by simp)
    have hb := hx b (by simp)
    rw [show isPair (PyData.tuple [a, b]) = true from rfl]
    (try walk_at "pw")
    refine ⟨a, rfl, ha, ?_⟩
    simp only [isOpen] at hk
    cases h1 : isNums a <;> simp only [h1] at hk <;> (try walk_at "pw")
    · exact hk
    refine ⟨b, rfl, hb, ?_⟩
    cases h2 : isNums b <;> simp only [h2] at hk <;> (try walk_at "pw")
    · exact hk
    obtain ⟨xs, rfl, _⟩ := nums_tup h2
    rw [some_len] at hk
    exact ⟨_, rfl, hk⟩
  · rw [h1]
    rw [h2] at hk
    (try walk_at "pw")
    exact hk
def p_are_openings : Fn := fun ds k _ => ∃ d, ds = [d] ∧ thing3 d ∧ k (.bool (areOps d))
def m_are_openings : Fn := fnD 1 2 (sRet (eAnd (eIs "tuple" (eV 0)) (eAnd (e2 gLe (eBi gLen (lT (eV 0))) (eC (.int (23)))) (eBi gAll (lLc (lT (eV 0)) (gN 1) tY (eCall p_is_opening (aC (eV 1) aN)) [1])))))

theorem p_are_openings_ok {ds k kx} (h : p_are_openings ds k kx) : m_are_openings ds k kx := by
  obtain ⟨d, rfl, hd, hk⟩ := h
  unfold m_are_openings
  cases d <;> (try walk_at "pw") <;> try first | exact hk | exact ⟨hd.1, hk⟩
  rename_i xs
  obtain ⟨hl, hx⟩ := hd.2 xs rfl
  by_cases h : xs.length ≤ 23
  · simp only [show (xs.length : Int) ≤ 23 by omega, decide_true]
    (try walk_at "pw")
    refine lc_mapI (fun y => .bool (isOpen y)) (fun y hy k1 k0 h1 => ?_) ?_
    · unfold lcB
      (try walk_at "pw")
      exact ⟨y, rfl, hx y hy, h1⟩
    · obtain ⟨bs, e1, e2⟩ := all_bools isOpen xs
      refine ⟨bs, e1, ?_⟩
      rw [e2]
      simpa [areOps, h] using hk
  · simp only [show ¬ (xs.length : Int) ≤ 23 by omega, decide_false]
    (try walk_at "pw")
    simpa [areOps, h] using hk
/-- as many -/
def alike : D → D → Bool
  | .tuple xs, .tuple ys => decide (xs.length = ys.length)
  | _, _ => false
def p_Timing_init : Fn := fun ds k kx => ∃ r l, ds = [r, l] ∧ thing3 r ∧ thing3 l ∧ (if areOps r = true then (if areOps l = true ∧ alike l r = true then k (objD "Timing" ns_Timing [r, l]) else kx ⟨"BadTiming", [("part", .str "left")]⟩) else kx ⟨"BadTiming", [("part", .str "right")]⟩)
theorem ops_tup {d : D} (h : areOps d = true) : ∃ xs, d = .tuple xs ∧ xs.length ≤ 23 ∧ ∀ x ∈ xs, isOpen x = true := by
  cases d <;> simp [areOps] at h
  exact ⟨_, rfl, h.1, h.2⟩
def m_Timing_init : Fn := fnI "Timing" 2 3 (sSeq (sIf (tNt (tB (eCall p_are_openings (aC (eV 1) aN)))) (sRaiseF "BadTiming" (eC (.str "right"))) sNx)
  (sSeq (sIf (tOr' (tNt (tB (eCall p_are_openings (aC (eV 2) aN)))) (tB (e2 (gEqS true) (eBi gLen (lT (eV 2))) (eBi gLen (lT (eV 1)))))) (sRaiseF "BadTiming" (eC (.str "left"))) sNx)
  (sSeq (sFldO 0 "Timing" "right" (eV 1))
  (sFldO 0 "Timing" "left" (eV 2)))))

theorem p_Timing_init_ok {ds k kx} (h : p_Timing_init ds k kx) : m_Timing_init ds k kx := by
  obtain ⟨r, l, rfl, hr, hl, hk⟩ := h
  unfold m_Timing_init
  (try walk_at "pw")
  refine ⟨r, rfl, hr, ?_⟩
  cases h1 : areOps r <;> simp only [h1, Bool.false_eq_true, if_false, if_true] at hk <;> (try walk_at "pw")
  · exact hk
  refine ⟨l, rfl, hl, ?_⟩
  cases h2 : areOps l <;> simp only [h2, Bool.false_eq_true, if_false, false_and, true_and] at hk <;> (try walk_at "pw")
  · exact hk
  obtain ⟨xs, rfl, _⟩ := ops_tup h1
  obtain ⟨ys, rfl, _⟩ := ops_tup h2
  refine ⟨ys, rfl, xs, rfl, ?_⟩
  simp only [alike, decide_eq_true_eq] at hk
  by_cases h3 : ys.length = xs.length
  · rw [if_pos h3] at hk
    simp only [h3, decide_true]
    (try walk_at "pw")
    exact ⟨[], [], rfl, by decide, _, _, rfl, (show 1 < 100 by decide), hk⟩
  · rw [if_neg h3] at hk
    simp only [show ¬ (ys.length : Int) = xs.length by omega, decide_false]
    (try walk_at "pw")
    exact hk
/-- what is at a place, 0 beyond -/
def gt (ns : List Int) (i : Nat) : Int := (ns[i]?).getD 0
theorem gt_at {ns : List Int} {i : Nat} (h : i < ns.length) : (ns.map PyData.int)[i]? = some (.int (gt ns i)) := by
  rw [List.getElem?_map, List.getElem?_eq_getElem h]
  unfold gt
  rw [List.getElem?_eq_getElem h]
  rfl
/-- the places in a tick -/
def pl (o : Op) (t : Nat) : Int := if t = 0 then 0 else if t ≤ o.1.length then gt o.1 (t - 1) else gt o.2 ((t - 1 - o.1.length) % o.2.length)
theorem gt_b {ns : List Int} (h : GoodN ns) (i : Nat) : 0 ≤ gt ns i ∧ gt ns i ≤ 8 := by
  unfold gt
  by_cases hi : i < ns.length
  · rw [List.getElem?_eq_getElem hi]
    exact h.b _ (List.getElem_mem hi)
  · rw [List.getElem?_eq_none (by omega)]
    exact ⟨by decide, by decide⟩
theorem pl_b {o : Op} (h : Good o) (t : Nat) : 0 ≤ pl o t ∧ pl o t ≤ 8 := by
  unfold pl
  split
  · omega
  · split
    · exact gt_b h.b _
    · exact gt_b h.t _
/-- all up to a tick -/
def Pc (o : Op) : Nat → Int
  | 0 => 0
  | t + 1 => Pc o t + pl o (t + 1)
theorem Pc_b {o : Op} (h : Good o) : ∀ t : Nat, 0 ≤ Pc o t ∧ Pc o t ≤ 8 * t
  | 0 => by simp [Pc]
  | t + 1 => by
    have h1 := Pc_b h t
    have h2 := pl_b h (t + 1)
    simp only [Pc]
    omega
theorem sum_take (ns : List Int) (t : Nat) : (ns.take (t + 1)).sum = (ns.take t).sum + gt ns t := by
  induction ns generalizing t with
  | nil => simp [gt]
  | cons n ns ih =>
    cases t with
    | zero => simp [gt]
    | succ t =>
      have := ih t
      simp only [List.take_succ_cons, List.sum_cons, this, gt, List.getElem?_cons_succ]
      omega
theorem Pc_lo (o : Op) : ∀ t : Nat, t ≤ o.1.length → Pc o t = (o.1.take t).sum
  | 0, _ => by simp [Pc]
  | t + 1, h => by
    rw [sum_take, Pc, Pc_lo o t (by omega)]
    unfold pl
    rw [if_neg (by omega), if_pos h]
    rfl
theorem Pc_hi (o : Op) (hn : 0 < o.2.length) : ∀ u : Nat, Pc o (o.1.length + u) = o.1.sum + ((u / o.2.length : Nat) : Int) * o.2.sum + (o.2.take (u % o.2.length)).sum
  | 0 => by
    rw [Nat.add_zero, Pc_lo o _ (Nat.le_refl _), List.take_length]
    simp
  | u + 1 => by
    have ih := Pc_hi o hn u
    rw [← Nat.add_assoc, Pc, ih]
    have e : pl o (o.1.length + u + 1) = gt o.2 (u % o.2.length) := by
      unfold pl
      rw [if_neg (by omega), if_neg (by omega)]
      congr 2
      omega
    rw [e]
    have hm := Nat.mod_lt u hn
    by_cases h : u % o.2.length + 1 = o.2.length
    · have h1 : (u + 1) % o.2.length = 0 := by
        rw [Nat.add_mod]
        by_cases h1 : o.2.length = 1
        · rw [h1]; omega
        · rw [Nat.mod_eq_of_lt (show 1 < o.2.length by omega), h, Nat.mod_self]
      have h2 : (u + 1) / o.2.length = u / o.2.length + 1 := by
        have a1 := Nat.div_add_mod u o.2.length
        have a2 := Nat.div_add_mod (u + 1) o.2.length
        rw [h1] at a2
        have : o.2.length * ((u + 1) / o.2.length) = o.2.length * (u / o.2.length + 1) := by
          rw [Nat.mul_add]; omega
        exact Nat.eq_of_mul_eq_mul_left hn this
      rw [h1, h2]
      have h3 : o.2.sum = (o.2.take (u % o.2.length)).sum + gt o.2 (u % o.2.length) := by
        rw [← sum_take, h, List.take_length]
      have h4 : ((u / o.2.length + 1 : Nat) : Int) * o.2.sum = ((u / o.2.length : Nat) : Int) * o.2.sum + o.2.sum := by
        push_cast
        rw [Int.add_mul, Int.one_mul]
      rw [h4]
      simp only [List.take_zero, List.sum_nil]
      omega
    · have h1 : (u + 1) % o.2.length = u % o.2.length + 1 := by
        rw [Nat.add_mod]
        have : 1 % o.2.length = 1 := Nat.mod_eq_of_lt (by omega)
        rw [this, Nat.mod_eq_of_lt (by omega)]
      have h2 : (u + 1) / o.2.length = u / o.2.length := by
        have a1 := Nat.div_add_mod u o.2.length
        have a2 := Nat.div_add_mod (u + 1) o.2.length
        rw [h1] at a2
        exact Nat.eq_of_mul_eq_mul_left hn (by omega)
      rw [h1, h2, sum_take]
      omega
/-! the defs -/
theorem gt_map {α : Type} (f : α → D) {xs : List α} {i : Nat} {x : α} (h : xs[i]? = some x) : (xs.map f)[i]? = some (f x) := by rw [List.getElem?_map, h]; rfl
/-- the opening from a post to its neighbour -/
def wayOp (R L : List Op) (a b : Int) : Op := if a < b then (R[a.toNat]?).getD ([], [0]) else (L[b.toNat]?).getD ([], [0])
def p_opening_of : Fn := fun ds k _ => ∃ R L a b, ds = [tmD R L, .tuple [.int a, .int b]] ∧ 0 ≤ a ∧ 0 ≤ b ∧ (b = a + 1 ∨ b = a - 1) ∧ a ≤ R.length ∧ b ≤ R.length ∧ L.length = R.length ∧ k (opD (wayOp R L a b))
def m_opening_of : Fn := fnD 2 4 (sSeq (sAsg (gT 2 (gsC (gN 2) (gsC (gN 3) gsN))) (eV 1))
  (sRet (eIf (tB (e2 gGt (eV 3) (eV 2))) (eIx (lT (eFld "Timing" ns_Timing 0 (eV 0))) (eV 2)) (eIx (lT (eFld "Timing" ns_Timing 1 (eV 0))) (eV 3)))))

theorem p_opening_of_ok {ds k kx} (h : p_opening_of ds k kx) : m_opening_of ds k kx := by
  obtain ⟨R, L, a, b, rfl, h0, h1, hab, ha, hb, hl, hk⟩ := h
  unfold m_opening_of tmD
  (try walk_at "pw")
  by_cases h : a < b
  · simp only [show (b > a) from h, decide_true]
    (try walk_at "pw")
    have hi : a.toNat < R.length := by omega
    refine ⟨_, atI_of a.toNat (by omega) (gt_map opD (List.getElem?_eq_getElem hi)), ?_⟩
    unfold wayOp at hk
    rw [if_pos h, List.getElem?_eq_getElem hi] at hk
    exact hk
  · simp only [show ¬ (b > a) from h, decide_false]
    (try walk_at "pw")
    have hi : b.toNat < L.length := by omega
    refine ⟨_, atI_of b.toNat (by omega) (gt_map opD (List.getElem?_eq_getElem hi)), ?_⟩
    unfold wayOp at hk
    rw [if_neg h, List.getElem?_eq_getElem hi] at hk
    exact hk
def p_places_in : Fn := fun ds k _ => ∃ (o : Op) (t : Nat), ds = [opD o, .int t] ∧ Good o ∧ t ≤ 1000000000 ∧ k (.int (pl o t))
def m_places_in : Fn := fnD 2 4 (sSeq (sAsg (gT 2 (gsC (gN 2) (gsC (gN 3) gsN))) (eV 0))
  (sSeq (sIf (tB (e2 (gEqS false) (eV 1) (eC (.int 0)))) (sRet (eC (.int 0))) sNx)
  (sSeq (sIf (tB (e2 gLe (eV 1) (eBi gLen (lT (eV 2))))) (sRet (eIx (lT (eV 2)) (e2 gMinus (eV 1) (eC (.int 1))))) sNx)
  (sRet (eIx (lT (eV 3)) (e2 gMod (e2 gMinus (e2 gMinus (eV 1) (eC (.int 1))) (eBi gLen (lT (eV 2)))) (eBi gLen (lT (eV 3)))))))))

theorem p_places_in_ok {ds k kx} (h : p_places_in ds k kx) : m_places_in ds k kx := by
  obtain ⟨o, t, rfl, hg, ht, hk⟩ := h
  unfold m_places_in opD nuD
  (try walk_at "pw")
  have := hg.n
  by_cases h1 : t = 0
  · subst h1
    exact hk
  · unfold pl at hk
    rw [if_neg h1] at hk
    simp only [show ¬ ((t : Int) = 0) by omega, decide_false, Bool.false_eq_true, if_false]
    by_cases h2 : t ≤ o.1.length
    · simp only [show ((t : Int) ≤ o.1.length) by omega, decide_true, if_true]
      rw [if_pos h2] at hk
      exact ⟨_, atI_of (t - 1) (by omega) (gt_at (by omega)), hk⟩
    · simp only [show ¬ ((t : Int) ≤ o.1.length) by omega, decide_false, Bool.false_eq_true, if_false]
      rw [if_neg h2] at hk
      refine ⟨by omega, _, atI_of ((t - 1 - o.1.length) % o.2.length) ?_ (gt_at (Nat.mod_lt _ this)), hk⟩
      have : (t : Int) - 1 - o.1.length = ((t - 1 - o.1.length : Nat) : Int) := by omega
      rw [this]
      omega
def p_carried_by : Fn := fun ds k _ => ∃ (o : Op) (t : Nat), ds = [opD o, .int t] ∧ Good o ∧ t ≤ 1000000000 ∧ k (.int (Pc o t))
def m_carried_by : Fn := fnD 2 6 (sSeq (sAsg (gT 2 (gsC (gN 2) (gsC (gN 3) gsN))) (eV 0))
  (sSeq (sIf (tB (e2 gLe (eV 1) (eBi gLen (lT (eV 2))))) (sRet (eBi gSum (lT (eSlT (lT (eV 2)) pN (pS (eV 1)))))) sNx)
  (sSeq (sAsg (gT 2 (gsC (gN 4) (gsC (gN 5) gsN))) (eBi gDivM (aC (e2 gMinus (eV 1) (eBi gLen (lT (eV 2)))) (aC (eBi gLen (lT (eV 3))) aN))))
  (sRet (e2 gAdd (e2 gAdd (eBi gSum (lT (eV 2))) (e2 gMul (eV 4) (eBi gSum (lT (eV 3))))) (eBi gSum (lT (eSlT (lT (eV 3)) pN (pS (eV 5))))))))))

theorem cutD_take {ds : List D} {n : Nat} : cutD ds none (some (n : Int)) = ds.take n := by
  unfold cutD HT.sIx
  have : ¬ ((n : Int) < 0) := by omega
  simp [this]
theorem p_carried_by_ok {ds k kx} (h : p_carried_by ds k kx) : m_carried_by ds k kx := by
  obtain ⟨o, t, rfl, hg, ht, hk⟩ := h
  unfold m_carried_by opD nuD
  (try walk_at "pw")
  have hn := hg.n
  by_cases h2 : t ≤ o.1.length
  · simp only [show ((t : Int) ≤ o.1.length) by omega, decide_true, if_true]
    rw [Pc_lo _ _ h2] at hk
    exact ⟨o.1.take t, by rw [cutD_take, List.map_take], hk⟩
  · simp only [show ¬ ((t : Int) ≤ o.1.length) by omega, decide_false, Bool.false_eq_true, if_false]
    obtain ⟨u, rfl⟩ : ∃ u, t = o.1.length + u := ⟨t - o.1.length, by omega⟩
    rw [Pc_hi o hn u] at hk
    have e1 : ((o.1.length + u : Nat) : Int) - o.1.length = (u : Int) := by omega
    rw [e1]
    have hs : 0 ≤ o.2.sum ∧ o.2.sum ≤ 320 := by
      have a1 := Pc_hi o hn o.2.length
      have a2 := Pc_b hg (o.1.length + o.2.length)
      have b1 := Pc_lo o o.1.length (Nat.le_refl _)
      have b2 := Pc_b hg o.1.length
      rw [List.take_length] at b1
      rw [Nat.div_self hn, Nat.mod_self] at a1
      simp at a1
      have l1 := hg.t.l
      have l2 := hg.b.l
      have hsum : ∀ (ns : List Int), (∀ n ∈ ns, 0 ≤ n ∧ n ≤ 8) → 0 ≤ ns.sum ∧ ns.sum ≤ 8 * ns.length := by
        intro ns
        induction ns with
        | nil => intro _; simp
        | cons n ns ih =>
          intro h
          have h1 := h n (.head _)
          have h2 := ih fun m hm => h m (.tail _ hm)
          simp only [List.sum_cons, List.length_cons]
          omega
      have := hsum o.2 hg.t.b
      omega
    refine ⟨⟨by omega, ?_⟩, o.1, rfl, o.2, rfl, .inr ⟨by omega, by omega⟩, o.2.take (u % o.2.length), ?_, ?_⟩
    · have := hg.t.l; omega
    · have : (u : Int) % o.2.length = ((u % o.2.length : Nat) : Int) := by omega
      rw [this, cutD_take, List.map_take]
    · have : (u : Int) / o.2.length = ((u / o.2.length : Nat) : Int) := by omega
      rw [this]
      exact hk
/-! ## checks that raise -/
def p_check_tick : Fn := fun ds k kx => ∃ d m, ds = [d, .int m] ∧ noDict d = true ∧ if inB d 0 m = true then k .none else kx ⟨"NoTick", []⟩
def m_check_tick : Fn := fnD 2 2 (sIf (tNt (tB (eCall p_is_within (aC (eV 0) (aC (eC (.int 0)) (aC (eV 1) aN)))))) (sRaise "NoTick") sNx)

theorem p_check_tick_ok {ds k kx} (h : p_check_tick ds k kx) : m_check_tick ds k kx := by
  obtain ⟨d, m, rfl, hd, hk⟩ := h
  unfold m_check_tick
  (try walk_at "pw")
  refine ⟨d, 0, m, rfl, hd, ?_⟩
  (try walk_at "pw")
  cases h : inB d 0 m <;> simp only [h] at hk <;> (try walk_at "pw") <;> exact hk
def okTm (R L : List Op) : Prop := R.length ≤ 23 ∧ L.length = R.length ∧ (∀ o ∈ R, Good o) ∧ ∀ o ∈ L, Good o
theorem wayOp_good {R L : List Op} (h : okTm R L) {a b : Int} (h0 : 0 ≤ a) (h1 : 0 ≤ b) (ha : a ≤ R.length) (hb : b ≤ R.length) (hab : b = a + 1 ∨ b = a - 1) : Good (wayOp R L a b) := by
  obtain ⟨_, hl, hR, hL⟩ := h
  unfold wayOp
  split
  · have : a.toNat < R.length := by omega
    rw [List.getElem?_eq_getElem this]
    exact hR _ (List.getElem_mem this)
  · have : b.toNat < L.length := by omega
    rw [List.getElem?_eq_getElem this]
    exact hL _ (List.getElem_mem this)
end PD

namespace PD
open PySem TH
open L2 (atI ixN)
local macro_rules | `(tactic| walk_at "pw") => `(tactic| simp (config := { decide := false }) only [fnD, iRg3, lRg3, gDivM, eLm, gCount, gIndex, eDc, cNil, cDisp, dispD, sNever, fnI, eV, eC, lO, lL, lT, eL, e2, e1, tB, gI, gIc, gAdd, gMinus, gMul, gDiv, gMod, gPow, gLt, gLe, gGt, gGe, gEq, gEqS, scD, gIs, isNon, eCh, gNeg, eNot, eAnd, eOr, tNt, tAn, tOr', eIf, lIf, aN, aC, eT, lD, eIx, pN, pS, lSl, eSlT, lCat, gCatT, lRep, gRepT, eIn, eBi, gLen, gSum, gAll, gAny, gTupl, eCall, eCallX, gInt, intD, gAbs, gMin, gMax, gLenS, eIs, eIs2, isK, isKs, kindD.eq_1, kindD.eq_2, kindD.eq_3, kindD.eq_4, kindD.eq_5, kindD.eq_6, kindD.eq_7, atI_0, atI_1, atI_2, atI_3, atI_4, nd_none, nd_bool, nd_int, nd_str, nd_list, nd_tuple, nd_dic, eFld, lSort, lSortF, iRg1, iRg2, iEn, iZp, gN, gsN, gsC, gT, tY, lLc, wipeD, slV, slO, slD, sNx, sBk, sCt, sSeq, sRet, sRetN, sEx, sIf, sSet, sAsg, sPar, sPar3, sAug, sFor, sMu, sMuS, sMuG, mDo, gApp, sExt, sIx, sTell, sRaise, sRaiseF, sFldO, putD, eRevT, lRev, lRg1, lRg2, eTRg1, eTRg2, gLtT, gCatS, lLc2, eGet, eInD, eGet2, dO, dV, sPut, eMeth, eIsC, eIsCD, row, rowsT,
  List.map_cons, List.map_nil, List.cons_append, List.nil_append, List.replicate_succ, List.replicate_zero, List.set_cons_zero, List.set_cons_succ, List.getElem?_cons_zero, List.getElem?_cons_succ, List.length_cons, List.length_nil, List.length_map, Nat.reduceAdd, Nat.reduceSub, Nat.reduceLeDiff, Nat.reduceEqDiff,
  and_assoc, Option.some.injEq, Sl.val.injEq, Sl.own.injEq, PyData.int.injEq, PyData.str.injEq, PyData.bool.injEq, PyData.tuple.injEq, PyData.list.injEq, List.cons.injEq, objD_iff, exists_eq_left', exists_eq_left, exists_eq, exists_eq', and_true, true_and, exists_and_left, exists_and_right, eAlt, lOr, false_or, or_false, false_and, and_false, exists_false, if_true, if_false, Bool.false_eq_true, Bool.true_eq_false, Bool.not_true, Bool.not_false, Bool.or_true, Bool.or_false, Bool.true_or, Bool.false_or, Bool.and_true, Bool.true_and, Bool.and_false, Bool.false_and, decide_true, decide_false, bne_self_eq_false, Bool.bne_false, Bool.bne_true, reduceCtorEq, String.reduceEq])

theorem rep_one {x : D} (n : Nat) : repD (n : Int) [x] = List.replicate n x := by
  unfold repD
  have : (n : Int).toNat = n := by omega
  rw [this]
  induction n with
  | zero => rfl
  | succ n ih => simp only [List.replicate_succ, List.flatten_cons, List.cons_append, List.nil_append, ih (by omega)]
/-! ## the program's checks -/
def p_check_number : Fn := fun ds k kx => ∃ d lo hi, ds = [d, .int lo, .int hi] ∧ noDict d = true ∧ if inB d lo hi = true then k .none else kx ⟨"NoNumber", []⟩
def m_check_number : Fn := fnD 3 3 (sIf (tNt (tB (eCall p_is_within (aC (eV 0) (aC (eV 1) (aC (eV 2) aN)))))) (sRaise "NoNumber") sNx)

theorem p_check_number_ok {ds k kx} (h : p_check_number ds k kx) : m_check_number ds k kx := by
  obtain ⟨d, lo, hi, rfl, hd, hk⟩ := h
  unfold m_check_number
  (try walk_at "pw")
  refine ⟨d, lo, hi, rfl, hd, ?_⟩
  (try walk_at "pw")
  cases h : inB d lo hi <;> simp only [h] at hk <;> (try walk_at "pw") <;> exact hk
/-- what is told of good openings -/
theorem nums_of {ns : List Int} (h : GoodN ns) : isNums (nuD ns) = true := by
  unfold isNums nuD
  simp only [List.length_map, Bool.and_eq_true, decide_eq_true_eq, List.all_eq_true, List.mem_map]
  refine ⟨h.l, ?_⟩
  rintro x ⟨n, hn, rfl⟩
  have := h.b n hn
  simp [inB, this]
theorem open_of {o : Op} (h : Good o) : isOpen (opD o) = true := by
  show (isNums (nuD o.1) && (isNums (nuD o.2) && someT (nuD o.2))) = true
  rw [nums_of h.b, nums_of h.t]
  have := h.n
  unfold nuD
  rcases h2 : o.2 with _ | ⟨x, xs⟩
  · rw [h2] at this; simp at this
  · rfl
theorem ops_of {R : List Op} (hl : R.length ≤ 23) (h : ∀ o ∈ R, Good o) : areOps (.tuple (R.map opD)) = true := by
  unfold areOps
  simp only [List.length_map, Bool.and_eq_true, decide_eq_true_eq, List.all_eq_true, List.mem_map]
  refine ⟨hl, ?_⟩
  rintro x ⟨o, ho, rfl⟩
  exact open_of (h o ho)
theorem nums_is {d : D} (h : isNums d = true) : ∃ ns, d = nuD ns ∧ GoodN ns := by
  cases d <;> simp [isNums] at h
  rename_i xs
  obtain ⟨hl, hx⟩ := h
  have : ∀ xs : List D, (∀ x ∈ xs, inB x 0 8 = true) → ∃ ns : List Int, xs = ns.map .int ∧ ∀ n ∈ ns, 0 ≤ n ∧ n ≤ 8 := by
    intro xs
    induction xs with
    | nil => exact fun _ => ⟨[], rfl, fun _ z => nomatch z⟩
    | cons x xs ih =>
      intro h
      obtain ⟨ns, rfl, hn⟩ := ih fun y hy => h y (.tail _ hy)
      obtain ⟨i, rfl, h0, h1⟩ := inB_iff.mp (h x (.head _))
      refine ⟨i :: ns, rfl, fun n hm => ?_⟩
      rcases List.mem_cons.mp hm with rfl | hm
      · exact ⟨h0, h1⟩
      · exact hn n hm
  obtain ⟨ns, rfl, hn⟩ := this xs hx
  exact ⟨ns, rfl, ⟨by simpa using hl, hn⟩⟩
theorem open_is {d : D} (h : isOpen d = true) : ∃ o, d = opD o ∧ Good o := by
  rcases pair_or d with ⟨a, b, rfl⟩ | ⟨_, h2⟩
  · simp only [isOpen, Bool.and_eq_true] at h
    obtain ⟨h1, h2, h3⟩ := h
    obtain ⟨n, rfl, hn⟩ := nums_is h1
    obtain ⟨m, rfl, hm⟩ := nums_is h2
    refine ⟨(n, m), rfl, ⟨hn, hm, ?_⟩⟩
    rcases m with _ | ⟨x, xs⟩
    · cases h3
    · simp
  · rw [h2] at h; cases h
theorem ops_is {d : D} (h : areOps d = true) : ∃ R : List Op, d = .tuple (R.map opD) ∧ R.length ≤ 23 ∧ ∀ o ∈ R, Good o := by
  obtain ⟨xs, rfl, hl, hx⟩ := ops_tup h
  have : ∀ xs : List D, (∀ x ∈ xs, isOpen x = true) → ∃ R : List Op, xs = R.map opD ∧ ∀ o ∈ R, Good o := by
    intro xs
    induction xs with
    | nil => exact fun _ => ⟨[], rfl, fun _ z => nomatch z⟩
    | cons x xs ih =>
      intro h
      obtain ⟨R, rfl, hn⟩ := ih fun y hy => h y (.tail _ hy)
      obtain ⟨o, rfl, ho⟩ := open_is (h x (.head _))
      refine ⟨o :: R, rfl, fun n hm => ?_⟩
      rcases List.mem_cons.mp hm with rfl | hm
      · exact ho
      · exact hn n hm
  obtain ⟨R, rfl, hR⟩ := this xs hx
  exact ⟨R, rfl, by simpa using hl, hR⟩
theorem thing_tup {xs : List D} (hl : xs.length ≤ 1000) (h : ∀ x ∈ xs, noDict x = true) : thingOk (.tuple xs) := ⟨rfl, fun ys e => by injection e with e; subst e; exact ⟨hl, h⟩⟩
theorem thing2_tup {xs : List D} (hl : xs.length ≤ 1000) (h : ∀ x ∈ xs, thingOk x) : thing2 (.tuple xs) := ⟨rfl, fun ys e => by injection e with e; subst e; exact ⟨hl, h⟩⟩
theorem thing3_tup {xs : List D} (hl : xs.length ≤ 1000) (h : ∀ x ∈ xs, thing2 x) : thing3 (.tuple xs) := ⟨rfl, fun ys e => by injection e with e; subst e; exact ⟨hl, h⟩⟩
theorem nu_thing {ns : List Int} (h : ns.length ≤ 1000) : thingOk (nuD ns) := thing_tup (by simpa using h) fun x hx => by
  obtain ⟨n, _, rfl⟩ := List.mem_map.mp hx
  rfl
theorem op_thing {o : Op} (h : Good o) : thing2 (opD o) := thing2_tup (by simp) fun x hx => by
  have h1 := h.b.l
  have h2 := h.t.l
  simp only [List.mem_cons, List.not_mem_nil, or_false] at hx
  rcases hx with rfl | rfl
  · exact nu_thing (by omega)
  · exact nu_thing (by omega)
theorem ops_thing {R : List Op} (hl : R.length ≤ 23) (h : ∀ o ∈ R, Good o) : thing3 (.tuple (R.map opD)) := thing3_tup (by simp; omega) fun x hx => by
  obtain ⟨o, ho, rfl⟩ := List.mem_map.mp hx
  exact op_thing (h o ho)
theorem init_good {R L : List Op} {k : D → Prop} {kx : XD → Prop} (h : okTm R L) (hk : k (tmD R L)) : p_Timing_init [.tuple (R.map opD), .tuple (L.map opD)] k kx := by
  obtain ⟨h1, h2, h3, h4⟩ := h
  refine ⟨_, _, rfl, ops_thing h1 h3, ops_thing (by omega) h4, ?_⟩
  rw [if_pos (ops_of h1 h3), if_pos ⟨ops_of (by omega) h4, by simp [alike, h2]⟩]
  exact hk
/-- a way there -/
def nbr : D → D → Bool
  | .int i, .int j => decide (j = i + 1 ∨ j = i - 1)
  | _, _ => false
def wayOk (n : Nat) : D → Bool
  | .tuple [a, b] => inB a 0 n && (inB b 0 n && nbr a b)
  | _ => false
def p_check_way : Fn := fun ds k kx => ∃ R L d, ds = [tmD R L, d] ∧ thingOk d ∧ if wayOk R.length d = true then k .none else kx ⟨"NoWay", []⟩
def m_check_way : Fn := fnD 2 4 (sSeq (sSet 2 (slV (e2 gAdd (eBi gLen (lT (eFld "Timing" ns_Timing 0 (eV 0)))) (eC (.int 1)))))
  (sIf (tOr' (tNt (tB (eCall p_is_pair (aC (eV 1) aN)))) (tOr' (tNt (tB (eBi gAll (lLc (lT (eV 1)) (gN 3) tY (eCall p_is_within (aC (eV 3) (aC (eC (.int 0)) (aC (e2 gMinus (eV 2) (eC (.int 1))) aN)))) [3])))) (tB (e2 (gEqS true) (eBi gAbs (aC (e2 gMinus (eIx (lT (eV 1)) (eC (.int 0))) (eIx (lT (eV 1)) (eC (.int 1)))) aN)) (eC (.int 1)))))) (sRaise "NoWay") sNx))

theorem way_or (n : Nat) (d : D) : (∃ a b, d = .tuple [a, b]) ∨ (isPair d = false ∧ wayOk n d = false) := by
  cases d <;> try exact .inr ⟨rfl, rfl⟩
  rename_i xs
  rcases xs with _ | ⟨a, _ | ⟨b, _ | ⟨c, xs⟩⟩⟩
  · exact .inr ⟨rfl, rfl⟩
  · exact .inr ⟨rfl, rfl⟩
  · exact .inl ⟨a, b, rfl⟩
  · exact .inr ⟨by simp [isPair], rfl⟩
theorem p_check_way_ok {ds k kx} (h : p_check_way ds k kx) : m_check_way ds k kx := by
  obtain ⟨R, L, d, rfl, hd, hk⟩ := h
  unfold m_check_way tmD
  (try walk_at "pw")
  refine ⟨d, rfl, hd.1, ?_⟩
  have er : ((R.length : Int) + 1) - 1 = R.length := by omega
  rcases way_or R.length d with ⟨a, b, rfl⟩ | ⟨h1, h2⟩
  · obtain ⟨_, hx⟩ := hd.2 _ rfl
    rw [show isPair (PyData.tuple [a, b]) = true from rfl]
    (try walk_at "pw")
    refine lc_mapI (fun y => .bool (inB y 0 R.length)) (fun y hy k1 k0 h1 => ?_) ?_
    · unfold lcB p_is_within
      (try walk_at "pw")
      rw [er]
      exact ⟨hx y hy, h1⟩
    refine ⟨[inB a 0 R.length, inB b 0 R.length], rfl, ?_⟩
    simp only [wayOk] at hk
    cases h1 : inB a 0 R.length <;> simp only [h1] at hk <;> simp only [List.all_cons, List.all_nil, id_eq] <;> (try walk_at "pw")
    · exact hk
    cases h2 : inB b 0 R.length <;> simp only [h2] at hk <;> (try walk_at "pw")
    · exact hk
    obtain ⟨i, rfl, _, _⟩ := inB_iff.mp h1
    obtain ⟨j, rfl, _, _⟩ := inB_iff.mp h2
    (try walk_at "pw")
    simp only [nbr, decide_eq_true_eq, Bool.true_and, Bool.and_true] at hk
    by_cases h3 : j = i + 1 ∨ j = i - 1
    · rw [if_pos h3] at hk
      rw [decide_eq_true (by split <;> omega)]
      exact hk
    · rw [if_neg h3] at hk
      rw [decide_eq_false (by split <;> omega)]
      exact hk
  · rw [h1]
    rw [h2] at hk
    (try walk_at "pw")
    exact hk
theorem way_is {n : Nat} {w : D} (h : wayOk n w = true) : ∃ a b : Int, w = .tuple [.int a, .int b] ∧ 0 ≤ a ∧ a ≤ n ∧ 0 ≤ b ∧ b ≤ n ∧ (b = a + 1 ∨ b = a - 1) := by
  rcases way_or n w with ⟨a, b, rfl⟩ | ⟨_, h2⟩
  · simp only [wayOk, Bool.and_eq_true] at h
    obtain ⟨h1, h2, h3⟩ := h
    obtain ⟨i, rfl, a1, a2⟩ := inB_iff.mp h1
    obtain ⟨j, rfl, b1, b2⟩ := inB_iff.mp h2
    simp only [nbr, decide_eq_true_eq] at h3
    exact ⟨i, j, rfl, a1, a2, b1, b2, h3⟩
  · rw [h2] at h; cases h
def ip : D → Int
  | .int i => i
  | _ => 0
def wA : D → Int
  | .tuple (a :: _) => ip a
  | _ => 0
def wB : D → Int
  | .tuple (_ :: b :: _) => ip b
  | _ => 0
def chk (n : Nat) (w t : D) (P : Prop) (kx : XD → Prop) : Prop := if wayOk n w = true then (if inB t 0 1000000000 = true then P else kx ⟨"NoTick", []⟩) else kx ⟨"NoWay", []⟩
def p_places : Fn := fun ds k kx => ∃ R L w t, ds = [tmD R L, w, t] ∧ okTm R L ∧ thingOk w ∧ noDict t = true ∧ chk R.length w t (k (.int (pl (wayOp R L (wA w) (wB w)) (ip t).toNat))) kx
def m_places : Fn := fnD 3 3 (sSeq (sEx (eCallX p_check_way (aC (eV 0) (aC (eV 1) aN))))
  (sSeq (sEx (eCallX p_check_tick (aC (eV 2) (aC (eC (.int (1000000000))) aN))))
  (sRet (eCall p_places_in (aC (eCall p_opening_of (aC (eV 0) (aC (eV 1) aN))) (aC (eV 2) aN))))))

theorem p_places_ok {ds k kx} (h : p_places ds k kx) : m_places ds k kx := by
  obtain ⟨R, L, w, t, rfl, hg, hw, ht, hk⟩ := h
  unfold m_places
  (try walk_at "pw")
  refine ⟨R, L, w, rfl, hw, ?_⟩
  unfold chk at hk
  by_cases h1 : wayOk R.length w = true
  · rw [if_pos h1] at hk ⊢
    refine ⟨t, _, rfl, ht, ?_⟩
    by_cases h2 : inB t 0 1000000000 = true
    · rw [if_pos h2] at hk ⊢
      obtain ⟨a, b, rfl, a0, a1, b0, b1, hab⟩ := way_is h1
      obtain ⟨u, rfl, u0, u1⟩ := inB_iff.mp h2
      refine ⟨R, L, a, b, rfl, a0, b0, hab, a1, b1, hg.2.1, ?_⟩
      refine ⟨_, u.toNat, by rw [Int.toNat_of_nonneg u0], wayOp_good hg a0 b0 a1 b1 hab, by omega, hk⟩
    · rw [if_neg h2] at hk ⊢
      exact hk
  · rw [if_neg h1] at hk ⊢
    exact hk
def p_carried : Fn := fun ds k kx => ∃ R L w t, ds = [tmD R L, w, t] ∧ okTm R L ∧ thingOk w ∧ noDict t = true ∧ chk R.length w t (k (.int (Pc (wayOp R L (wA w) (wB w)) (ip t).toNat))) kx
def m_carried : Fn := fnD 3 3 (sSeq (sEx (eCallX p_check_way (aC (eV 0) (aC (eV 1) aN))))
  (sSeq (sEx (eCallX p_check_tick (aC (eV 2) (aC (eC (.int (1000000000))) aN))))
  (sRet (eCall p_carried_by (aC (eCall p_opening_of (aC (eV 0) (aC (eV 1) aN))) (aC (eV 2) aN))))))

theorem p_carried_ok {ds k kx} (h : p_carried ds k kx) : m_carried ds k kx := by
  obtain ⟨R, L, w, t, rfl, hg, hw, ht, hk⟩ := h
  unfold m_carried
  (try walk_at "pw")
  refine ⟨R, L, w, rfl, hw, ?_⟩
  unfold chk at hk
  by_cases h1 : wayOk R.length w = true
  · rw [if_pos h1] at hk ⊢
    refine ⟨t, _, rfl, ht, ?_⟩
    by_cases h2 : inB t 0 1000000000 = true
    · rw [if_pos h2] at hk ⊢
      obtain ⟨a, b, rfl, a0, a1, b0, b1, hab⟩ := way_is h1
      obtain ⟨u, rfl, u0, u1⟩ := inB_iff.mp h2
      refine ⟨R, L, a, b, rfl, a0, b0, hab, a1, b1, hg.2.1, ?_⟩
      refine ⟨_, u.toNat, by rw [Int.toNat_of_nonneg u0], wayOp_good hg a0 b0 a1 b1 hab, by omega, hk⟩
    · rw [if_neg h2] at hk ⊢
      exact hk
  · rw [if_neg h1] at hk ⊢
    exact hk
/-! even timings -/
def evO (b : Int) : Op := ([], [b])
theorem evO_good {b : Int} (h0 : 1 ≤ b) (h1 : b ≤ 8) : Good (evO b) := ⟨⟨by simp [evO], fun n h => by simp [evO] at h⟩, ⟨by simp [evO], fun n h => by simp [evO] at h; omega⟩, by simp [evO]⟩
def evT (n : Nat) (b : Int) : D := tmD (List.replicate n (evO b)) (List.replicate n (evO b))
theorem ev_ok {n : Nat} {b : Int} (hn : n ≤ 23) (h0 : 1 ≤ b) (h1 : b ≤ 8) : okTm (List.replicate n (evO b)) (List.replicate n (evO b)) := ⟨by simpa using hn, rfl, fun o h => by rw [(List.mem_replicate.mp h).2]; exact evO_good h0 h1, fun o h => by rw [(List.mem_replicate.mp h).2]; exact evO_good h0 h1⟩
def p_evenly : Fn := fun ds k _ => ∃ (n : Nat) (b : Int), ds = [.int n, .int b] ∧ n ≤ 23 ∧ 1 ≤ b ∧ b ≤ 8 ∧ k (evT n b)
def m_evenly : Fn := fnD 2 2 (sRet (eCallX p_Timing_init (aC (e2 gRepT (eT (aC (eT (aC (eT aN) (aC (eT (aC (eV 1) aN)) aN))) aN)) (eV 0)) (aC (e2 gRepT (eT (aC (eT (aC (eT aN) (aC (eT (aC (eV 1) aN)) aN))) aN)) (eV 0)) aN))))

theorem p_evenly_ok {ds k kx} (h : p_evenly ds k kx) : m_evenly ds k kx := by
  obtain ⟨n, b, rfl, hn, h0, h1, hk⟩ := h
  unfold m_evenly
  (try walk_at "pw")
  have e : List.replicate n (PyData.tuple [.tuple [], .tuple [.int b]]) = (List.replicate n (evO b)).map opD := by simp [List.map_replicate, opD, evO, nuD]
  rw [rep_one, e]
  exact ⟨by simp, by omega, by omega, by simp, by omega, by omega, init_good (ev_ok hn h0 h1) hk⟩
def p_even_timing : Fn := fun ds k kx => ∃ a b, ds = [a, b] ∧ noDict a = true ∧ noDict b = true ∧ if inB a 0 23 = true ∧ inB b 1 8 = true then k (evT (ip a).toNat (ip b)) else kx ⟨"NoNumber", []⟩
def m_even_timing : Fn := fnD 2 2 (sSeq (sEx (eCallX p_check_number (aC (eV 0) (aC (eC (.int 0)) (aC (eC (.int (23))) aN)))))
  (sSeq (sEx (eCallX p_check_number (aC (eV 1) (aC (eC (.int 1)) (aC (eC (.int (8))) aN)))))
  (sRet (eCallX p_evenly (aC (eV 0) (aC (eV 1) aN))))))

theorem p_even_timing_ok {ds k kx} (h : p_even_timing ds k kx) : m_even_timing ds k kx := by
  obtain ⟨a, b, rfl, ha, hb, hk⟩ := h
  unfold m_even_timing
  (try walk_at "pw")
  refine ⟨a, 0, 23, rfl, ha, ?_⟩
  by_cases h1 : inB a 0 23 = true
  · rw [if_pos h1]
    refine ⟨b, 1, 8, rfl, hb, ?_⟩
    by_cases h2 : inB b 1 8 = true
    · rw [if_pos h2]
      rw [if_pos ⟨h1, h2⟩] at hk
      obtain ⟨i, rfl, i0, i1⟩ := inB_iff.mp h1
      obtain ⟨j, rfl, j0, j1⟩ := inB_iff.mp h2
      exact ⟨i.toNat, j, by rw [Int.toNat_of_nonneg i0], by omega, j0, j1, hk⟩
    · rw [if_neg h2]
      rw [if_neg fun z => h2 z.2] at hk
      exact hk
  · rw [if_neg h1]
    rw [if_neg fun z => h1 z.1] at hk
    exact hk
end PD

namespace PD
open PySem TH
open L2 (atI ixN)
local macro_rules | `(tactic| walk_at "pw") => `(tactic| simp (config := { decide := false }) only [fnD, iRg3, lRg3, gDivM, eLm, gCount, gIndex, eDc, cNil, cDisp, dispD, sNever, fnI, eV, eC, lO, lL, lT, eL, e2, e1, tB, gI, gIc, gAdd, gMinus, gMul, gDiv, gMod, gPow, gLt, gLe, gGt, gGe, gEq, gEqS, scD, gIs, isNon, eCh, gNeg, eNot, eAnd, eOr, tNt, tAn, tOr', eIf, lIf, aN, aC, eT, lD, eIx, pN, pS, lSl, eSlT, lCat, gCatT, lRep, gRepT, eIn, eBi, gLen, gSum, gAll, gAny, gTupl, eCall, eCallX, gInt, intD, gAbs, gMin, gMax, gLenS, eIs, eIs2, isK, isKs, kindD.eq_1, kindD.eq_2, kindD.eq_3, kindD.eq_4, kindD.eq_5, kindD.eq_6, kindD.eq_7, atI_0, atI_1, atI_2, atI_3, atI_4, nd_none, nd_bool, nd_int, nd_str, nd_list, nd_tuple, nd_dic, eFld, lSort, lSortF, iRg1, iRg2, iEn, iZp, gN, gsN, gsC, gT, tY, lLc, wipeD, slV, slO, slD, sNx, sBk, sCt, sSeq, sRet, sRetN, sEx, sIf, sSet, sAsg, sPar, sPar3, sAug, sFor, sMu, sMuS, sMuG, mDo, gApp, sExt, sIx, sTell, sRaise, sRaiseF, sFldO, putD, eRevT, lRev, lRg1, lRg2, eTRg1, eTRg2, gLtT, gCatS, lLc2, eGet, eInD, eGet2, dO, dV, sPut, eMeth, eIsC, eIsCD, row, rowsT,
  List.map_cons, List.map_nil, List.cons_append, List.nil_append, List.replicate_succ, List.replicate_zero, List.set_cons_zero, List.set_cons_succ, List.getElem?_cons_zero, List.getElem?_cons_succ, List.length_cons, List.length_nil, List.length_map, Nat.reduceAdd, Nat.reduceSub, Nat.reduceLeDiff, Nat.reduceEqDiff,
  and_assoc, Option.some.injEq, Sl.val.injEq, Sl.own.injEq, PyData.int.injEq, PyData.str.injEq, PyData.bool.injEq, PyData.tuple.injEq, PyData.list.injEq, List.cons.injEq, objD_iff, exists_eq_left', exists_eq_left, exists_eq, exists_eq', and_true, true_and, exists_and_left, exists_and_right, eAlt, lOr, false_or, or_false, false_and, and_false, exists_false, if_true, if_false, Bool.false_eq_true, Bool.true_eq_false, Bool.not_true, Bool.not_false, Bool.or_true, Bool.or_false, Bool.true_or, Bool.false_or, Bool.and_true, Bool.true_and, Bool.and_false, Bool.false_and, decide_true, decide_false, bne_self_eq_false, Bool.bne_false, Bool.bne_true, reduceCtorEq, String.reduceEq])

def p_law_draw : Fn := fun ds k _ => ∃ m : Int, ds = [handD, .int m] ∧ 0 < m ∧ m ≤ 1000000000 ∧ ∀ r : Nat, (r : Int) < m → k (.int r)
def p_law_hand : Fn := fun ds k _ => ∃ ns : List Int, ds = [scrD ns] ∧ k handD
def p_law_whole : Fn := fun ds k _ => ∃ d lo hi, ds = [d, .int lo, .int hi] ∧ noDict d = true ∧ k (.bool (inB d lo hi))
def m_law_whole : Fn := fnD 3 3 (sRet (eAnd (eIs "int" (eV 0)) (eAnd (eNot (eIs "bool" (eV 0))) (eCh gLe gLe (eV 1) (eV 0) (eV 2)))))

theorem p_law_whole_ok {ds k kx} (h : p_law_whole ds k kx) : m_law_whole ds k kx := by
  obtain ⟨d, lo, hi, rfl, hd, hk⟩ := h
  unfold m_law_whole
  cases d <;> (try walk_at "pw") <;> try first | exact hk | exact ⟨hd, hk⟩
  rename_i i
  simp only [inB] at hk
  by_cases h1 : lo ≤ i <;> simp [h1] at hk ⊢ <;> exact hk
theorem thing_nd {d : D} (h : thingOk d) : noDict d = true := h.1
theorem thing_t1 {d : D} (h : noDict d = true) : thingOk (.tuple [d]) := ⟨rfl, fun xs e => by
  injection e with e
  subst e
  refine ⟨by simp, fun x hx => ?_⟩
  have : x = d := by simpa using hx
  rw [this]
  exact h⟩
theorem thing_nt {d : D} (h : noDict d = true) (hn : ∀ xs, d ≠ .tuple xs) : thingOk d := ⟨h, fun xs e => absurd e (hn xs)⟩
/-- one of what is listed -/
theorem at_all {ds : List D} {P : D → Prop} {r : Nat} (hr : r < ds.length) (h : ∀ d ∈ ds, P d) : ∃ x, atI ds (r : Int) = some x ∧ P x := ⟨_, atI_of r rfl (List.getElem?_eq_getElem hr), h _ (List.getElem_mem hr)⟩
def p_law_deep : Fn := fun ds k _ => ds = [handD] ∧ ∀ d, thingOk d → k d
def m_law_deep : Fn := fnD 1 3 (sSeq (sSet 1 (slV (eIx (lD (aC (eC .none) (aC (eC (.str "a")) (aC (e1 gNeg (eC (.int 1))) (aC (eDc false cNil) aN))))) (eCall p_law_draw (aC (eV 0) (aC (eC (.int 4)) aN))))))
  (sSeq (sFor (iRg1 (aC (e2 gAdd (eC (.int 1)) (eCall p_law_draw (aC (eV 0) (aC (eC (.int 30)) aN)))) aN)) (gN 2) (sSet 1 (slV (eIx (lD (aC (eT (aC (eV 1) aN)) (aC (eL (lD (aC (eV 1) aN))) (aC (eSlT (lT (eT (aC (eV 1) (aC (eV 1) aN)))) pN (pS (eC (.int 1)))) (aC (eDc false (cDisp [((eC (.int 0)), (eV 1))])) aN))))) (eCall p_law_draw (aC (eV 0) (aC (eC (.int 4)) aN)))))))
  (sRet (eV 1))))

theorem p_law_deep_ok {ds k kx} (h : p_law_deep ds k kx) : m_law_deep ds k kx := by
  obtain ⟨rfl, hk⟩ := h
  unfold m_law_deep
  (try walk_at "pw")
  refine ⟨4, rfl, by omega, by omega, fun r hr => ?_⟩
  (try walk_at "pw")
  refine (at_all (P := thingOk) (by simp; omega) ?_).imp fun x hx => ⟨hx.1, ?_⟩
  · intro d hd
    simp at hd
    rcases hd with rfl | rfl | rfl | rfl <;> exact thing_nt rfl (fun _ z => nomatch z)
  have hx := hx.2
  refine ⟨30, rfl, by omega, by omega, fun r2 hr2 => ?_⟩
  (try walk_at "pw")
  (try walk_at "pw")
  refine ⟨by omega, by omega, ?_⟩
  rw [rngD_map]
  refine for_inv (fun i : Nat => .int (0 + (i : Nat))) (fun i δ => ∃ x s2, thingOk x ∧ δ = [.val handD, .val x, s2]) ⟨_, _, hx, rfl⟩ (fun i y δ hj hI N hN => ?_) (fun δ hI => ?_)
  · obtain ⟨x, s2, hx, rfl⟩ := hI
    (try walk_at "pw")
    refine ⟨rfl, 4, rfl, by omega, by omega, fun r3 hr3 => ?_⟩
    (try walk_at "pw")
    refine (at_all (P := thingOk) (by simp; omega) ?_).imp fun x hx => ⟨hx.1, hN _ ⟨_, _, hx.2, rfl⟩⟩
    intro d hd
    simp at hd
    have hnd := thing_nd hx
    rcases hd with rfl | rfl | rfl | rfl
    · exact thing_t1 hnd
    · exact thing_nt rfl (fun _ z => nomatch z)
    · have := cutD_take (ds := [x, x]) (n := 1)
      have e : cutD [x, x] none (some 1) = [x] := this
      rw [e]
      exact thing_t1 hnd
    · exact thing_nt rfl (fun _ z => nomatch z)
  · obtain ⟨x, s2, hx, rfl⟩ := hI
    (try walk_at "pw")
    exact hk _ hx
theorem drw {m : Int} {k : D → Prop} {kx : XD → Prop} (h : ∀ r : Nat, (r : Int) < m → k (.int r)) (h0 : 0 < m := by omega) (h1 : m ≤ 1000000000 := by omega) : p_law_draw [handD, .int m] k kx := ⟨m, rfl, h0, h1, h⟩
/-- numbers drawn -/
theorem each_nat {m : Nat} {α : Type} {ys : List α} {ds : List D} (h : Each (fun _ d => ∃ r : Nat, r < m ∧ d = .int (r : Nat)) ys ds) : ∃ ns : List Int, ds = ns.map .int ∧ ns.length = ys.length ∧ ∀ n ∈ ns, 0 ≤ n ∧ n < m := by
  induction h with
  | nil => exact ⟨[], rfl, rfl, fun _ h => nomatch h⟩
  | cons h _ ih =>
    obtain ⟨r, hr, rfl⟩ := h
    obtain ⟨ns, rfl, hl, hn⟩ := ih
    refine ⟨(r : Int) :: ns, rfl, by simp [hl], fun n hm => ?_⟩
    rcases List.mem_cons.mp hm with rfl | hm
    · omega
    · exact hn n hm
theorem goodN {ns : List Int} {m k : Nat} (hl : ns.length ≤ m) (hm : m ≤ 40) (h : ∀ n ∈ ns, 0 ≤ n ∧ n < k) (hk : k ≤ 9) : GoodN ns := ⟨by omega, fun n hn => by have := h n hn; omega⟩
def p_law_opening : Fn := fun ds k _ => ds = [handD] ∧ ∀ o, Good o → k (opD o)
def m_law_opening : Fn := fnD 1 4 (sSeq (sIf (tB (e2 (gEqS false) (eCall p_law_draw (aC (eV 0) (aC (eC (.int 8)) aN))) (eC (.int 0)))) (sSeq (sSet 1 (slV (eBi gTupl (lLc (iRg1 (aC (eCall p_law_draw (aC (eV 0) (aC (eC (.int 9)) aN))) aN)) (gN 3) tY (eCall p_law_draw (aC (eV 0) (aC (eC (.int 9)) aN))) [3]))))
  (sRet (eT (aC (eV 1) (aC (eBi gTupl (lLc (iRg1 (aC (e2 gAdd (eC (.int 1)) (eCall p_law_draw (aC (eV 0) (aC (eC (.int 9)) aN)))) aN)) (gN 3) tY (eCall p_law_draw (aC (eV 0) (aC (eC (.int 9)) aN))) [3])) aN))))) sNx)
  (sSeq (sSet 1 (slV (eBi gTupl (lLc (iRg1 (aC (eCall p_law_draw (aC (eV 0) (aC (eC (.int 4)) aN))) aN)) (gN 3) tY (eCall p_law_draw (aC (eV 0) (aC (eC (.int 3)) aN))) [3]))))
  (sSeq (sSet 2 (slV (eCall p_law_draw (aC (eV 0) (aC (eC (.int 6)) aN)))))
  (sSeq (sIf (tB (e2 (gEqS false) (eV 2) (eC (.int 0)))) (sRet (eT (aC (e2 gCatT (e2 gRepT (eT (aC (eC (.int 0)) aN)) (eCall p_law_draw (aC (eV 0) (aC (eC (.int 6)) aN)))) (eV 1)) (aC (eT (aC (eC (.int 0)) aN)) aN)))) sNx)
  (sSeq (sIf (tB (e2 gLt (eV 2) (eC (.int 3)))) (sRet (eT (aC (eV 1) (aC (eT (aC (eC (.int 1)) aN)) aN)))) sNx)
  (sRet (eT (aC (eV 1) (aC (eBi gTupl (lLc (iRg1 (aC (e2 gAdd (eC (.int 1)) (eCall p_law_draw (aC (eV 0) (aC (eC (.int 3)) aN)))) aN)) (gN 3) tY (eCall p_law_draw (aC (eV 0) (aC (eC (.int 3)) aN))) [3])) aN)))))))))

theorem p_law_opening_ok {ds k kx} (h : p_law_opening ds k kx) : m_law_opening ds k kx := by
  obtain ⟨rfl, hk⟩ := h
  have hk' : ∀ a b : List Int, GoodN a → GoodN b → 0 < b.length → k (.tuple [.tuple (a.map .int), .tuple (b.map .int)]) := fun a b h1 h2 h3 => hk (a, b) ⟨h1, h2, h3⟩
  clear hk
  unfold m_law_opening
  (try walk_at "pw")
  have draws : ∀ (m n : Nat) (i : Nat) (δ : List Sl) (kk : List D → Prop), δ[0]? = some (.val handD) → i ≠ 0 → 0 < m → m ≤ 9 → i < δ.length → (∀ ns : List Int, ns.length = n → (∀ x ∈ ns, 0 ≤ x ∧ x < m) → kk (ns.map .int)) → lcD (gN i) tY (eCall p_law_draw (aC (eV 0) (aC (eC (.int m)) aN))) δ (rngD 0 n) [] kk := by
    intro m n i δ kk h0 hi hm hm9 hl h
    rw [rngD_map]
    refine lc_wrd _ (fun _ d => ∃ r : Nat, r < m ∧ d = .int (r : Nat)) (fun y hy k1 k0 h1 => ?_) (fun ds hd => ?_)
    · unfold lcB
      simp only [gN, tY, if_true, eCall, aC, eV, eC, aN]
      refine ⟨handD, by rw [List.getElem?_set_ne hi]; exact h0, m, rfl, by omega, by omega, fun r hr => h1 _ ⟨r, by omega, rfl⟩⟩
    · obtain ⟨ns, rfl, hl, hn⟩ := each_nat hd
      rw [List.length_range] at hl
      exact h ns hl hn
  refine ⟨8, rfl, by omega, by omega, fun r hr => ?_⟩
  (try walk_at "pw")
  have sc : ∀ i j : Int, scD (.int i) (.int j) = some (decide (i = j)) := fun _ _ => rfl
  by_cases h0 : r = 0
  · subst h0
    simp only [Int.natCast_zero, decide_true, if_true]
    refine drw fun n hn => ?_
    (try walk_at "pw")
    refine ⟨by omega, by omega, ?_⟩
    refine draws 9 _ 3 _ _ rfl (by omega) (by omega) (by omega) (by decide) fun a ha hb => ?_
    refine drw fun n2 hn2 => ?_
    (try walk_at "pw")
    refine ⟨by omega, by omega, ?_⟩
    refine draws 9 _ 3 _ _ rfl (by omega) (by omega) (by omega) (by simp) fun b hb1 hb2 => ?_
    exact hk' a b (goodN (m := 9) (k := 9) (by omega) (by omega) hb (by omega)) (goodN (m := 9) (k := 9) (by omega) (by omega) hb2 (by omega)) (by omega)
  · simp only [show ¬ ((r : Int) = 0) by omega, decide_false, Bool.false_eq_true, if_false]
    refine drw fun n hn => ?_
    (try walk_at "pw")
    refine ⟨by omega, by omega, ?_⟩
    refine draws 3 _ 3 _ _ rfl (by omega) (by omega) (by omega) (by decide) fun a ha hb => ?_
    have hga : GoodN a := goodN (m := 9) (k := 3) (by omega) (by omega) hb (by omega)
    refine drw fun n2 hn2 => ?_
    (try walk_at "pw")
    by_cases h2 : n2 = 0
    · subst h2
      simp only [Int.natCast_zero, decide_true, if_true]
      refine drw fun n3 hn3 => ?_
      (try walk_at "pw")
      rw [rep_one]
      have hal := hga.l
      refine ⟨by simp, by omega, by omega, by rw [List.length_append, List.length_replicate, List.length_map]; omega, ?_⟩
      have : List.replicate n3 (PyData.int 0) ++ a.map .int = (List.replicate n3 0 ++ a).map .int := by simp
      rw [this]
      refine hk' _ [0] ⟨by rw [List.length_append, List.length_replicate]; omega, fun x hx => ?_⟩ ⟨by simp, fun x hx => ?_⟩ (by simp)
      · rcases List.mem_append.mp hx with h | h
        · have := (List.mem_replicate.mp h).2
          omega
        · exact hga.b x h
      · have : x = 0 := by simpa using hx
        omega
    · simp only [show ¬ ((n2 : Int) = 0) by omega, decide_false, Bool.false_eq_true, if_false]
      by_cases h3 : n2 < 3
      · simp only [show ((n2 : Int) < 3) by omega, decide_true, if_true]
        refine hk' a [1] hga ⟨by simp, fun x hx => ?_⟩ (by simp)
        have : x = 1 := by simpa using hx
        omega
      · simp only [show ¬ ((n2 : Int) < 3) by omega, decide_false, Bool.false_eq_true, if_false]
        refine drw fun n3 hn3 => ?_
        (try walk_at "pw")
        refine ⟨by omega, by omega, ?_⟩
        refine draws 3 _ 3 _ _ rfl (by omega) (by omega) (by omega) (by simp) fun b hb1 hb2 => ?_
        exact hk' a b hga (goodN (m := 9) (k := 3) (by omega) (by omega) hb2 (by omega)) (by omega)
def ptD (R L : List Op) : D := .tuple [.tuple (R.map opD), .tuple (L.map opD)]
def p_law_timing_parts : Fn := fun ds k _ => ∃ n : Nat, ds = [handD, .int n] ∧ n ≤ 23 ∧ ∀ R L, okTm R L → R.length = n → k (ptD R L)
def m_law_timing_parts : Fn := fnD 2 4 (sSeq (sSet 2 (slV (eBi gTupl (lLc (iRg1 (aC (eV 1) aN)) (gN 3) tY (eCall p_law_opening (aC (eV 0) aN)) [3]))))
  (sRet (eT (aC (eV 2) (aC (eBi gTupl (lLc (iRg1 (aC (eV 1) aN)) (gN 3) tY (eCall p_law_opening (aC (eV 0) aN)) [3])) aN)))))

theorem each_ops {α : Type} {ys : List α} {ds : List D} (h : Each (fun _ d => ∃ o, Good o ∧ d = opD o) ys ds) : ∃ os : List Op, ds = os.map opD ∧ os.length = ys.length ∧ ∀ o ∈ os, Good o := by
  induction h with
  | nil => exact ⟨[], rfl, rfl, fun _ h => nomatch h⟩
  | cons h _ ih =>
    obtain ⟨o, ho, rfl⟩ := h
    obtain ⟨os, rfl, hl, hn⟩ := ih
    refine ⟨o :: os, rfl, by simp [hl], fun n hm => ?_⟩
    rcases List.mem_cons.mp hm with rfl | hm
    · exact ho
    · exact hn n hm
theorem p_law_timing_parts_ok {ds k kx} (h : p_law_timing_parts ds k kx) : m_law_timing_parts ds k kx := by
  obtain ⟨n, rfl, hn, hk⟩ := h
  unfold m_law_timing_parts
  (try walk_at "pw")
  refine ⟨by omega, by omega, ?_⟩
  rw [rngD_map]
  refine lc_wrd _ (fun _ d => ∃ o, Good o ∧ d = opD o) (fun y hy k1 k0 h1 => ?_) (fun ds hd => ?_)
  · unfold lcB
    (try walk_at "pw")
    exact ⟨rfl, fun o ho => h1 _ ⟨o, ho, rfl⟩⟩
  obtain ⟨R, rfl, hl, hR⟩ := each_ops hd
  refine ⟨by omega, by omega, ?_⟩
  refine lc_wrd _ (fun _ d => ∃ o, Good o ∧ d = opD o) (fun y hy k1 k0 h1 => ?_) (fun ds hd => ?_)
  · unfold lcB
    (try walk_at "pw")
    exact ⟨rfl, fun o ho => h1 _ ⟨o, ho, rfl⟩⟩
  obtain ⟨L, rfl, hl2, hL⟩ := each_ops hd
  rw [List.length_range] at hl hl2
  exact hk R L ⟨by omega, by omega, hR, hL⟩ (by omega)
def p_law_places : Fn := fun ds k _ => ∃ (o : Op) (t : Nat), ds = [opD o, .int t] ∧ Good o ∧ t ≤ 1000000000 ∧ k (.int (pl o t))
def m_law_places : Fn := fnD 2 4 (sSeq (sAsg (gT 2 (gsC (gN 2) (gsC (gN 3) gsN))) (eV 0))
  (sSeq (sIf (tB (e2 gLt (eV 1) (eC (.int 1)))) (sRet (eC (.int 0))) sNx)
  (sSeq (sIf (tB (e2 gLe (eV 1) (eBi gLen (lT (eV 2))))) (sRet (eIx (lT (eV 2)) (e2 gMinus (eV 1) (eC (.int 1))))) sNx)
  (sRet (eIx (lT (eV 3)) (e2 gMod (eBi gInt (aC (e2 gMinus (e2 gMinus (eV 1) (eC (.int 1))) (eBi gLen (lT (eV 2)))) aN)) (eBi gLen (lT (eV 3)))))))))

theorem p_law_places_ok {ds k kx} (h : p_law_places ds k kx) : m_law_places ds k kx := by
  obtain ⟨o, t, rfl, hg, ht, hk⟩ := h
  unfold m_law_places opD nuD
  (try walk_at "pw")
  have := hg.n
  by_cases h1 : t = 0
  · subst h1
    exact hk
  · unfold pl at hk
    rw [if_neg h1] at hk
    simp only [show ¬ ((t : Int) < 1) by omega, decide_false, Bool.false_eq_true, if_false]
    by_cases h2 : t ≤ o.1.length
    · simp only [show ((t : Int) ≤ o.1.length) by omega, decide_true, if_true]
      rw [if_pos h2] at hk
      exact ⟨_, atI_of (t - 1) (by omega) (gt_at (by omega)), hk⟩
    · simp only [show ¬ ((t : Int) ≤ o.1.length) by omega, decide_false, Bool.false_eq_true, if_false]
      rw [if_neg h2] at hk
      refine ⟨by omega, _, atI_of ((t - 1 - o.1.length) % o.2.length) ?_ (gt_at (Nat.mod_lt _ this)), hk⟩
      have : (t : Int) - 1 - o.1.length = ((t - 1 - o.1.length : Nat) : Int) := by omega
      rw [this]
      omega
end PD

namespace PD
open PySem TH
open L2 (atI ixN)
local macro_rules | `(tactic| walk_at "pw") => `(tactic| simp (config := { decide := false }) only [fnD, iRg3, lRg3, gDivM, eLm, gCount, gIndex, eDc, cNil, cDisp, dispD, sNever, fnI, eV, eC, lO, lL, lT, eL, e2, e1, tB, gI, gIc, gAdd, gMinus, gMul, gDiv, gMod, gPow, gLt, gLe, gGt, gGe, gEq, gEqS, scD, gIs, isNon, eCh, gNeg, eNot, eAnd, eOr, tNt, tAn, tOr', eIf, lIf, aN, aC, eT, lD, eIx, pN, pS, lSl, eSlT, lCat, gCatT, lRep, gRepT, eIn, eBi, gLen, gSum, gAll, gAny, gTupl, eCall, eCallX, gInt, intD, gAbs, gMin, gMax, gLenS, eIs, eIs2, isK, isKs, kindD.eq_1, kindD.eq_2, kindD.eq_3, kindD.eq_4, kindD.eq_5, kindD.eq_6, kindD.eq_7, atI_0, atI_1, atI_2, atI_3, atI_4, nd_none, nd_bool, nd_int, nd_str, nd_list, nd_tuple, nd_dic, eFld, lSort, lSortF, iRg1, iRg2, iEn, iZp, gN, gsN, gsC, gT, tY, lLc, wipeD, slV, slO, slD, sNx, sBk, sCt, sSeq, sRet, sRetN, sEx, sIf, sSet, sAsg, sPar, sPar3, sAug, sFor, sMu, sMuS, sMuG, mDo, gApp, sExt, sIx, sTell, sRaise, sRaiseF, sFldO, putD, eRevT, lRev, lRg1, lRg2, eTRg1, eTRg2, gLtT, gCatS, lLc2, eGet, eInD, eGet2, dO, dV, sPut, eMeth, eIsC, eIsCD, row, rowsT,
  List.map_cons, List.map_nil, List.cons_append, List.nil_append, List.replicate_succ, List.replicate_zero, List.set_cons_zero, List.set_cons_succ, List.getElem?_cons_zero, List.getElem?_cons_succ, List.length_cons, List.length_nil, List.length_map, Nat.reduceAdd, Nat.reduceSub, Nat.reduceLeDiff, Nat.reduceEqDiff,
  and_assoc, Option.some.injEq, Sl.val.injEq, Sl.own.injEq, PyData.int.injEq, PyData.str.injEq, PyData.bool.injEq, PyData.tuple.injEq, PyData.list.injEq, List.cons.injEq, objD_iff, exists_eq_left', exists_eq_left, exists_eq, exists_eq', and_true, true_and, exists_and_left, exists_and_right, eAlt, lOr, false_or, or_false, false_and, and_false, exists_false, if_true, if_false, Bool.false_eq_true, Bool.true_eq_false, Bool.not_true, Bool.not_false, Bool.or_true, Bool.or_false, Bool.true_or, Bool.false_or, Bool.and_true, Bool.true_and, Bool.and_false, Bool.false_and, decide_true, decide_false, bne_self_eq_false, Bool.bne_false, Bool.bne_true, reduceCtorEq, String.reduceEq])

def judgeB : SV := (sIf (tOr' (tNt (tB (eIs "tuple" (eV 1)))) (tOr' (tB (e2 gGt (eAlt (eBi gLen (lL (eV 1))) (eBi gLen (lT (eV 1)))) (eC (.int 40)))) (tNt (tB (eBi gAll (lLc (lOr (lL (eV 1)) (lT (eV 1))) (gN 2) tY (eCall p_law_whole (aC (eV 2) (aC (eC (.int 0)) (aC (eC (.int 8)) aN)))) [2])))))) (sRet (eC (.bool false))) sNx)
theorem judge_ok {E : ED} {d0 x : D} {s2 : Sl} (hx : thingOk x) (h : if isNums x = true then E.nx [.val d0, .val x, s2] else E.rt (.bool false)) : judgeB E [.val d0, .val x, s2] := by
  unfold judgeB
  cases x <;> (try walk_at "pw") <;> try first | exact h | exact ⟨hx.1, h⟩
  rename_i xs
  obtain ⟨hl, hx⟩ := hx.2 xs rfl
  by_cases h40 : xs.length ≤ 40
  · simp only [show ¬ (xs.length : Int) > 40 by omega, decide_false]
    (try walk_at "pw")
    refine lc_mapI (fun y => .bool (inB y 0 8)) (fun y hy k1 k0 h1 => ?_) ?_
    · unfold lcB p_law_whole
      (try walk_at "pw")
      exact ⟨hx y hy, h1⟩
    · obtain ⟨bs, e1, e2⟩ := all_bools (fun y => inB y 0 8) xs
      refine ⟨bs, e1, ?_⟩
      rw [e2]
      simp only [isNums, h40, decide_true, Bool.true_and] at h
      cases hb : xs.all (fun y => inB y 0 8) <;> simp only [hb] at h <;> (try walk_at "pw") <;> exact h
  · simp only [show (xs.length : Int) > 40 by omega, decide_true]
    (try walk_at "pw")
    simpa [isNums, h40] using h
def p_law_is_opening : Fn := fun ds k _ => ∃ d, ds = [d] ∧ thing2 d ∧ k (.bool (isOpen d))
def m_law_is_opening : Fn := fnD 1 3 (sSeq (sIf (tOr' (tNt (tB (eIs "tuple" (eV 0)))) (tB (e2 (gEqS true) (eAlt (eBi gLen (lL (eV 0))) (eBi gLen (lT (eV 0)))) (eC (.int 2))))) (sRet (eC (.bool false))) sNx)
  (sSeq (sFor (lOr (lL (eV 0)) (lT (eV 0))) (gN 1) (sIf (tOr' (tNt (tB (eIs "tuple" (eV 1)))) (tOr' (tB (e2 gGt (eAlt (eBi gLen (lL (eV 1))) (eBi gLen (lT (eV 1)))) (eC (.int 40)))) (tNt (tB (eBi gAll (lLc (lOr (lL (eV 1)) (lT (eV 1))) (gN 2) tY (eCall p_law_whole (aC (eV 2) (aC (eC (.int 0)) (aC (eC (.int 8)) aN)))) [2])))))) (sRet (eC (.bool false))) sNx))
  (sRet (e2 gGt (eAlt (eBi gLen (lL (eAlt (eIx (lL (eV 0)) (eC (.int 1))) (eIx (lT (eV 0)) (eC (.int 1)))))) (eBi gLen (lT (eAlt (eIx (lL (eV 0)) (eC (.int 1))) (eIx (lT (eV 0)) (eC (.int 1))))))) (eC (.int 0))))))

theorem p_law_is_opening_ok {ds k kx} (h : p_law_is_opening ds k kx) : m_law_is_opening ds k kx := by
  obtain ⟨d, rfl, hd, hk⟩ := h
  unfold m_law_is_opening
  rcases pair_or d with ⟨a, b, rfl⟩ | ⟨h1, h2⟩
  · obtain ⟨_, hx⟩ := hd.2 _ rfl
    have ha := hx a (by simp)
    have hb := hx b (by simp)
    (try walk_at "pw")
    rw [if_neg (show ¬ (!decide (((2 : Nat) : Int) = 2)) = true by decide)]
    change forD (gN 1) judgeB [a, b] _ _
    simp only [forD, gN, List.set_cons_zero, List.set_cons_succ]
    refine judge_ok ha ?_
    simp only [isOpen] at hk
    cases h1 : isNums a <;> simp only [h1, Bool.false_and, Bool.true_and] at hk
    · exact hk
    rw [if_pos rfl]
    refine judge_ok hb ?_
    cases h2 : isNums b <;> simp only [h2, Bool.false_and, Bool.true_and] at hk
    · exact hk
    rw [if_pos rfl]
    obtain ⟨xs, rfl, _⟩ := nums_tup h2
    rw [some_len] at hk
    (try walk_at "pw")
    exact hk
  · rw [h2] at hk
    cases d <;> (try walk_at "pw") <;> try first | exact hk | exact ⟨hd.1, hk⟩
    rename_i xs
    simp only [isPair, decide_eq_false_iff_not] at h1
    rw [decide_eq_false (by omega)]
    exact hk
def p_law_carried : Fn := fun ds k _ => ∃ (o : Op) (t : Nat), ds = [opD o, .int t] ∧ Good o ∧ t ≤ 1000000000 ∧ k (.int (Pc o t))
def m_law_carried : Fn := fnD 2 5 (sSeq (sAsg (gT 2 (gsC (gN 3) (gsC (gN 4) gsN))) (eV 0))
  (sSeq (sIf (tB (e2 gLe (eV 1) (eBi gLen (lT (eV 3))))) (sRet (eBi gSum (lT (eSlT (lT (eV 3)) pN (pS (eV 1)))))) sNx)
  (sSeq (sSet 2 (slV (e2 gMinus (eV 1) (eBi gLen (lT (eV 3))))))
  (sRet (e2 gAdd (e2 gAdd (eBi gSum (lT (eV 3))) (e2 gMul (eBi gSum (lT (eV 4))) (e2 gDiv (eV 2) (eBi gLen (lT (eV 4)))))) (eBi gSum (lT (eSlT (lT (eV 4)) pN (pS (e2 gMod (eBi gInt (aC (eV 2) aN)) (eBi gLen (lT (eV 4)))))))))))))

theorem p_law_carried_ok {ds k kx} (h : p_law_carried ds k kx) : m_law_carried ds k kx := by
  obtain ⟨o, t, rfl, hg, ht, hk⟩ := h
  unfold m_law_carried opD nuD
  (try walk_at "pw")
  have hn := hg.n
  by_cases h2 : t ≤ o.1.length
  · simp only [show ((t : Int) ≤ o.1.length) by omega, decide_true, if_true]
    rw [Pc_lo _ _ h2] at hk
    exact ⟨o.1.take t, by rw [cutD_take, List.map_take], hk⟩
  · simp only [show ¬ ((t : Int) ≤ o.1.length) by omega, decide_false, Bool.false_eq_true, if_false]
    obtain ⟨u, rfl⟩ : ∃ u, t = o.1.length + u := ⟨t - o.1.length, by omega⟩
    rw [Pc_hi o hn u] at hk
    have e1 : ((o.1.length + u : Nat) : Int) - o.1.length = (u : Int) := by omega
    rw [e1]
    have hs : 0 ≤ o.2.sum ∧ o.2.sum ≤ 320 := by
      have a1 := Pc_hi o hn o.2.length
      have a2 := Pc_b hg (o.1.length + o.2.length)
      have b1 := Pc_lo o o.1.length (Nat.le_refl _)
      have b2 := Pc_b hg o.1.length
      rw [List.take_length] at b1
      rw [Nat.div_self hn, Nat.mod_self] at a1
      simp at a1
      have l1 := hg.t.l
      have l2 := hg.b.l
      have hsum : ∀ (ns : List Int), (∀ n ∈ ns, 0 ≤ n ∧ n ≤ 8) → 0 ≤ ns.sum ∧ ns.sum ≤ 8 * ns.length := by
        intro ns
        induction ns with
        | nil => intro _; simp
        | cons n ns ih =>
          intro h
          have h1 := h n (.head _)
          have h2 := ih fun m hm => h m (.tail _ hm)
          simp only [List.sum_cons, List.length_cons]
          omega
      have := hsum o.2 hg.t.b
      omega
    have hnl := hg.t.l
    have em : (u : Int) % o.2.length = ((u % o.2.length : Nat) : Int) := by omega
    have ed : (u : Int) / o.2.length = ((u / o.2.length : Nat) : Int) := by omega
    refine ⟨o.1, rfl, o.2, rfl, ?_, ?_, by omega, o.2.take (u % o.2.length), by rw [em, cutD_take, List.map_take], ?_⟩
    · exact ⟨by omega, by omega⟩
    · exact .inl ⟨by omega, by omega⟩
    · rw [ed, Int.mul_comm]
      exact hk
def dueD (r l : D) : D := if areOps r = true then (if areOps l = true ∧ alike l r = true then .none else .str "left") else .str "right"
def p_law_due : Fn := fun ds k _ => ∃ r l, ds = [r, l] ∧ thing3 r ∧ thing3 l ∧ k (dueD r l)
def m_law_due : Fn := fnD 2 3 (sSeq (sIf (tOr' (tNt (tB (eIs "tuple" (eV 0)))) (tOr' (tB (e2 gGt (eAlt (eBi gLen (lL (eV 0))) (eBi gLen (lT (eV 0)))) (eC (.int 23)))) (tNt (tB (eBi gAll (lLc (lOr (lL (eV 0)) (lT (eV 0))) (gN 2) tY (eCall p_law_is_opening (aC (eV 2) aN)) [2])))))) (sRet (eC (.str "right"))) sNx)
  (sSeq (sIf (tOr' (tNt (tB (eIs "tuple" (eV 1)))) (tOr' (tB (e2 (gEqS true) (eAlt (eBi gLen (lL (eV 1))) (eBi gLen (lT (eV 1)))) (eAlt (eBi gLen (lL (eV 0))) (eBi gLen (lT (eV 0)))))) (tNt (tB (eBi gAll (lLc (lOr (lL (eV 1)) (lT (eV 1))) (gN 2) tY (eCall p_law_is_opening (aC (eV 2) aN)) [2])))))) (sRet (eC (.str "left"))) sNx)
  (sRet (eC .none))))

theorem p_law_due_ok {ds k kx} (h : p_law_due ds k kx) : m_law_due ds k kx := by
  obtain ⟨r, l, rfl, hr, hl, hk⟩ := h
  unfold m_law_due
  unfold dueD at hk
  cases r <;> try ((try walk_at "pw"); first | exact hk | exact ⟨hr.1, hk⟩)
  rename_i xs
  obtain ⟨hxl, hx⟩ := hr.2 xs rfl
  (try walk_at "pw")
  by_cases h23 : xs.length ≤ 23
  · simp only [show ¬ (xs.length : Int) > 23 by omega, decide_false]
    (try walk_at "pw")
    refine lc_mapI (fun y => .bool (isOpen y)) (fun y hy k1 k0 h1 => ?_) ?_
    · unfold lcB
      (try walk_at "pw")
      exact ⟨y, rfl, hx y hy, h1⟩
    obtain ⟨bs, e1, e2⟩ := all_bools isOpen xs
    refine ⟨bs, e1, ?_⟩
    rw [e2]
    simp only [areOps, h23, decide_true, Bool.true_and] at hk
    cases hb : xs.all isOpen <;> simp only [hb, Bool.false_eq_true, if_false, if_true] at hk
    · (try walk_at "pw")
      exact hk
    (try walk_at "pw")
    have hr1 : areOps (.tuple xs) = true := by simp [areOps, h23, hb]
    refine ⟨hl.1, ?_⟩
    cases l <;> try ((try walk_at "pw"); exact hk)
    rename_i ys
    obtain ⟨hyl, hy⟩ := hl.2 ys rfl
    (try walk_at "pw")
    simp only [alike, decide_eq_true_eq] at hk
    by_cases hlen : ys.length = xs.length
    · rw [if_neg (by simp [hlen])]
      refine lc_mapI (fun y => .bool (isOpen y)) (fun y hy2 k1 k0 h1 => ?_) ?_
      · unfold lcB
        (try walk_at "pw")
        exact ⟨y, rfl, hy y hy2, h1⟩
      obtain ⟨cs, f1, f2⟩ := all_bools isOpen ys
      refine ⟨cs, f1, ?_⟩
      rw [f2]
      have h23' : ys.length ≤ 23 := by omega
      rw [decide_eq_true h23', Bool.true_and] at hk
      cases hc : ys.all isOpen
      · rw [hc, if_neg (by simp)] at hk
        (try walk_at "pw")
        exact hk
      · rw [hc, if_pos ⟨rfl, hlen⟩] at hk
        (try walk_at "pw")
        exact hk
    · rw [if_neg fun z => hlen z.2] at hk
      rw [if_pos (by simp; omega)]
      exact hk
  · simp only [show (xs.length : Int) > 23 by omega, decide_true]
    (try walk_at "pw")
    simpa [areOps, h23] using hk
/-! equal also in kind -/
def scal : D → Bool
  | .int _ => true
  | .str _ => true
  | .none => true
  | _ => false
def p_law_is : Fn := fun ds k _ => ∃ xs, ds = [.list xs, .list xs] ∧ xs.length ≤ 1000 ∧ (∀ x ∈ xs, scal x = true ∧ SeqAt.shaped x = true) ∧ k (.bool true)
def mf_law_is (rec : Fn) : Fn := fnD 2 4 (sSeq (sIf (tB (eIs2 "tuple" "list" (eV 1))) (sSeq (sIf (tOr' (tB (e2 (gEqS true) (eIs "tuple" (eV 0)) (eIs "tuple" (eV 1)))) (tNt (tB (eIs2 "tuple" "list" (eV 0))))) (sRet (eC (.bool false))) sNx)
  (sRet (eAnd (e2 (gEqS false) (eAlt (eBi gLen (lL (eV 0))) (eBi gLen (lT (eV 0)))) (eBi gLen (lL (eV 1)))) (eBi gAll (lLc (lOr (iZp (lL (eV 0)) (lL (eV 1))) (iZp (lT (eV 0)) (lL (eV 1)))) (gT 2 (gsC (gN 2) (gsC (gN 3) gsN))) tY (eCall rec (aC (eV 2) (aC (eV 3) aN))) [2, 3]))))) sNx)
  (sRet (eAnd (e2 (gEqS false) (eIs "bool" (eV 0)) (eIs "bool" (eV 1))) (e2 (gEq false) (eV 0) (eV 1)))))
def ml_law_is : Nat → Fn
  | 0 => fun _ _ _ => False
  | n + 1 => mf_law_is (ml_law_is n)
def m_law_is : Fn := ml_law_is 64

theorem is_scal {n : Nat} {x : D} {k : D → Prop} {kx : XD → Prop} (hx : scal x = true) (hs : SeqAt.shaped x = true) (hk : k (.bool true)) : ml_law_is (n + 1) [x, x] k kx := by
  show mf_law_is (ml_law_is n) _ _ _
  unfold mf_law_is
  have e : PyData.eqv x x = true := by cases x <;> simp [scal] at hx <;> simp [PyData.eqv]
  cases x <;> simp only [scal, reduceCtorEq] at hx <;> (try walk_at "pw")
  all_goals
    rw [e]
    exact ⟨rfl, rfl, hs, hs, hk⟩
theorem p_law_is_ok {ds k kx} (h : p_law_is ds k kx) : m_law_is ds k kx := by
  obtain ⟨xs, rfl, hl, hx, hk⟩ := h
  show mf_law_is (ml_law_is 63) _ _ _
  unfold mf_law_is
  (try walk_at "pw")
  have ez : zipD xs xs = xs.map fun x => pairD x x := by
    unfold zipD
    clear hx hl
    induction xs with
    | nil => rfl
    | cons x xs ih => rw [List.zipWith_cons_cons, ih]; rfl
  rw [ez]
  refine lc_map (fun x => pairD x x) (fun _ => .bool true) (fun y hy k1 k0 h1 => ?_) ?_
  · unfold lcB pairD
    (try walk_at "pw")
    exact is_scal (hx y hy).1 (hx y hy).2 h1
  · obtain ⟨bs, e1, e2⟩ := all_bools (fun _ => true) xs
    refine ⟨bs, e1, ?_⟩
    rw [e2, show xs.all (fun _ => true) = true by simp]
    exact hk
end PD

namespace PD
open PySem TH
open L2 (atI ixN)
local macro_rules | `(tactic| walk_at "pw") => `(tactic| simp (config := { decide := false }) only [fnD, iRg3, lRg3, gDivM, eLm, gCount, gIndex, eDc, cNil, cDisp, dispD, sNever, fnI, eV, eC, lO, lL, lT, eL, e2, e1, tB, gI, gIc, gAdd, gMinus, gMul, gDiv, gMod, gPow, gLt, gLe, gGt, gGe, gEq, gEqS, scD, gIs, isNon, eCh, gNeg, eNot, eAnd, eOr, tNt, tAn, tOr', eIf, lIf, aN, aC, eT, lD, eIx, pN, pS, lSl, eSlT, lCat, gCatT, lRep, gRepT, eIn, eBi, gLen, gSum, gAll, gAny, gTupl, eCall, eCallX, gInt, intD, gAbs, gMin, gMax, gLenS, eIs, eIs2, isK, isKs, kindD.eq_1, kindD.eq_2, kindD.eq_3, kindD.eq_4, kindD.eq_5, kindD.eq_6, kindD.eq_7, atI_0, atI_1, atI_2, atI_3, atI_4, nd_none, nd_bool, nd_int, nd_str, nd_list, nd_tuple, nd_dic, eFld, lSort, lSortF, iRg1, iRg2, iEn, iZp, gN, gsN, gsC, gT, tY, lLc, wipeD, slV, slO, slD, sNx, sBk, sCt, sSeq, sRet, sRetN, sEx, sIf, sSet, sAsg, sPar, sPar3, sAug, sFor, sMu, sMuS, sMuG, mDo, gApp, sExt, sIx, sTell, sRaise, sRaiseF, sFldO, putD, eRevT, lRev, lRg1, lRg2, eTRg1, eTRg2, gLtT, gCatS, lLc2, eGet, eInD, eGet2, dO, dV, sPut, eMeth, eIsC, eIsCD, row, rowsT,
  List.map_cons, List.map_nil, List.cons_append, List.nil_append, List.replicate_succ, List.replicate_zero, List.set_cons_zero, List.set_cons_succ, List.getElem?_cons_zero, List.getElem?_cons_succ, List.length_cons, List.length_nil, List.length_map, Nat.reduceAdd, Nat.reduceSub, Nat.reduceLeDiff, Nat.reduceEqDiff,
  and_assoc, Option.some.injEq, Sl.val.injEq, Sl.own.injEq, PyData.int.injEq, PyData.str.injEq, PyData.bool.injEq, PyData.tuple.injEq, PyData.list.injEq, List.cons.injEq, objD_iff, exists_eq_left', exists_eq_left, exists_eq, exists_eq', and_true, true_and, exists_and_left, exists_and_right, eAlt, lOr, false_or, or_false, false_and, and_false, exists_false, if_true, if_false, Bool.false_eq_true, Bool.true_eq_false, Bool.not_true, Bool.not_false, Bool.or_true, Bool.or_false, Bool.true_or, Bool.false_or, Bool.and_true, Bool.true_and, Bool.and_false, Bool.false_and, decide_true, decide_false, bne_self_eq_false, Bool.bne_false, Bool.bne_true, reduceCtorEq, String.reduceEq])

def errSub : ESub := subT [("TollError", ["TollError", "ValueError"]), ("NoNumber", ["NoNumber", "TollError", "ValueError"]), ("NoWay", ["NoWay", "TollError", "ValueError"]), ("BadTiming", ["BadTiming", "TollError", "ValueError"]), ("NoTick", ["NoTick", "TollError", "ValueError"])] ["TollError", "NoNumber", "NoWay", "BadTiming", "NoTick", "ValueError"]
/-! ## shapes -/
theorem sh_of {d : D} (h1 : d.canLay0 = true) (h2 : d.depth ≤ 64) : SeqAt.shaped d = true := by
  show (d.canLay0 && decide (d.depth ≤ 64)) = true
  rw [h1, decide_eq_true h2]
  rfl
theorem sh_int (i : Int) : SeqAt.shaped (.int i) = true := sh_of rfl (by simp [PyData.depth])
theorem lay_all {α : Type} (f : α → D) {xs : List α} (h : ∀ x ∈ xs, (f x).canLay0 = true) : PyData.canLayAll0 (xs.map f) = true := by
  induction xs with
  | nil => rfl
  | cons x xs ih =>
    show ((f x).canLay0 && PyData.canLayAll0 (xs.map f)) = true
    rw [h x (.head _), ih fun y hy => h y (.tail _ hy)]
    rfl
theorem dep_all {α : Type} (f : α → D) {n : Nat} {xs : List α} (h : ∀ x ∈ xs, (f x).depth ≤ n) : PyData.depthAll (xs.map f) ≤ n := by
  induction xs with
  | nil => exact Nat.zero_le _
  | cons x xs ih =>
    show max (f x).depth (PyData.depthAll (xs.map f)) ≤ n
    have := h x (.head _)
    have := ih fun y hy => h y (.tail _ hy)
    omega
theorem pure_all {α : Type} (f : α → D) {xs : List α} (h : ∀ x ∈ xs, pureD (f x) = true) : pureA (xs.map f) = true := by
  induction xs with
  | nil => rfl
  | cons x xs ih =>
    show (pureD (f x) && pureA (xs.map f)) = true
    rw [h x (.head _), ih fun y hy => h y (.tail _ hy)]
    rfl
/-- plain data, flat enough -/
structure Fl (n : Nat) (d : D) : Prop where
  lay : d.canLay0 = true
  dep : d.depth ≤ n
  pur : pureD d = true
theorem fl_tup {α : Type} (f : α → D) {n : Nat} {xs : List α} (h : ∀ x ∈ xs, Fl n (f x)) : Fl (n + 1) (.tuple (xs.map f)) := ⟨lay_all f fun x hx => (h x hx).lay, by
  show PyData.depthAll (xs.map f) + 1 ≤ n + 1
  have := dep_all f fun x hx => (h x hx).dep
  omega, pure_all f fun x hx => (h x hx).pur⟩
theorem fl_two {n : Nat} {a b : D} (ha : Fl n a) (hb : Fl n b) : Fl (n + 1) (.tuple [a, b]) := fl_tup (fun x => x) (xs := [a, b]) (fun x hx => by
  simp only [List.mem_cons, List.not_mem_nil, or_false] at hx
  rcases hx with rfl | rfl
  · exact ha
  · exact hb) |> fun h => by simpa using h
theorem fl_int (i : Int) : Fl 0 (.int i) := ⟨rfl, by simp [PyData.depth], rfl⟩
theorem fl_nu (ns : List Int) : Fl 1 (nuD ns) := fl_tup _ fun i _ => fl_int i
theorem fl_op (o : Op) : Fl 2 (opD o) := fl_two (fl_nu _) (fl_nu _)
theorem fl_ops (R : List Op) : Fl 3 (.tuple (R.map opD)) := fl_tup _ fun o _ => fl_op o
theorem fl_pt (R L : List Op) : Fl 4 (ptD R L) := fl_two (fl_ops R) (fl_ops L)
theorem Fl.sh {n : Nat} {d : D} (h : Fl n d) (hn : n ≤ 64 := by decide) : SeqAt.shaped d = true := sh_of h.lay (Nat.le_trans h.dep hn)
mutual
theorem eqv_same : ∀ d : D, pureD d = true → PyData.eqv d d = true
  | .none, _ => by simp [PyData.eqv]
  | .bool b, _ => by cases b <;> simp [PyData.eqv]
  | .int i, _ => by simp [PyData.eqv]
  | .str s, _ => by simp [PyData.eqv]
  | .list ds, h => by
    have := eqv_sames ds h
    simpa [PyData.eqv] using this
  | .tuple ds, h => by
    have := eqv_sames ds h
    simpa [PyData.eqv] using this
  | .dict _, h => nomatch h
theorem eqv_sames : ∀ ds : List D, pureA ds = true → PyData.eqvAll ds ds = true
  | [], _ => rfl
  | d :: ds, h => by
    have h' : (pureD d && pureA ds) = true := h
    rw [Bool.and_eq_true] at h'
    show (PyData.eqv d d && PyData.eqvAll ds ds) = true
    rw [eqv_same d h'.1, eqv_sames ds h'.2]
    rfl
end
def eqO (R R' : List Op) : Bool := PyData.eqv (.tuple (R.map opD)) (.tuple (R'.map opD))
def p_Timing_eq : Fn := fun ds k _ => ∃ R L y, ds = [tmD R L, y] ∧ ((∃ R' L', y = tmD R' L' ∧ k (.bool (eqO R R' && eqO L L'))) ∨ ∃ xs, y = .tuple xs ∧ k (.bool false))
def m_Timing_eq : Fn := fnD 2 2 (sRet (eAnd (eIsCD "Timing" ns_Timing (eV 1)) (eAnd (e2 (gEq false) (eFld "Timing" ns_Timing 0 (eV 0)) (eFld "Timing" ns_Timing 0 (eV 1))) (e2 (gEq false) (eFld "Timing" ns_Timing 1 (eV 0)) (eFld "Timing" ns_Timing 1 (eV 1))))))

theorem p_Timing_eq_ok {ds k kx} (h : p_Timing_eq ds k kx) : m_Timing_eq ds k kx := by
  obtain ⟨R, L, y, rfl, ⟨R', L', rfl, hk⟩ | ⟨xs, rfl, hk⟩⟩ := h
  · unfold m_Timing_eq tmD
    (try walk_at "pw")
    refine .inl ?_
    refine ⟨(fl_ops R).pur, (fl_ops R').pur, (fl_ops R).sh, (fl_ops R').sh, ?_⟩
    unfold eqO at hk
    cases h1 : (PyData.tuple (R.map opD)).eqv (.tuple (R'.map opD)) <;> rw [h1] at hk
    · exact hk
    · rw [if_pos rfl]
      exact ⟨(fl_ops L).pur, (fl_ops L').pur, (fl_ops L).sh, (fl_ops L').sh, hk⟩
  · unfold m_Timing_eq tmD
    (try walk_at "pw")
    exact .inr hk
def p_law_tried : Fn := fun ds k _ => ∃ r l, ds = [r, l] ∧ thing3 r ∧ thing3 l ∧ k (dueD r l)
def m_law_tried : Fn := fnD 2 5 (sSeq (sSet 2 (slV (eC (.str "other"))))
  (sSeq (sTryF errSub "BadTiming" 3 (sSeq (sSet 4 (slV (eCallX p_Timing_init (aC (eV 0) (aC (eV 1) aN)))))
  (sSet 2 (slV (eIf (tB (e2 (gEq false) (eT (aC (eFld "Timing" ns_Timing 0 (eV 4)) (aC (eFld "Timing" ns_Timing 1 (eV 4)) aN))) (eT (aC (eV 0) (aC (eV 1) aN))))) (eC .none) (eC (.str "unlike")))))) (fun y dd => (sSet 2 (slV (eIf (tB (eIsX errSub y "TollError" dd (eV 3))) (eXf y "part" dd (eV 3)) (eV 2))))))
  (sRet (eV 2))))

theorem p_law_tried_ok {ds k kx} (h : p_law_tried ds k kx) : m_law_tried ds k kx := by
  obtain ⟨r, l, rfl, hr, hl, hk⟩ := h
  unfold m_law_tried
  (try walk_at "pw")
  unfold sTryF sTry
  (try walk_at "pw")
  refine ⟨r, l, rfl, hr, hl, ?_⟩
  by_cases h1 : areOps r = true
  · rw [if_pos h1]
    by_cases h2 : areOps l = true ∧ alike l r = true
    · rw [if_pos h2]
      have hdue : dueD r l = .none := by unfold dueD; rw [if_pos h1, if_pos h2]
      rw [hdue] at hk
      obtain ⟨R, rfl, _, _⟩ := ops_is h1
      obtain ⟨L, rfl, _, _⟩ := ops_is h2.1
      refine ⟨_, rfl, _, rfl, _, rfl, _, rfl, (fl_pt R L).pur, (fl_pt R L).pur, (fl_pt R L).sh, (fl_pt R L).sh, ?_⟩
      have e := eqv_same _ (fl_pt R L).pur
      unfold ptD at e
      rw [if_pos e]
      exact hk
    · rw [if_neg h2]
      have hdue : dueD r l = .str "left" := by unfold dueD; rw [if_pos h1, if_neg h2]
      rw [hdue] at hk
      refine ⟨true, rfl, ?_⟩
      rw [if_pos rfl]
      intro dd hdd
      refine ⟨by simp, rfl, ?_⟩
      unfold eIsX eXf
      (try walk_at "pw")
      exact ⟨true, rfl, by rw [if_pos rfl]; exact ⟨_, rfl, hk⟩⟩
  · rw [if_neg h1]
    refine ⟨true, rfl, ?_⟩
    rw [if_pos rfl]
    intro dd hdd
    refine ⟨by simp, rfl, ?_⟩
    unfold eIsX eXf
    (try walk_at "pw")
    have hdue : dueD r l = .str "right" := by unfold dueD; rw [if_neg h1]
    rw [hdue] at hk
    exact ⟨true, rfl, by rw [if_pos rfl]; exact ⟨_, rfl, hk⟩⟩
/-- the word that is due -/
def dueW (n : Nat) (w t : D) : Str := if wayOk n w = true then (if inB t 0 1000000000 = true then "let" else "tick") else "way"
theorem chk_due {n : Nat} {w t : D} {P : Prop} {kx : XD → Prop} {k : Str → Prop} (hk : k (dueW n w t)) (h1 : k "way" → kx ⟨"NoWay", []⟩) (h2 : k "tick" → kx ⟨"NoTick", []⟩) (h3 : k "let" → P) : chk n w t P kx := by
  unfold chk
  unfold dueW at hk
  by_cases c1 : wayOk n w = true
  · rw [if_pos c1] at hk ⊢
    by_cases c2 : inB t 0 1000000000 = true
    · rw [if_pos c2] at hk ⊢
      exact h3 hk
    · rw [if_neg c2] at hk ⊢
      exact h2 hk
  · rw [if_neg c1] at hk ⊢
    exact h1 hk
def p_law_word : Fn := fun ds k _ => ∃ (y : Int) (R L : List Op) (w t : D), ds = [.int y, tmD R L, w, t] ∧ (y = 0 ∨ y = 1) ∧ okTm R L ∧ thingOk w ∧ noDict t = true ∧ k (.str (dueW R.length w t))
def m_law_word : Fn := fnD 4 7 (sSeq (sSet 4 (slV (eC (.str "let"))))
  (sSeq (sTry0 errSub "TollError" 5 (sEx (eSel p_places p_carried (eV 0) (aC (eV 1) (aC (eV 2) (aC (eV 3) aN))))) (fun y dd => (sSeq (sSet 6 (slV (eL (lD (aC (eIsE errSub y.c "NoWay" dd (eV 5)) (aC (eIsE errSub y.c "NoTick" dd (eV 5)) aN))))))
  (sSet 4 (slV (eIf (tAn (tB (e2 (gEqS false) (eLm gCount (lL (eV 6)) (aC (eC (.bool true)) aN)) (eC (.int 1)))) (tB (eIsE errSub y.c "ValueError" dd (eV 5)))) (eIx (lD (aC (eC (.str "way")) (aC (eC (.str "tick")) aN))) (eLm gIndex (lL (eV 6)) (aC (eC (.bool true)) aN))) (eC (.str "odd"))))))))
  (sRet (eV 4))))

theorem p_law_word_ok {ds k kx} (h : p_law_word ds k kx) : m_law_word ds k kx := by
  obtain ⟨y, R, L, w, t, rfl, hy, hg, hw, ht, hk⟩ := h
  unfold m_law_word
  (try walk_at "pw")
  unfold sTry0 sTry
  (try walk_at "pw")
  unfold eSel
  intro a b
  (try walk_at "pw")
  rcases hy with rfl | rfl
  · refine ⟨_, atI_0, .inl ⟨rfl, ?_⟩⟩
    refine ⟨R, L, w, t, rfl, hg, hw, ht, chk_due (k := fun s => k (.str s)) hk (fun hk => ?_) (fun hk => ?_) (fun hk => hk)⟩
    · refine ⟨true, rfl, ?_⟩
      rw [if_pos rfl]
      intro dd hdd
      refine ⟨rfl, ?_⟩
      unfold eIsE
      (try walk_at "pw")
      refine ⟨true, rfl, false, rfl, ⟨rfl, rfl, rfl, rfl, by decide⟩, ?_⟩
      rw [if_pos (by decide)]
      refine ⟨true, rfl, ?_⟩
      rw [if_pos rfl]
      exact ⟨⟨rfl, rfl, rfl, rfl, by decide⟩, 0, rfl, _, atI_0, hk⟩
    · refine ⟨true, rfl, ?_⟩
      rw [if_pos rfl]
      intro dd hdd
      refine ⟨rfl, ?_⟩
      unfold eIsE
      (try walk_at "pw")
      refine ⟨false, rfl, true, rfl, ⟨rfl, rfl, rfl, rfl, by decide⟩, ?_⟩
      rw [if_pos (by decide)]
      refine ⟨true, rfl, ?_⟩
      rw [if_pos rfl]
      exact ⟨⟨rfl, rfl, rfl, rfl, by decide⟩, 1, rfl, _, atI_1, hk⟩
  · refine ⟨_, atI_1, .inr ⟨rfl, ?_⟩⟩
    refine ⟨R, L, w, t, rfl, hg, hw, ht, chk_due (k := fun s => k (.str s)) hk (fun hk => ?_) (fun hk => ?_) (fun hk => hk)⟩
    · refine ⟨true, rfl, ?_⟩
      rw [if_pos rfl]
      intro dd hdd
      refine ⟨rfl, ?_⟩
      unfold eIsE
      (try walk_at "pw")
      refine ⟨true, rfl, false, rfl, ⟨rfl, rfl, rfl, rfl, by decide⟩, ?_⟩
      rw [if_pos (by decide)]
      refine ⟨true, rfl, ?_⟩
      rw [if_pos rfl]
      exact ⟨⟨rfl, rfl, rfl, rfl, by decide⟩, 0, rfl, _, atI_0, hk⟩
    · refine ⟨true, rfl, ?_⟩
      rw [if_pos rfl]
      intro dd hdd
      refine ⟨rfl, ?_⟩
      unfold eIsE
      (try walk_at "pw")
      refine ⟨false, rfl, true, rfl, ⟨rfl, rfl, rfl, rfl, by decide⟩, ?_⟩
      rw [if_pos (by decide)]
      refine ⟨true, rfl, ?_⟩
      rw [if_pos rfl]
      exact ⟨⟨rfl, rfl, rfl, rfl, by decide⟩, 1, rfl, _, atI_1, hk⟩
end PD

namespace PD
open PySem TH
open L2 (atI ixN)
local macro_rules | `(tactic| walk_at "pw") => `(tactic| simp (config := { decide := false }) only [fnD, iRg3, lRg3, gDivM, eLm, gCount, gIndex, eDc, cNil, cDisp, dispD, sNever, fnI, eV, eC, lO, lL, lT, eL, e2, e1, tB, gI, gIc, gAdd, gMinus, gMul, gDiv, gMod, gPow, gLt, gLe, gGt, gGe, gEq, gEqS, scD, gIs, isNon, eCh, gNeg, eNot, eAnd, eOr, tNt, tAn, tOr', eIf, lIf, aN, aC, eT, lD, eIx, pN, pS, lSl, eSlT, lCat, gCatT, lRep, gRepT, eIn, eBi, gLen, gSum, gAll, gAny, gTupl, eCall, eCallX, gInt, intD, gAbs, gMin, gMax, gLenS, eIs, eIs2, isK, isKs, kindD.eq_1, kindD.eq_2, kindD.eq_3, kindD.eq_4, kindD.eq_5, kindD.eq_6, kindD.eq_7, atI_0, atI_1, atI_2, atI_3, atI_4, nd_none, nd_bool, nd_int, nd_str, nd_list, nd_tuple, nd_dic, eFld, lSort, lSortF, iRg1, iRg2, iEn, iZp, gN, gsN, gsC, gT, tY, lLc, wipeD, slV, slO, slD, sNx, sBk, sCt, sSeq, sRet, sRetN, sEx, sIf, sSet, sAsg, sPar, sPar3, sAug, sFor, sMu, sMuS, sMuG, mDo, gApp, sExt, sIx, sTell, sRaise, sRaiseF, sFldO, putD, eRevT, lRev, lRg1, lRg2, eTRg1, eTRg2, gLtT, gCatS, lLc2, eGet, eInD, eGet2, dO, dV, sPut, eMeth, eIsC, eIsCD, row, rowsT,
  List.map_cons, List.map_nil, List.cons_append, List.nil_append, List.replicate_succ, List.replicate_zero, List.set_cons_zero, List.set_cons_succ, List.getElem?_cons_zero, List.getElem?_cons_succ, List.length_cons, List.length_nil, List.length_map, Nat.reduceAdd, Nat.reduceSub, Nat.reduceLeDiff, Nat.reduceEqDiff,
  and_assoc, Option.some.injEq, Sl.val.injEq, Sl.own.injEq, PyData.int.injEq, PyData.str.injEq, PyData.bool.injEq, PyData.tuple.injEq, PyData.list.injEq, List.cons.injEq, objD_iff, exists_eq_left', exists_eq_left, exists_eq, exists_eq', and_true, true_and, exists_and_left, exists_and_right, eAlt, lOr, false_or, or_false, false_and, and_false, exists_false, if_true, if_false, Bool.false_eq_true, Bool.true_eq_false, Bool.not_true, Bool.not_false, Bool.or_true, Bool.or_false, Bool.true_or, Bool.false_or, Bool.and_true, Bool.true_and, Bool.and_false, Bool.false_and, decide_true, decide_false, bne_self_eq_false, Bool.bne_false, Bool.bne_true, reduceCtorEq, String.reduceEq])

theorem thing2_nt {d : D} (h : noDict d = true) (hn : ∀ xs, d ≠ .tuple xs) : thing2 d := ⟨h, fun xs e => absurd e (hn xs)⟩
theorem thing3_nt {d : D} (h : noDict d = true) (hn : ∀ xs, d ≠ .tuple xs) : thing3 d := ⟨h, fun xs e => absurd e (hn xs)⟩
def p_law_bent : Fn := fun ds k _ => ∃ R : List Op, ds = [handD, .tuple (R.map opD)] ∧ R.length ≤ 23 ∧ (∀ o ∈ R, Good o) ∧ ∀ d, thing3 d → k d
def m_law_bent : Fn := fnD 2 6 (sSeq (sSet 2 (slV (eCall p_law_draw (aC (eV 0) (aC (e2 gAdd (eBi gLen (lT (eV 1))) (eC (.int 1))) aN)))))
  (sSeq (sSet 3 (slV (eIx (lD (aC (eC (.int 9)) (aC (eC (.int 8)) (aC (e1 gNeg (eC (.int 1))) (aC (eC (.bool true)) (aC (eC .none) (aC (eC (.str "1")) (aC (eT (aC (eC (.int 1)) aN)) (aC (eCall p_law_deep (aC (eV 0) aN)) aN))))))))) (eCall p_law_draw (aC (eV 0) (aC (eC (.int 8)) aN))))))
  (sSeq (sSet 4 (slV (eL (lD (aC (eT (aC (eT (aC (eV 3) aN)) (aC (eT (aC (eC (.int 1)) aN)) aN))) (aC (eT (aC (eT aN) (aC (eT (aC (eV 3) aN)) aN))) (aC (eT (aC (eT aN) (aC (eT aN) aN))) (aC (eT (aC (e2 gRepT (eT (aC (eC (.int 0)) aN)) (eC (.int 41))) (aC (eT (aC (eC (.int 1)) aN)) aN))) (aC (eT (aC (e2 gRepT (eT (aC (eC (.int 0)) aN)) (eC (.int 40))) (aC (eT (aC (eC (.int 1)) aN)) aN))) (aC (eT (aC (eT (aC (eC (.int 1)) aN)) aN)) (aC (eL (lD (aC (eT (aC (eC (.int 1)) aN)) (aC (eT (aC (eC (.int 1)) aN)) aN)))) aN)))))))))))
  (sSeq (sSet 4 (slV (eL (lCat (lL (eV 4)) (lD (aC (eT (aC (eL (lD (aC (eC (.int 1)) aN))) (aC (eT (aC (eC (.int 1)) aN)) aN))) (aC (eC .none) (aC (eT aN) (aC (eT (aC (eT aN) (aC (eT (aC (eC (.int 1)) aN)) (aC (eT aN) aN)))) (aC (eDc false cNil) aN))))))))))
  (sSeq (sSet 5 (slV (eL (lD (aC (e2 gCatT (e2 gCatT (eSlT (lT (eV 1)) pN (pS (eV 2))) (eT (aC (eIx (lL (eV 4)) (eCall p_law_draw (aC (eV 0) (aC (eC (.int 12)) aN)))) aN))) (eSlT (lT (eV 1)) (pS (e2 gAdd (eV 2) (eC (.int 1)))) pN)) (aC (e2 gCatT (e2 gCatT (eSlT (lT (eV 1)) pN (pS (eV 2))) (eT (aC (eIx (lL (eV 4)) (eCall p_law_draw (aC (eV 0) (aC (eC (.int 12)) aN)))) aN))) (eSlT (lT (eV 1)) (pS (e2 gAdd (eV 2) (eC (.int 1)))) pN)) aN))))))
  (sSeq (sSet 5 (slV (eL (lCat (lL (eV 5)) (lD (aC (eL (lT (eV 1))) (aC (eSlT (lT (eV 1)) (pS (eC (.int 1))) pN) (aC (e2 gCatT (eV 1) (eT (aC (eT (aC (eT aN) (aC (eT (aC (eC (.int 1)) aN)) aN))) aN))) (aC (e2 gRepT (eT (aC (eT (aC (eT aN) (aC (eT (aC (eC (.int 1)) aN)) aN))) aN)) (eC (.int 24))) (aC (eC .none) (aC (eC (.str "right")) aN)))))))))))
  (sRet (eIx (lL (eV 5)) (eCall p_law_draw (aC (eV 0) (aC (eC (.int 8)) aN)))))))))))

theorem p_law_bent_ok {ds k kx} (h : p_law_bent ds k kx) : m_law_bent ds k kx := by
  obtain ⟨R, rfl, hl, hg, hk⟩ := h
  unfold m_law_bent
  (try walk_at "pw")
  have e1 : (R.length : Int) + 1 = ((R.length + 1 : Nat) : Int) := by omega
  refine drw (fun at' hat => ?_)
  (try walk_at "pw")
  refine ⟨rfl, fun deep hdeep => ?_⟩
  refine drw (fun r1 hr1 => ?_)
  (try walk_at "pw")
  refine (at_all (P := fun x => noDict x = true) (by simp; omega) ?_).imp fun nb hnb => ⟨hnb.1, ?_⟩
  · intro x hx
    simp only [List.mem_cons, List.not_mem_nil, or_false] at hx
    rcases hx with rfl | rfl | rfl | rfl | rfl | rfl | rfl | rfl <;> first | rfl | exact hdeep.1
  have hnb := hnb.2
  have t0 : thingOk (.tuple []) := thing_tup (by simp) (fun _ z => nomatch z)
  have t1 : thingOk (.tuple [.int 1]) := thing_t1 rfl
  have tn : thingOk (.tuple [nb]) := thing_t1 hnb
  have tl : thingOk (.list [.int 1]) := thing_nt rfl (fun _ z => nomatch z)
  have trep : ∀ n : Nat, n ≤ 1000 → thingOk (.tuple (repD (n : Int) [.int 0])) := fun n hn => by
    rw [rep_one]
    exact thing_tup (by simpa using hn) fun x hx => by rw [(List.mem_replicate.mp hx).2]; rfl
  have pr : ∀ a b : D, thingOk a → thingOk b → thing2 (.tuple [a, b]) := fun a b ha hb => thing2_tup (by simp) fun x hx => by
    simp only [List.mem_cons, List.not_mem_nil, or_false] at hx
    rcases hx with rfl | rfl
    · exact ha
    · exact hb
  have hodd : ∀ x ∈ [PyData.tuple [PyData.tuple [nb], PyData.tuple [PyData.int 1]], PyData.tuple [PyData.tuple [], PyData.tuple [nb]], PyData.tuple [PyData.tuple [], PyData.tuple []], PyData.tuple [PyData.tuple (repD 41 [PyData.int 0]), PyData.tuple [PyData.int 1]], PyData.tuple [PyData.tuple (repD 40 [PyData.int 0]), PyData.tuple [PyData.int 1]], PyData.tuple [PyData.tuple [PyData.int 1]], PyData.list [PyData.tuple [PyData.int 1], PyData.tuple [PyData.int 1]], PyData.tuple [PyData.list [PyData.int 1], PyData.tuple [PyData.int 1]], PyData.none, PyData.tuple [], PyData.tuple [PyData.tuple [], PyData.tuple [PyData.int 1], PyData.tuple []], dicD false []], thing2 x := fun x hx => by
    simp only [List.mem_cons, List.not_mem_nil, or_false] at hx
    rcases hx with rfl | rfl | rfl | rfl | rfl | rfl | rfl | rfl | rfl | rfl | rfl | rfl
    · exact pr _ _ tn t1
    · exact pr _ _ t0 tn
    · exact pr _ _ t0 t0
    · exact pr _ _ (trep 41 (by omega)) t1
    · exact pr _ _ (trep 40 (by omega)) t1
    · exact thing2_tup (by simp) fun x hx => by
        simp only [List.mem_cons, List.not_mem_nil, or_false] at hx
        subst hx
        exact t1
    · exact thing2_nt rfl (fun _ z => nomatch z)
    · exact pr _ _ tl t1
    · exact thing2_nt rfl (fun _ z => nomatch z)
    · exact thing2_tup (by simp) (fun _ z => nomatch z)
    · exact thing2_tup (by simp) fun x hx => by
        simp only [List.mem_cons, List.not_mem_nil, or_false] at hx
        rcases hx with rfl | rfl | rfl
        · exact t0
        · exact t1
        · exact t0
    · exact thing2_nt rfl (fun _ z => nomatch z)
  have hR : ∀ x ∈ R.map opD, thing2 x := fun x hx => by
    obtain ⟨o, ho, rfl⟩ := List.mem_map.mp hx
    exact op_thing (hg o ho)
  have hcm : ∀ lo hi, ∀ x ∈ cutD (R.map opD) lo hi, thing2 x := fun lo hi x hx => hR x (List.mem_of_mem_drop (List.mem_of_mem_take hx))
  have hcl : ∀ lo hi, (cutD (R.map opD) lo hi).length ≤ 23 := fun lo hi => by
    have := cutD_len (R.map opD) lo hi
    rw [List.length_map] at this
    omega
  have hpart : ∀ lo hi lo2 hi2 x, thing2 x → thing3 (.tuple (cutD (R.map opD) lo hi ++ [x] ++ cutD (R.map opD) lo2 hi2)) := fun lo hi lo2 hi2 x hx => thing3_tup (by
    have a := hcl lo hi
    have b := hcl lo2 hi2
    simp only [List.length_append, List.length_cons, List.length_nil]
    omega) fun y hy => by
    rcases List.mem_append.mp hy with hy | hy
    · rcases List.mem_append.mp hy with hy | hy
      · exact hcm _ _ y hy
      · have : y = x := by simpa using hy
        rw [this]; exact hx
    · exact hcm _ _ y hy
  have hlen : ∀ lo hi lo2 hi2 (x : D), (cutD (R.map opD) lo hi ++ [x]).length ≤ 1000000 ∧ (cutD (R.map opD) lo hi ++ [x] ++ cutD (R.map opD) lo2 hi2).length ≤ 1000000 := fun lo hi lo2 hi2 x => by
    have a := hcl lo hi
    have b := hcl lo2 hi2
    simp only [List.length_append, List.length_cons, List.length_nil]
    omega
  have hb1 : thing2 (.tuple [.tuple [], .tuple [.int 1]]) := pr _ _ t0 t1
  refine ⟨by simp, by omega, by omega, by simp, by omega, by omega, drw (fun r2 hr2 => ?_)⟩
  refine ⟨_, rfl, (at_all (P := thing2) (by simp; omega) hodd).imp fun x hx => ⟨hx.1, (hlen _ _ none none x).1, (hlen _ _ _ _ x).2, drw (fun r3 hr3 => ?_)⟩⟩
  have hx := hx.2
  refine ⟨_, rfl, (at_all (P := thing2) (by simp; omega) hodd).imp fun y hy => ⟨hy.1, (hlen _ _ none none y).1, (hlen _ _ _ _ y).2, by simp; omega, by simp, by omega, by omega, drw (fun r4 hr4 => ?_)⟩⟩
  have hy := hy.2
  refine ⟨_, rfl, (at_all (P := thing3) (by simp; omega) fun z hz => ?_).imp fun z hz => ⟨hz.1, hk z hz.2⟩⟩
  simp only [List.mem_cons, List.not_mem_nil, or_false] at hz
  rcases hz with rfl | rfl | rfl | rfl | rfl | rfl | rfl | rfl
  · exact hpart _ _ _ _ _ hx
  · exact hpart _ _ _ _ _ hy
  · exact thing3_nt rfl (fun _ z => nomatch z)
  · exact thing3_tup (by have := hcl (some 1) none; omega) (hcm _ _)
  · refine thing3_tup (by simp; omega) fun y hy => ?_
    rcases List.mem_append.mp hy with hy | hy
    · exact hR y hy
    · rw [List.mem_singleton.mp hy]
      exact hb1
  · rw [show (24 : Int) = ((24 : Nat) : Int) from rfl, rep_one]
    exact thing3_tup (by simp) fun y hy => by rw [(List.mem_replicate.mp hy).2]; exact hb1
  · exact thing3_nt rfl (fun _ z => nomatch z)
  · exact thing3_nt rfl (fun _ z => nomatch z)
theorem due_sh (n : Nat) (w t : D) : Fl 0 (.str (dueW n w t)) := by
  unfold dueW
  split
  · split
    · exact ⟨by simp only [PyData.canLay0]; decide +kernel, by simp [PyData.depth], rfl⟩
    · exact ⟨by simp only [PyData.canLay0]; decide +kernel, by simp [PyData.depth], rfl⟩
  · exact ⟨by simp only [PyData.canLay0]; decide +kernel, by simp [PyData.depth], rfl⟩
theorem words {R L : List Op} {w t : D} {s : Str} (hg : okTm R L) (hw : thingOk w) (ht : noDict t = true) (hs : dueW R.length w t = s) {k : D → Prop} {a b s5 s6 s7 s8 : Sl} (hk : k (.bool true)) :
    lcD (gN 7) tY (eCall p_law_word (aC (eV 7) (aC (eV 1) (aC (eV 3) (aC (eV 4) aN))))) [a, .val (tmD R L), b, .val w, .val t, s5, s6, s7, s8] [.int 0, .int 1] []
      (fun ds => pureD (.list ds) = true ∧ pureD (.list [.str s, .str s]) = true ∧ SeqAt.shaped (.list ds) = true ∧ SeqAt.shaped (.list [.str s, .str s]) = true ∧ k (.bool ((PyData.list ds).eqv (.list [.str s, .str s])))) := by
  refine lc_mapI (fun _ => .str s) (fun y hy k1 k0 h1 => ?_) ?_
  · unfold lcB
    (try walk_at "pw")
    simp only [List.mem_cons, List.not_mem_nil, or_false] at hy
    rcases hy with rfl | rfl
    · exact ⟨0, R, L, w, t, rfl, .inl rfl, hg, hw, ht, by rw [hs]; exact h1⟩
    · exact ⟨1, R, L, w, t, rfl, .inr rfl, hg, hw, ht, by rw [hs]; exact h1⟩
  · have f := due_sh R.length w t
    rw [hs] at f
    have e : (PyData.list [.str s, .str s]).canLay0 = true ∧ (PyData.list [.str s, .str s]).depth ≤ 1 ∧ pureD (.list [.str s, .str s]) = true := by
      have := fl_two f f
      exact ⟨this.lay, this.dep, this.pur⟩
    have sh : SeqAt.shaped (.list [.str s, .str s]) = true := sh_of e.1 (Nat.le_trans e.2.1 (by decide))
    refine ⟨e.2.2, e.2.2, sh, sh, ?_⟩
    rw [show List.map (fun _ : D => PyData.str s) [.int 0, .int 1] = [.str s, .str s] from rfl, eqv_same _ e.2.2]
    exact hk
def p_law_refused_right : Fn := fun ds k _ => ∃ (R L : List Op), ds = [handD, tmD R L, .int R.length] ∧ okTm R L ∧ k (.bool true)
def m_law_refused_right : Fn := fnD 3 9 (sSeq (sSet 3 (slV (eIx (lD (aC (eT (aC (eC (.int 0)) (aC (eC (.int 1)) aN))) (aC (eT (aC (eC (.int 1)) (aC (eC (.int 0)) aN))) (aC (eT (aC (eC (.int 0)) (aC (eC (.int 2)) aN))) (aC (eT (aC (eC (.int 0)) (aC (eC (.int 0)) aN))) (aC (eL (lD (aC (eC (.int 0)) (aC (eC (.int 1)) aN)))) (aC (eT (aC (eV 2) (aC (e2 gAdd (eV 2) (eC (.int 1))) aN))) (aC (eT (aC (eC (.bool true)) (aC (eC (.int 0)) aN))) (aC (eC .none) (aC (eT (aC (eC (.int 0)) (aC (eC (.int 1)) (aC (eC (.int 2)) aN)))) (aC (eC (.str "01")) aN))))))))))) (eCall p_law_draw (aC (eV 0) (aC (eC (.int 10)) aN))))))
  (sSeq (sSet 4 (slV (eIx (lD (aC (eC (.int 0)) (aC (eC (.int 1)) (aC (e2 gPow (eC (.int 10)) (eC (.int 9))) (aC (e2 gAdd (e2 gPow (eC (.int 10)) (eC (.int 9))) (eC (.int 1))) (aC (e1 gNeg (eC (.int 1))) (aC (eC (.bool true)) (aC (eC .none) (aC (eC (.str "1")) (aC (eT (aC (eC (.int 1)) aN)) (aC (eCall p_law_deep (aC (eV 0) aN)) aN))))))))))) (eCall p_law_draw (aC (eV 0) (aC (eC (.int 10)) aN))))))
  (sSeq (sSet 5 (slV (eAnd (eIs "tuple" (eV 3)) (eAnd (e2 (gEqS false) (eAlt (eBi gLen (lL (eV 3))) (eBi gLen (lT (eV 3)))) (eC (.int 2))) (eBi gAll (lLc (lOr (lL (eV 3)) (lT (eV 3))) (gN 8) tY (eCall p_law_whole (aC (eV 8) (aC (eC (.int 0)) (aC (eV 2) aN)))) [8]))))))
  (sSeq (sSet 6 (slV (eC (.str "way"))))
  (sSeq (sIf (tAn (tB (eV 5)) (tB (e2 (gEqS false) (eBi gAbs (aC (e2 gMinus (eAlt (eIx (lL (eV 3)) (eC (.int 0))) (eIx (lT (eV 3)) (eC (.int 0)))) (eAlt (eIx (lL (eV 3)) (eC (.int 1))) (eIx (lT (eV 3)) (eC (.int 1))))) aN)) (eC (.int 1))))) (sSet 6 (slV (eIf (tB (eCall p_law_whole (aC (eV 4) (aC (eC (.int 0)) (aC (e2 gPow (eC (.int 10)) (eC (.int 9))) aN))))) (eC (.str "let")) (eC (.str "tick"))))) sNx)
  (sRet (e2 (gEq false) (eL (lLc (lT (eT (aC (eC (.int 0)) (aC (eC (.int 1)) aN)))) (gN 7) tY (eCall p_law_word (aC (eV 7) (aC (eV 1) (aC (eV 3) (aC (eV 4) aN))))) [7])) (eL (lD (aC (eV 6) (aC (eV 6) aN)))))))))))

theorem p_law_refused_right_ok {ds k kx} (h : p_law_refused_right ds k kx) : m_law_refused_right ds k kx := by
  obtain ⟨R, L, rfl, hg, hk⟩ := h
  have hl := hg.1
  unfold m_law_refused_right
  (try walk_at "pw")
  refine drw (fun r1 hr1 => ?_)
  (try walk_at "pw")
  refine (at_all (P := thingOk) (by simp; omega) ?_).imp fun w hw => ⟨hw.1, ?_⟩
  · intro x hx
    simp only [List.mem_cons, List.not_mem_nil, or_false] at hx
    have two : ∀ a b : D, noDict a = true → noDict b = true → thingOk (.tuple [a, b]) := fun a b ha hb => thing_tup (by simp) fun x hx => by
      simp only [List.mem_cons, List.not_mem_nil, or_false] at hx
      rcases hx with rfl | rfl
      · exact ha
      · exact hb
    rcases hx with rfl | rfl | rfl | rfl | rfl | rfl | rfl | rfl | rfl | rfl
    · exact two _ _ rfl rfl
    · exact two _ _ rfl rfl
    · exact two _ _ rfl rfl
    · exact two _ _ rfl rfl
    · exact thing_nt rfl (fun _ z => nomatch z)
    · exact two _ _ rfl rfl
    · exact two _ _ rfl rfl
    · exact thing_nt rfl (fun _ z => nomatch z)
    · exact thing_tup (by simp) fun x hx => by
        simp only [List.mem_cons, List.not_mem_nil, or_false] at hx
        rcases hx with rfl | rfl | rfl <;> rfl
    · exact thing_nt rfl (fun _ z => nomatch z)
  replace hw := hw.2
  refine ⟨⟨by omega, by omega, by decide⟩, ⟨by omega, by omega, by decide⟩, rfl, fun deep hdeep => ?_⟩
  refine drw (fun r2 hr2 => ?_)
  refine ⟨_, rfl, (at_all (P := fun x => noDict x = true) (by simp; omega) ?_).imp fun t ht => ⟨ht.1, hw.1, ?_⟩⟩
  · intro x hx
    simp only [List.mem_cons, List.not_mem_nil, or_false] at hx
    rcases hx with rfl | rfl | rfl | rfl | rfl | rfl | rfl | rfl | rfl | rfl <;> first | rfl | exact hdeep.1
  replace ht := ht.2
  have e2 : ∀ n : Nat, ((n : Int) = 2) ↔ n = 2 := fun n => by omega
  have nt : isPair w = false → dueW R.length w t = "way" := fun h => by
    rcases way_or R.length w with ⟨a, b, rfl⟩ | ⟨_, h2⟩
    · cases h
    · unfold dueW; rw [h2]; rfl
  cases w <;> try ((try walk_at "pw"); exact words hg hw ht (nt rfl) hk)
  rename_i xs
  obtain ⟨hxl, hx⟩ := hw.2 xs rfl
  (try walk_at "pw")
  by_cases h2 : xs.length = 2
  case neg =>
    rw [if_neg (by simp; omega)]
    exact words hg hw ht (nt (by simp [isPair, h2])) hk
  rw [if_pos (by simp [h2])]
  obtain ⟨a, b, rfl⟩ : ∃ a b, xs = [a, b] := by
    rcases xs with _ | ⟨a, _ | ⟨b, _ | ⟨c, xs⟩⟩⟩ <;> simp at h2
    exact ⟨a, b, rfl⟩
  refine lc_mapI (fun y => .bool (inB y 0 R.length)) (fun y hy k1 k0 h1 => ?_) ?_
  · unfold lcB p_law_whole
    (try walk_at "pw")
    exact ⟨hx y hy, h1⟩
  refine ⟨[inB a 0 R.length, inB b 0 R.length], rfl, ?_⟩
  simp only [List.all_cons, List.all_nil, id_eq]
  have dw : dueW R.length (.tuple [a, b]) t = if (inB a 0 R.length && (inB b 0 R.length && nbr a b)) = true then (if inB t 0 1000000000 = true then ("let" : Str) else ("tick" : Str)) else ("way" : Str) := rfl
  cases h3 : inB a 0 R.length <;> simp only [h3, Bool.false_and, Bool.true_and, Bool.false_eq_true, if_false] at dw <;> (try walk_at "pw")
  · exact words hg hw ht dw hk
  cases h4 : inB b 0 R.length <;> simp only [h4, Bool.false_and, Bool.true_and, Bool.false_eq_true, if_false] at dw <;> (try walk_at "pw")
  · exact words hg hw ht dw hk
  obtain ⟨i, rfl, i0, i1⟩ := inB_iff.mp h3
  obtain ⟨j, rfl, j0, j1⟩ := inB_iff.mp h4
  (try walk_at "pw")
  simp only [nbr, decide_eq_true_eq] at dw
  by_cases h5 : j = i + 1 ∨ j = i - 1
  · rw [if_pos h5] at dw
    rw [if_pos (decide_eq_true (by split <;> omega))]
    refine ⟨⟨by omega, by omega, by decide⟩, t, 0, 1000000000, rfl, ht, _, rfl, ?_⟩
    cases h6 : inB t 0 1000000000 <;> simp only [h6, Bool.false_eq_true, if_false, if_true] at dw
    · rw [if_neg Bool.false_ne_true]
      exact words hg hw ht dw hk
    · rw [if_pos rfl]
      exact words hg hw ht dw hk
  · rw [if_neg h5] at dw
    rw [if_neg (by simp only [decide_eq_true_eq]; split <;> omega)]
    exact words hg hw ht dw hk
end PD

namespace PD
open PySem TH
open L2 (atI ixN)
local macro_rules | `(tactic| walk_at "pw") => `(tactic| simp (config := { decide := false }) only [fnD, iRg3, lRg3, gDivM, eLm, gCount, gIndex, eDc, cNil, cDisp, dispD, sNever, fnI, eV, eC, lO, lL, lT, eL, e2, e1, tB, gI, gIc, gAdd, gMinus, gMul, gDiv, gMod, gPow, gLt, gLe, gGt, gGe, gEq, gEqS, scD, gIs, isNon, eCh, gNeg, eNot, eAnd, eOr, tNt, tAn, tOr', eIf, lIf, aN, aC, eT, lD, eIx, pN, pS, lSl, eSlT, lCat, gCatT, lRep, gRepT, eIn, eBi, gLen, gSum, gAll, gAny, gTupl, eCall, eCallX, gInt, intD, gAbs, gMin, gMax, gLenS, eIs, eIs2, isK, isKs, kindD.eq_1, kindD.eq_2, kindD.eq_3, kindD.eq_4, kindD.eq_5, kindD.eq_6, kindD.eq_7, atI_0, atI_1, atI_2, atI_3, atI_4, nd_none, nd_bool, nd_int, nd_str, nd_list, nd_tuple, nd_dic, eFld, lSort, lSortF, iRg1, iRg2, iEn, iZp, gN, gsN, gsC, gT, tY, lLc, wipeD, slV, slO, slD, sNx, sBk, sCt, sSeq, sRet, sRetN, sEx, sIf, sSet, sAsg, sPar, sPar3, sAug, sFor, sMu, sMuS, sMuG, mDo, gApp, sExt, sIx, sTell, sRaise, sRaiseF, sFldO, putD, eRevT, lRev, lRg1, lRg2, eTRg1, eTRg2, gLtT, gCatS, lLc2, eGet, eInD, eGet2, dO, dV, sPut, eMeth, eIsC, eIsCD, row, rowsT,
  List.map_cons, List.map_nil, List.cons_append, List.nil_append, List.replicate_succ, List.replicate_zero, List.set_cons_zero, List.set_cons_succ, List.getElem?_cons_zero, List.getElem?_cons_succ, List.length_cons, List.length_nil, List.length_map, Nat.reduceAdd, Nat.reduceSub, Nat.reduceLeDiff, Nat.reduceEqDiff,
  and_assoc, Option.some.injEq, Sl.val.injEq, Sl.own.injEq, PyData.int.injEq, PyData.str.injEq, PyData.bool.injEq, PyData.tuple.injEq, PyData.list.injEq, List.cons.injEq, objD_iff, exists_eq_left', exists_eq_left, exists_eq, exists_eq', and_true, true_and, exists_and_left, exists_and_right, eAlt, lOr, false_or, or_false, false_and, and_false, exists_false, if_true, if_false, Bool.false_eq_true, Bool.true_eq_false, Bool.not_true, Bool.not_false, Bool.or_true, Bool.or_false, Bool.true_or, Bool.false_or, Bool.and_true, Bool.true_and, Bool.and_false, Bool.false_and, decide_true, decide_false, bne_self_eq_false, Bool.bne_false, Bool.bne_true, reduceCtorEq, String.reduceEq])

theorem ev_way {n : Nat} {b : Int} {i j : Int} (hi : 0 ≤ i) (hj : 0 ≤ j) (hi2 : i ≤ n) (hj2 : j ≤ n) (h : j = i + 1 ∨ j = i - 1) : wayOp (List.replicate n (evO b)) (List.replicate n (evO b)) i j = evO b := by
  unfold wayOp
  split
  · rw [List.getElem?_replicate, if_pos (by omega)]
    rfl
  · rw [List.getElem?_replicate, if_pos (by omega)]
    rfl
theorem ev_pl {b : Int} : ∀ {t : Nat}, 1 ≤ t → pl (evO b) t = b := fun {t} h => by
  unfold pl evO
  rw [if_neg (by omega), if_neg (by simp; omega)]
  simp [gt, Nat.mod_one]
theorem ev_Pc {b : Int} : ∀ t : Nat, Pc (evO b) t = t * b
  | 0 => by simp [Pc]
  | t + 1 => by
    rw [Pc, ev_Pc t, ev_pl (by omega)]
    push_cast
    rw [Int.add_mul, Int.one_mul]
theorem way_ok {n : Nat} {i j : Int} (hi : 0 ≤ i) (hj : 0 ≤ j) (hi2 : i ≤ n) (hj2 : j ≤ n) (h : j = i + 1 ∨ j = i - 1) : wayOk n (.tuple [.int i, .int j]) = true := by
  unfold wayOk inB nbr
  simp [hi, hj, hi2, hj2, h]
theorem chk_ok {n : Nat} {i j : Int} {t : Nat} {P : Prop} {kx : XD → Prop} (hi : 0 ≤ i) (hj : 0 ≤ j) (hi2 : i ≤ n) (hj2 : j ≤ n) (h : j = i + 1 ∨ j = i - 1) (ht : t ≤ 1000000000) (hP : P) : chk n (.tuple [.int i, .int j]) (.int t) P kx := by
  unfold chk
  rw [if_pos (way_ok hi hj hi2 hj2 h), if_pos (by simp [inB]; omega)]
  exact hP
theorem way_thing {i j : Int} : thingOk (.tuple [.int i, .int j]) := thing_tup (by simp) fun x hx => by
  simp only [List.mem_cons, List.not_mem_nil, or_false] at hx
  rcases hx with rfl | rfl <;> rfl
def evTry : SV := (sTry0 errSub "NoNumber" 5 (sSet 4 (slV (eCallX p_even_timing (aC (eV 1) (aC (eV 2) aN))))) (fun y dd => (sSet 4 (slV (eIf (tAn (tB (eIsE errSub y.c "TollError" dd (eV 5))) (tB (eIsE errSub y.c "ValueError" dd (eV 5)))) (eC (.str "number")) (eC (.str "odd")))))))
def evRest : SV := (sSeq (sIf (tNt (tB (eV 3))) (sRet (e2 (gEq false) (eV 4) (eC (.str "number")))) sNx)
  (sSeq (sIf (tOr' (tNt (tB (eIsCD "Timing" ns_Timing (eV 4)))) (tOr' (tB (e2 (gEq true) (eAlt (eBi gLen (lL (eFld "Timing" ns_Timing 0 (eV 4)))) (eBi gLen (lT (eFld "Timing" ns_Timing 0 (eV 4))))) (eV 1))) (tB (e2 (gEq true) (eAlt (eBi gLen (lL (eFld "Timing" ns_Timing 1 (eV 4)))) (eBi gLen (lT (eFld "Timing" ns_Timing 1 (eV 4))))) (eV 1))))) (sRet (eC (.bool false))) sNx)
  (sSeq (sSet 6 (slV (e2 gAdd (eC (.int 1)) (eCall p_law_draw (aC (eV 0) (aC (eC (.int 99)) aN))))))
  (sSeq (sFor (iRg1 (aC (eV 1) aN)) (gN 7) (sFor (lT (eT (aC (eT (aC (eV 7) (aC (e2 gAdd (eV 7) (eC (.int 1))) aN))) (aC (eT (aC (e2 gAdd (eV 7) (eC (.int 1))) (aC (eV 7) aN))) aN)))) (gN 8) (sIf (tNt (tB (eCall p_law_is (aC (eL (lD (aC (eCall p_places (aC (eV 4) (aC (eV 8) (aC (eV 6) aN)))) (aC (eCall p_carried (aC (eV 4) (aC (eV 8) (aC (eV 6) aN)))) aN)))) (aC (eL (lD (aC (eV 2) (aC (e2 gMul (eV 6) (eV 2)) aN)))) aN))))) (sRet (eC (.bool false))) sNx)))
  (sRet (eC (.bool true)))))))
theorem num_eq : PyData.eqv (.str "number") (.str "number") = true := by simp [PyData.eqv]
theorem num_sh : SeqAt.shaped (.str "number") = true := sh_of (by simp only [PyData.canLay0]; decide +kernel) (by simp [PyData.depth])
theorem ev_bad {E : ED} {a b : D} {s5 s6 s7 s8 : Sl} (hE : E.rt (.bool true)) : evRest E [.val handD, .val a, .val b, .val (.bool false), .val (.str "number"), s5, s6, s7, s8] := by
  unfold evRest
  (try walk_at "pw")
  rw [num_eq]
  exact ⟨rfl, rfl, num_sh, num_sh, hE⟩
theorem ev_good {E : ED} {n : Nat} {b : Int} {s5 s6 s7 s8 : Sl} (hn : n ≤ 23) (h0 : 1 ≤ b) (h1 : b ≤ 8) (hE : E.rt (.bool true)) : evRest E [.val handD, .val (.int n), .val (.int b), .val (.bool true), .val (evT n b), s5, s6, s7, s8] := by
  unfold evRest
  have hok := ev_ok hn h0 h1
  have sn := sh_int n
  have en : PyData.eqv (.int n) (.int n) = true := eqv_same _ rfl
  have ln : ((List.replicate n (evO b)).length : Int) = n := by simp
  unfold evT tmD
  (try walk_at "pw")
  rw [ln, en]
  refine .inl ⟨rfl, rfl, sn, sn, ?_⟩
  rw [if_neg (by simp)]
  refine ⟨rfl, rfl, sn, sn, ?_⟩
  rw [if_neg (by simp)]
  refine drw (fun x hx => ⟨x, rfl, by omega, by omega, ?_⟩)
  rw [rngD_map]
  refine for_inv (fun i : Nat => .int (0 + (i : Nat))) (fun i δ => ∃ s7 s8, δ = [Sl.val handD, Sl.val (PyData.int n), Sl.val (PyData.int b), Sl.val (PyData.bool true), Sl.val (tmD (List.replicate n (evO b)) (List.replicate n (evO b))), s5, Sl.val (PyData.int (1 + (x : Nat))), s7, s8]) ⟨_, _, rfl⟩ (fun i y δ hj hI N hN => ?_) (fun δ hI => ?_)
  · obtain ⟨s7, s8, rfl⟩ := hI
    obtain ⟨hit, e⟩ := List.getElem?_eq_some_iff.mp hj
    rw [List.getElem_range] at e
    subst e
    rw [List.length_range] at hit
    have ex : (1 : Int) + (x : Int) = ((1 + x : Nat) : Int) := by push_cast; rfl
    rw [ex]
    have call : ∀ (i j : Int) (k : D → Prop) (kx : XD → Prop), 0 ≤ i → 0 ≤ j → i ≤ n → j ≤ n → (j = i + 1 ∨ j = i - 1) → (k (.int b) → p_places [tmD (List.replicate n (evO b)) (List.replicate n (evO b)), .tuple [.int i, .int j], .int (1 + x : Nat)] k kx) ∧ (k (.int ((1 + x : Nat) * b)) → p_carried [tmD (List.replicate n (evO b)) (List.replicate n (evO b)), .tuple [.int i, .int j], .int (1 + x : Nat)] k kx) := fun i j k kx hi hj hi2 hj2 hij => by
      have lr : (List.replicate n (evO b)).length = n := by simp
      refine ⟨fun hk => ⟨_, _, _, _, rfl, hok, way_thing, rfl, chk_ok hi hj (by rw [lr]; exact hi2) (by rw [lr]; exact hj2) hij (by omega) ?_⟩, fun hk => ⟨_, _, _, _, rfl, hok, way_thing, rfl, chk_ok hi hj (by rw [lr]; exact hi2) (by rw [lr]; exact hj2) hij (by omega) ?_⟩⟩
      · show k (.int (pl (wayOp _ _ i j) ((1 + x : Nat) : Int).toNat))
        rw [ev_way hi hj hi2 hj2 hij, ev_pl (by omega)]
        exact hk
      · show k (.int (Pc (wayOp _ _ i j) ((1 + x : Nat) : Int).toNat))
        rw [ev_way hi hj hi2 hj2 hij, ev_Pc, Int.toNat_natCast]
        exact hk
    (try walk_at "pw")
    have c0 : (0 : Int) + (i : Int) = i := by omega
    rw [c0]
    have mul : L2.CMul ((1 + x : Nat) : Int) b := .inr ⟨by omega, by omega⟩
    have isk : ∀ (kk : D → Prop) (kx : XD → Prop), kk (.bool true) → p_law_is [.list [.int b, .int (((1 + x : Nat) : Int) * b)], .list [.int b, .int (((1 + x : Nat) : Int) * b)]] kk kx := fun kk kx h => ⟨_, rfl, by simp, fun z hz => by
      simp only [List.mem_cons, List.not_mem_nil, or_false] at hz
      rcases hz with rfl | rfl
      · exact ⟨rfl, sh_int _⟩
      · exact ⟨rfl, sh_int _⟩, h⟩
    simp only [forD]
    (try walk_at "pw")
    refine (call i (i + 1) _ _ (by omega) (by omega) (by omega) (by omega) (by omega)).1 ?_
    refine (call i (i + 1) _ _ (by omega) (by omega) (by omega) (by omega) (by omega)).2 ?_
    refine ⟨mul, isk _ _ ?_⟩
    (try walk_at "pw")
    refine (call (i + 1) i _ _ (by omega) (by omega) (by omega) (by omega) (by omega)).1 ?_
    refine (call (i + 1) i _ _ (by omega) (by omega) (by omega) (by omega) (by omega)).2 ?_
    refine ⟨mul, isk _ _ ⟨true, rfl, ?_⟩⟩
    rw [if_neg (by simp), ← ex]
    exact hN _ ⟨_, _, rfl⟩
  · obtain ⟨s7, s8, rfl⟩ := hI
    (try walk_at "pw")
    exact hE
theorem ev_try {k : D → Prop} {E : ED} {a b : D} {s5 s6 s7 s8 : Sl} {c : Bool} (ha : noDict a = true) (hb : noDict b = true) (hc : c = (inB a 0 23 && inB b 1 8)) (hE : E.rt (.bool true)) : evTry { E with nx := evRest E } [.val handD, .val a, .val b, .val (.bool c), .val (.str "none"), s5, s6, s7, s8] := by
  unfold evTry sTry0 sTry
  (try walk_at "pw")
  refine ⟨a, b, rfl, ha, hb, ?_⟩
  by_cases h : inB a 0 23 = true ∧ inB b 1 8 = true
  · rw [if_pos h]
    rw [h.1, h.2] at hc
    obtain ⟨i, rfl, i0, i1⟩ := inB_iff.mp h.1
    obtain ⟨j, rfl, j0, j1⟩ := inB_iff.mp h.2
    have := ev_good (E := E) (n := i.toNat) (b := j) (s5 := s5) (s6 := s6) (s7 := s7) (s8 := s8) (by omega) j0 j1 hE
    rw [Int.toNat_of_nonneg i0] at this
    rw [hc]
    exact this
  · rw [if_neg h]
    have hc' : c = false := by
      rw [hc]
      cases h1 : inB a 0 23
      · rfl
      · cases h2 : inB b 1 8
        · rfl
        · exact absurd ⟨h1, h2⟩ h
    subst hc'
    refine ⟨true, rfl, ?_⟩
    rw [if_pos rfl]
    intro dd hdd
    refine ⟨rfl, ?_⟩
    unfold eIsE
    (try walk_at "pw")
    refine ⟨true, rfl, ?_⟩
    rw [if_pos rfl]
    refine ⟨true, rfl, ?_⟩
    rw [if_pos rfl]
    exact ev_bad hE
def p_law_even_right : Fn := fun ds k _ => ds = [handD] ∧ k (.bool true)
def m_law_even_right : Fn := fnD 1 9 (sSeq (sSet 1 (slV (eIx (lD (aC (eC (.int 0)) (aC (eC (.int 1)) (aC (eC (.int 23)) (aC (eC (.int 24)) (aC (e1 gNeg (eC (.int 1))) (aC (eC (.bool true)) (aC (eC .none) (aC (eC (.str "1")) (aC (eCall p_law_draw (aC (eV 0) (aC (eC (.int 24)) aN))) aN)))))))))) (eCall p_law_draw (aC (eV 0) (aC (eC (.int 9)) aN))))))
  (sSeq (sSet 2 (slV (eIx (lD (aC (eC (.int 1)) (aC (eC (.int 8)) (aC (eC (.int 0)) (aC (eC (.int 9)) (aC (eC (.bool false)) (aC (eC .none) (aC (eL (lD (aC (eC (.int 1)) aN))) (aC (e2 gAdd (eC (.int 1)) (eCall p_law_draw (aC (eV 0) (aC (eC (.int 8)) aN)))) aN))))))))) (eCall p_law_draw (aC (eV 0) (aC (eC (.int 8)) aN))))))
  (sSeq (sSet 3 (slV (eAnd (eCall p_law_whole (aC (eV 1) (aC (eC (.int 0)) (aC (eC (.int 23)) aN)))) (eCall p_law_whole (aC (eV 2) (aC (eC (.int 1)) (aC (eC (.int 8)) aN)))))))
  (sSeq (sSet 4 (slV (eC (.str "none"))))
  (sSeq (sTry0 errSub "NoNumber" 5 (sSet 4 (slV (eCallX p_even_timing (aC (eV 1) (aC (eV 2) aN))))) (fun y dd => (sSet 4 (slV (eIf (tAn (tB (eIsE errSub y.c "TollError" dd (eV 5))) (tB (eIsE errSub y.c "ValueError" dd (eV 5)))) (eC (.str "number")) (eC (.str "odd")))))))
  (sSeq (sIf (tNt (tB (eV 3))) (sRet (e2 (gEq false) (eV 4) (eC (.str "number")))) sNx)
  (sSeq (sIf (tOr' (tNt (tB (eIsCD "Timing" ns_Timing (eV 4)))) (tOr' (tB (e2 (gEq true) (eAlt (eBi gLen (lL (eFld "Timing" ns_Timing 0 (eV 4)))) (eBi gLen (lT (eFld "Timing" ns_Timing 0 (eV 4))))) (eV 1))) (tB (e2 (gEq true) (eAlt (eBi gLen (lL (eFld "Timing" ns_Timing 1 (eV 4)))) (eBi gLen (lT (eFld "Timing" ns_Timing 1 (eV 4))))) (eV 1))))) (sRet (eC (.bool false))) sNx)
  (sSeq (sSet 6 (slV (e2 gAdd (eC (.int 1)) (eCall p_law_draw (aC (eV 0) (aC (eC (.int 99)) aN))))))
  (sSeq (sFor (iRg1 (aC (eV 1) aN)) (gN 7) (sFor (lT (eT (aC (eT (aC (eV 7) (aC (e2 gAdd (eV 7) (eC (.int 1))) aN))) (aC (eT (aC (e2 gAdd (eV 7) (eC (.int 1))) (aC (eV 7) aN))) aN)))) (gN 8) (sIf (tNt (tB (eCall p_law_is (aC (eL (lD (aC (eCall p_places (aC (eV 4) (aC (eV 8) (aC (eV 6) aN)))) (aC (eCall p_carried (aC (eV 4) (aC (eV 8) (aC (eV 6) aN)))) aN)))) (aC (eL (lD (aC (eV 2) (aC (e2 gMul (eV 6) (eV 2)) aN)))) aN))))) (sRet (eC (.bool false))) sNx)))
  (sRet (eC (.bool true))))))))))))

theorem p_law_even_right_ok {ds k kx} (h : p_law_even_right ds k kx) : m_law_even_right ds k kx := by
  obtain ⟨rfl, hk⟩ := h
  unfold m_law_even_right
  (try walk_at "pw")
  refine drw (fun r1 hr1 => ?_)
  (try walk_at "pw")
  refine drw (fun r2 hr2 => ?_)
  (try walk_at "pw")
  refine (at_all (P := fun x => noDict x = true) (by simp; omega) ?_).imp fun a ha => ⟨ha.1, ?_⟩
  · intro x hx
    simp only [List.mem_cons, List.not_mem_nil, or_false] at hx
    rcases hx with rfl | rfl | rfl | rfl | rfl | rfl | rfl | rfl | rfl <;> rfl
  replace ha := ha.2
  refine drw (fun r3 hr3 => ?_)
  (try walk_at "pw")
  refine drw (fun r4 hr4 => ?_)
  (try walk_at "pw")
  refine (at_all (P := fun x => noDict x = true) (by simp; omega) ?_).imp fun b hb => ⟨hb.1, ?_⟩
  · intro x hx
    simp only [List.mem_cons, List.not_mem_nil, or_false] at hx
    rcases hx with rfl | rfl | rfl | rfl | rfl | rfl | rfl | rfl <;> rfl
  replace hb := hb.2
  refine ⟨a, 0, 23, rfl, ha, ?_⟩
  (try walk_at "pw")
  cases h1 : inB a 0 23
  · rw [if_neg Bool.false_ne_true]
    exact ev_try (k := k) ha hb (by rw [h1]; rfl) hk
  · rw [if_pos rfl]
    refine ⟨b, 1, 8, rfl, hb, ?_⟩
    exact ev_try (k := k) ha hb (by rw [h1]; rfl) hk
end PD

namespace PD
open PySem TH
open L2 (atI ixN)
local macro_rules | `(tactic| walk_at "pw") => `(tactic| simp (config := { decide := false }) only [fnD, iRg3, lRg3, gDivM, eLm, gCount, gIndex, eDc, cNil, cDisp, dispD, sNever, fnI, eV, eC, lO, lL, lT, eL, e2, e1, tB, gI, gIc, gAdd, gMinus, gMul, gDiv, gMod, gPow, gLt, gLe, gGt, gGe, gEq, gEqS, scD, gIs, isNon, eCh, gNeg, eNot, eAnd, eOr, tNt, tAn, tOr', eIf, lIf, aN, aC, eT, lD, eIx, pN, pS, lSl, eSlT, lCat, gCatT, lRep, gRepT, eIn, eBi, gLen, gSum, gAll, gAny, gTupl, eCall, eCallX, gInt, intD, gAbs, gMin, gMax, gLenS, eIs, eIs2, isK, isKs, kindD.eq_1, kindD.eq_2, kindD.eq_3, kindD.eq_4, kindD.eq_5, kindD.eq_6, kindD.eq_7, atI_0, atI_1, atI_2, atI_3, atI_4, nd_none, nd_bool, nd_int, nd_str, nd_list, nd_tuple, nd_dic, eFld, lSort, lSortF, iRg1, iRg2, iEn, iZp, gN, gsN, gsC, gT, tY, lLc, wipeD, slV, slO, slD, sNx, sBk, sCt, sSeq, sRet, sRetN, sEx, sIf, sSet, sAsg, sPar, sPar3, sAug, sFor, sMu, sMuS, sMuG, mDo, gApp, sExt, sIx, sTell, sRaise, sRaiseF, sFldO, putD, eRevT, lRev, lRg1, lRg2, eTRg1, eTRg2, gLtT, gCatS, lLc2, eGet, eInD, eGet2, dO, dV, sPut, eMeth, eIsC, eIsCD, row, rowsT,
  List.map_cons, List.map_nil, List.cons_append, List.nil_append, List.replicate_succ, List.replicate_zero, List.set_cons_zero, List.set_cons_succ, List.getElem?_cons_zero, List.getElem?_cons_succ, List.length_cons, List.length_nil, List.length_map, Nat.reduceAdd, Nat.reduceSub, Nat.reduceLeDiff, Nat.reduceEqDiff,
  and_assoc, Option.some.injEq, Sl.val.injEq, Sl.own.injEq, PyData.int.injEq, PyData.str.injEq, PyData.bool.injEq, PyData.tuple.injEq, PyData.list.injEq, List.cons.injEq, objD_iff, exists_eq_left', exists_eq_left, exists_eq, exists_eq', and_true, true_and, exists_and_left, exists_and_right, eAlt, lOr, false_or, or_false, false_and, and_false, exists_false, if_true, if_false, Bool.false_eq_true, Bool.true_eq_false, Bool.not_true, Bool.not_false, Bool.or_true, Bool.or_false, Bool.true_or, Bool.false_or, Bool.and_true, Bool.true_and, Bool.and_false, Bool.false_and, decide_true, decide_false, bne_self_eq_false, Bool.bne_false, Bool.bne_true, reduceCtorEq, String.reduceEq])

/-! ## the law -/
def wayB : SV := (sSeq (sSet 14 (slV (eC (.int 0))))
  (sSeq (sFor (iRg1 (aC (eCall p_law_draw (aC (eV 1) (aC (eC (.int 60)) aN))) aN)) (gN 15) (sSeq (sSet 14 (slV (e2 gAdd (eV 14) (eCall p_law_places (aC (eV 13) (aC (eV 15) aN))))))
  (sIf (tNt (tB (eCall p_law_is (aC (eL (lD (aC (eCall p_places (aC (eV 5) (aC (eV 12) (aC (eV 15) aN)))) (aC (eCall p_carried (aC (eV 5) (aC (eV 12) (aC (eV 15) aN)))) aN)))) (aC (eL (lD (aC (eCall p_law_places (aC (eV 13) (aC (eV 15) aN))) (aC (eV 14) aN)))) aN))))) (sRet (eC (.bool false))) sNx)))
  (sSeq (sSet 16 (slV (eCall p_law_draw (aC (eV 1) (aC (e2 gPow (eC (.int 10)) (eC (.int 9))) aN)))))
  (sIf (tNt (tB (eCall p_law_is (aC (eL (lD (aC (eCall p_places (aC (eV 5) (aC (eV 12) (aC (eV 16) aN)))) (aC (eCall p_carried (aC (eV 5) (aC (eV 12) (aC (eV 16) aN)))) aN)))) (aC (eL (lD (aC (eCall p_law_places (aC (eV 13) (aC (eV 16) aN))) (aC (eCall p_law_carried (aC (eV 13) (aC (eV 16) aN))) aN)))) aN))))) (sRet (eC (.bool false))) sNx))))
def bentB : SV := (sSeq (sSet 7 (slV (eIx (lD (aC (eT (aC (eCall p_law_bent (aC (eV 1) (aC (eV 10) aN))) (aC (eV 11) aN))) (aC (eT (aC (eV 10) (aC (eCall p_law_bent (aC (eV 1) (aC (eV 11) aN))) aN))) aN))) (eCall p_law_draw (aC (eV 1) (aC (eC (.int 2)) aN))))))
  (sSeq (sIf (tNt (tB (eCall p_law_is (aC (eL (lD (aC (eCall p_law_tried (aC (eIx (lT (eV 7)) (eC (.int 0))) (aC (eIx (lT (eV 7)) (eC (.int 1))) aN))) aN))) (aC (eL (lD (aC (eCall p_law_due (aC (eIx (lT (eV 7)) (eC (.int 0))) (aC (eIx (lT (eV 7)) (eC (.int 1))) aN))) aN))) aN))))) (sRet (eC (.bool false))) sNx)
  (sIf (tOr' (tNt (tB (eCall p_law_refused_right (aC (eV 1) (aC (eV 5) (aC (eV 4) aN)))))) (tNt (tB (eCall p_law_even_right (aC (eV 1) aN))))) (sRet (eC (.bool false))) sNx)))
theorem is_two {a b : Int} {k : D → Prop} {kx : XD → Prop} (h : k (.bool true)) : p_law_is [.list [.int a, .int b], .list [.int a, .int b]] k kx := ⟨_, rfl, by simp, fun z hz => by
  simp only [List.mem_cons, List.not_mem_nil, or_false] at hz
  rcases hz with rfl | rfl
  · exact ⟨rfl, sh_int _⟩
  · exact ⟨rfl, sh_int _⟩, h⟩
/-- all ahead of a tick -/
def Pb (o : Op) : Nat → Int
  | 0 => 0
  | t + 1 => Pc o t
theorem Pb_step (o : Op) : ∀ t : Nat, Pb o t + pl o t = Pc o t
  | 0 => by simp [Pb, pl, Pc]
  | t + 1 => rfl
theorem way_step {E : ED} {R L : List Op} {i j : Int} {s0 s2 s3 s4 s6 s7 s8 s9 s10 s11 s14 s15 s16 s17 s18 : Sl} (hg : okTm R L) (hi : 0 ≤ i) (hj : 0 ≤ j) (hi2 : i ≤ R.length) (hj2 : j ≤ R.length) (hij : j = i + 1 ∨ j = i - 1)
    (hE : ∀ t14 t15 t16, E.nx [s0, .val handD, s2, s3, s4, .val (tmD R L), s6, s7, s8, s9, s10, s11, .val (.tuple [.int i, .int j]), .val (opD (wayOp R L i j)), t14, t15, t16, s17, s18]) :
    wayB E [s0, .val handD, s2, s3, s4, .val (tmD R L), s6, s7, s8, s9, s10, s11, .val (.tuple [.int i, .int j]), .val (opD (wayOp R L i j)), s14, s15, s16, s17, s18] := by
  have hgo := wayOp_good hg hi hj hi2 hj2 hij
  have call : ∀ (t : Nat) (k : D → Prop) (kx : XD → Prop), t ≤ 1000000000 → (k (.int (pl (wayOp R L i j) t)) → p_places [tmD R L, .tuple [.int i, .int j], .int t] k kx) ∧ (k (.int (Pc (wayOp R L i j) t)) → p_carried [tmD R L, .tuple [.int i, .int j], .int t] k kx) := fun t k kx ht =>
    ⟨fun hk => ⟨_, _, _, _, rfl, hg, way_thing, rfl, chk_ok hi hj hi2 hj2 hij ht (by rw [show (ip (.int (t : Nat))).toNat = t from Int.toNat_natCast t]; exact hk)⟩, fun hk => ⟨_, _, _, _, rfl, hg, way_thing, rfl, chk_ok hi hj hi2 hj2 hij ht (by rw [show (ip (.int (t : Nat))).toNat = t from Int.toNat_natCast t]; exact hk)⟩⟩
  generalize wayOp R L i j = o at hgo call hE ⊢
  unfold wayB
  (try walk_at "pw")
  refine drw (fun r hr => ?_)
  (try walk_at "pw")
  refine ⟨by omega, by omega, ?_⟩
  rw [rngD_map]
  refine for_inv (fun i : Nat => .int (0 + (i : Nat))) (fun n δ => ∃ t15, δ = [s0, .val handD, s2, s3, s4, .val (tmD R L), s6, s7, s8, s9, s10, s11, .val (.tuple [.int i, .int j]), .val (opD o), .val (.int (Pb o n)), t15, s16, s17, s18]) ⟨_, rfl⟩ (fun n y δ hj hI N hN => ?_) (fun δ hI => ?_)
  · obtain ⟨t15, rfl⟩ := hI
    obtain ⟨hit, e⟩ := List.getElem?_eq_some_iff.mp hj
    rw [List.getElem_range] at e
    subst e
    rw [List.length_range] at hit
    have c0 : (0 : Int) + (n : Int) = n := by omega
    rw [c0]
    (try walk_at "pw")
    refine ⟨o, n, rfl, hgo, by omega, ?_⟩
    (try walk_at "pw")
    rw [Pb_step]
    refine (call n _ _ (by omega)).1 ?_
    refine (call n _ _ (by omega)).2 ?_
    refine ⟨o, n, rfl, hgo, by omega, ?_⟩
    refine is_two ⟨true, rfl, ?_⟩
    rw [if_neg (by simp)]
    exact hN _ ⟨_, rfl⟩
  · obtain ⟨t15, rfl⟩ := hI
    (try walk_at "pw")
    refine ⟨⟨by omega, by omega, by decide⟩, drw (m := 1000000000) (fun far hfar => ?_)⟩
    (try walk_at "pw")
    refine (call far _ _ (by omega)).1 ?_
    refine (call far _ _ (by omega)).2 ?_
    refine ⟨o, far, rfl, hgo, by omega, ?_⟩
    refine ⟨o, far, rfl, hgo, by omega, ?_⟩
    refine is_two ⟨true, rfl, ?_⟩
    rw [if_neg (by simp)]
    exact hE _ _ _
theorem ways2 {E : ED} {R L : List Op} {i : Int} {s0 s2 s3 s4 s6 s7 s8 s9 s10 s11 s12 s13 s14 s15 s16 s17 s18 : Sl} (hg : okTm R L) (hi : 0 ≤ i) (hi2 : i < R.length)
    (hE : ∀ t12 t13 t14 t15 t16, E.nx [s0, .val handD, s2, s3, s4, .val (tmD R L), s6, s7, s8, s9, s10, s11, t12, t13, t14, t15, t16, s17, s18]) :
    forD (gT 2 (gsC (gN 12) (gsC (gN 13) gsN))) wayB [.tuple [.tuple [.int i, .int (i + 1)], opD (wayOp R L i (i + 1))], .tuple [.tuple [.int (i + 1), .int i], opD (wayOp R L (i + 1) i)]] E [s0, .val handD, s2, s3, s4, .val (tmD R L), s6, s7, s8, s9, s10, s11, s12, s13, s14, s15, s16, s17, s18] := by
  simp only [forD]
  (try walk_at "pw")
  refine way_step hg (by omega) (by omega) (by omega) (by omega) (by omega) fun t14 t15 t16 => ?_
  (try walk_at "pw")
  refine way_step hg (by omega) (by omega) (by omega) (by omega) (by omega) fun t14 t15 t16 => ?_
  exact hE _ _ _ _ _
theorem due_scal (r l : D) : scal (dueD r l) = true ∧ SeqAt.shaped (dueD r l) = true := by
  have hs : ∀ s : Str, (PyData.str s).canLay0 = true → SeqAt.shaped (.str s) = true := fun s h => sh_of h (by simp [PyData.depth])
  unfold dueD
  split
  · split
    · exact ⟨rfl, sh_of rfl (by simp [PyData.depth])⟩
    · exact ⟨rfl, hs _ (by simp only [PyData.canLay0]; decide +kernel)⟩
  · exact ⟨rfl, hs _ (by simp only [PyData.canLay0]; decide +kernel)⟩
theorem bent_step {E : ED} {R L : List Op} {s0 s2 s3 s6 s7 s8 s9 s12 s13 s14 s15 s16 s17 s18 : Sl} (hg : okTm R L)
    (hE : ∀ t7, E.nx [s0, .val handD, s2, s3, .val (.int R.length), .val (tmD R L), s6, t7, s8, s9, .val (.tuple (R.map opD)), .val (.tuple (L.map opD)), s12, s13, s14, s15, s16, s17, s18]) :
    bentB E [s0, .val handD, s2, s3, .val (.int R.length), .val (tmD R L), s6, s7, s8, s9, .val (.tuple (R.map opD)), .val (.tuple (L.map opD)), s12, s13, s14, s15, s16, s17, s18] := by
  unfold bentB
  (try walk_at "pw")
  obtain ⟨h1, h2, h3, h4⟩ := id hg
  refine ⟨R, rfl, h1, h3, fun rb hrb => ?_⟩
  refine ⟨L, rfl, by omega, h4, fun lb hlb => ?_⟩
  refine drw (fun q hq => ?_)
  refine ⟨_, rfl, (at_all (P := fun d => ∃ r l, d = .tuple [r, l] ∧ thing3 r ∧ thing3 l) (by simp; omega) fun d hd => ?_).imp fun d hd => ⟨hd.1, ?_⟩⟩
  · simp only [List.mem_cons, List.not_mem_nil, or_false] at hd
    rcases hd with rfl | rfl
    · exact ⟨_, _, rfl, hrb, ops_thing (by omega) h4⟩
    · exact ⟨_, _, rfl, ops_thing h1 h3, hlb⟩
  obtain ⟨r, l, rfl, hr, hl⟩ := hd.2
  (try walk_at "pw")
  refine ⟨r, l, rfl, hr, hl, ?_⟩
  refine ⟨r, l, rfl, hr, hl, ?_⟩
  obtain ⟨d1, d2⟩ := due_scal r l
  refine ⟨[dueD r l], rfl, by simp, fun x hx => by rw [List.mem_singleton.mp hx]; exact ⟨d1, d2⟩, ?_⟩
  refine ⟨true, rfl, ?_⟩
  rw [if_neg (by simp)]
  refine ⟨R, L, rfl, hg, ?_⟩
  (try walk_at "pw")
  refine ⟨rfl, ?_⟩
  (try walk_at "pw")
  exact hE _
def kpD (q : List Op × List Op) : D := .tuple [tmD q.1 q.2, ptD q.1 q.2]
theorem eqv_pt (R L R' L' : List Op) : PyData.eqv (ptD R L) (ptD R' L') = (eqO R R' && eqO L L') := by
  unfold ptD eqO
  simp [PyData.eqv, PyData.eqvAll]
def p_law : Fn := fun ds k _ => ∃ ns, ds = [scrD ns] ∧ k (.bool true)
def m_law : Fn := fnD 1 19 (sSeq (sSet 1 (slV (eCall p_law_hand (aC (eV 0) aN))))
  (sSeq (sSet 2 (slO (lD aN)))
  (sSeq (sFor (iRg1 (aC (eC (.int 3)) aN)) (gN 3) (sSeq (sSet 4 (slV (e2 gAdd (eC (.int 1)) (eCall p_law_draw (aC (eV 1) (aC (eC (.int 6)) aN))))))
  (sSeq (sAsg (gT 2 (gsC (gN 10) (gsC (gN 11) gsN))) (eCall p_law_timing_parts (aC (eV 1) (aC (eV 4) aN))))
  (sSeq (sIf (tB (e2 (gIs true) (eCall p_law_tried (aC (eV 10) (aC (eV 11) aN))) (eC .none))) (sRet (eC (.bool false))) sNx)
  (sSeq (sSet 5 (slV (eCall p_Timing_init (aC (eV 10) (aC (eV 11) aN)))))
  (sSeq (sMu gApp 2 (aC (eT (aC (eV 5) (aC (eT (aC (eV 10) (aC (eV 11) aN))) aN))) aN))
  (sSeq (sSet 6 (slV (eCall p_law_draw (aC (eV 1) (aC (eV 4) aN)))))
  (sSeq (sFor (lT (eT (aC (eT (aC (eT (aC (eV 6) (aC (e2 gAdd (eV 6) (eC (.int 1))) aN))) (aC (eIx (lT (eV 10)) (eV 6)) aN))) (aC (eT (aC (eT (aC (e2 gAdd (eV 6) (eC (.int 1))) (aC (eV 6) aN))) (aC (eIx (lT (eV 11)) (eV 6)) aN))) aN)))) (gT 2 (gsC (gN 12) (gsC (gN 13) gsN))) (sSeq (sSet 14 (slV (eC (.int 0))))
  (sSeq (sFor (iRg1 (aC (eCall p_law_draw (aC (eV 1) (aC (eC (.int 60)) aN))) aN)) (gN 15) (sSeq (sSet 14 (slV (e2 gAdd (eV 14) (eCall p_law_places (aC (eV 13) (aC (eV 15) aN))))))
  (sIf (tNt (tB (eCall p_law_is (aC (eL (lD (aC (eCall p_places (aC (eV 5) (aC (eV 12) (aC (eV 15) aN)))) (aC (eCall p_carried (aC (eV 5) (aC (eV 12) (aC (eV 15) aN)))) aN)))) (aC (eL (lD (aC (eCall p_law_places (aC (eV 13) (aC (eV 15) aN))) (aC (eV 14) aN)))) aN))))) (sRet (eC (.bool false))) sNx)))
  (sSeq (sSet 16 (slV (eCall p_law_draw (aC (eV 1) (aC (e2 gPow (eC (.int 10)) (eC (.int 9))) aN)))))
  (sIf (tNt (tB (eCall p_law_is (aC (eL (lD (aC (eCall p_places (aC (eV 5) (aC (eV 12) (aC (eV 16) aN)))) (aC (eCall p_carried (aC (eV 5) (aC (eV 12) (aC (eV 16) aN)))) aN)))) (aC (eL (lD (aC (eCall p_law_places (aC (eV 13) (aC (eV 16) aN))) (aC (eCall p_law_carried (aC (eV 13) (aC (eV 16) aN))) aN)))) aN))))) (sRet (eC (.bool false))) sNx)))))
  (sSeq (sSet 7 (slV (eIx (lD (aC (eT (aC (eCall p_law_bent (aC (eV 1) (aC (eV 10) aN))) (aC (eV 11) aN))) (aC (eT (aC (eV 10) (aC (eCall p_law_bent (aC (eV 1) (aC (eV 11) aN))) aN))) aN))) (eCall p_law_draw (aC (eV 1) (aC (eC (.int 2)) aN))))))
  (sSeq (sIf (tNt (tB (eCall p_law_is (aC (eL (lD (aC (eCall p_law_tried (aC (eIx (lT (eV 7)) (eC (.int 0))) (aC (eIx (lT (eV 7)) (eC (.int 1))) aN))) aN))) (aC (eL (lD (aC (eCall p_law_due (aC (eIx (lT (eV 7)) (eC (.int 0))) (aC (eIx (lT (eV 7)) (eC (.int 1))) aN))) aN))) aN))))) (sRet (eC (.bool false))) sNx)
  (sIf (tOr' (tNt (tB (eCall p_law_refused_right (aC (eV 1) (aC (eV 5) (aC (eV 4) aN)))))) (tNt (tB (eCall p_law_even_right (aC (eV 1) aN))))) (sRet (eC (.bool false))) sNx)))))))))))
  (sSeq (sTell 2 (sFor (lL (eV 2)) (gT 2 (gsC (gN 8) (gsC (gN 9) gsN))) (sFor (lL (eV 2)) (gT 2 (gsC (gN 17) (gsC (gN 18) gsN))) (sIf (tOr' (tB (e2 (gEqS true) (e2 (gOwn "Timing" ns_Timing p_Timing_eq false) (eV 8) (eV 17)) (e2 (gEq false) (eV 9) (eV 18)))) (tB (e2 (gOwnT "Timing" ns_Timing p_Timing_eq) (eV 8) (eV 18)))) (sRet (eC (.bool false))) sNx))))
  (sRet (eC (.bool true)))))))

theorem p_law_ok {ds k kx} (h : p_law ds k kx) : m_law ds k kx := by
  obtain ⟨ns, rfl, hk⟩ := h
  unfold m_law
  change _
  (try walk_at "pw")
  refine ⟨ns, rfl, ?_⟩
  (try walk_at "pw")
  refine ⟨by omega, by omega, ?_⟩
  rw [rngD_map]
  refine for_inv (fun i : Nat => .int (0 + (i : Nat))) (fun i δ => ∃ (qs : List (List Op × List Op)) (s3 s4 s5 s6 s7 s8 s9 s10 s11 s12 s13 s14 s15 s16 s17 s18 : Sl), (∀ q ∈ qs, okTm q.1 q.2) ∧ qs.length = i ∧ δ = [.val (scrD ns), .val handD, .own (.list (qs.map kpD)), s3, s4, s5, s6, s7, s8, s9, s10, s11, s12, s13, s14, s15, s16, s17, s18]) ⟨[], _, _, _, _, _, _, _, _, _, _, _, _, _, _, _, _, (fun _ z => nomatch z), rfl, rfl⟩ (fun i y δ hj hI N hN => ?_) (fun δ hI => ?_)
  · obtain ⟨qs, s3, s4, s5, s6, s7, s8, s9, s10, s11, s12, s13, s14, s15, s16, s17, s18, hqs, hql, rfl⟩ := hI
    have hit := (List.getElem?_eq_some_iff.mp hj).1
    rw [List.length_range] at hit
    (try walk_at "pw")
    refine drw (fun r1 hr1 => ?_)
    (try walk_at "pw")
    refine ⟨1 + r1, by push_cast; rfl, by omega, fun R L hg hRl => ?_⟩
    unfold ptD
    (try walk_at "pw")
    obtain ⟨h1, h2, h3, h4⟩ := id hg
    refine ⟨_, _, rfl, ops_thing h1 h3, ops_thing (by omega) h4, ?_⟩
    have hd : dueD (.tuple (R.map opD)) (.tuple (L.map opD)) = .none := by
      unfold dueD
      rw [if_pos (ops_of h1 h3), if_pos ⟨ops_of (by omega) h4, by simp [alike, h2]⟩]
    rw [hd]
    dsimp only
    rw [if_neg (by simp)]
    refine init_good hg ?_
    have e1 : (1 : Int) + (r1 : Int) = (R.length : Int) := by omega
    rw [e1]
    refine ⟨by omega, drw (fun tie htie => ?_)⟩
    have htl : tie < R.length := by omega
    refine ⟨_, rfl, _, rfl, _, atI_of tie rfl (gt_map opD (List.getElem?_eq_getElem htl)), _, rfl, _, rfl, _, atI_of tie rfl (gt_map opD (List.getElem?_eq_getElem (by omega))), ?_⟩
    have w1 : opD R[tie] = opD (wayOp R L tie ((tie : Int) + 1)) := by
      unfold wayOp
      rw [if_pos (by omega), Int.toNat_natCast, List.getElem?_eq_getElem htl]
      rfl
    have w2 : opD L[tie] = opD (wayOp R L ((tie : Int) + 1) tie) := by
      unfold wayOp
      rw [if_neg (by omega), Int.toNat_natCast, List.getElem?_eq_getElem (by omega)]
      rfl
    rw [w1, w2]
    refine ways2 hg (by omega) (by omega) fun t12 t13 t14 t15 t16 => ?_
    refine bent_step hg fun t7 => ?_
    have ek : List.map kpD qs ++ [PyData.tuple [tmD R L, PyData.tuple [PyData.tuple (List.map opD R), PyData.tuple (List.map opD L)]]] = List.map kpD (qs ++ [(R, L)]) := by
      rw [List.map_append]
      rfl
    dsimp only
    rw [ek]
    refine hN _ ⟨qs ++ [(R, L)], _, _, _, _, _, _, _, _, _, _, _, _, _, _, _, _, fun q hq => ?_, by simp [hql], rfl⟩
    rcases List.mem_append.mp hq with hq | hq
    · exact hqs q hq
    · rw [List.mem_singleton.mp hq]
      exact hg
  · obtain ⟨qs, s3, s4, s5, s6, s7, s8, s9, s10, s11, s12, s13, s14, s15, s16, s17, s18, hqs, hql, rfl⟩ := hI
    (try walk_at "pw")
    have e8 : ∀ q : List Op × List Op, q ∈ qs → okTm q.1 q.2 := hqs
    refine for_inv kpD (fun i δ => ∃ t8 t9 t17 t18, δ = [Sl.val (scrD ns), Sl.val handD, Sl.val (PyData.list (List.map kpD qs)), s3, s4, s5, s6, s7, t8, t9, s10, s11, s12, s13, s14, s15, s16, t17, t18]) ⟨_, _, _, _, rfl⟩ (fun i q δ hj hI N hN => ?_) (fun δ hI => ?_)
    · obtain ⟨t8, t9, t17, t18, rfl⟩ := hI
      unfold kpD
      (try walk_at "pw")
      refine for_inv kpD (fun i δ => ∃ t17 t18, δ = [Sl.val (scrD ns), Sl.val handD, Sl.val (PyData.list (List.map kpD qs)), s3, s4, s5, s6, s7, .val (tmD q.1 q.2), .val (ptD q.1 q.2), s10, s11, s12, s13, s14, s15, s16, t17, t18]) ⟨_, _, rfl⟩ (fun i2 q2 δ hj2 hI2 N2 hN2 => ?_) (fun δ hI2 => ?_)
      · obtain ⟨t17, t18, rfl⟩ := hI2
        unfold kpD
        (try walk_at "pw")
        refine ⟨⟨_, rfl⟩, ⟨_, rfl⟩, q.1, q.2, _, rfl, .inl ⟨q2.1, q2.2, rfl, _, rfl, ?_⟩⟩
        rw [eqv_pt]
        refine ⟨(fl_pt _ _).pur, (fl_pt _ _).pur, (fl_pt _ _).sh, (fl_pt _ _).sh, true, ?_, ?_⟩
        · simp
        rw [if_neg (by simp)]
        refine ⟨⟨_, rfl⟩, ⟨_, rfl⟩, q.1, q.2, _, rfl, .inr ⟨_, rfl, false, rfl, false, rfl, ?_⟩⟩
        rw [if_neg (by simp)]
        exact hN2 _ ⟨_, _, rfl⟩
      · obtain ⟨t17, t18, rfl⟩ := hI2
        exact hN _ ⟨_, _, _, _, rfl⟩
    · obtain ⟨t8, t9, t17, t18, rfl⟩ := hI
      (try walk_at "pw")
      exact hk
end PD

namespace TK
open PySem PySem.Spec PyProof.Rows L2 TH
local macro_rules | `(tactic| walk_at "rd1") => `(tactic| first
  | (with_reducible refine TH.w_seq ?_)
  | (with_reducible refine TH.w_asg ?_)
  | (with_reducible refine TH.w_ret ?_)
  | (with_reducible refine TH.w_drop ?_)
  | (with_reducible refine TH.w_ifS ?_)
  | (with_reducible refine TH.w_next ?_)
  | ((with_reducible refine TH.w_var (v := ?vv) ?hv ?_); (case hv => rfl))
  | (with_reducible refine TH.w_c ?_)
  | ((with_reducible refine TH.w_gname (σ' := ?ss) ?hs ?_); (case hs => (dsimp only [List.set]; rfl)))
  | (with_reducible refine TH.w_op ?_)
  | (with_reducible refine TH.w_un ?_)
  | (with_reducible refine TH.w_chain ?_)
  | (with_reducible refine TH.w_I0 ?_)
  | ((with_reducible refine TH.w_I ?hm ?_); (case hm => first | (exact TH.CMul.l (by omega) (by omega)) | (exact TH.CMul.r (by omega) (by omega)) | (exact TH.CDiv.mk (by omega) (by omega)) | (show (0 : Int) < _; omega) | (exact TH.CPow.mk (by omega) (by omega) (by decide))))
  | (with_reducible refine TH.w_U ?_)
  | (with_reducible refine TH.w_eqI ?_)
  | (with_reducible refine TH.w_neI ?_)
  | (with_reducible refine TH.w_eqB ?_)
  | (with_reducible refine TH.w_isN ?_)
  | (with_reducible refine TH.w_nil ?_)
  | (with_reducible refine TH.w_cons ?_)
  | (with_reducible refine TH.w_test ?_)
  | (with_reducible refine TH.w_B ?_)
  | (with_reducible refine TH.w_bl ?_)
  | (with_reducible refine TH.w_and ?_)
  | (with_reducible refine TH.w_or ?_)
  | (with_reducible refine TH.w_not ?_)
  | (with_reducible refine TH.w_andV ?_)
  | (with_reducible refine TH.w_orV ?_)
  | (with_reducible refine TH.w_notV ?_)
  | (with_reducible refine TH.w_if ?_)
  | (with_reducible refine TH.w_parT ?_)
  | (with_reducible refine TH.w_par ?_)
  | (with_reducible refine TH.w_parT3 ?_)
  | (with_reducible refine TH.w_par3 ?_)
  | (with_reducible refine TH.w_cb ?_)
  | (with_reducible refine TH.w_call ?_)
  | ((with_reducible refine TH.w_aug (v := ?vv) ?hv ?_); (case hv => rfl))
  | (with_reducible refine TH.w_ip ?_)
  | (with_reducible refine TH.w_bm ?_)
  | (with_reducible refine TH.w_sl ?_)
  | (with_reducible refine TH.w_np ?_)
  | (with_reducible refine TH.w_pt ?_)
  | (with_reducible refine TH.w_pti ?_)
  | (with_reducible refine TH.w_gsub ?_)
  | (with_reducible refine TH.w_int ?_)
  | (with_reducible refine TH.w_tupT ?_)
  | (with_reducible refine TH.w_lstT ?_)
  | ((with_reducible show L2.rIxL _ _ _ _ _); (first | (refine TH.w_ixL (TH.sqL upd_same) rfl ?_) | (refine TH.w_ixL (TH.sqL (by assumption)) rfl ?_)))
  | ((with_reducible show L2.rSetL _ _ _ _ _); (first | (refine TH.w_set1 upd_same ?_) | (refine TH.w_set2 upd_same ?_) | (refine TH.w_set3 upd_same ?_) | (refine TH.w_set4 upd_same ?_) | (refine TH.w_set1 (by assumption) ?_) | (refine TH.w_set2 (by assumption) ?_) | (refine TH.w_set3 (by assumption) ?_) | (refine TH.w_set4 (by assumption) ?_)))
  | (with_reducible refine TH.w_lc ?_)
  | (with_reducible refine TH.w_lc2 ?_)
  | (with_reducible refine TH.w_dc ?_)
  | (with_reducible refine TH.w_itup ?_)
  | (with_reducible refine TH.w_ilist ?_)
  | (with_reducible refine TH.w_ienum ?_)
  | (with_reducible refine TH.w_izip ?_)
  | (with_reducible refine TH.w_irng1 ?_)
  | (with_reducible refine TH.w_irng2 ?_)
  | (with_reducible refine TH.w_for ?_)
  | (with_reducible refine TH.w_gcons ?_)
  | (with_reducible refine TH.w_gnil ?_)
  | (with_reducible refine TH.w_yes ?_)
  | (with_reducible refine TH.w_gtup2 upd_same ?_)
  | (with_reducible refine TH.w_gtup3 upd_same ?_)
  | (with_reducible refine TH.w_dput ?_)
  | (with_reducible refine TH.w_bm0 ?_)
  | (with_reducible refine TH.w_din ?_)
  | (with_reducible refine TH.w_dnotin ?_)
  | (with_reducible refine TH.w_dispK ?_)
  | (with_reducible refine TH.w_lock ?_)
  | (with_reducible refine TH.w_ikeys ?_)
  | (with_reducible refine TH.w_iitems ?_)
  | (with_reducible refine TH.w_dispT1 ?_)
  | (with_reducible refine TH.w_dnewT ?_)
  | (with_reducible refine TH.w_dnewK ?_)
  | (with_reducible refine TH.w_fld ?_)
  | (with_reducible refine TH.w_sfld ?_)
  | (with_reducible refine TH.w_meth ?_)
  | (with_reducible refine TH.w_make ?_)
  | (with_reducible refine TH.w_dget2 ?_)
  | (with_reducible refine TH.w_revL ?_)
  | (with_reducible refine TH.w_revT ?_)
  | (with_reducible refine TH.w_lstRg ?_)
  | (with_reducible refine TH.w_tupRg ?_)
  | (with_reducible refine TH.w_rg1 ?_)
  | (with_reducible refine TH.w_rg2 ?_)
  | (with_reducible refine TH.w_T ?_)
  | (with_reducible refine TH.w_F ?_))
local macro_rules | `(tactic| walk_at "rd") => `(tactic| repeat (first | walk_at "rd1" | (dsimp only [List.set, L2.wipe, List.map, TH.isInt, TH.isBool, TH.isTup, TH.isLst, TH.bo_f, TH.bo_t, TH.ba_f, TH.ba_t, TH.bn_t, TH.bn_f, List.append_nil, List.cons_append, List.nil_append])))

def top (i : Nat) : Stmt := PySem.Challenge.pw_tollhall_k24_whole_openings_tick_by_tick.main.body.getD i (.Pass ⟨0, 0, 0, 0⟩)
def inClass (st : Stmt) (i : Nat) : Stmt := (C8.clsBody st).getD i (.Pass ⟨0, 0, 0, 0⟩)
abbrev s_BadTiming_sup : Stmt := inClass (top 4) 0
structure Txt (mg : Str → Option Value) : Prop where
  b_ValueError : mg "ValueError" = none
  b_abs : mg "abs" = none
  b_all : mg "all" = none
  b_bool : mg "bool" = none
  b_divmod : mg "divmod" = none
  b_int : mg "int" = none
  b_isinstance : mg "isinstance" = none
  b_len : mg "len" = none
  b_list : mg "list" = none
  b_range : mg "range" = none
  b_sum : mg "sum" = none
  b_super : mg "super" = none
  b_tuple : mg "tuple" = none
  b_zip : mg "zip" = none
  g_MOST_LISTED : ∃ u, mg "MOST_LISTED" = some u ∧ RelV (.int (40)) u
  g_MOST_PLACES : ∃ u, mg "MOST_PLACES" = some u ∧ RelV (.int (8)) u
  g_MOST_TICK : ∃ u, mg "MOST_TICK" = some u ∧ RelV (.int (1000000000)) u
  g_MOST_TIES : ∃ u, mg "MOST_TIES" = some u ∧ RelV (.int (23)) u
variable {P : Program} {w : World} {K : PySem.W.Frag} {mg : Str → Option Value} {base : Heap}
abbrev s_law_draw : Stmt := top 31
abbrev N_law_draw : List Str := ["hand", "many", "number", "cell", "digit"]
theorem sc_law_draw : FnScope N_law_draw ["hand", "many"] (C8.fnScope s_law_draw) := ⟨rfl, rfl, rfl, by decide +kernel, rfl, by decide +kernel, by decide +kernel⟩

abbrev s_law_hand : Stmt := top 34
abbrev N_law_hand : List Str := ["script", "cells", "cell"]
theorem sc_law_hand : FnScope N_law_hand ["script"] (C8.fnScope s_law_hand) := ⟨rfl, rfl, rfl, by decide +kernel, rfl, by decide +kernel, by decide +kernel⟩

/-! _law_draw(hand, many) -/
def sp_draw1 (K : PySem.W.Frag) : Sp := fun vs H Q _ => ∃ (h c : Addr) (ns : List Int) (xs : List V) (many : Int), vs = [.ref h, .int many] ∧ H h = some (.lst xs) ∧ HandW c xs ∧ H c = some (.lst (ns.map V.int)) ∧ (∀ x ∈ ns, 0 ≤ x) ∧ 0 < many ∧ many ≤ 1000000000 ∧
  ∀ (r : Int) (xs' : List V), 0 ≤ r → r < many → HandW c xs' → Q (.int r) (upd H h (.lst xs'))
theorem ok_draw1 {f : Addr} {fd : FuncData} (F : C8.Def K mg "_law_draw" s_law_draw f fd) (b : Binds K fd ["hand", "many"] []) (T : Txt mg) : C8.Cal P w K mg base 1 "_law_draw" (sp_draw1 K) [] := by
  refine C8.cal0 F b .nil sc_law_draw (fun vs H Q E h => ?_) (fun cdv A outer s H vs Q E hr h => ?_)
  · obtain ⟨h, c, ns, xs, many, rfl, _⟩ := h
    rfl
  · obtain ⟨h, c, ns, xs, many, rfl, hH, hW, hC, hns, m0, m1, q⟩ := h
    have hch : c ≠ h := fun e => by
      obtain ⟨i, cu, sd, tu, rfl, _⟩ := hW
      rw [e, hH] at hC
      have z := Option.some.inj hC
      have z2 : [V.ref h, V.int (i : Nat), V.int cu, V.int sd, V.int tu] = ns.map V.int := by
        injection z with z
        rw [← z, e]
      cases ns with
      | nil => cases z2
      | cons n ns => injection z2 with z3; cases z3
    refine ⟨_, (C8.pss_cut (ps_if (PW.pt (pw_and (pt_cmpR op_eq (pe_ix (TH.kix_list (K := K)) (pv 0) pe_int (fun _ _ => rfl)) pe_int (nomark _)) (pw_and1 (pt_cmpR op_lt (pe_ix (TH.kix_list (K := K)) (pv 0) pe_int (fun _ _ => rfl)) (pe_callB (TH.kcall_len (K := K)) (by rfl) T.b_len (by decide +kernel) (pa_cons (pe_ix (TH.kix_list (K := K)) (pv 0) pe_int (fun _ _ => rfl)) pa_nil)) (nomark _))))) (pss_cons (ps_set (i := 3) sc_law_draw.nd rfl (Or.inl rfl) (pe_ix (TH.kix_list (K := K)) (pe_ix (TH.kix_list (K := K)) (pv 0) pe_int (fun _ _ => rfl)) (pe_ix (TH.kix_list (K := K)) (pv 0) pe_int (fun _ _ => rfl)) (fun _ _ => rfl)))
      (pss_cons (ps_asg (pe_op op_add (pe_ix (TH.kix_list (K := K)) (pv 0) pe_int (fun _ _ => rfl)) pe_int) (pg_sub (pv 0) pe_int set_list))
      (pss_cons (ps_asg (pe_op op_mod (pe_callTy call_int1 (by rfl) T.b_int (by decide +kernel) (pa_cons (pe_op op_add (pe_op op_add (pe_op op_mul (pe_ix (TH.kix_list (K := K)) (pv 0) pe_int (fun _ _ => rfl)) pe_int) (pv 3)) pe_int) pa_nil)) pe_int) (pg_sub (pv 0) pe_int set_list))
      (pss_one (ps_if (pt_cmpR op_ge (pv 3) (pe_op op_pow pe_int pe_int) (nomark _)) (pss_one (ps_asg (pv 3) (pg_sub (pv 0) pe_int set_list))) pss_nil))))) pss_nil)
      (pss_cons (ps_if (pt_cmpR op_gt (pe_ix (TH.kix_list (K := K)) (pv 0) pe_int (fun _ _ => rfl)) pe_int (nomark _)) (pss_cons (ps_set (i := 4) sc_law_draw.nd rfl (Or.inl rfl) (pe_op op_mod (pe_callTy call_int1 (by rfl) T.b_int (by decide +kernel) (pa_cons (pe_ix (TH.kix_list (K := K)) (pv 0) pe_int (fun _ _ => rfl)) pa_nil)) (pv 1)))
      (pss_cons (ps_asg (pe_op op_fdiv (pe_ix (TH.kix_list (K := K)) (pv 0) pe_int (fun _ _ => rfl)) (pv 1)) (pg_sub (pv 0) pe_int set_list))
      (pss_one (ps_ret (pv 4))))) pss_nil)
      (pss_cons (ps_asg (pe_op op_add (pe_ix (TH.kix_list (K := K)) (pv 0) pe_int (fun _ _ => rfl)) pe_int) (pg_sub (pv 0) pe_int set_list))
      (pss_cons (ps_set (i := 2) sc_law_draw.nd rfl (Or.inl rfl) (pe_op op_mod (pe_callTy call_int1 (by rfl) T.b_int (by decide +kernel) (pa_cons (pe_op op_mul (pe_callTy call_int1 (by rfl) T.b_int (by decide +kernel) (pa_cons (pe_op op_add (pe_ix (TH.kix_list (K := K)) (pv 0) pe_int (fun _ _ => rfl)) (pe_op op_mul pe_int (pe_ix (TH.kix_list (K := K)) (pv 0) pe_int (fun _ _ => rfl)))) pa_nil)) pe_int) pa_nil)) pe_int))
      (pss_cons (ps_set (i := 2) sc_law_draw.nd rfl (Or.inl rfl) (pe_op op_mod (pe_callTy call_int1 (by rfl) T.b_int (by decide +kernel) (pa_cons (pe_op op_mul (pv 2) (pe_op op_add (pe_op op_fdiv (pv 2) pe_int) pe_int)) pa_nil)) pe_int))
      (pss_cons (ps_set (i := 2) sc_law_draw.nd rfl (Or.inl rfl) (pe_op op_mod (pe_callTy call_int1 (by rfl) T.b_int (by decide +kernel) (pa_cons (pe_op op_mul (pv 2) (pe_op op_add (pe_op op_fdiv (pv 2) pe_int) pe_int)) pa_nil)) pe_int))
      (pss_one (ps_ret (pe_op op_mod (pe_callTy call_int1 (by rfl) T.b_int (by decide +kernel) (pa_cons (pe_op op_fdiv (pv 2) pe_int) pa_nil)) (pv 1)))))))))), ?_⟩
    refine w_start (σ' := [some (.ref h), some (.int many), none, none, none]) rfl ?_
    refine ⟨fun σ' H' => ∃ (y2 y3 y4 : Option V) (xs' : List V), σ' = [some (.ref h), some (.int many), y2, y3, y4] ∧ HandW c xs' ∧ H' = upd H h (.lst xs'), ?_, ?_⟩
    · obtain ⟨i, cu, sd, tu, rfl, c0, s0, s1, t0⟩ := hW
      have fin : ∀ y2 y3 y4 : Option V, ∃ (z2 z3 z4 : Option V) (xs' : List V), [some (.ref h), some (.int many), y2, y3, y4] = [some (.ref h), some (.int many), z2, z3, z4] ∧ HandW c xs' ∧ H = upd H h (.lst xs') := fun y2 y3 y4 => ⟨y2, y3, y4, _, rfl, ⟨i, cu, sd, tu, rfl, c0, s0, s1, t0⟩, by
        funext b
        by_cases hb : b = h
        · rw [hb, upd_same, hH]
        · rw [upd_ne hb]⟩
      walk_at "rd"
      refine w_dec (fun h1 => ?_) (fun h1 => ?_)
      · walk_at "rd"
        refine ⟨c, _, rfl, .inl (sqL hC), ?_⟩
        walk_at "rd"
        refine w_dec (fun h2 => ?_) (fun h2 => ?_)
        · walk_at "rd"
          have hi : i < ns.length := by
            rw [List.length_map] at h2
            omega
          have hx := List.getElem?_eq_getElem hi
          have h0 := hns _ (List.getElem_mem hi)
          generalize ns[i] = x at hx h0
          refine w_ixL (sqL hC) (atI_int hx) ?_
          walk_at "rd"
          have e1 : 0 ≤ (sd * 69621 + x + 11) % 2147483629 := Int.emod_nonneg _ (by decide)
          have e2 := Int.emod_lt_of_pos (sd * 69621 + x + 11) (show (0 : Int) < 2147483629 by decide)
          have e3 : ((i : Int) + 1) = ((i + 1 : Nat) : Int) := by omega
          refine w_dec (fun h3 => ?_) (fun h3 => ?_)
          · walk_at "rd"
            refine ⟨_, _, _, _, rfl, ⟨i + 1, x, _, tu, by rw [← e3], h0, e1, by omega, t0⟩, ?_⟩
            simp only [upd_upd]
          · walk_at "rd"
            refine ⟨_, _, _, _, rfl, ⟨i + 1, cu, _, tu, by rw [← e3], c0, e1, by omega, t0⟩, ?_⟩
            simp only [upd_upd]
        · walk_at "rd"
          exact fin _ _ _
      · walk_at "rd"
        exact fin _ _ _
    · rintro σ' H' ⟨y2, y3, y4, xs', rfl, ⟨i, cu, sd, tu, rfl, c0, s0, s1, t0⟩, rfl⟩
      walk_at "rd"
      refine w_dec (fun h1 => ?_) (fun h1 => ?_)
      · walk_at "rd"
        have g := q (cu % many) [.ref c, .int (i : Nat), .int (cu / many), .int sd, .int tu] (Int.emod_nonneg _ (by omega)) (Int.emod_lt_of_pos _ m0) ⟨i, _, sd, tu, rfl, Int.ediv_nonneg (by omega) (by omega), s0, s1, t0⟩
        simp only [upd_upd]
        exact g
      · walk_at "rd"
        have b1 : 0 ≤ (sd + 7919 * (tu + 1)) * 48271 % 2147483647 := Int.emod_nonneg _ (by decide)
        have b2 := Int.emod_lt_of_pos ((sd + 7919 * (tu + 1)) * 48271) (show (0 : Int) < 2147483647 by decide)
        generalize (sd + 7919 * (tu + 1)) * 48271 % 2147483647 = n1 at b1 b2
        walk_at "rd"
        have b3 : 0 ≤ n1 * (n1 / 1009 + 69621) % 2147483647 := Int.emod_nonneg _ (by decide)
        have b4 := Int.emod_lt_of_pos (n1 * (n1 / 1009 + 69621)) (show (0 : Int) < 2147483647 by decide)
        generalize n1 * (n1 / 1009 + 69621) % 2147483647 = n2 at b3 b4
        walk_at "rd"
        have g := q (n2 * (n2 / 2003 + 40692) % 2147483399 / 16 % many) [.ref c, .int (i : Nat), .int cu, .int sd, .int (tu + 1)] (Int.emod_nonneg _ (by omega)) (Int.emod_lt_of_pos _ m0) ⟨i, _, sd, _, rfl, c0, s0, s1, by omega⟩
        simp only [upd_upd]
        exact g
/-- hand, many: some number below many; all that was tracked stands -/
def sp_draw (K : PySem.W.Frag) : Sp := fun vs H Q _ => ∃ (v : V) (many : Int), vs = [v, .int many] ∧ HandAt H v ∧ 0 < many ∧ many ≤ 1000000000 ∧ ∀ r : Int, 0 ≤ r → r < many → Q (.int r) H
theorem ok_law_draw {f : Addr} {fd : FuncData} (F : C8.Def K mg "_law_draw" s_law_draw f fd) (b : Binds K fd ["hand", "many"] []) (T : Txt mg) : C8.Cal P w K mg base 1 "_law_draw" (sp_draw K) [] := by
  refine cal_hide (ok_draw1 F b T) fun vs H Q E h => ?_
  obtain ⟨v, many, rfl, ⟨h, c, ns, rfl, h1, h2, h3⟩, m0, m1, q⟩ := h
  refine ⟨h, HandW c, h1, ⟨_, 0, 0, 0, 0, rfl, by omega, by omega, by omega, by omega⟩, fun xs hx => ?_⟩
  have hch : c ≠ h := fun e => by rw [e, h1] at h2; cases h2
  refine ⟨h, c, ns, xs, many, rfl, upd_same, hx, by rw [upd_ne hch]; exact h2, h3, m0, m1, fun r xs' r0 r1 hx' => ⟨xs', hx', upd_same, ?_⟩⟩
  rw [upd_upd, upd_upd]
  have e : upd H h (LstP h (HandW c)) = H := by
    funext b
    by_cases hb : b = h
    · rw [hb, upd_same, h1]
    · rw [upd_ne hb]
  rw [e]
  exact q r r0 r1
/-! _law_hand(script) -/
def absI (x : Int) : Int := if x < 0 then -x else x
theorem absI_nn (x : Int) : 0 ≤ absI x := by
  unfold absI
  split <;> omega
theorem cut_ints (ns : List Int) (lo hi : Option Int) : ∃ ms : List Int, cutV (ns.map V.int) lo hi = ms.map V.int ∧ ms.length ≤ ns.length := by
  refine ⟨(ns.drop (HT.sIx ns.length 0 lo)).take (HT.sIx ns.length ns.length hi - HT.sIx ns.length 0 lo), ?_, ?_⟩
  · unfold cutV
    rw [List.map_take, List.map_drop, List.length_map]
  · rw [List.length_take, List.length_drop]
    omega
def sp_hand1 (K : PySem.W.Frag) : Sp := fun vs H Q _ => ∃ (a : Addr) (ns : List Int), vs = [.ref a] ∧ SqL K H a (ns.map V.int) ∧ ns.length ≤ 1000000 ∧
  ∀ (h c : Addr) (ms : List Int) (H1 H' : Hp), Ex H H1 → H1 h = none → H c = none → H1 c = some (.lst (ms.map V.int)) → (∀ x ∈ ms, 0 ≤ x) → ms.length ≤ 1000000 → H' = upd H1 h (.lst [.ref c, .int 0, .int 0, .int (1 + ms.length), .int 0]) → Q (.ref h) H'
theorem ok_hand1 {f : Addr} {fd : FuncData} (F : C8.Def K mg "_law_hand" s_law_hand f fd) (b : Binds K fd ["script"] []) (T : Txt mg) : C8.Cal P w K mg base 1 "_law_hand" (sp_hand1 K) [] := by
  refine C8.cal0 F b .nil sc_law_hand (fun vs H Q E h => ?_) (fun cdv A outer s H vs Q E hr h => ?_)
  · obtain ⟨a, ns, rfl, _⟩ := h
    rfl
  · obtain ⟨a, ns, rfl, ha, hl, q⟩ := h
    refine ⟨_, (pss_cons (ps_setLc (i := 1) (own := [("cell", 2)]) (g := gName 2) (tt := tYes) rfl sc_law_hand.nd rfl rfl (sw_true rfl rfl rfl (by decide +kernel)) (TH.kpi_list (K := K) (pe_slice (TH.ksl_list (K := K)) (pv 0) po_none (po_some pe_int))) (blkOk_by (own := [("cell", 2)]) (N := N_law_hand) (sc := C8.fnScope s_law_hand) (by decide +kernel)) (fun _ _ _ _ _ => (pg_name (i := 2) sc_law_hand.nd rfl (Or.inl rfl) (Or.inr rfl))) (fun _ _ _ _ _ => pts_nil) (fun _ _ _ _ _ => (pe_callB call_abs (by rfl) T.b_abs (by decide +kernel) (pa_cons (pe_callTy call_int1 (by rfl) T.b_int (by decide +kernel) (pa_cons (pv 2) pa_nil)) pa_nil))))
      (pss_one (ps_ret (pe_lst (pa_cons (pv 1) (pa_cons pe_int (pa_cons pe_int (pa_cons (pe_op op_add pe_int (pe_callB (TH.kcall_len (K := K)) (by rfl) T.b_len (by decide +kernel) (pa_cons (pv 1) pa_nil))) (pa_cons pe_int pa_nil))))))))), ?_⟩
    refine w_start (σ' := [some (.ref a), none, none]) rfl ?_
    walk_at "rd"
    obtain ⟨ms, e1, e2⟩ := cut_ints ns none (some 63)
    refine ⟨a, _, rfl, ha, fun p hp => ?_⟩
    rw [e1]
    refine ⟨p, rfl, ⟨_, sqL upd_same⟩, fun Dl hD => ?_⟩
    refine lc_data (K := K) (walk_list (xs := ms.map V.int)) (fun _ => true) (fun i => .int (absI (ms.getD i 0))) (fun _ => rfl) (fun H' e => e.l (sqL upd_same)) hD (by rw [List.length_map]; omega) (fun i x H' H'' hi e y R R0 k _ => ?_) (fun H' ws e hw hda => ?_)
    · obtain ⟨rfl, hx⟩ := y
      obtain ⟨n, hn, rfl⟩ := ints_at hx
      walk_at "rd"
      refine ⟨rfl, ?_⟩
      walk_at "rd"
      refine ⟨_, rfl, ?_⟩
      refine k rfl _ _ (Ex.refl _) ?_
      rw [getD_of hn]
      exact .int _
    · walk_at "rd"
      rw [made_all, List.length_map, range_map 0 (fun x : Int => PyData.int (absI x))] at hda
      have e3 : ms.map (fun x : Int => PyData.int (absI x)) = (ms.map absI).map PyData.int := by rw [List.map_map]; rfl
      rw [e3] at hda
      have e4 := dpa_ints_inv hda
      subst e4
      refine ⟨Dl, _, rfl, .inl (sqL hw), ?_⟩
      walk_at "rd"
      refine w_dispT (by simp) fun h hh => ?_
      refine q h Dl _ H' _ ((Ex.new hp).trans e) hh (by cases z : H Dl with | none => rfl | some o => rw [Ex.new hp _ _ z] at hD; cases hD) hw (fun x hx => ?_) (by rw [List.length_map]; omega) ?_
      · obtain ⟨y, _, rfl⟩ := List.mem_map.mp hx
        exact absI_nn y
      · rw [List.length_map]
/-- a script: a hand -/
def sp_hand (K : PySem.W.Frag) : Sp := fun vs H Q _ => ∃ (a : Addr) (ns : List Int), vs = [.ref a] ∧ SqL K H a (ns.map V.int) ∧ ns.length ≤ 1000000 ∧ ∀ (h c : Addr) (ms : List Int) (H' : Hp), Ex H H' → H h = none → H c = none → h ≠ c → H' h = some (LstP h (HandW c)) → H' c = some (.lst (ms.map V.int)) → (∀ x ∈ ms, 0 ≤ x) → Q (.ref h) H'
theorem ok_law_hand {f : Addr} {fd : FuncData} (F : C8.Def K mg "_law_hand" s_law_hand f fd) (b : Binds K fd ["script"] []) (T : Txt mg) : C8.Cal P w K mg base 1 "_law_hand" (sp_hand K) [] := by
  refine cal_seal (ok_hand1 F b T) fun vs H Q E h => ?_
  obtain ⟨a, ns, rfl, ha, hl, q⟩ := h
  refine ⟨a, ns, rfl, ha, hl, fun h c ms H1 H' e hh nc hc hp hm hH => ?_⟩
  subst hH
  have hch : c ≠ h := fun z => by rw [z, hh] at hc; cases hc
  refine ⟨h, HandW c, _, e.fresh hh, ⟨0, 0, 1 + ms.length, 0, rfl, by omega, by omega, by omega, by omega⟩, upd_same, ?_⟩
  rw [upd_upd]
  exact q h c ms _ (e.trans (Ex.new hh)) (e.fresh hh) nc (Ne.symm hch) upd_same (by rw [upd_ne hch]; exact hc) hp
/-! told by data -/
theorem d_law_draw (c : C8.Cal P w K mg base 1 "_law_draw" (sp_draw K) []) : C8.Cal P w K mg base 1 "_law_draw" (TH.spD0 K PD.p_law_draw) [] :=
  cal_mono c fun vs H Q E ⟨F, ds, k, ex, hd, ⟨m, ed, m0, m1, hk⟩, q⟩ => by
    subst ed
    obtain ⟨v, u, rfl, hv, hu⟩ := dqa2 hd
    refine ⟨v, m, by rw [dq_int hu], (dq_hand hv).ex ex, m0, m1, fun r r0 r1 => ?_⟩
    obtain ⟨n, rfl⟩ : ∃ n : Nat, r = n := ⟨r.toNat, by omega⟩
    exact q _ _ F H (hk n r1) (.refl ex) (.int _)
theorem d_law_hand (c : C8.Cal P w K mg base 1 "_law_hand" (sp_hand K) []) : C8.Cal P w K mg base 1 "_law_hand" (TH.spD0 K PD.p_law_hand) [] :=
  cal_mono c fun vs H Q E ⟨F, ds, k, ex, hd, ⟨ns, ed, hk⟩, q⟩ => by
    subst ed
    obtain ⟨v, rfl, hv⟩ := dqa1 hd
    obtain ⟨a, rfl, h1, h2⟩ := dq_scr hv
    refine ⟨a, ns, rfl, ex.l h1, h2, fun h c ms H' e nh nc hne hh hc hm => ?_⟩
    have fh : F h = none := ex_none ex nh
    have fc : F c = none := ex_none ex nc
    refine q _ _ (upd (upd F h (LstP h (HandW c))) c (.lst (ms.map V.int))) H' hk ⟨fun b o hb => ?_, e, fun b o hb => ?_, fun b o hb hB hn => ?_⟩ (.hand rfl ⟨h, c, ms, rfl, by rw [upd_ne hne]; exact upd_same, upd_same, hm⟩)
    · rw [upd_ne (fun z => by rw [z, fc] at hb; cases hb), upd_ne (fun z => by rw [z, fh] at hb; cases hb)]
      exact hb
    · by_cases z : b = c
      · subst z
        rw [upd_same] at hb
        cases hb
        exact hc
      · rw [upd_ne z] at hb
        by_cases z2 : b = h
        · subst z2
          rw [upd_same] at hb
          cases hb
          exact hh
        · rw [upd_ne z2] at hb
          exact e _ _ (ex _ _ hb)
    · rw [upd_ne (fun z => by rw [z, nc] at hB; cases hB), upd_ne (fun z => by rw [z, nh] at hB; cases hB)]
      exact hb

abbrev s_Timing_eq : Stmt := inClass (top 19) 1
abbrev N_Timing_eq : List Str := ["self", "other"]
theorem sc_Timing_eq : FnScope N_Timing_eq ["self", "other"] (C8.fnScope s_Timing_eq) := ⟨rfl, rfl, rfl, by decide +kernel, rfl, by decide +kernel, by decide +kernel⟩

theorem q_Timing_eq {f : Addr} {fd : FuncData} {C_Timing : Addr} (me : Meth K C_Timing "__eq__" f) (CL_Timing : TH.ClC K "Timing" PD.ns_Timing C_Timing) (F : C8.Fun K "__eq__" "Timing.__eq__" s_Timing_eq f fd) (b : Binds K fd ["self", "other"] []) (T : Txt mg) (G_Timing : mg "Timing" = some (.ref C_Timing)) (NK_Timing : TH.NoKind K C_Timing) : C8.Met P w K mg base 1 C_Timing "__eq__" (TH.spD0 K PD.m_Timing_eq) [] := by
  refine TH.metD (n := 2) CL_Timing.cl me F b sc_Timing_eq rfl (fun cdv A outer s H E hr => ?_)
  have hu64 := TH.hu64_of hr
  have hu := hu_of hr
  exact (TH.qss_one (TH.qs_ret (TH.qe_and (TH.qe_isCD CL_Timing NK_Timing (pe_callB (TH.call_isiD (K := K)) (by rfl) T.b_isinstance (by decide +kernel) (pa_cons (TH.qe_var (pv 1)) (pa_cons (C8.pe_gc (v := .ref C_Timing) (by rfl) ⟨_, G_Timing, rfl⟩) pa_nil)))) (TH.qe_and (TH.qe_cmp (TH.kop_eqD (K := K) hu64) TH.oEqD (TH.qe_fld CL_Timing (by rfl) (TH.kpe_fld (K := K) (TH.qe_var (pv 0)) rfl)) (TH.qe_fld CL_Timing (by rfl) (TH.kpe_fld (K := K) (TH.qe_var (pv 1)) rfl)) (nomark _)) (TH.qe_one (TH.qe_cmp (TH.kop_eqD (K := K) hu64) TH.oEqD (TH.qe_fld CL_Timing (by rfl) (TH.kpe_fld (K := K) (TH.qe_var (pv 0)) rfl)) (TH.qe_fld CL_Timing (by rfl) (TH.kpe_fld (K := K) (TH.qe_var (pv 1)) rfl)) (nomark _)))))))

abbrev s_law_deep : Stmt := top 32
abbrev N_law_deep : List Str := ["hand", "found", "turn"]
theorem sc_law_deep : FnScope N_law_deep ["hand"] (C8.fnScope s_law_deep) := ⟨rfl, rfl, rfl, by decide +kernel, rfl, by decide +kernel, by decide +kernel⟩

theorem q_law_deep {f : Addr} {fd : FuncData} (F : C8.Def K mg "_law_deep" s_law_deep f fd) (b : Binds K fd ["hand"] []) (T : Txt mg) (c_law_draw : C8.Cal P w K mg base 1 "_law_draw" (TH.spD0 K PD.p_law_draw) []) : C8.Cal P w K mg base 2 "_law_deep" (TH.spD0 K PD.m_law_deep) [] := by
  refine TH.calD (n := 1) F b sc_law_deep rfl (fun cdv A outer s H E hr => ?_)
  have hu64 := TH.hu64_of hr
  have hu := hu_of hr
  exact (TH.qss_cons (TH.qs_set' (ps_set (i := 1) sc_law_deep.nd rfl (Or.inl rfl) (TH.qe_ixL (TH.kix_list (K := K)) (TH.ql_new (TH.qf_lst (TH.qa_cons (TH.qe_non pe_non) (TH.qa_cons (TH.qe_str pe_str) (TH.qa_cons (TH.qe_neg (TH.qe_int pe_int)) (TH.qa_cons (TH.qe_newDc (TH.qd_nilK pe_dnewK)) TH.qa_nil)))))) (TH.qe_call (C8.pe_c c_law_draw hr (by first | decide | exact Nat.le_refl _) (by rfl) (TH.qa_cons (TH.qe_var (pv 0)) (TH.qa_cons (TH.qe_int pe_int) TH.qa_nil)))) (fun _ _ => rfl))) (TH.sl_val (fun _ _ _ z => z)))
      (TH.qss_cons (TH.qs_for (vs := [2]) (TH.gr_name (by decide)) (fun _ _ _ z => z) (ps_for PassesOwn.never rfl (TH.qi_rng1 (pi_range1 (by rfl) T.b_range (TH.qa_cons (TH.qe_op op_add TH.oAdd (TH.qe_int pe_int) (TH.qe_call (C8.pe_c c_law_draw hr (by first | decide | exact Nat.le_refl _) (by rfl) (TH.qa_cons (TH.qe_var (pv 0)) (TH.qa_cons (TH.qe_int pe_int) TH.qa_nil))))) TH.qa_nil))) (pg_name (i := 2) sc_law_deep.nd rfl (Or.inl rfl) (Or.inr rfl)) (TH.qss_one (TH.qs_set' (ps_set (i := 1) sc_law_deep.nd rfl (Or.inl rfl) (TH.qe_ixL (TH.kix_list (K := K)) (TH.ql_new (TH.qf_lst (TH.qa_cons (TH.qe_tup (TH.qa_cons (TH.qe_var (pv 1)) TH.qa_nil)) (TH.qa_cons (TH.qe_new (TH.qf_lst (TH.qa_cons (TH.qe_var (pv 1)) TH.qa_nil))) (TH.qa_cons (TH.qe_slT (TH.ksl_tup (K := K)) (TH.qe_tup (TH.qa_cons (TH.qe_var (pv 1)) (TH.qa_cons (TH.qe_var (pv 1)) TH.qa_nil))) TH.qp_none (TH.qp_some (TH.qe_int pe_int))) (TH.qa_cons (TH.qe_newDc (TH.qd_disp (ps := [((eC (.int 0)), (eV 1))]) (pe_disp (pps_cons (TH.qe_int pe_int) (TH.qe_var (pv 1)) pps_nil) rfl rfl (fun z => nomatch z) (by decide)))) TH.qa_nil)))))) (TH.qe_call (C8.pe_c c_law_draw hr (by first | decide | exact Nat.le_refl _) (by rfl) (TH.qa_cons (TH.qe_var (pv 0)) (TH.qa_cons (TH.qe_int pe_int) TH.qa_nil)))) (fun _ _ => rfl))) (TH.sl_val (fun _ _ _ z => z))))))
      (TH.qss_one (TH.qs_ret (TH.qe_var (pv 1))))))

abbrev s_law_bent : Stmt := top 41
abbrev N_law_bent : List Str := ["hand", "some", "at", "number", "odd", "bent"]
theorem sc_law_bent : FnScope N_law_bent ["hand", "some"] (C8.fnScope s_law_bent) := ⟨rfl, rfl, rfl, by decide +kernel, rfl, by decide +kernel, by decide +kernel⟩

theorem q_law_bent {f : Addr} {fd : FuncData} (F : C8.Def K mg "_law_bent" s_law_bent f fd) (b : Binds K fd ["hand", "some"] []) (T : Txt mg) (c_law_deep : C8.Cal P w K mg base 2 "_law_deep" (TH.spD0 K PD.p_law_deep) []) (c_law_draw : C8.Cal P w K mg base 1 "_law_draw" (TH.spD0 K PD.p_law_draw) []) : C8.Cal P w K mg base 3 "_law_bent" (TH.spD0 K PD.m_law_bent) [] := by
  refine TH.calD (n := 2) F b sc_law_bent rfl (fun cdv A outer s H E hr => ?_)
  have hu64 := TH.hu64_of hr
  have hu := hu_of hr
  exact (TH.qss_cons (TH.qs_set' (ps_set (i := 2) sc_law_bent.nd rfl (Or.inl rfl) (TH.qe_call (C8.pe_c c_law_draw hr (by first | decide | exact Nat.le_refl _) (by rfl) (TH.qa_cons (TH.qe_var (pv 0)) (TH.qa_cons (TH.qe_op op_add TH.oAdd (TH.qe_biT TH.bLen (pe_callB (TH.kcall_len (K := K)) (by rfl) T.b_len (by decide +kernel) (pa_cons (TH.qe_var (pv 1)) pa_nil))) (TH.qe_int pe_int)) TH.qa_nil))))) (TH.sl_val (fun _ _ _ z => z)))
      (TH.qss_cons (TH.qs_set' (ps_set (i := 3) sc_law_bent.nd rfl (Or.inl rfl) (TH.qe_ixL (TH.kix_list (K := K)) (TH.ql_new (TH.qf_lst (TH.qa_cons (TH.qe_int pe_int) (TH.qa_cons (TH.qe_int pe_int) (TH.qa_cons (TH.qe_neg (TH.qe_int pe_int)) (TH.qa_cons (TH.qe_bl pe_bl) (TH.qa_cons (TH.qe_non pe_non) (TH.qa_cons (TH.qe_str pe_str) (TH.qa_cons (TH.qe_tup (TH.qa_cons (TH.qe_int pe_int) TH.qa_nil)) (TH.qa_cons (TH.qe_call (C8.pe_c c_law_deep hr (by first | decide | exact Nat.le_refl _) (by rfl) (TH.qa_cons (TH.qe_var (pv 0)) TH.qa_nil))) TH.qa_nil)))))))))) (TH.qe_call (C8.pe_c c_law_draw hr (by first | decide | exact Nat.le_refl _) (by rfl) (TH.qa_cons (TH.qe_var (pv 0)) (TH.qa_cons (TH.qe_int pe_int) TH.qa_nil)))) (fun _ _ => rfl))) (TH.sl_val (fun _ _ _ z => z)))
      (TH.qss_cons (TH.qs_set' (ps_set (i := 4) sc_law_bent.nd rfl (Or.inl rfl) (TH.qe_new (TH.qf_lst (TH.qa_cons (TH.qe_tup (TH.qa_cons (TH.qe_tup (TH.qa_cons (TH.qe_var (pv 3)) TH.qa_nil)) (TH.qa_cons (TH.qe_tup (TH.qa_cons (TH.qe_int pe_int) TH.qa_nil)) TH.qa_nil))) (TH.qa_cons (TH.qe_tup (TH.qa_cons (TH.qe_tup TH.qa_nil) (TH.qa_cons (TH.qe_tup (TH.qa_cons (TH.qe_var (pv 3)) TH.qa_nil)) TH.qa_nil))) (TH.qa_cons (TH.qe_tup (TH.qa_cons (TH.qe_tup TH.qa_nil) (TH.qa_cons (TH.qe_tup TH.qa_nil) TH.qa_nil))) (TH.qa_cons (TH.qe_tup (TH.qa_cons (TH.qe_op (TH.kop_repA (K := K)) TH.oRepT (TH.qe_tup (TH.qa_cons (TH.qe_int pe_int) TH.qa_nil)) (TH.qe_int pe_int)) (TH.qa_cons (TH.qe_tup (TH.qa_cons (TH.qe_int pe_int) TH.qa_nil)) TH.qa_nil))) (TH.qa_cons (TH.qe_tup (TH.qa_cons (TH.qe_op (TH.kop_repA (K := K)) TH.oRepT (TH.qe_tup (TH.qa_cons (TH.qe_int pe_int) TH.qa_nil)) (TH.qe_int pe_int)) (TH.qa_cons (TH.qe_tup (TH.qa_cons (TH.qe_int pe_int) TH.qa_nil)) TH.qa_nil))) (TH.qa_cons (TH.qe_tup (TH.qa_cons (TH.qe_tup (TH.qa_cons (TH.qe_int pe_int) TH.qa_nil)) TH.qa_nil)) (TH.qa_cons (TH.qe_new (TH.qf_lst (TH.qa_cons (TH.qe_tup (TH.qa_cons (TH.qe_int pe_int) TH.qa_nil)) (TH.qa_cons (TH.qe_tup (TH.qa_cons (TH.qe_int pe_int) TH.qa_nil)) TH.qa_nil)))) TH.qa_nil)))))))))) (TH.sl_val (fun _ _ _ z => z)))
      (TH.qss_cons (TH.qs_set' (ps_set (i := 4) sc_law_bent.nd rfl (Or.inl rfl) (TH.qe_new (TH.qf_cat (TH.ql_val (TH.qe_var (pv 4))) (TH.ql_new (TH.qf_lst (TH.qa_cons (TH.qe_tup (TH.qa_cons (TH.qe_new (TH.qf_lst (TH.qa_cons (TH.qe_int pe_int) TH.qa_nil))) (TH.qa_cons (TH.qe_tup (TH.qa_cons (TH.qe_int pe_int) TH.qa_nil)) TH.qa_nil))) (TH.qa_cons (TH.qe_non pe_non) (TH.qa_cons (TH.qe_tup TH.qa_nil) (TH.qa_cons (TH.qe_tup (TH.qa_cons (TH.qe_tup TH.qa_nil) (TH.qa_cons (TH.qe_tup (TH.qa_cons (TH.qe_int pe_int) TH.qa_nil)) (TH.qa_cons (TH.qe_tup TH.qa_nil) TH.qa_nil)))) (TH.qa_cons (TH.qe_newDc (TH.qd_nilK pe_dnewK)) TH.qa_nil)))))))))) (TH.sl_val (fun _ _ _ z => z)))
      (TH.qss_cons (TH.qs_set' (ps_set (i := 5) sc_law_bent.nd rfl (Or.inl rfl) (TH.qe_new (TH.qf_lst (TH.qa_cons (TH.qe_op (TH.kop_catA (K := K)) TH.oCatT (TH.qe_op (TH.kop_catA (K := K)) TH.oCatT (TH.qe_slT (TH.ksl_tup (K := K)) (TH.qe_var (pv 1)) TH.qp_none (TH.qp_some (TH.qe_var (pv 2)))) (TH.qe_tup (TH.qa_cons (TH.qe_ixL (TH.kix_list (K := K)) (TH.ql_val (TH.qe_var (pv 4))) (TH.qe_call (C8.pe_c c_law_draw hr (by first | decide | exact Nat.le_refl _) (by rfl) (TH.qa_cons (TH.qe_var (pv 0)) (TH.qa_cons (TH.qe_int pe_int) TH.qa_nil)))) (fun _ _ => rfl)) TH.qa_nil))) (TH.qe_slT (TH.ksl_tup (K := K)) (TH.qe_var (pv 1)) (TH.qp_some (TH.qe_op op_add TH.oAdd (TH.qe_var (pv 2)) (TH.qe_int pe_int))) TH.qp_none)) (TH.qa_cons (TH.qe_op (TH.kop_catA (K := K)) TH.oCatT (TH.qe_op (TH.kop_catA (K := K)) TH.oCatT (TH.qe_slT (TH.ksl_tup (K := K)) (TH.qe_var (pv 1)) TH.qp_none (TH.qp_some (TH.qe_var (pv 2)))) (TH.qe_tup (TH.qa_cons (TH.qe_ixL (TH.kix_list (K := K)) (TH.ql_val (TH.qe_var (pv 4))) (TH.qe_call (C8.pe_c c_law_draw hr (by first | decide | exact Nat.le_refl _) (by rfl) (TH.qa_cons (TH.qe_var (pv 0)) (TH.qa_cons (TH.qe_int pe_int) TH.qa_nil)))) (fun _ _ => rfl)) TH.qa_nil))) (TH.qe_slT (TH.ksl_tup (K := K)) (TH.qe_var (pv 1)) (TH.qp_some (TH.qe_op op_add TH.oAdd (TH.qe_var (pv 2)) (TH.qe_int pe_int))) TH.qp_none)) TH.qa_nil))))) (TH.sl_val (fun _ _ _ z => z)))
      (TH.qss_cons (TH.qs_set' (ps_set (i := 5) sc_law_bent.nd rfl (Or.inl rfl) (TH.qe_new (TH.qf_cat (TH.ql_val (TH.qe_var (pv 5))) (TH.ql_new (TH.qf_lst (TH.qa_cons (TH.qe_new (TH.qf_listT (pe_callTy (TH.kcall_list (K := K)) (by rfl) T.b_list (by decide +kernel) (pa_cons (TH.qe_var (pv 1)) pa_nil)))) (TH.qa_cons (TH.qe_slT (TH.ksl_tup (K := K)) (TH.qe_var (pv 1)) (TH.qp_some (TH.qe_int pe_int)) TH.qp_none) (TH.qa_cons (TH.qe_op (TH.kop_catA (K := K)) TH.oCatT (TH.qe_var (pv 1)) (TH.qe_tup (TH.qa_cons (TH.qe_tup (TH.qa_cons (TH.qe_tup TH.qa_nil) (TH.qa_cons (TH.qe_tup (TH.qa_cons (TH.qe_int pe_int) TH.qa_nil)) TH.qa_nil))) TH.qa_nil))) (TH.qa_cons (TH.qe_op (TH.kop_repA (K := K)) TH.oRepT (TH.qe_tup (TH.qa_cons (TH.qe_tup (TH.qa_cons (TH.qe_tup TH.qa_nil) (TH.qa_cons (TH.qe_tup (TH.qa_cons (TH.qe_int pe_int) TH.qa_nil)) TH.qa_nil))) TH.qa_nil)) (TH.qe_int pe_int)) (TH.qa_cons (TH.qe_non pe_non) (TH.qa_cons (TH.qe_str pe_str) TH.qa_nil))))))))))) (TH.sl_val (fun _ _ _ z => z)))
      (TH.qss_one (TH.qs_ret (TH.qe_ixL (TH.kix_list (K := K)) (TH.ql_val (TH.qe_var (pv 5))) (TH.qe_call (C8.pe_c c_law_draw hr (by first | decide | exact Nat.le_refl _) (by rfl) (TH.qa_cons (TH.qe_var (pv 0)) (TH.qa_cons (TH.qe_int pe_int) TH.qa_nil)))) (fun _ _ => rfl))))))))))

abbrev s_law_carried : Stmt := top 42
abbrev N_law_carried : List Str := ["opening", "tick", "left", "begin", "later"]
theorem sc_law_carried : FnScope N_law_carried ["opening", "tick"] (C8.fnScope s_law_carried) := ⟨rfl, rfl, rfl, by decide +kernel, rfl, by decide +kernel, by decide +kernel⟩

theorem q_law_carried {f : Addr} {fd : FuncData} (F : C8.Def K mg "_law_carried" s_law_carried f fd) (b : Binds K fd ["opening", "tick"] []) (T : Txt mg) : C8.Cal P w K mg base 1 "_law_carried" (TH.spD0 K PD.m_law_carried) [] := by
  refine TH.calD (n := 2) F b sc_law_carried rfl (fun cdv A outer s H E hr => ?_)
  have hu64 := TH.hu64_of hr
  have hu := hu_of hr
  exact (TH.qss_cons (TH.qs_asg (vs := [3, 4]) (TH.gr_tup (TH.gsr_cons (TH.gr_name (by decide)) (TH.gsr_cons (TH.gr_name (by decide)) TH.gsr_nil))) (ps_asg (TH.qe_var (pv 0)) (TH.kpg_tup (K := K) (n := 2) rfl (pgs_cons (pg_name (i := 3) sc_law_carried.nd rfl (Or.inl rfl) (Or.inr rfl)) (pgs_cons (pg_name (i := 4) sc_law_carried.nd rfl (Or.inl rfl) (Or.inr rfl)) pgs_nil)))))
      (TH.qss_cons (TH.qs_if (TH.qt_cmp op_le TH.oLe (TH.qe_var (pv 1)) (TH.qe_biT TH.bLen (pe_callB (TH.kcall_len (K := K)) (by rfl) T.b_len (by decide +kernel) (pa_cons (TH.qe_var (pv 3)) pa_nil))) (nomark _)) (TH.qss_one (TH.qs_ret (TH.qe_biT TH.bSumT (pe_callB (TH.kcr_sumT (K := K) rfl) (by rfl) T.b_sum (by decide +kernel) (pa_cons (TH.qe_slT (TH.ksl_tup (K := K)) (TH.qe_var (pv 3)) TH.qp_none (TH.qp_some (TH.qe_var (pv 1)))) pa_nil))))) TH.qss_nil)
      (TH.qss_cons (TH.qs_set' (ps_set (i := 2) sc_law_carried.nd rfl (Or.inl rfl) (TH.qe_op op_sub TH.oSub (TH.qe_var (pv 1)) (TH.qe_biT TH.bLen (pe_callB (TH.kcall_len (K := K)) (by rfl) T.b_len (by decide +kernel) (pa_cons (TH.qe_var (pv 3)) pa_nil))))) (TH.sl_val (fun _ _ _ z => z)))
      (TH.qss_one (TH.qs_ret (TH.qe_op op_add TH.oAdd (TH.qe_op op_add TH.oAdd (TH.qe_biT TH.bSumT (pe_callB (TH.kcr_sumT (K := K) rfl) (by rfl) T.b_sum (by decide +kernel) (pa_cons (TH.qe_var (pv 3)) pa_nil))) (TH.qe_op op_mul TH.oMul (TH.qe_biT TH.bSumT (pe_callB (TH.kcr_sumT (K := K) rfl) (by rfl) T.b_sum (by decide +kernel) (pa_cons (TH.qe_var (pv 4)) pa_nil))) (TH.qe_op op_fdiv TH.oDiv (TH.qe_var (pv 2)) (TH.qe_biT TH.bLen (pe_callB (TH.kcall_len (K := K)) (by rfl) T.b_len (by decide +kernel) (pa_cons (TH.qe_var (pv 4)) pa_nil)))))) (TH.qe_biT TH.bSumT (pe_callB (TH.kcr_sumT (K := K) rfl) (by rfl) T.b_sum (by decide +kernel) (pa_cons (TH.qe_slT (TH.ksl_tup (K := K)) (TH.qe_var (pv 4)) TH.qp_none (TH.qp_some (TH.qe_op op_mod TH.oMod (TH.qe_ba TH.bInt (pe_callTy call_int1 (by rfl) T.b_int (by decide +kernel) (TH.qa_cons (TH.qe_var (pv 2)) TH.qa_nil))) (TH.qe_biT TH.bLen (pe_callB (TH.kcall_len (K := K)) (by rfl) T.b_len (by decide +kernel) (pa_cons (TH.qe_var (pv 4)) pa_nil)))))) pa_nil)))))))))

abbrev s_law_whole : Stmt := top 30
abbrev N_law_whole : List Str := ["thing", "least", "most"]
theorem sc_law_whole : FnScope N_law_whole ["thing", "least", "most"] (C8.fnScope s_law_whole) := ⟨rfl, rfl, rfl, by decide +kernel, rfl, by decide +kernel, by decide +kernel⟩

theorem q_law_whole {f : Addr} {fd : FuncData} (F : C8.Def K mg "_law_whole" s_law_whole f fd) (b : Binds K fd ["thing", "least", "most"] []) (T : Txt mg) : C8.Cal P w K mg base 1 "_law_whole" (TH.spD0 K PD.m_law_whole) [] := by
  refine TH.calD (n := 3) F b sc_law_whole rfl (fun cdv A outer s H E hr => ?_)
  have hu64 := TH.hu64_of hr
  have hu := hu_of hr
  exact (TH.qss_one (TH.qs_ret (TH.qe_and (TH.qe_isi (by decide) (pe_callB (TH.call_isiD (K := K)) (by rfl) T.b_isinstance (by decide +kernel) (pa_cons (TH.qe_var (pv 0)) (pa_cons (pe_bltn (v := .ty "int") (by rfl) T.b_int (by decide +kernel) rfl) pa_nil)))) (TH.qe_and (TH.qe_not (TH.qe_isi (by decide) (pe_callB (TH.call_isiD (K := K)) (by rfl) T.b_isinstance (by decide +kernel) (pa_cons (TH.qe_var (pv 0)) (pa_cons (pe_bltn (v := .ty "bool") (by rfl) T.b_bool (by decide +kernel) rfl) pa_nil))))) (TH.qe_one (TH.qe_chain op_le op_le TH.oLe TH.oLe (TH.qe_var (pv 1)) (TH.qe_var (pv 0)) (TH.qe_var (pv 2))))))))

abbrev s_law_is_opening : Stmt := top 38
abbrev N_law_is_opening : List Str := ["thing", "some", "number"]
theorem sc_law_is_opening : FnScope N_law_is_opening ["thing"] (C8.fnScope s_law_is_opening) := ⟨rfl, rfl, rfl, by decide +kernel, rfl, by decide +kernel, by decide +kernel⟩

theorem q_law_is_opening {f : Addr} {fd : FuncData} (F : C8.Def K mg "_law_is_opening" s_law_is_opening f fd) (b : Binds K fd ["thing"] []) (T : Txt mg) (c_law_whole : C8.Cal P w K mg base 1 "_law_whole" (TH.spD0 K PD.p_law_whole) []) : C8.Cal P w K mg base 2 "_law_is_opening" (TH.spD0 K PD.m_law_is_opening) [] := by
  refine TH.calD (n := 1) F b sc_law_is_opening rfl (fun cdv A outer s H E hr => ?_)
  have hu64 := TH.hu64_of hr
  have hu := hu_of hr
  exact (TH.qss_cons (TH.qs_if (TH.qt_w (TH.qw_or (TH.qt_not (TH.qt_val (TH.qe_isi (by decide) (pe_callB (TH.call_isiD (K := K)) (by rfl) T.b_isinstance (by decide +kernel) (pa_cons (TH.qe_var (pv 0)) (pa_cons (pe_bltn (v := .ty "tuple") (by rfl) T.b_tuple (by decide +kernel) rfl) pa_nil)))))) (TH.qw_or1 (TH.qt_cmp op_ne TH.oNeS (TH.qe_alt (TH.qe_biL TH.bLen (pe_callB (TH.kcall_len (K := K)) (by rfl) T.b_len (by decide +kernel) (pa_cons (TH.ql_val (TH.qe_var (pv 0))) pa_nil))) (TH.qe_biT TH.bLen (pe_callB (TH.kcall_len (K := K)) (by rfl) T.b_len (by decide +kernel) (pa_cons (TH.qe_var (pv 0)) pa_nil)))) (TH.qe_int pe_int) (nomark _))))) (TH.qss_one (TH.qs_ret (TH.qe_bl pe_bl))) TH.qss_nil)
      (TH.qss_cons (TH.qs_for (vs := [1]) (TH.gr_name (by decide)) (fun _ _ _ z => z) (ps_for PassesOwn.never rfl (TH.qi_or (TH.qi_listS (TH.kpi_list (K := K) (TH.qe_var (pv 0)))) (TH.qi_tup (TH.kpi_tup (K := K) (TH.qe_var (pv 0))))) (pg_name (i := 1) sc_law_is_opening.nd rfl (Or.inl rfl) (Or.inr rfl)) (TH.qss_one (TH.qs_if (TH.qt_w (TH.qw_or (TH.qt_not (TH.qt_val (TH.qe_isi (by decide) (pe_callB (TH.call_isiD (K := K)) (by rfl) T.b_isinstance (by decide +kernel) (pa_cons (TH.qe_var (pv 1)) (pa_cons (pe_bltn (v := .ty "tuple") (by rfl) T.b_tuple (by decide +kernel) rfl) pa_nil)))))) (TH.qw_or (TH.qt_cmp op_gt TH.oGt (TH.qe_alt (TH.qe_biL TH.bLen (pe_callB (TH.kcall_len (K := K)) (by rfl) T.b_len (by decide +kernel) (pa_cons (TH.ql_val (TH.qe_var (pv 1))) pa_nil))) (TH.qe_biT TH.bLen (pe_callB (TH.kcall_len (K := K)) (by rfl) T.b_len (by decide +kernel) (pa_cons (TH.qe_var (pv 1)) pa_nil)))) (TH.qe_int pe_int) (nomark _)) (TH.qw_or1 (TH.qt_not (TH.qt_val (TH.qe_biL TH.bAll (pe_callB (TH.kcr_all (K := K) rfl) (by rfl) T.b_all (by decide +kernel) (pa_cons (TH.ql_new (TH.qf_lc (vs := [2]) (TH.gr_name (by decide)) (pe_lc (own := [("number", 2)]) (g := L2.gName 2) rfl sc_law_is_opening.nd (TH.qi_or (TH.qi_list (TH.kpi_list (K := K) (TH.ql_val (TH.qe_var (pv 1))))) (TH.qi_tup (TH.kpi_tup (K := K) (TH.qe_var (pv 1))))) (blkOk_by (own := [("number", 2)]) (N := N_law_is_opening) (sc := C8.fnScope s_law_is_opening) (by decide +kernel)) (fun _ _ _ _ _ => (pg_name (i := 2) sc_law_is_opening.nd rfl (Or.inl rfl) (Or.inr rfl))) (fun _ _ _ _ _ => TH.qts_nil) (fun _ _ _ _ _ => (TH.qe_call (C8.pe_c c_law_whole hr (by first | decide | exact Nat.le_refl _) (by rfl) (TH.qa_cons (TH.qe_var (pv 2)) (TH.qa_cons (TH.qe_int pe_int) (TH.qa_cons (TH.qe_int pe_int) TH.qa_nil))))))))) pa_nil))))))))) (TH.qss_one (TH.qs_ret (TH.qe_bl pe_bl))) TH.qss_nil))))
      (TH.qss_one (TH.qs_ret (TH.qe_cmp op_gt TH.oGt (TH.qe_alt (TH.qe_biL TH.bLen (pe_callB (TH.kcall_len (K := K)) (by rfl) T.b_len (by decide +kernel) (pa_cons (TH.ql_val (TH.qe_alt (TH.qe_ixL (TH.kix_list (K := K)) (TH.ql_val (TH.qe_var (pv 0))) (TH.qe_int pe_int) (fun _ _ => rfl)) (TH.qe_ixT (TH.kix_tup (K := K)) (TH.qe_var (pv 0)) (TH.qe_int pe_int) (fun _ _ => rfl)))) pa_nil))) (TH.qe_biT TH.bLen (pe_callB (TH.kcall_len (K := K)) (by rfl) T.b_len (by decide +kernel) (pa_cons (TH.qe_alt (TH.qe_ixL (TH.kix_list (K := K)) (TH.ql_val (TH.qe_var (pv 0))) (TH.qe_int pe_int) (fun _ _ => rfl)) (TH.qe_ixT (TH.kix_tup (K := K)) (TH.qe_var (pv 0)) (TH.qe_int pe_int) (fun _ _ => rfl))) pa_nil)))) (TH.qe_int pe_int) (nomark _))))))

abbrev s_law_due : Stmt := top 39
abbrev N_law_due : List Str := ["right", "left", "one"]
theorem sc_law_due : FnScope N_law_due ["right", "left"] (C8.fnScope s_law_due) := ⟨rfl, rfl, rfl, by decide +kernel, rfl, by decide +kernel, by decide +kernel⟩

theorem q_law_due {f : Addr} {fd : FuncData} (F : C8.Def K mg "_law_due" s_law_due f fd) (b : Binds K fd ["right", "left"] []) (T : Txt mg) (c_law_is_opening : C8.Cal P w K mg base 2 "_law_is_opening" (TH.spD0 K PD.p_law_is_opening) []) : C8.Cal P w K mg base 3 "_law_due" (TH.spD0 K PD.m_law_due) [] := by
  refine TH.calD (n := 2) F b sc_law_due rfl (fun cdv A outer s H E hr => ?_)
  have hu64 := TH.hu64_of hr
  have hu := hu_of hr
  exact (TH.qss_cons (TH.qs_if (TH.qt_w (TH.qw_or (TH.qt_not (TH.qt_val (TH.qe_isi (by decide) (pe_callB (TH.call_isiD (K := K)) (by rfl) T.b_isinstance (by decide +kernel) (pa_cons (TH.qe_var (pv 0)) (pa_cons (pe_bltn (v := .ty "tuple") (by rfl) T.b_tuple (by decide +kernel) rfl) pa_nil)))))) (TH.qw_or (TH.qt_cmp op_gt TH.oGt (TH.qe_alt (TH.qe_biL TH.bLen (pe_callB (TH.kcall_len (K := K)) (by rfl) T.b_len (by decide +kernel) (pa_cons (TH.ql_val (TH.qe_var (pv 0))) pa_nil))) (TH.qe_biT TH.bLen (pe_callB (TH.kcall_len (K := K)) (by rfl) T.b_len (by decide +kernel) (pa_cons (TH.qe_var (pv 0)) pa_nil)))) (TH.qe_int pe_int) (nomark _)) (TH.qw_or1 (TH.qt_not (TH.qt_val (TH.qe_biL TH.bAll (pe_callB (TH.kcr_all (K := K) rfl) (by rfl) T.b_all (by decide +kernel) (pa_cons (TH.ql_new (TH.qf_lc (vs := [2]) (TH.gr_name (by decide)) (pe_lc (own := [("one", 2)]) (g := L2.gName 2) rfl sc_law_due.nd (TH.qi_or (TH.qi_list (TH.kpi_list (K := K) (TH.ql_val (TH.qe_var (pv 0))))) (TH.qi_tup (TH.kpi_tup (K := K) (TH.qe_var (pv 0))))) (blkOk_by (own := [("one", 2)]) (N := N_law_due) (sc := C8.fnScope s_law_due) (by decide +kernel)) (fun _ _ _ _ _ => (pg_name (i := 2) sc_law_due.nd rfl (Or.inl rfl) (Or.inr rfl))) (fun _ _ _ _ _ => TH.qts_nil) (fun _ _ _ _ _ => (TH.qe_call (C8.pe_c c_law_is_opening hr (by first | decide | exact Nat.le_refl _) (by rfl) (TH.qa_cons (TH.qe_var (pv 2)) TH.qa_nil))))))) pa_nil))))))))) (TH.qss_one (TH.qs_ret (TH.qe_str pe_str))) TH.qss_nil)
      (TH.qss_cons (TH.qs_if (TH.qt_w (TH.qw_or (TH.qt_not (TH.qt_val (TH.qe_isi (by decide) (pe_callB (TH.call_isiD (K := K)) (by rfl) T.b_isinstance (by decide +kernel) (pa_cons (TH.qe_var (pv 1)) (pa_cons (pe_bltn (v := .ty "tuple") (by rfl) T.b_tuple (by decide +kernel) rfl) pa_nil)))))) (TH.qw_or (TH.qt_cmp op_ne TH.oNeS (TH.qe_alt (TH.qe_biL TH.bLen (pe_callB (TH.kcall_len (K := K)) (by rfl) T.b_len (by decide +kernel) (pa_cons (TH.ql_val (TH.qe_var (pv 1))) pa_nil))) (TH.qe_biT TH.bLen (pe_callB (TH.kcall_len (K := K)) (by rfl) T.b_len (by decide +kernel) (pa_cons (TH.qe_var (pv 1)) pa_nil)))) (TH.qe_alt (TH.qe_biL TH.bLen (pe_callB (TH.kcall_len (K := K)) (by rfl) T.b_len (by decide +kernel) (pa_cons (TH.ql_val (TH.qe_var (pv 0))) pa_nil))) (TH.qe_biT TH.bLen (pe_callB (TH.kcall_len (K := K)) (by rfl) T.b_len (by decide +kernel) (pa_cons (TH.qe_var (pv 0)) pa_nil)))) (nomark _)) (TH.qw_or1 (TH.qt_not (TH.qt_val (TH.qe_biL TH.bAll (pe_callB (TH.kcr_all (K := K) rfl) (by rfl) T.b_all (by decide +kernel) (pa_cons (TH.ql_new (TH.qf_lc (vs := [2]) (TH.gr_name (by decide)) (pe_lc (own := [("one", 2)]) (g := L2.gName 2) rfl sc_law_due.nd (TH.qi_or (TH.qi_list (TH.kpi_list (K := K) (TH.ql_val (TH.qe_var (pv 1))))) (TH.qi_tup (TH.kpi_tup (K := K) (TH.qe_var (pv 1))))) (blkOk_by (own := [("one", 2)]) (N := N_law_due) (sc := C8.fnScope s_law_due) (by decide +kernel)) (fun _ _ _ _ _ => (pg_name (i := 2) sc_law_due.nd rfl (Or.inl rfl) (Or.inr rfl))) (fun _ _ _ _ _ => TH.qts_nil) (fun _ _ _ _ _ => (TH.qe_call (C8.pe_c c_law_is_opening hr (by first | decide | exact Nat.le_refl _) (by rfl) (TH.qa_cons (TH.qe_var (pv 2)) TH.qa_nil))))))) pa_nil))))))))) (TH.qss_one (TH.qs_ret (TH.qe_str pe_str))) TH.qss_nil)
      (TH.qss_one (TH.qs_ret (TH.qe_non pe_non)))))

abbrev s_law_is : Stmt := top 33
abbrev N_law_is : List Str := ["told", "due", "one", "two"]
theorem sc_law_is : FnScope N_law_is ["told", "due"] (C8.fnScope s_law_is) := ⟨rfl, rfl, rfl, by decide +kernel, rfl, by decide +kernel, by decide +kernel⟩

theorem q_law_is {f : Addr} {fd : FuncData} {rec : Fn} {n : Nat} (F : C8.Def K mg "_law_is" s_law_is f fd) (b : Binds K fd ["told", "due"] []) (T : Txt mg) (c_law_is : C8.Cal P w K mg base n "_law_is" (TH.spD0 K rec) []) : C8.Cal P w K mg base (n + 1) "_law_is" (TH.spD0 K (PD.mf_law_is rec)) [] := by
  refine TH.calD (n := 2) F b sc_law_is rfl (fun cdv A outer s H E hr => ?_)
  have hu64 := TH.hu64_of hr
  have hu := hu_of hr
  exact (TH.qss_cons (TH.qs_if (TH.qt_val (TH.qe_isi2 (by decide) (by decide) (pe_callB (TH.call_isiTD (K := K)) (by rfl) T.b_isinstance (by decide +kernel) (pa_cons (TH.qe_var (pv 1)) (pa_cons (pe_tup (pa_cons (pe_bltn (v := .ty "tuple") (by rfl) T.b_tuple (by decide +kernel) rfl) (pa_cons (pe_bltn (v := .ty "list") (by rfl) T.b_list (by decide +kernel) rfl) pa_nil))) pa_nil))))) (TH.qss_cons (TH.qs_if (TH.qt_w (TH.qw_or (TH.qt_cmp op_ne TH.oNeS (TH.qe_isi (by decide) (pe_callB (TH.call_isiD (K := K)) (by rfl) T.b_isinstance (by decide +kernel) (pa_cons (TH.qe_var (pv 0)) (pa_cons (pe_bltn (v := .ty "tuple") (by rfl) T.b_tuple (by decide +kernel) rfl) pa_nil)))) (TH.qe_isi (by decide) (pe_callB (TH.call_isiD (K := K)) (by rfl) T.b_isinstance (by decide +kernel) (pa_cons (TH.qe_var (pv 1)) (pa_cons (pe_bltn (v := .ty "tuple") (by rfl) T.b_tuple (by decide +kernel) rfl) pa_nil)))) (nomark _)) (TH.qw_or1 (TH.qt_not (TH.qt_val (TH.qe_isi2 (by decide) (by decide) (pe_callB (TH.call_isiTD (K := K)) (by rfl) T.b_isinstance (by decide +kernel) (pa_cons (TH.qe_var (pv 0)) (pa_cons (pe_tup (pa_cons (pe_bltn (v := .ty "tuple") (by rfl) T.b_tuple (by decide +kernel) rfl) (pa_cons (pe_bltn (v := .ty "list") (by rfl) T.b_list (by decide +kernel) rfl) pa_nil))) pa_nil))))))))) (TH.qss_one (TH.qs_ret (TH.qe_bl pe_bl))) TH.qss_nil)
      (TH.qss_one (TH.qs_ret (TH.qe_and (TH.qe_cmp op_eq TH.oEqS (TH.qe_alt (TH.qe_biL TH.bLen (pe_callB (TH.kcall_len (K := K)) (by rfl) T.b_len (by decide +kernel) (pa_cons (TH.ql_val (TH.qe_var (pv 0))) pa_nil))) (TH.qe_biT TH.bLen (pe_callB (TH.kcall_len (K := K)) (by rfl) T.b_len (by decide +kernel) (pa_cons (TH.qe_var (pv 0)) pa_nil)))) (TH.qe_biL TH.bLen (pe_callB (TH.kcall_len (K := K)) (by rfl) T.b_len (by decide +kernel) (pa_cons (TH.ql_val (TH.qe_var (pv 1))) pa_nil))) (nomark _)) (TH.qe_one (TH.qe_biL TH.bAll (pe_callB (TH.kcr_all (K := K) rfl) (by rfl) T.b_all (by decide +kernel) (pa_cons (TH.ql_new (TH.qf_lc (vs := [2, 3]) (TH.gr_tup (TH.gsr_cons (TH.gr_name (by decide)) (TH.gsr_cons (TH.gr_name (by decide)) TH.gsr_nil))) (pe_lc (own := [("one", 2), ("two", 3)]) (g := L2.gTup K 2 (L2.gCons (L2.gName 2) (L2.gCons (L2.gName 3) L2.gNil))) rfl sc_law_is.nd (TH.qi_or (TH.qi_zipL (TH.kpi_zip (K := K) (by rfl) T.b_zip (pa_cons (TH.ql_val (TH.qe_var (pv 0))) (pa_cons (TH.ql_val (TH.qe_var (pv 1))) pa_nil)))) (TH.qi_zipN (TH.kpi_zipN (K := K) (by rfl) T.b_zip (pa_cons (TH.qe_var (pv 0)) (pa_cons (TH.ql_val (TH.qe_var (pv 1))) pa_nil))))) (blkOk_by (own := [("one", 2), ("two", 3)]) (N := N_law_is) (sc := C8.fnScope s_law_is) (by decide +kernel)) (fun _ _ _ _ _ => (TH.kpg_tup (K := K) (n := 2) rfl (pgs_cons (pg_name (i := 2) sc_law_is.nd rfl (Or.inl rfl) (Or.inr rfl)) (pgs_cons (pg_name (i := 3) sc_law_is.nd rfl (Or.inl rfl) (Or.inr rfl)) pgs_nil)))) (fun _ _ _ _ _ => TH.qts_nil) (fun _ _ _ _ _ => (TH.qe_call (C8.pe_c c_law_is hr (by first | decide | exact Nat.le_refl _) (by rfl) (TH.qa_cons (TH.qe_var (pv 2)) (TH.qa_cons (TH.qe_var (pv 3)) TH.qa_nil)))))))) pa_nil)))))))) TH.qss_nil)
      (TH.qss_one (TH.qs_ret (TH.qe_and (TH.qe_cmp op_eq TH.oEqS (TH.qe_isi (by decide) (pe_callB (TH.call_isiD (K := K)) (by rfl) T.b_isinstance (by decide +kernel) (pa_cons (TH.qe_var (pv 0)) (pa_cons (pe_bltn (v := .ty "bool") (by rfl) T.b_bool (by decide +kernel) rfl) pa_nil)))) (TH.qe_isi (by decide) (pe_callB (TH.call_isiD (K := K)) (by rfl) T.b_isinstance (by decide +kernel) (pa_cons (TH.qe_var (pv 1)) (pa_cons (pe_bltn (v := .ty "bool") (by rfl) T.b_bool (by decide +kernel) rfl) pa_nil)))) (nomark _)) (TH.qe_one (TH.qe_cmp (TH.kop_eqD (K := K) hu64) TH.oEqD (TH.qe_var (pv 0)) (TH.qe_var (pv 1)) (nomark _)))))))

abbrev s_carried_by : Stmt := top 24
abbrev N_carried_by : List Str := ["opening", "tick", "begin", "turn", "rounds", "more"]
theorem sc_carried_by : FnScope N_carried_by ["opening", "tick"] (C8.fnScope s_carried_by) := ⟨rfl, rfl, rfl, by decide +kernel, rfl, by decide +kernel, by decide +kernel⟩

theorem q_carried_by {f : Addr} {fd : FuncData} (F : C8.Def K mg "carried_by" s_carried_by f fd) (b : Binds K fd ["opening", "tick"] []) (T : Txt mg) : C8.Cal P w K mg base 1 "carried_by" (TH.spD0 K PD.m_carried_by) [] := by
  refine TH.calD (n := 2) F b sc_carried_by rfl (fun cdv A outer s H E hr => ?_)
  have hu64 := TH.hu64_of hr
  have hu := hu_of hr
  exact (TH.qss_cons (TH.qs_asg (vs := [2, 3]) (TH.gr_tup (TH.gsr_cons (TH.gr_name (by decide)) (TH.gsr_cons (TH.gr_name (by decide)) TH.gsr_nil))) (ps_asg (TH.qe_var (pv 0)) (TH.kpg_tup (K := K) (n := 2) rfl (pgs_cons (pg_name (i := 2) sc_carried_by.nd rfl (Or.inl rfl) (Or.inr rfl)) (pgs_cons (pg_name (i := 3) sc_carried_by.nd rfl (Or.inl rfl) (Or.inr rfl)) pgs_nil)))))
      (TH.qss_cons (TH.qs_if (TH.qt_cmp op_le TH.oLe (TH.qe_var (pv 1)) (TH.qe_biT TH.bLen (pe_callB (TH.kcall_len (K := K)) (by rfl) T.b_len (by decide +kernel) (pa_cons (TH.qe_var (pv 2)) pa_nil))) (nomark _)) (TH.qss_one (TH.qs_ret (TH.qe_biT TH.bSumT (pe_callB (TH.kcr_sumT (K := K) rfl) (by rfl) T.b_sum (by decide +kernel) (pa_cons (TH.qe_slT (TH.ksl_tup (K := K)) (TH.qe_var (pv 2)) TH.qp_none (TH.qp_some (TH.qe_var (pv 1)))) pa_nil))))) TH.qss_nil)
      (TH.qss_cons (TH.qs_asg (vs := [4, 5]) (TH.gr_tup (TH.gsr_cons (TH.gr_name (by decide)) (TH.gsr_cons (TH.gr_name (by decide)) TH.gsr_nil))) (ps_asg (TH.qe_ba TH.bDivM (pe_callB call_divmod (by rfl) T.b_divmod (by decide +kernel) (TH.qa_cons (TH.qe_op op_sub TH.oSub (TH.qe_var (pv 1)) (TH.qe_biT TH.bLen (pe_callB (TH.kcall_len (K := K)) (by rfl) T.b_len (by decide +kernel) (pa_cons (TH.qe_var (pv 2)) pa_nil)))) (TH.qa_cons (TH.qe_biT TH.bLen (pe_callB (TH.kcall_len (K := K)) (by rfl) T.b_len (by decide +kernel) (pa_cons (TH.qe_var (pv 3)) pa_nil))) TH.qa_nil)))) (TH.kpg_tup (K := K) (n := 2) rfl (pgs_cons (pg_name (i := 4) sc_carried_by.nd rfl (Or.inl rfl) (Or.inr rfl)) (pgs_cons (pg_name (i := 5) sc_carried_by.nd rfl (Or.inl rfl) (Or.inr rfl)) pgs_nil)))))
      (TH.qss_one (TH.qs_ret (TH.qe_op op_add TH.oAdd (TH.qe_op op_add TH.oAdd (TH.qe_biT TH.bSumT (pe_callB (TH.kcr_sumT (K := K) rfl) (by rfl) T.b_sum (by decide +kernel) (pa_cons (TH.qe_var (pv 2)) pa_nil))) (TH.qe_op op_mul TH.oMul (TH.qe_var (pv 4)) (TH.qe_biT TH.bSumT (pe_callB (TH.kcr_sumT (K := K) rfl) (by rfl) T.b_sum (by decide +kernel) (pa_cons (TH.qe_var (pv 3)) pa_nil))))) (TH.qe_biT TH.bSumT (pe_callB (TH.kcr_sumT (K := K) rfl) (by rfl) T.b_sum (by decide +kernel) (pa_cons (TH.qe_slT (TH.ksl_tup (K := K)) (TH.qe_var (pv 3)) TH.qp_none (TH.qp_some (TH.qe_var (pv 5)))) pa_nil)))))))))

abbrev s_is_integer : Stmt := top 7
abbrev N_is_integer : List Str := ["thing"]
theorem sc_is_integer : FnScope N_is_integer ["thing"] (C8.fnScope s_is_integer) := ⟨rfl, rfl, rfl, by decide +kernel, rfl, by decide +kernel, by decide +kernel⟩

theorem q_is_integer {f : Addr} {fd : FuncData} (F : C8.Def K mg "is_integer" s_is_integer f fd) (b : Binds K fd ["thing"] []) (T : Txt mg) : C8.Cal P w K mg base 1 "is_integer" (TH.spD0 K PD.m_is_integer) [] := by
  refine TH.calD (n := 1) F b sc_is_integer rfl (fun cdv A outer s H E hr => ?_)
  have hu64 := TH.hu64_of hr
  have hu := hu_of hr
  exact (TH.qss_one (TH.qs_ret (TH.qe_and (TH.qe_isi (by decide) (pe_callB (TH.call_isiD (K := K)) (by rfl) T.b_isinstance (by decide +kernel) (pa_cons (TH.qe_var (pv 0)) (pa_cons (pe_bltn (v := .ty "int") (by rfl) T.b_int (by decide +kernel) rfl) pa_nil)))) (TH.qe_one (TH.qe_not (TH.qe_isi (by decide) (pe_callB (TH.call_isiD (K := K)) (by rfl) T.b_isinstance (by decide +kernel) (pa_cons (TH.qe_var (pv 0)) (pa_cons (pe_bltn (v := .ty "bool") (by rfl) T.b_bool (by decide +kernel) rfl) pa_nil)))))))))

abbrev s_is_within : Stmt := top 8
abbrev N_is_within : List Str := ["thing", "least", "most"]
theorem sc_is_within : FnScope N_is_within ["thing", "least", "most"] (C8.fnScope s_is_within) := ⟨rfl, rfl, rfl, by decide +kernel, rfl, by decide +kernel, by decide +kernel⟩

theorem q_is_within {f : Addr} {fd : FuncData} (F : C8.Def K mg "is_within" s_is_within f fd) (b : Binds K fd ["thing", "least", "most"] []) (c_is_integer : C8.Cal P w K mg base 1 "is_integer" (TH.spD0 K PD.p_is_integer) []) : C8.Cal P w K mg base 2 "is_within" (TH.spD0 K PD.m_is_within) [] := by
  refine TH.calD (n := 3) F b sc_is_within rfl (fun cdv A outer s H E hr => ?_)
  have hu64 := TH.hu64_of hr
  have hu := hu_of hr
  exact (TH.qss_one (TH.qs_ret (TH.qe_and (TH.qe_call (C8.pe_c c_is_integer hr (by first | decide | exact Nat.le_refl _) (by rfl) (TH.qa_cons (TH.qe_var (pv 0)) TH.qa_nil))) (TH.qe_one (TH.qe_chain op_le op_le TH.oLe TH.oLe (TH.qe_var (pv 1)) (TH.qe_var (pv 0)) (TH.qe_var (pv 2)))))))

abbrev s_check_tick : Stmt := top 26
abbrev N_check_tick : List Str := ["thing", "most"]
theorem sc_check_tick : FnScope N_check_tick ["thing", "most"] (C8.fnScope s_check_tick) := ⟨rfl, rfl, rfl, by decide +kernel, rfl, by decide +kernel, by decide +kernel⟩

theorem q_check_tick {f : Addr} {fd : FuncData} {E_NoTick : Addr} (X_NoTick : TH.ErX K mg "NoTick" E_NoTick) (F : C8.Def K mg "check_tick" s_check_tick f fd) (b : Binds K fd ["thing", "most"] []) (c_is_within : C8.Cal P w K mg base 2 "is_within" (TH.spD0 K PD.p_is_within) []) (R_NoTick : TH.ErrC K mg "NoTick" E_NoTick) : TH.CalX P w K mg base 3 "check_tick" (TH.spD K PD.m_check_tick) := by
  refine TH.calDX (n := 2) F b sc_check_tick rfl (fun cdv A outer s H E hr => ?_)
  have hu64 := TH.hu64_of hr
  have hu := hu_of hr
  exact (TH.qss_one (TH.qs_if (TH.qt_not (TH.qt_val (TH.qe_call (C8.pe_c c_is_within hr (by first | decide | exact Nat.le_refl _) (by rfl) (TH.qa_cons (TH.qe_var (pv 0)) (TH.qa_cons (TH.qe_int pe_int) (TH.qa_cons (TH.qe_var (pv 1)) TH.qa_nil))))))) (TH.qss_one (TH.qs_raiseE X_NoTick.at' (TH.ps_raise0 R_NoTick rfl (takes_of rfl rfl rfl rfl) (by rfl)))) TH.qss_nil))

abbrev s_is_pair : Stmt := top 9
abbrev N_is_pair : List Str := ["thing"]
theorem sc_is_pair : FnScope N_is_pair ["thing"] (C8.fnScope s_is_pair) := ⟨rfl, rfl, rfl, by decide +kernel, rfl, by decide +kernel, by decide +kernel⟩

theorem q_is_pair {f : Addr} {fd : FuncData} (F : C8.Def K mg "is_pair" s_is_pair f fd) (b : Binds K fd ["thing"] []) (T : Txt mg) : C8.Cal P w K mg base 1 "is_pair" (TH.spD0 K PD.m_is_pair) [] := by
  refine TH.calD (n := 1) F b sc_is_pair rfl (fun cdv A outer s H E hr => ?_)
  have hu64 := TH.hu64_of hr
  have hu := hu_of hr
  exact (TH.qss_one (TH.qs_ret (TH.qe_and (TH.qe_isi (by decide) (pe_callB (TH.call_isiD (K := K)) (by rfl) T.b_isinstance (by decide +kernel) (pa_cons (TH.qe_var (pv 0)) (pa_cons (pe_bltn (v := .ty "tuple") (by rfl) T.b_tuple (by decide +kernel) rfl) pa_nil)))) (TH.qe_one (TH.qe_cmp op_eq TH.oEqS (TH.qe_biT TH.bLen (pe_callB (TH.kcall_len (K := K)) (by rfl) T.b_len (by decide +kernel) (pa_cons (TH.qe_var (pv 0)) pa_nil))) (TH.qe_int pe_int) (nomark _))))))

abbrev s_check_way : Stmt := top 25
abbrev N_check_way : List Str := ["timing", "way", "posts", "post"]
theorem sc_check_way : FnScope N_check_way ["timing", "way"] (C8.fnScope s_check_way) := ⟨rfl, rfl, rfl, by decide +kernel, rfl, by decide +kernel, by decide +kernel⟩

theorem q_check_way {f : Addr} {fd : FuncData} {C_Timing : Addr} (CL_Timing : TH.ClC K "Timing" PD.ns_Timing C_Timing) {E_NoWay : Addr} (X_NoWay : TH.ErX K mg "NoWay" E_NoWay) (F : C8.Def K mg "check_way" s_check_way f fd) (b : Binds K fd ["timing", "way"] []) (T : Txt mg) (c_is_pair : C8.Cal P w K mg base 1 "is_pair" (TH.spD0 K PD.p_is_pair) []) (c_is_within : C8.Cal P w K mg base 2 "is_within" (TH.spD0 K PD.p_is_within) []) (R_NoWay : TH.ErrC K mg "NoWay" E_NoWay) : TH.CalX P w K mg base 3 "check_way" (TH.spD K PD.m_check_way) := by
  refine TH.calDX (n := 2) F b sc_check_way rfl (fun cdv A outer s H E hr => ?_)
  have hu64 := TH.hu64_of hr
  have hu := hu_of hr
  exact (TH.qss_cons (TH.qs_set' (ps_set (i := 2) sc_check_way.nd rfl (Or.inr rfl) (TH.qe_op op_add TH.oAdd (TH.qe_biT TH.bLen (pe_callB (TH.kcall_len (K := K)) (by rfl) T.b_len (by decide +kernel) (pa_cons (TH.qe_fld CL_Timing (by rfl) (TH.kpe_fld (K := K) (TH.qe_var (pv 0)) rfl)) pa_nil))) (TH.qe_int pe_int))) (TH.sl_val (fun _ _ _ z => z)))
      (TH.qss_one (TH.qs_if (TH.qt_w (TH.qw_or (TH.qt_not (TH.qt_val (TH.qe_call (C8.pe_c c_is_pair hr (by first | decide | exact Nat.le_refl _) (by rfl) (TH.qa_cons (TH.qe_var (pv 1)) TH.qa_nil))))) (TH.qw_or (TH.qt_not (TH.qt_val (TH.qe_biL TH.bAll (pe_callB (TH.kcr_all (K := K) rfl) (by rfl) T.b_all (by decide +kernel) (pa_cons (TH.ql_new (TH.qf_lc (vs := [3]) (TH.gr_name (by decide)) (pe_lc (own := [("post", 3)]) (g := L2.gName 3) rfl sc_check_way.nd (TH.qi_tup (TH.kpi_tup (K := K) (TH.qe_var (pv 1)))) (blkOk_by (own := [("post", 3)]) (N := N_check_way) (sc := C8.fnScope s_check_way) (by decide +kernel)) (fun _ _ _ _ _ => (pg_name (i := 3) sc_check_way.nd rfl (Or.inl rfl) (Or.inr rfl))) (fun _ _ _ _ _ => TH.qts_nil) (fun _ _ _ _ _ => (TH.qe_call (C8.pe_c c_is_within hr (by first | decide | exact Nat.le_refl _) (by rfl) (TH.qa_cons (TH.qe_var (pv 3)) (TH.qa_cons (TH.qe_int pe_int) (TH.qa_cons (TH.qe_op op_sub TH.oSub (TH.qe_var (pv 2)) (TH.qe_int pe_int)) TH.qa_nil))))))))) pa_nil))))) (TH.qw_or1 (TH.qt_cmp op_ne TH.oNeS (TH.qe_ba TH.bAbs (pe_callB call_abs (by rfl) T.b_abs (by decide +kernel) (TH.qa_cons (TH.qe_op op_sub TH.oSub (TH.qe_ixT (TH.kix_tup (K := K)) (TH.qe_var (pv 1)) (TH.qe_int pe_int) (fun _ _ => rfl)) (TH.qe_ixT (TH.kix_tup (K := K)) (TH.qe_var (pv 1)) (TH.qe_int pe_int) (fun _ _ => rfl))) TH.qa_nil))) (TH.qe_int pe_int) (nomark _)))))) (TH.qss_one (TH.qs_raiseE X_NoWay.at' (TH.ps_raise0 R_NoWay rfl (takes_of rfl rfl rfl rfl) (by rfl)))) TH.qss_nil)))

abbrev s_opening_of : Stmt := top 22
abbrev N_opening_of : List Str := ["timing", "way", "here", "there"]
theorem sc_opening_of : FnScope N_opening_of ["timing", "way"] (C8.fnScope s_opening_of) := ⟨rfl, rfl, rfl, by decide +kernel, rfl, by decide +kernel, by decide +kernel⟩

theorem q_opening_of {f : Addr} {fd : FuncData} {C_Timing : Addr} (CL_Timing : TH.ClC K "Timing" PD.ns_Timing C_Timing) (F : C8.Def K mg "opening_of" s_opening_of f fd) (b : Binds K fd ["timing", "way"] []) : C8.Cal P w K mg base 1 "opening_of" (TH.spD0 K PD.m_opening_of) [] := by
  refine TH.calD (n := 2) F b sc_opening_of rfl (fun cdv A outer s H E hr => ?_)
  have hu64 := TH.hu64_of hr
  have hu := hu_of hr
  exact (TH.qss_cons (TH.qs_asg (vs := [2, 3]) (TH.gr_tup (TH.gsr_cons (TH.gr_name (by decide)) (TH.gsr_cons (TH.gr_name (by decide)) TH.gsr_nil))) (ps_asg (TH.qe_var (pv 1)) (TH.kpg_tup (K := K) (n := 2) rfl (pgs_cons (pg_name (i := 2) sc_opening_of.nd rfl (Or.inl rfl) (Or.inr rfl)) (pgs_cons (pg_name (i := 3) sc_opening_of.nd rfl (Or.inl rfl) (Or.inr rfl)) pgs_nil)))))
      (TH.qss_one (TH.qs_ret (TH.qe_if (TH.qt_cmp op_gt TH.oGt (TH.qe_var (pv 3)) (TH.qe_var (pv 2)) (nomark _)) (TH.qe_ixT (TH.kix_tup (K := K)) (TH.qe_fld CL_Timing (by rfl) (TH.kpe_fld (K := K) (TH.qe_var (pv 0)) rfl)) (TH.qe_var (pv 2)) (fun _ _ => rfl)) (TH.qe_ixT (TH.kix_tup (K := K)) (TH.qe_fld CL_Timing (by rfl) (TH.kpe_fld (K := K) (TH.qe_var (pv 0)) rfl)) (TH.qe_var (pv 3)) (fun _ _ => rfl))))))

abbrev s_carried : Stmt := top 28
abbrev N_carried : List Str := ["timing", "way", "tick"]
theorem sc_carried : FnScope N_carried ["timing", "way", "tick"] (C8.fnScope s_carried) := ⟨rfl, rfl, rfl, by decide +kernel, rfl, by decide +kernel, by decide +kernel⟩

theorem q_carried {f : Addr} {fd : FuncData} (F : C8.Def K mg "carried" s_carried f fd) (b : Binds K fd ["timing", "way", "tick"] []) (T : Txt mg) (c_carried_by : C8.Cal P w K mg base 1 "carried_by" (TH.spD0 K PD.p_carried_by) []) (c_check_tick : TH.CalX P w K mg base 3 "check_tick" (TH.spD K PD.p_check_tick)) (c_check_way : TH.CalX P w K mg base 3 "check_way" (TH.spD K PD.p_check_way)) (c_opening_of : C8.Cal P w K mg base 1 "opening_of" (TH.spD0 K PD.p_opening_of) []) : TH.CalX P w K mg base 4 "carried" (TH.spD K PD.m_carried) := by
  refine TH.calDX (n := 3) F b sc_carried rfl (fun cdv A outer s H E hr => ?_)
  have hu64 := TH.hu64_of hr
  have hu := hu_of hr
  exact (TH.qss_cons (TH.qs_expr (TH.qe_callX (TH.pe_cX c_check_way hr (by first | decide | exact Nat.le_refl _) (by rfl) (takes_of rfl rfl rfl rfl) (TH.qa_cons (TH.qe_var (pv 0)) (TH.qa_cons (TH.qe_var (pv 1)) TH.qa_nil)))))
      (TH.qss_cons (TH.qs_expr (TH.qe_callX (TH.pe_cX c_check_tick hr (by first | decide | exact Nat.le_refl _) (by rfl) (takes_of rfl rfl rfl rfl) (TH.qa_cons (TH.qe_var (pv 2)) (TH.qa_cons (TH.qe_int (C8.pe_gc (by rfl) T.g_MOST_TICK)) TH.qa_nil)))))
      (TH.qss_one (TH.qs_ret (TH.qe_call (C8.pe_c c_carried_by hr (by first | decide | exact Nat.le_refl _) (by rfl) (TH.qa_cons (TH.qe_call (C8.pe_c c_opening_of hr (by first | decide | exact Nat.le_refl _) (by rfl) (TH.qa_cons (TH.qe_var (pv 0)) (TH.qa_cons (TH.qe_var (pv 1)) TH.qa_nil)))) (TH.qa_cons (TH.qe_var (pv 2)) TH.qa_nil))))))))

abbrev s_check_number : Stmt := top 10
abbrev N_check_number : List Str := ["thing", "least", "most"]
theorem sc_check_number : FnScope N_check_number ["thing", "least", "most"] (C8.fnScope s_check_number) := ⟨rfl, rfl, rfl, by decide +kernel, rfl, by decide +kernel, by decide +kernel⟩

theorem q_check_number {f : Addr} {fd : FuncData} {E_NoNumber : Addr} (X_NoNumber : TH.ErX K mg "NoNumber" E_NoNumber) (F : C8.Def K mg "check_number" s_check_number f fd) (b : Binds K fd ["thing", "least", "most"] []) (c_is_within : C8.Cal P w K mg base 2 "is_within" (TH.spD0 K PD.p_is_within) []) (R_NoNumber : TH.ErrC K mg "NoNumber" E_NoNumber) : TH.CalX P w K mg base 3 "check_number" (TH.spD K PD.m_check_number) := by
  refine TH.calDX (n := 3) F b sc_check_number rfl (fun cdv A outer s H E hr => ?_)
  have hu64 := TH.hu64_of hr
  have hu := hu_of hr
  exact (TH.qss_one (TH.qs_if (TH.qt_not (TH.qt_val (TH.qe_call (C8.pe_c c_is_within hr (by first | decide | exact Nat.le_refl _) (by rfl) (TH.qa_cons (TH.qe_var (pv 0)) (TH.qa_cons (TH.qe_var (pv 1)) (TH.qa_cons (TH.qe_var (pv 2)) TH.qa_nil))))))) (TH.qss_one (TH.qs_raiseE X_NoNumber.at' (TH.ps_raise0 R_NoNumber rfl (takes_of rfl rfl rfl rfl) (by rfl)))) TH.qss_nil))

abbrev s_is_numbers : Stmt := top 16
abbrev N_is_numbers : List Str := ["thing", "many"]
theorem sc_is_numbers : FnScope N_is_numbers ["thing"] (C8.fnScope s_is_numbers) := ⟨rfl, rfl, rfl, by decide +kernel, rfl, by decide +kernel, by decide +kernel⟩

theorem q_is_numbers {f : Addr} {fd : FuncData} (F : C8.Def K mg "is_numbers" s_is_numbers f fd) (b : Binds K fd ["thing"] []) (T : Txt mg) (c_is_within : C8.Cal P w K mg base 2 "is_within" (TH.spD0 K PD.p_is_within) []) : C8.Cal P w K mg base 3 "is_numbers" (TH.spD0 K PD.m_is_numbers) [] := by
  refine TH.calD (n := 1) F b sc_is_numbers rfl (fun cdv A outer s H E hr => ?_)
  have hu64 := TH.hu64_of hr
  have hu := hu_of hr
  exact (TH.qss_cons (TH.qs_if (TH.qt_w (TH.qw_or (TH.qt_not (TH.qt_val (TH.qe_isi (by decide) (pe_callB (TH.call_isiD (K := K)) (by rfl) T.b_isinstance (by decide +kernel) (pa_cons (TH.qe_var (pv 0)) (pa_cons (pe_bltn (v := .ty "tuple") (by rfl) T.b_tuple (by decide +kernel) rfl) pa_nil)))))) (TH.qw_or1 (TH.qt_cmp op_gt TH.oGt (TH.qe_biT TH.bLen (pe_callB (TH.kcall_len (K := K)) (by rfl) T.b_len (by decide +kernel) (pa_cons (TH.qe_var (pv 0)) pa_nil))) (TH.qe_int (C8.pe_gc (by rfl) T.g_MOST_LISTED)) (nomark _))))) (TH.qss_one (TH.qs_ret (TH.qe_bl pe_bl))) TH.qss_nil)
      (TH.qss_one (TH.qs_ret (TH.qe_biL TH.bAll (pe_callB (TH.kcr_all (K := K) rfl) (by rfl) T.b_all (by decide +kernel) (pa_cons (TH.ql_new (TH.qf_lc (vs := [1]) (TH.gr_name (by decide)) (pe_lc (own := [("many", 1)]) (g := L2.gName 1) rfl sc_is_numbers.nd (TH.qi_tup (TH.kpi_tup (K := K) (TH.qe_var (pv 0)))) (blkOk_by (own := [("many", 1)]) (N := N_is_numbers) (sc := C8.fnScope s_is_numbers) (by decide +kernel)) (fun _ _ _ _ _ => (pg_name (i := 1) sc_is_numbers.nd rfl (Or.inl rfl) (Or.inr rfl))) (fun _ _ _ _ _ => TH.qts_nil) (fun _ _ _ _ _ => (TH.qe_call (C8.pe_c c_is_within hr (by first | decide | exact Nat.le_refl _) (by rfl) (TH.qa_cons (TH.qe_var (pv 1)) (TH.qa_cons (TH.qe_int pe_int) (TH.qa_cons (TH.qe_int (C8.pe_gc (by rfl) T.g_MOST_PLACES)) TH.qa_nil))))))))) pa_nil))))))

abbrev s_is_opening : Stmt := top 17
abbrev N_is_opening : List Str := ["thing"]
theorem sc_is_opening : FnScope N_is_opening ["thing"] (C8.fnScope s_is_opening) := ⟨rfl, rfl, rfl, by decide +kernel, rfl, by decide +kernel, by decide +kernel⟩

theorem q_is_opening {f : Addr} {fd : FuncData} (F : C8.Def K mg "is_opening" s_is_opening f fd) (b : Binds K fd ["thing"] []) (T : Txt mg) (c_is_numbers : C8.Cal P w K mg base 3 "is_numbers" (TH.spD0 K PD.p_is_numbers) []) (c_is_pair : C8.Cal P w K mg base 1 "is_pair" (TH.spD0 K PD.p_is_pair) []) : C8.Cal P w K mg base 4 "is_opening" (TH.spD0 K PD.m_is_opening) [] := by
  refine TH.calD (n := 1) F b sc_is_opening rfl (fun cdv A outer s H E hr => ?_)
  have hu64 := TH.hu64_of hr
  have hu := hu_of hr
  exact (TH.qss_one (TH.qs_ret (TH.qe_and (TH.qe_call (C8.pe_c c_is_pair hr (by first | decide | exact Nat.le_refl _) (by rfl) (TH.qa_cons (TH.qe_var (pv 0)) TH.qa_nil))) (TH.qe_and (TH.qe_call (C8.pe_c c_is_numbers hr (by first | decide | exact Nat.le_refl _) (by rfl) (TH.qa_cons (TH.qe_ixT (TH.kix_tup (K := K)) (TH.qe_var (pv 0)) (TH.qe_int pe_int) (fun _ _ => rfl)) TH.qa_nil))) (TH.qe_and (TH.qe_call (C8.pe_c c_is_numbers hr (by first | decide | exact Nat.le_refl _) (by rfl) (TH.qa_cons (TH.qe_ixT (TH.kix_tup (K := K)) (TH.qe_var (pv 0)) (TH.qe_int pe_int) (fun _ _ => rfl)) TH.qa_nil))) (TH.qe_one (TH.qe_cmp op_gt TH.oGt (TH.qe_biT TH.bLen (pe_callB (TH.kcall_len (K := K)) (by rfl) T.b_len (by decide +kernel) (pa_cons (TH.qe_ixT (TH.kix_tup (K := K)) (TH.qe_var (pv 0)) (TH.qe_int pe_int) (fun _ _ => rfl)) pa_nil))) (TH.qe_int pe_int) (nomark _))))))))

abbrev s_are_openings : Stmt := top 18
abbrev N_are_openings : List Str := ["thing", "one"]
theorem sc_are_openings : FnScope N_are_openings ["thing"] (C8.fnScope s_are_openings) := ⟨rfl, rfl, rfl, by decide +kernel, rfl, by decide +kernel, by decide +kernel⟩

theorem q_are_openings {f : Addr} {fd : FuncData} (F : C8.Def K mg "are_openings" s_are_openings f fd) (b : Binds K fd ["thing"] []) (T : Txt mg) (c_is_opening : C8.Cal P w K mg base 4 "is_opening" (TH.spD0 K PD.p_is_opening) []) : C8.Cal P w K mg base 5 "are_openings" (TH.spD0 K PD.m_are_openings) [] := by
  refine TH.calD (n := 1) F b sc_are_openings rfl (fun cdv A outer s H E hr => ?_)
  have hu64 := TH.hu64_of hr
  have hu := hu_of hr
  exact (TH.qss_one (TH.qs_ret (TH.qe_and (TH.qe_isi (by decide) (pe_callB (TH.call_isiD (K := K)) (by rfl) T.b_isinstance (by decide +kernel) (pa_cons (TH.qe_var (pv 0)) (pa_cons (pe_bltn (v := .ty "tuple") (by rfl) T.b_tuple (by decide +kernel) rfl) pa_nil)))) (TH.qe_and (TH.qe_cmp op_le TH.oLe (TH.qe_biT TH.bLen (pe_callB (TH.kcall_len (K := K)) (by rfl) T.b_len (by decide +kernel) (pa_cons (TH.qe_var (pv 0)) pa_nil))) (TH.qe_int (C8.pe_gc (by rfl) T.g_MOST_TIES)) (nomark _)) (TH.qe_one (TH.qe_biL TH.bAll (pe_callB (TH.kcr_all (K := K) rfl) (by rfl) T.b_all (by decide +kernel) (pa_cons (TH.ql_new (TH.qf_lc (vs := [1]) (TH.gr_name (by decide)) (pe_lc (own := [("one", 1)]) (g := L2.gName 1) rfl sc_are_openings.nd (TH.qi_tup (TH.kpi_tup (K := K) (TH.qe_var (pv 0)))) (blkOk_by (own := [("one", 1)]) (N := N_are_openings) (sc := C8.fnScope s_are_openings) (by decide +kernel)) (fun _ _ _ _ _ => (pg_name (i := 1) sc_are_openings.nd rfl (Or.inl rfl) (Or.inr rfl))) (fun _ _ _ _ _ => TH.qts_nil) (fun _ _ _ _ _ => (TH.qe_call (C8.pe_c c_is_opening hr (by first | decide | exact Nat.le_refl _) (by rfl) (TH.qa_cons (TH.qe_var (pv 1)) TH.qa_nil))))))) pa_nil))))))))

abbrev s_Timing_init : Stmt := inClass (top 19) 0
abbrev N_Timing_init : List Str := ["self", "right", "left"]
theorem sc_Timing_init : FnScope N_Timing_init ["self", "right", "left"] (C8.fnScope s_Timing_init) := ⟨rfl, rfl, rfl, by decide +kernel, rfl, by decide +kernel, by decide +kernel⟩

theorem q_Timing_init {f : Addr} {fd : FuncData} {C_Timing : Addr} (M : Mk K C_Timing f) (hm : mg "Timing" = some (.ref C_Timing)) (CL_Timing : TH.ClC K "Timing" PD.ns_Timing C_Timing) {E_BadTiming : Addr} (X_BadTiming : TH.ErX K mg "BadTiming" E_BadTiming) (F : C8.Fun K "__init__" "Timing.__init__" s_Timing_init f fd) (b : Binds K fd ["self", "right", "left"] []) (T : Txt mg) (SU_BadTiming : TH.SupC P K mg E_BadTiming) (c_are_openings : C8.Cal P w K mg base 5 "are_openings" (TH.spD0 K PD.p_are_openings) []) : TH.MakX P w K mg base 6 "Timing" C_Timing (TH.spMkX K "Timing" PD.m_Timing_init) := by
  refine TH.makDX (n := 2) M F hm b sc_Timing_init rfl (fun cdv A outer s H E hr => ?_)
  have hu64 := TH.hu64_of hr
  have hu := hu_of hr
  exact (TH.qss_cons (TH.qs_if (TH.qt_not (TH.qt_val (TH.qe_call (C8.pe_c c_are_openings hr (by first | decide | exact Nat.le_refl _) (by rfl) (TH.qa_cons (TH.qe_var (pv 1)) TH.qa_nil))))) (TH.qss_one (TH.qs_raiseF X_BadTiming.at' (ps_raise rfl (takes_of rfl rfl rfl rfl) (TH.pmk_sup SU_BadTiming (hr.mono (by first | decide | omega)) (by rfl) X_BadTiming.gC (pa_cons (TH.qe_str pe_str) pa_nil))))) TH.qss_nil)
      (TH.qss_cons (TH.qs_if (TH.qt_w (TH.qw_or (TH.qt_not (TH.qt_val (TH.qe_call (C8.pe_c c_are_openings hr (by first | decide | exact Nat.le_refl _) (by rfl) (TH.qa_cons (TH.qe_var (pv 2)) TH.qa_nil))))) (TH.qw_or1 (TH.qt_cmp op_ne TH.oNeS (TH.qe_biT TH.bLen (pe_callB (TH.kcall_len (K := K)) (by rfl) T.b_len (by decide +kernel) (pa_cons (TH.qe_var (pv 2)) pa_nil))) (TH.qe_biT TH.bLen (pe_callB (TH.kcall_len (K := K)) (by rfl) T.b_len (by decide +kernel) (pa_cons (TH.qe_var (pv 1)) pa_nil))) (nomark _))))) (TH.qss_one (TH.qs_raiseF X_BadTiming.at' (ps_raise rfl (takes_of rfl rfl rfl rfl) (TH.pmk_sup SU_BadTiming (hr.mono (by first | decide | omega)) (by rfl) X_BadTiming.gC (pa_cons (TH.qe_str pe_str) pa_nil))))) TH.qss_nil)
      (TH.qss_cons (TH.qs_fldO CL_Timing (by decide +kernel) (ps_fld (pv 0) (TH.qe_var (pv 1)) rfl))
      (TH.qss_one (TH.qs_fldO CL_Timing (by decide +kernel) (ps_fld (pv 0) (TH.qe_var (pv 2)) rfl))))))

abbrev s_evenly : Stmt := top 20
abbrev N_evenly : List Str := ["ties", "breadth"]
theorem sc_evenly : FnScope N_evenly ["ties", "breadth"] (C8.fnScope s_evenly) := ⟨rfl, rfl, rfl, by decide +kernel, rfl, by decide +kernel, by decide +kernel⟩

theorem q_evenly {f : Addr} {fd : FuncData} {C_Timing : Addr} (CL_Timing : TH.ClC K "Timing" PD.ns_Timing C_Timing) (F : C8.Def K mg "evenly" s_evenly f fd) (b : Binds K fd ["ties", "breadth"] []) (c_Timing : TH.MakX P w K mg base 6 "Timing" C_Timing (TH.spMkX K "Timing" PD.p_Timing_init)) : TH.CalX P w K mg base 8 "evenly" (TH.spD K PD.m_evenly) := by
  refine TH.calDX (n := 2) F b sc_evenly rfl (fun cdv A outer s H E hr => ?_)
  have hu64 := TH.hu64_of hr
  have hu := hu_of hr
  exact (TH.qss_one (TH.qs_ret (TH.qe_mkX CL_Timing.at' (TH.pe_mkX c_Timing hr (by first | decide | exact Nat.le_refl _) (by rfl) (takes_of rfl rfl rfl rfl) (TH.qa_cons (TH.qe_op (TH.kop_repA (K := K)) TH.oRepT (TH.qe_tup (TH.qa_cons (TH.qe_tup (TH.qa_cons (TH.qe_tup TH.qa_nil) (TH.qa_cons (TH.qe_tup (TH.qa_cons (TH.qe_var (pv 1)) TH.qa_nil)) TH.qa_nil))) TH.qa_nil)) (TH.qe_var (pv 0))) (TH.qa_cons (TH.qe_op (TH.kop_repA (K := K)) TH.oRepT (TH.qe_tup (TH.qa_cons (TH.qe_tup (TH.qa_cons (TH.qe_tup TH.qa_nil) (TH.qa_cons (TH.qe_tup (TH.qa_cons (TH.qe_var (pv 1)) TH.qa_nil)) TH.qa_nil))) TH.qa_nil)) (TH.qe_var (pv 0))) TH.qa_nil))))))

abbrev s_even_timing : Stmt := top 21
abbrev N_even_timing : List Str := ["ties", "breadth"]
theorem sc_even_timing : FnScope N_even_timing ["ties", "breadth"] (C8.fnScope s_even_timing) := ⟨rfl, rfl, rfl, by decide +kernel, rfl, by decide +kernel, by decide +kernel⟩

theorem q_even_timing {f : Addr} {fd : FuncData} (F : C8.Def K mg "even_timing" s_even_timing f fd) (b : Binds K fd ["ties", "breadth"] []) (T : Txt mg) (c_check_number : TH.CalX P w K mg base 3 "check_number" (TH.spD K PD.p_check_number)) (c_evenly : TH.CalX P w K mg base 8 "evenly" (TH.spD K PD.p_evenly)) : TH.CalX P w K mg base 9 "even_timing" (TH.spD K PD.m_even_timing) := by
  refine TH.calDX (n := 2) F b sc_even_timing rfl (fun cdv A outer s H E hr => ?_)
  have hu64 := TH.hu64_of hr
  have hu := hu_of hr
  exact (TH.qss_cons (TH.qs_expr (TH.qe_callX (TH.pe_cX c_check_number hr (by first | decide | exact Nat.le_refl _) (by rfl) (takes_of rfl rfl rfl rfl) (TH.qa_cons (TH.qe_var (pv 0)) (TH.qa_cons (TH.qe_int pe_int) (TH.qa_cons (TH.qe_int (C8.pe_gc (by rfl) T.g_MOST_TIES)) TH.qa_nil))))))
      (TH.qss_cons (TH.qs_expr (TH.qe_callX (TH.pe_cX c_check_number hr (by first | decide | exact Nat.le_refl _) (by rfl) (takes_of rfl rfl rfl rfl) (TH.qa_cons (TH.qe_var (pv 1)) (TH.qa_cons (TH.qe_int pe_int) (TH.qa_cons (TH.qe_int (C8.pe_gc (by rfl) T.g_MOST_PLACES)) TH.qa_nil))))))
      (TH.qss_one (TH.qs_ret (TH.qe_callX (TH.pe_cX c_evenly hr (by first | decide | exact Nat.le_refl _) (by rfl) (takes_of rfl rfl rfl rfl) (TH.qa_cons (TH.qe_var (pv 0)) (TH.qa_cons (TH.qe_var (pv 1)) TH.qa_nil))))))))

abbrev s_places_in : Stmt := top 23
abbrev N_places_in : List Str := ["opening", "tick", "begin", "turn"]
theorem sc_places_in : FnScope N_places_in ["opening", "tick"] (C8.fnScope s_places_in) := ⟨rfl, rfl, rfl, by decide +kernel, rfl, by decide +kernel, by decide +kernel⟩

theorem q_places_in {f : Addr} {fd : FuncData} (F : C8.Def K mg "places_in" s_places_in f fd) (b : Binds K fd ["opening", "tick"] []) (T : Txt mg) : C8.Cal P w K mg base 1 "places_in" (TH.spD0 K PD.m_places_in) [] := by
  refine TH.calD (n := 2) F b sc_places_in rfl (fun cdv A outer s H E hr => ?_)
  have hu64 := TH.hu64_of hr
  have hu := hu_of hr
  exact (TH.qss_cons (TH.qs_asg (vs := [2, 3]) (TH.gr_tup (TH.gsr_cons (TH.gr_name (by decide)) (TH.gsr_cons (TH.gr_name (by decide)) TH.gsr_nil))) (ps_asg (TH.qe_var (pv 0)) (TH.kpg_tup (K := K) (n := 2) rfl (pgs_cons (pg_name (i := 2) sc_places_in.nd rfl (Or.inl rfl) (Or.inr rfl)) (pgs_cons (pg_name (i := 3) sc_places_in.nd rfl (Or.inl rfl) (Or.inr rfl)) pgs_nil)))))
      (TH.qss_cons (TH.qs_if (TH.qt_cmp op_eq TH.oEqS (TH.qe_var (pv 1)) (TH.qe_int pe_int) (nomark _)) (TH.qss_one (TH.qs_ret (TH.qe_int pe_int))) TH.qss_nil)
      (TH.qss_cons (TH.qs_if (TH.qt_cmp op_le TH.oLe (TH.qe_var (pv 1)) (TH.qe_biT TH.bLen (pe_callB (TH.kcall_len (K := K)) (by rfl) T.b_len (by decide +kernel) (pa_cons (TH.qe_var (pv 2)) pa_nil))) (nomark _)) (TH.qss_one (TH.qs_ret (TH.qe_ixT (TH.kix_tup (K := K)) (TH.qe_var (pv 2)) (TH.qe_op op_sub TH.oSub (TH.qe_var (pv 1)) (TH.qe_int pe_int)) (fun _ _ => rfl)))) TH.qss_nil)
      (TH.qss_one (TH.qs_ret (TH.qe_ixT (TH.kix_tup (K := K)) (TH.qe_var (pv 3)) (TH.qe_op op_mod TH.oMod (TH.qe_op op_sub TH.oSub (TH.qe_op op_sub TH.oSub (TH.qe_var (pv 1)) (TH.qe_int pe_int)) (TH.qe_biT TH.bLen (pe_callB (TH.kcall_len (K := K)) (by rfl) T.b_len (by decide +kernel) (pa_cons (TH.qe_var (pv 2)) pa_nil)))) (TH.qe_biT TH.bLen (pe_callB (TH.kcall_len (K := K)) (by rfl) T.b_len (by decide +kernel) (pa_cons (TH.qe_var (pv 3)) pa_nil)))) (fun _ _ => rfl)))))))

abbrev s_places : Stmt := top 27
abbrev N_places : List Str := ["timing", "way", "tick"]
theorem sc_places : FnScope N_places ["timing", "way", "tick"] (C8.fnScope s_places) := ⟨rfl, rfl, rfl, by decide +kernel, rfl, by decide +kernel, by decide +kernel⟩

theorem q_places {f : Addr} {fd : FuncData} (F : C8.Def K mg "places" s_places f fd) (b : Binds K fd ["timing", "way", "tick"] []) (T : Txt mg) (c_check_tick : TH.CalX P w K mg base 3 "check_tick" (TH.spD K PD.p_check_tick)) (c_check_way : TH.CalX P w K mg base 3 "check_way" (TH.spD K PD.p_check_way)) (c_opening_of : C8.Cal P w K mg base 1 "opening_of" (TH.spD0 K PD.p_opening_of) []) (c_places_in : C8.Cal P w K mg base 1 "places_in" (TH.spD0 K PD.p_places_in) []) : TH.CalX P w K mg base 4 "places" (TH.spD K PD.m_places) := by
  refine TH.calDX (n := 3) F b sc_places rfl (fun cdv A outer s H E hr => ?_)
  have hu64 := TH.hu64_of hr
  have hu := hu_of hr
  exact (TH.qss_cons (TH.qs_expr (TH.qe_callX (TH.pe_cX c_check_way hr (by first | decide | exact Nat.le_refl _) (by rfl) (takes_of rfl rfl rfl rfl) (TH.qa_cons (TH.qe_var (pv 0)) (TH.qa_cons (TH.qe_var (pv 1)) TH.qa_nil)))))
      (TH.qss_cons (TH.qs_expr (TH.qe_callX (TH.pe_cX c_check_tick hr (by first | decide | exact Nat.le_refl _) (by rfl) (takes_of rfl rfl rfl rfl) (TH.qa_cons (TH.qe_var (pv 2)) (TH.qa_cons (TH.qe_int (C8.pe_gc (by rfl) T.g_MOST_TICK)) TH.qa_nil)))))
      (TH.qss_one (TH.qs_ret (TH.qe_call (C8.pe_c c_places_in hr (by first | decide | exact Nat.le_refl _) (by rfl) (TH.qa_cons (TH.qe_call (C8.pe_c c_opening_of hr (by first | decide | exact Nat.le_refl _) (by rfl) (TH.qa_cons (TH.qe_var (pv 0)) (TH.qa_cons (TH.qe_var (pv 1)) TH.qa_nil)))) (TH.qa_cons (TH.qe_var (pv 2)) TH.qa_nil))))))))

abbrev s_law_even_right : Stmt := top 45
abbrev N_law_even_right : List Str := ["hand", "ties", "breadth", "fine", "told", "e", "tick", "tie", "way"]
theorem sc_law_even_right : FnScope N_law_even_right ["hand"] (C8.fnScope s_law_even_right) := ⟨rfl, rfl, rfl, by decide +kernel, rfl, by decide +kernel, by decide +kernel⟩

theorem q_law_even_right {f : Addr} {fd : FuncData} {C_Timing : Addr} (CL_Timing : TH.ClC K "Timing" PD.ns_Timing C_Timing) {E_NoNumber : Addr} (X_NoNumber : TH.ErX K mg "NoNumber" E_NoNumber) {E_TollError : Addr} (X_TollError : TH.ErX K mg "TollError" E_TollError) (F : C8.Def K mg "_law_even_right" s_law_even_right f fd) (b : Binds K fd ["hand"] []) (T : Txt mg) (G_Timing : mg "Timing" = some (.ref C_Timing)) (EA : TH.ErrAll K PD.errSub) (V_ValueError : TH.clsV K "ValueError" = .type "ValueError") (c_law_draw : C8.Cal P w K mg base 1 "_law_draw" (TH.spD0 K PD.p_law_draw) []) (c_law_is : C8.Cal P w K mg base 67 "_law_is" (TH.spD0 K PD.p_law_is) []) (c_law_whole : C8.Cal P w K mg base 1 "_law_whole" (TH.spD0 K PD.p_law_whole) []) (c_carried : TH.CalX P w K mg base 4 "carried" (TH.spD K PD.p_carried)) (c_even_timing : TH.CalX P w K mg base 9 "even_timing" (TH.spD K PD.p_even_timing)) (c_places : TH.CalX P w K mg base 4 "places" (TH.spD K PD.p_places)) (NK_Timing : TH.NoKind K C_Timing) : C8.Cal P w K mg base 68 "_law_even_right" (TH.spD0 K PD.m_law_even_right) [] := by
  refine TH.calD (n := 1) F b sc_law_even_right rfl (fun cdv A outer s H E hr => ?_)
  have hu64 := TH.hu64_of hr
  have hu := hu_of hr
  exact (TH.qss_cons (TH.qs_set' (ps_set (i := 1) sc_law_even_right.nd rfl (Or.inl rfl) (TH.qe_ixL (TH.kix_list (K := K)) (TH.ql_new (TH.qf_lst (TH.qa_cons (TH.qe_int pe_int) (TH.qa_cons (TH.qe_int pe_int) (TH.qa_cons (TH.qe_int pe_int) (TH.qa_cons (TH.qe_int pe_int) (TH.qa_cons (TH.qe_neg (TH.qe_int pe_int)) (TH.qa_cons (TH.qe_bl pe_bl) (TH.qa_cons (TH.qe_non pe_non) (TH.qa_cons (TH.qe_str pe_str) (TH.qa_cons (TH.qe_call (C8.pe_c c_law_draw hr (by first | decide | exact Nat.le_refl _) (by rfl) (TH.qa_cons (TH.qe_var (pv 0)) (TH.qa_cons (TH.qe_int pe_int) TH.qa_nil)))) TH.qa_nil))))))))))) (TH.qe_call (C8.pe_c c_law_draw hr (by first | decide | exact Nat.le_refl _) (by rfl) (TH.qa_cons (TH.qe_var (pv 0)) (TH.qa_cons (TH.qe_int pe_int) TH.qa_nil)))) (fun _ _ => rfl))) (TH.sl_val (fun _ _ _ z => z)))
      (TH.qss_cons (TH.qs_set' (ps_set (i := 2) sc_law_even_right.nd rfl (Or.inl rfl) (TH.qe_ixL (TH.kix_list (K := K)) (TH.ql_new (TH.qf_lst (TH.qa_cons (TH.qe_int pe_int) (TH.qa_cons (TH.qe_int pe_int) (TH.qa_cons (TH.qe_int pe_int) (TH.qa_cons (TH.qe_int pe_int) (TH.qa_cons (TH.qe_bl pe_bl) (TH.qa_cons (TH.qe_non pe_non) (TH.qa_cons (TH.qe_new (TH.qf_lst (TH.qa_cons (TH.qe_int pe_int) TH.qa_nil))) (TH.qa_cons (TH.qe_op op_add TH.oAdd (TH.qe_int pe_int) (TH.qe_call (C8.pe_c c_law_draw hr (by first | decide | exact Nat.le_refl _) (by rfl) (TH.qa_cons (TH.qe_var (pv 0)) (TH.qa_cons (TH.qe_int pe_int) TH.qa_nil))))) TH.qa_nil)))))))))) (TH.qe_call (C8.pe_c c_law_draw hr (by first | decide | exact Nat.le_refl _) (by rfl) (TH.qa_cons (TH.qe_var (pv 0)) (TH.qa_cons (TH.qe_int pe_int) TH.qa_nil)))) (fun _ _ => rfl))) (TH.sl_val (fun _ _ _ z => z)))
      (TH.qss_cons (TH.qs_set' (ps_set (i := 3) sc_law_even_right.nd rfl (Or.inl rfl) (TH.qe_and (TH.qe_call (C8.pe_c c_law_whole hr (by first | decide | exact Nat.le_refl _) (by rfl) (TH.qa_cons (TH.qe_var (pv 1)) (TH.qa_cons (TH.qe_int pe_int) (TH.qa_cons (TH.qe_int pe_int) TH.qa_nil))))) (TH.qe_one (TH.qe_call (C8.pe_c c_law_whole hr (by first | decide | exact Nat.le_refl _) (by rfl) (TH.qa_cons (TH.qe_var (pv 2)) (TH.qa_cons (TH.qe_int pe_int) (TH.qa_cons (TH.qe_int pe_int) TH.qa_nil)))))))) (TH.sl_val (fun _ _ _ z => z)))
      (TH.qss_cons (TH.qs_set' (ps_set (i := 4) sc_law_even_right.nd rfl (Or.inl rfl) (TH.qe_str pe_str)) (TH.sl_val (fun _ _ _ z => z)))
      (TH.qss_cons (TH.qs_try0 (i := 5) EA rfl X_NoNumber.v rfl rfl sc_law_even_right.nd rfl rfl ⟨(by rfl), by decide, .inl X_NoNumber.gC⟩ TH.takes_no (fun W pn xe tk hpo => (TH.qss_one (TH.qs_set' (ps_set (i := 4) sc_law_even_right.nd rfl (Or.inl rfl) (TH.qe_callX (TH.pe_cX c_even_timing hr (by first | decide | exact Nat.le_refl _) (by rfl) tk (TH.qa_cons (TH.qe_var (pv 1)) (TH.qa_cons (TH.qe_var (pv 2)) TH.qa_nil))))) (TH.sl_val (fun _ _ _ z => z))))) (fun a DD oe y dd pn hDD hEE hz1 hf1 hdd => (TH.qss_one (TH.qs_set' (ps_set (i := 4) sc_law_even_right.nd rfl (Or.inl rfl) (TH.qe_if (TH.qt_w (TH.qw_and (TH.qt_val (TH.qe_isE EA rfl hDD hdd (.own X_TollError.v) (pe_callB (call_isE hEE hz1 hf1) (by rfl) T.b_isinstance (by decide +kernel) (pa_cons (TH.qe_var (pv 5)) (pa_cons (C8.pe_gc (v := .ref E_TollError) (by rfl) ⟨_, X_TollError.gC, rfl⟩) pa_nil))))) (TH.qw_and1 (TH.qt_val (TH.qe_isE EA rfl hDD hdd (.ty V_ValueError) (pe_callB (call_isE hEE hz1 hf1) (by rfl) T.b_isinstance (by decide +kernel) (pa_cons (TH.qe_var (pv 5)) (pa_cons (pe_bltn (v := .ty "ValueError") (by rfl) T.b_ValueError (by decide +kernel) rfl) pa_nil)))))))) (TH.qe_str pe_str) (TH.qe_str pe_str))) (TH.sl_val (fun _ _ _ z => z))))))
      (TH.qss_cons (TH.qs_if (TH.qt_not (TH.qt_val (TH.qe_var (pv 3)))) (TH.qss_one (TH.qs_ret (TH.qe_cmp (TH.kop_eqD (K := K) hu64) TH.oEqD (TH.qe_var (pv 4)) (TH.qe_str pe_str) (nomark _)))) TH.qss_nil)
      (TH.qss_cons (TH.qs_if (TH.qt_w (TH.qw_or (TH.qt_not (TH.qt_val (TH.qe_isCD CL_Timing NK_Timing (pe_callB (TH.call_isiD (K := K)) (by rfl) T.b_isinstance (by decide +kernel) (pa_cons (TH.qe_var (pv 4)) (pa_cons (C8.pe_gc (v := .ref C_Timing) (by rfl) ⟨_, G_Timing, rfl⟩) pa_nil)))))) (TH.qw_or (TH.qt_cmp (TH.kop_neD (K := K) hu64) TH.oNeD (TH.qe_alt (TH.qe_biL TH.bLen (pe_callB (TH.kcall_len (K := K)) (by rfl) T.b_len (by decide +kernel) (pa_cons (TH.ql_val (TH.qe_fld CL_Timing (by rfl) (TH.kpe_fld (K := K) (TH.qe_var (pv 4)) rfl))) pa_nil))) (TH.qe_biT TH.bLen (pe_callB (TH.kcall_len (K := K)) (by rfl) T.b_len (by decide +kernel) (pa_cons (TH.qe_fld CL_Timing (by rfl) (TH.kpe_fld (K := K) (TH.qe_var (pv 4)) rfl)) pa_nil)))) (TH.qe_var (pv 1)) (nomark _)) (TH.qw_or1 (TH.qt_cmp (TH.kop_neD (K := K) hu64) TH.oNeD (TH.qe_alt (TH.qe_biL TH.bLen (pe_callB (TH.kcall_len (K := K)) (by rfl) T.b_len (by decide +kernel) (pa_cons (TH.ql_val (TH.qe_fld CL_Timing (by rfl) (TH.kpe_fld (K := K) (TH.qe_var (pv 4)) rfl))) pa_nil))) (TH.qe_biT TH.bLen (pe_callB (TH.kcall_len (K := K)) (by rfl) T.b_len (by decide +kernel) (pa_cons (TH.qe_fld CL_Timing (by rfl) (TH.kpe_fld (K := K) (TH.qe_var (pv 4)) rfl)) pa_nil)))) (TH.qe_var (pv 1)) (nomark _)))))) (TH.qss_one (TH.qs_ret (TH.qe_bl pe_bl))) TH.qss_nil)
      (TH.qss_cons (TH.qs_set' (ps_set (i := 6) sc_law_even_right.nd rfl (Or.inl rfl) (TH.qe_op op_add TH.oAdd (TH.qe_int pe_int) (TH.qe_call (C8.pe_c c_law_draw hr (by first | decide | exact Nat.le_refl _) (by rfl) (TH.qa_cons (TH.qe_var (pv 0)) (TH.qa_cons (TH.qe_int pe_int) TH.qa_nil)))))) (TH.sl_val (fun _ _ _ z => z)))
      (TH.qss_cons (TH.qs_for (vs := [7]) (TH.gr_name (by decide)) (fun _ _ _ z => z) (ps_for PassesOwn.never rfl (TH.qi_rng1 (pi_range1 (by rfl) T.b_range (TH.qa_cons (TH.qe_var (pv 1)) TH.qa_nil))) (pg_name (i := 7) sc_law_even_right.nd rfl (Or.inl rfl) (Or.inr rfl)) (TH.qss_one (TH.qs_for (vs := [8]) (TH.gr_name (by decide)) (fun _ _ _ z => z) (ps_for PassesOwn.never rfl (TH.qi_tup (TH.kpi_tup (K := K) (TH.qe_tup (TH.qa_cons (TH.qe_tup (TH.qa_cons (TH.qe_var (pv 7)) (TH.qa_cons (TH.qe_op op_add TH.oAdd (TH.qe_var (pv 7)) (TH.qe_int pe_int)) TH.qa_nil))) (TH.qa_cons (TH.qe_tup (TH.qa_cons (TH.qe_op op_add TH.oAdd (TH.qe_var (pv 7)) (TH.qe_int pe_int)) (TH.qa_cons (TH.qe_var (pv 7)) TH.qa_nil))) TH.qa_nil))))) (pg_name (i := 8) sc_law_even_right.nd rfl (Or.inl rfl) (Or.inr rfl)) (TH.qss_one (TH.qs_if (TH.qt_not (TH.qt_val (TH.qe_call (C8.pe_c c_law_is hr (by first | decide | exact Nat.le_refl _) (by rfl) (TH.qa_cons (TH.qe_new (TH.qf_lst (TH.qa_cons (TH.qe_call (C8.pe_c (TH.calX_no c_places) hr (by first | decide | exact Nat.le_refl _) (by rfl) (TH.qa_cons (TH.qe_var (pv 4)) (TH.qa_cons (TH.qe_var (pv 8)) (TH.qa_cons (TH.qe_var (pv 6)) TH.qa_nil))))) (TH.qa_cons (TH.qe_call (C8.pe_c (TH.calX_no c_carried) hr (by first | decide | exact Nat.le_refl _) (by rfl) (TH.qa_cons (TH.qe_var (pv 4)) (TH.qa_cons (TH.qe_var (pv 8)) (TH.qa_cons (TH.qe_var (pv 6)) TH.qa_nil))))) TH.qa_nil)))) (TH.qa_cons (TH.qe_new (TH.qf_lst (TH.qa_cons (TH.qe_var (pv 2)) (TH.qa_cons (TH.qe_op op_mul TH.oMul (TH.qe_var (pv 6)) (TH.qe_var (pv 2))) TH.qa_nil)))) TH.qa_nil)))))) (TH.qss_one (TH.qs_ret (TH.qe_bl pe_bl))) TH.qss_nil)))))))
      (TH.qss_one (TH.qs_ret (TH.qe_bl pe_bl))))))))))))

abbrev s_law_places : Stmt := top 37
abbrev N_law_places : List Str := ["opening", "tick", "begin", "later"]
theorem sc_law_places : FnScope N_law_places ["opening", "tick"] (C8.fnScope s_law_places) := ⟨rfl, rfl, rfl, by decide +kernel, rfl, by decide +kernel, by decide +kernel⟩

theorem q_law_places {f : Addr} {fd : FuncData} (F : C8.Def K mg "_law_places" s_law_places f fd) (b : Binds K fd ["opening", "tick"] []) (T : Txt mg) : C8.Cal P w K mg base 1 "_law_places" (TH.spD0 K PD.m_law_places) [] := by
  refine TH.calD (n := 2) F b sc_law_places rfl (fun cdv A outer s H E hr => ?_)
  have hu64 := TH.hu64_of hr
  have hu := hu_of hr
  exact (TH.qss_cons (TH.qs_asg (vs := [2, 3]) (TH.gr_tup (TH.gsr_cons (TH.gr_name (by decide)) (TH.gsr_cons (TH.gr_name (by decide)) TH.gsr_nil))) (ps_asg (TH.qe_var (pv 0)) (TH.kpg_tup (K := K) (n := 2) rfl (pgs_cons (pg_name (i := 2) sc_law_places.nd rfl (Or.inl rfl) (Or.inr rfl)) (pgs_cons (pg_name (i := 3) sc_law_places.nd rfl (Or.inl rfl) (Or.inr rfl)) pgs_nil)))))
      (TH.qss_cons (TH.qs_if (TH.qt_cmp op_lt TH.oLt (TH.qe_var (pv 1)) (TH.qe_int pe_int) (nomark _)) (TH.qss_one (TH.qs_ret (TH.qe_int pe_int))) TH.qss_nil)
      (TH.qss_cons (TH.qs_if (TH.qt_cmp op_le TH.oLe (TH.qe_var (pv 1)) (TH.qe_biT TH.bLen (pe_callB (TH.kcall_len (K := K)) (by rfl) T.b_len (by decide +kernel) (pa_cons (TH.qe_var (pv 2)) pa_nil))) (nomark _)) (TH.qss_one (TH.qs_ret (TH.qe_ixT (TH.kix_tup (K := K)) (TH.qe_var (pv 2)) (TH.qe_op op_sub TH.oSub (TH.qe_var (pv 1)) (TH.qe_int pe_int)) (fun _ _ => rfl)))) TH.qss_nil)
      (TH.qss_one (TH.qs_ret (TH.qe_ixT (TH.kix_tup (K := K)) (TH.qe_var (pv 3)) (TH.qe_op op_mod TH.oMod (TH.qe_ba TH.bInt (pe_callTy call_int1 (by rfl) T.b_int (by decide +kernel) (TH.qa_cons (TH.qe_op op_sub TH.oSub (TH.qe_op op_sub TH.oSub (TH.qe_var (pv 1)) (TH.qe_int pe_int)) (TH.qe_biT TH.bLen (pe_callB (TH.kcall_len (K := K)) (by rfl) T.b_len (by decide +kernel) (pa_cons (TH.qe_var (pv 2)) pa_nil)))) TH.qa_nil))) (TH.qe_biT TH.bLen (pe_callB (TH.kcall_len (K := K)) (by rfl) T.b_len (by decide +kernel) (pa_cons (TH.qe_var (pv 3)) pa_nil)))) (fun _ _ => rfl)))))))

abbrev s_law_word : Stmt := top 43
abbrev N_law_word : List Str := ["which", "timing", "way", "tick", "word", "e", "flags"]
theorem sc_law_word : FnScope N_law_word ["which", "timing", "way", "tick"] (C8.fnScope s_law_word) := ⟨rfl, rfl, rfl, by decide +kernel, rfl, by decide +kernel, by decide +kernel⟩

theorem q_law_word {f : Addr} {fd : FuncData} {E_NoTick : Addr} (X_NoTick : TH.ErX K mg "NoTick" E_NoTick) {E_NoWay : Addr} (X_NoWay : TH.ErX K mg "NoWay" E_NoWay) {E_TollError : Addr} (X_TollError : TH.ErX K mg "TollError" E_TollError) (F : C8.Def K mg "_law_word" s_law_word f fd) (b : Binds K fd ["which", "timing", "way", "tick"] []) (T : Txt mg) (EA : TH.ErrAll K PD.errSub) (V_ValueError : TH.clsV K "ValueError" = .type "ValueError") (c_carried : TH.CalX P w K mg base 4 "carried" (TH.spD K PD.p_carried)) (c_places : TH.CalX P w K mg base 4 "places" (TH.spD K PD.p_places)) : C8.Cal P w K mg base 5 "_law_word" (TH.spD0 K PD.m_law_word) [] := by
  refine TH.calD (n := 4) F b sc_law_word rfl (fun cdv A outer s H E hr => ?_)
  have hu64 := TH.hu64_of hr
  have hu := hu_of hr
  exact (TH.qss_cons (TH.qs_set' (ps_set (i := 4) sc_law_word.nd rfl (Or.inl rfl) (TH.qe_str pe_str)) (TH.sl_val (fun _ _ _ z => z)))
      (TH.qss_cons (TH.qs_try0 (i := 5) EA rfl X_TollError.v rfl rfl sc_law_word.nd rfl rfl ⟨(by rfl), by decide, .inl X_TollError.gC⟩ TH.takes_no (fun W pn xe tk hpo => (TH.qss_one (TH.qs_expr (TH.qe_sel c_places c_carried hr (by first | decide | exact Nat.le_refl _) (by first | decide | exact Nat.le_refl _) (by rfl) (by rfl) tk rfl (TH.qe_var (pv 0)) (fun _ _ => rfl) (TH.qa_cons (TH.qe_var (pv 1)) (TH.qa_cons (TH.qe_var (pv 2)) (TH.qa_cons (TH.qe_var (pv 3)) TH.qa_nil))))))) (fun a DD oe y dd pn hDD hEE hz1 hf1 hdd => (TH.qss_cons (TH.qs_set' (ps_set (i := 6) sc_law_word.nd rfl (Or.inl rfl) (TH.qe_new (TH.qf_lst (TH.qa_cons (TH.qe_isE EA rfl hDD hdd (.own X_NoWay.v) (pe_callB (call_isE hEE hz1 hf1) (by rfl) T.b_isinstance (by decide +kernel) (pa_cons (TH.qe_var (pv 5)) (pa_cons (C8.pe_gc (v := .ref E_NoWay) (by rfl) ⟨_, X_NoWay.gC, rfl⟩) pa_nil)))) (TH.qa_cons (TH.qe_isE EA rfl hDD hdd (.own X_NoTick.v) (pe_callB (call_isE hEE hz1 hf1) (by rfl) T.b_isinstance (by decide +kernel) (pa_cons (TH.qe_var (pv 5)) (pa_cons (C8.pe_gc (v := .ref E_NoTick) (by rfl) ⟨_, X_NoTick.gC, rfl⟩) pa_nil)))) TH.qa_nil))))) (TH.sl_val (fun _ _ _ z => z)))
      (TH.qss_one (TH.qs_set' (ps_set (i := 4) sc_law_word.nd rfl (Or.inl rfl) (TH.qe_if (TH.qt_w (TH.qw_and (TH.qt_cmp op_eq TH.oEqS (TH.qe_lm TH.mCount (TH.kpe_bm (K := K) PySem.F.plainAttrs_list PySem.F.slot_list_count PySem.F.type_list_count (TH.mt_countD (K := K) hu64) (TH.ql_val (TH.qe_var (pv 6))) (TH.qa_cons (TH.qe_bl pe_bl) TH.qa_nil))) (TH.qe_int pe_int) (nomark _)) (TH.qw_and1 (TH.qt_val (TH.qe_isE EA rfl hDD hdd (.ty V_ValueError) (pe_callB (call_isE hEE hz1 hf1) (by rfl) T.b_isinstance (by decide +kernel) (pa_cons (TH.qe_var (pv 5)) (pa_cons (pe_bltn (v := .ty "ValueError") (by rfl) T.b_ValueError (by decide +kernel) rfl) pa_nil)))))))) (TH.qe_ixL (TH.kix_list (K := K)) (TH.ql_new (TH.qf_lst (TH.qa_cons (TH.qe_str pe_str) (TH.qa_cons (TH.qe_str pe_str) TH.qa_nil)))) (TH.qe_lm TH.mIndex (TH.kpe_bm (K := K) PySem.F.plainAttrs_list PySem.F.slot_list_index PySem.F.type_list_index (TH.mt_indexP (K := K) hu64) (TH.ql_val (TH.qe_var (pv 6))) (TH.qa_cons (TH.qe_bl pe_bl) TH.qa_nil))) (fun _ _ => rfl)) (TH.qe_str pe_str))) (TH.sl_val (fun _ _ _ z => z)))))))
      (TH.qss_one (TH.qs_ret (TH.qe_var (pv 4))))))

abbrev s_law_refused_right : Stmt := top 44
abbrev N_law_refused_right : List Str := ["hand", "timing", "ties", "way", "tick", "fine", "due", "which", "post"]
theorem sc_law_refused_right : FnScope N_law_refused_right ["hand", "timing", "ties"] (C8.fnScope s_law_refused_right) := ⟨rfl, rfl, rfl, by decide +kernel, rfl, by decide +kernel, by decide +kernel⟩

theorem q_law_refused_right {f : Addr} {fd : FuncData} (F : C8.Def K mg "_law_refused_right" s_law_refused_right f fd) (b : Binds K fd ["hand", "timing", "ties"] []) (T : Txt mg) (c_law_deep : C8.Cal P w K mg base 2 "_law_deep" (TH.spD0 K PD.p_law_deep) []) (c_law_draw : C8.Cal P w K mg base 1 "_law_draw" (TH.spD0 K PD.p_law_draw) []) (c_law_whole : C8.Cal P w K mg base 1 "_law_whole" (TH.spD0 K PD.p_law_whole) []) (c_law_word : C8.Cal P w K mg base 5 "_law_word" (TH.spD0 K PD.p_law_word) []) : C8.Cal P w K mg base 6 "_law_refused_right" (TH.spD0 K PD.m_law_refused_right) [] := by
  refine TH.calD (n := 3) F b sc_law_refused_right rfl (fun cdv A outer s H E hr => ?_)
  have hu64 := TH.hu64_of hr
  have hu := hu_of hr
  exact (TH.qss_cons (TH.qs_set' (ps_set (i := 3) sc_law_refused_right.nd rfl (Or.inr rfl) (TH.qe_ixL (TH.kix_list (K := K)) (TH.ql_new (TH.qf_lst (TH.qa_cons (TH.qe_tup (TH.qa_cons (TH.qe_int pe_int) (TH.qa_cons (TH.qe_int pe_int) TH.qa_nil))) (TH.qa_cons (TH.qe_tup (TH.qa_cons (TH.qe_int pe_int) (TH.qa_cons (TH.qe_int pe_int) TH.qa_nil))) (TH.qa_cons (TH.qe_tup (TH.qa_cons (TH.qe_int pe_int) (TH.qa_cons (TH.qe_int pe_int) TH.qa_nil))) (TH.qa_cons (TH.qe_tup (TH.qa_cons (TH.qe_int pe_int) (TH.qa_cons (TH.qe_int pe_int) TH.qa_nil))) (TH.qa_cons (TH.qe_new (TH.qf_lst (TH.qa_cons (TH.qe_int pe_int) (TH.qa_cons (TH.qe_int pe_int) TH.qa_nil)))) (TH.qa_cons (TH.qe_tup (TH.qa_cons (TH.qe_var (pv 2)) (TH.qa_cons (TH.qe_op op_add TH.oAdd (TH.qe_var (pv 2)) (TH.qe_int pe_int)) TH.qa_nil))) (TH.qa_cons (TH.qe_tup (TH.qa_cons (TH.qe_bl pe_bl) (TH.qa_cons (TH.qe_int pe_int) TH.qa_nil))) (TH.qa_cons (TH.qe_non pe_non) (TH.qa_cons (TH.qe_tup (TH.qa_cons (TH.qe_int pe_int) (TH.qa_cons (TH.qe_int pe_int) (TH.qa_cons (TH.qe_int pe_int) TH.qa_nil)))) (TH.qa_cons (TH.qe_str pe_str) TH.qa_nil)))))))))))) (TH.qe_call (C8.pe_c c_law_draw hr (by first | decide | exact Nat.le_refl _) (by rfl) (TH.qa_cons (TH.qe_var (pv 0)) (TH.qa_cons (TH.qe_int pe_int) TH.qa_nil)))) (fun _ _ => rfl))) (TH.sl_val (fun _ _ _ z => z)))
      (TH.qss_cons (TH.qs_set' (ps_set (i := 4) sc_law_refused_right.nd rfl (Or.inr rfl) (TH.qe_ixL (TH.kix_list (K := K)) (TH.ql_new (TH.qf_lst (TH.qa_cons (TH.qe_int pe_int) (TH.qa_cons (TH.qe_int pe_int) (TH.qa_cons (TH.qe_op op_pow TH.oPow (TH.qe_int pe_int) (TH.qe_int pe_int)) (TH.qa_cons (TH.qe_op op_add TH.oAdd (TH.qe_op op_pow TH.oPow (TH.qe_int pe_int) (TH.qe_int pe_int)) (TH.qe_int pe_int)) (TH.qa_cons (TH.qe_neg (TH.qe_int pe_int)) (TH.qa_cons (TH.qe_bl pe_bl) (TH.qa_cons (TH.qe_non pe_non) (TH.qa_cons (TH.qe_str pe_str) (TH.qa_cons (TH.qe_tup (TH.qa_cons (TH.qe_int pe_int) TH.qa_nil)) (TH.qa_cons (TH.qe_call (C8.pe_c c_law_deep hr (by first | decide | exact Nat.le_refl _) (by rfl) (TH.qa_cons (TH.qe_var (pv 0)) TH.qa_nil))) TH.qa_nil)))))))))))) (TH.qe_call (C8.pe_c c_law_draw hr (by first | decide | exact Nat.le_refl _) (by rfl) (TH.qa_cons (TH.qe_var (pv 0)) (TH.qa_cons (TH.qe_int pe_int) TH.qa_nil)))) (fun _ _ => rfl))) (TH.sl_val (fun _ _ _ z => z)))
      (TH.qss_cons (TH.qs_set' (ps_set (i := 5) sc_law_refused_right.nd rfl (Or.inl rfl) (TH.qe_and (TH.qe_isi (by decide) (pe_callB (TH.call_isiD (K := K)) (by rfl) T.b_isinstance (by decide +kernel) (pa_cons (TH.qe_var (pv 3)) (pa_cons (pe_bltn (v := .ty "tuple") (by rfl) T.b_tuple (by decide +kernel) rfl) pa_nil)))) (TH.qe_and (TH.qe_cmp op_eq TH.oEqS (TH.qe_alt (TH.qe_biL TH.bLen (pe_callB (TH.kcall_len (K := K)) (by rfl) T.b_len (by decide +kernel) (pa_cons (TH.ql_val (TH.qe_var (pv 3))) pa_nil))) (TH.qe_biT TH.bLen (pe_callB (TH.kcall_len (K := K)) (by rfl) T.b_len (by decide +kernel) (pa_cons (TH.qe_var (pv 3)) pa_nil)))) (TH.qe_int pe_int) (nomark _)) (TH.qe_one (TH.qe_biL TH.bAll (pe_callB (TH.kcr_all (K := K) rfl) (by rfl) T.b_all (by decide +kernel) (pa_cons (TH.ql_new (TH.qf_lc (vs := [8]) (TH.gr_name (by decide)) (pe_lc (own := [("post", 8)]) (g := L2.gName 8) rfl sc_law_refused_right.nd (TH.qi_or (TH.qi_list (TH.kpi_list (K := K) (TH.ql_val (TH.qe_var (pv 3))))) (TH.qi_tup (TH.kpi_tup (K := K) (TH.qe_var (pv 3))))) (blkOk_by (own := [("post", 8)]) (N := N_law_refused_right) (sc := C8.fnScope s_law_refused_right) (by decide +kernel)) (fun _ _ _ _ _ => (pg_name (i := 8) sc_law_refused_right.nd rfl (Or.inl rfl) (Or.inr rfl))) (fun _ _ _ _ _ => TH.qts_nil) (fun _ _ _ _ _ => (TH.qe_call (C8.pe_c c_law_whole hr (by first | decide | exact Nat.le_refl _) (by rfl) (TH.qa_cons (TH.qe_var (pv 8)) (TH.qa_cons (TH.qe_int pe_int) (TH.qa_cons (TH.qe_var (pv 2)) TH.qa_nil))))))))) pa_nil))))))) (TH.sl_val (fun _ _ _ z => z)))
      (TH.qss_cons (TH.qs_set' (ps_set (i := 6) sc_law_refused_right.nd rfl (Or.inl rfl) (TH.qe_str pe_str)) (TH.sl_val (fun _ _ _ z => z)))
      (TH.qss_cons (TH.qs_if (TH.qt_w (TH.qw_and (TH.qt_val (TH.qe_var (pv 5))) (TH.qw_and1 (TH.qt_cmp op_eq TH.oEqS (TH.qe_ba TH.bAbs (pe_callB call_abs (by rfl) T.b_abs (by decide +kernel) (TH.qa_cons (TH.qe_op op_sub TH.oSub (TH.qe_alt (TH.qe_ixL (TH.kix_list (K := K)) (TH.ql_val (TH.qe_var (pv 3))) (TH.qe_int pe_int) (fun _ _ => rfl)) (TH.qe_ixT (TH.kix_tup (K := K)) (TH.qe_var (pv 3)) (TH.qe_int pe_int) (fun _ _ => rfl))) (TH.qe_alt (TH.qe_ixL (TH.kix_list (K := K)) (TH.ql_val (TH.qe_var (pv 3))) (TH.qe_int pe_int) (fun _ _ => rfl)) (TH.qe_ixT (TH.kix_tup (K := K)) (TH.qe_var (pv 3)) (TH.qe_int pe_int) (fun _ _ => rfl)))) TH.qa_nil))) (TH.qe_int pe_int) (nomark _))))) (TH.qss_one (TH.qs_set' (ps_set (i := 6) sc_law_refused_right.nd rfl (Or.inl rfl) (TH.qe_if (TH.qt_val (TH.qe_call (C8.pe_c c_law_whole hr (by first | decide | exact Nat.le_refl _) (by rfl) (TH.qa_cons (TH.qe_var (pv 4)) (TH.qa_cons (TH.qe_int pe_int) (TH.qa_cons (TH.qe_op op_pow TH.oPow (TH.qe_int pe_int) (TH.qe_int pe_int)) TH.qa_nil)))))) (TH.qe_str pe_str) (TH.qe_str pe_str))) (TH.sl_val (fun _ _ _ z => z)))) TH.qss_nil)
      (TH.qss_one (TH.qs_ret (TH.qe_cmp (TH.kop_eqD (K := K) hu64) TH.oEqD (TH.qe_new (TH.qf_lc (vs := [7]) (TH.gr_name (by decide)) (pe_lc (own := [("which", 7)]) (g := L2.gName 7) rfl sc_law_refused_right.nd (TH.qi_tup (TH.kpi_tup (K := K) (TH.qe_tup (TH.qa_cons (TH.qe_int pe_int) (TH.qa_cons (TH.qe_int pe_int) TH.qa_nil))))) (blkOk_by (own := [("which", 7)]) (N := N_law_refused_right) (sc := C8.fnScope s_law_refused_right) (by decide +kernel)) (fun _ _ _ _ _ => (pg_name (i := 7) sc_law_refused_right.nd rfl (Or.inl rfl) (Or.inr rfl))) (fun _ _ _ _ _ => TH.qts_nil) (fun _ _ _ _ _ => (TH.qe_call (C8.pe_c c_law_word hr (by first | decide | exact Nat.le_refl _) (by rfl) (TH.qa_cons (TH.qe_var (pv 7)) (TH.qa_cons (TH.qe_var (pv 1)) (TH.qa_cons (TH.qe_var (pv 3)) (TH.qa_cons (TH.qe_var (pv 4)) TH.qa_nil)))))))))) (TH.qe_new (TH.qf_lst (TH.qa_cons (TH.qe_var (pv 6)) (TH.qa_cons (TH.qe_var (pv 6)) TH.qa_nil)))) (nomark _)))))))))

abbrev s_law_opening : Stmt := top 35
abbrev N_law_opening : List Str := ["hand", "begin", "kind", "turn"]
theorem sc_law_opening : FnScope N_law_opening ["hand"] (C8.fnScope s_law_opening) := ⟨rfl, rfl, rfl, by decide +kernel, rfl, by decide +kernel, by decide +kernel⟩

theorem q_law_opening {f : Addr} {fd : FuncData} (F : C8.Def K mg "_law_opening" s_law_opening f fd) (b : Binds K fd ["hand"] []) (T : Txt mg) (c_law_draw : C8.Cal P w K mg base 1 "_law_draw" (TH.spD0 K PD.p_law_draw) []) : C8.Cal P w K mg base 2 "_law_opening" (TH.spD0 K PD.m_law_opening) [] := by
  refine TH.calD (n := 1) F b sc_law_opening rfl (fun cdv A outer s H E hr => ?_)
  have hu64 := TH.hu64_of hr
  have hu := hu_of hr
  exact (TH.qss_cons (TH.qs_if (TH.qt_cmp op_eq TH.oEqS (TH.qe_call (C8.pe_c c_law_draw hr (by first | decide | exact Nat.le_refl _) (by rfl) (TH.qa_cons (TH.qe_var (pv 0)) (TH.qa_cons (TH.qe_int pe_int) TH.qa_nil)))) (TH.qe_int pe_int) (nomark _)) (TH.qss_cons (TH.qs_set' (ps_set (i := 1) sc_law_opening.nd rfl (Or.inl rfl) (TH.qe_biL TH.bTup (pe_callTy (TH.kcall_tuple (K := K)) (by rfl) T.b_tuple (by decide +kernel) (pa_cons (TH.ql_new (TH.qf_lc (vs := [3]) (TH.gr_name (by decide)) (pe_lc (own := [("turn", 3)]) (g := L2.gName 3) rfl sc_law_opening.nd (TH.qi_rng1 (pi_range1 (by rfl) T.b_range (TH.qa_cons (TH.qe_call (C8.pe_c c_law_draw hr (by first | decide | exact Nat.le_refl _) (by rfl) (TH.qa_cons (TH.qe_var (pv 0)) (TH.qa_cons (TH.qe_int pe_int) TH.qa_nil)))) TH.qa_nil))) (blkOk_by (own := [("turn", 3)]) (N := N_law_opening) (sc := C8.fnScope s_law_opening) (by decide +kernel)) (fun _ _ _ _ _ => (pg_name (i := 3) sc_law_opening.nd rfl (Or.inl rfl) (Or.inr rfl))) (fun _ _ _ _ _ => TH.qts_nil) (fun _ _ _ _ _ => (TH.qe_call (C8.pe_c c_law_draw hr (by first | decide | exact Nat.le_refl _) (by rfl) (TH.qa_cons (TH.qe_var (pv 0)) (TH.qa_cons (TH.qe_int pe_int) TH.qa_nil)))))))) pa_nil)))) (TH.sl_val (fun _ _ _ z => z)))
      (TH.qss_one (TH.qs_ret (TH.qe_tup (TH.qa_cons (TH.qe_var (pv 1)) (TH.qa_cons (TH.qe_biL TH.bTup (pe_callTy (TH.kcall_tuple (K := K)) (by rfl) T.b_tuple (by decide +kernel) (pa_cons (TH.ql_new (TH.qf_lc (vs := [3]) (TH.gr_name (by decide)) (pe_lc (own := [("turn", 3)]) (g := L2.gName 3) rfl sc_law_opening.nd (TH.qi_rng1 (pi_range1 (by rfl) T.b_range (TH.qa_cons (TH.qe_op op_add TH.oAdd (TH.qe_int pe_int) (TH.qe_call (C8.pe_c c_law_draw hr (by first | decide | exact Nat.le_refl _) (by rfl) (TH.qa_cons (TH.qe_var (pv 0)) (TH.qa_cons (TH.qe_int pe_int) TH.qa_nil))))) TH.qa_nil))) (blkOk_by (own := [("turn", 3)]) (N := N_law_opening) (sc := C8.fnScope s_law_opening) (by decide +kernel)) (fun _ _ _ _ _ => (pg_name (i := 3) sc_law_opening.nd rfl (Or.inl rfl) (Or.inr rfl))) (fun _ _ _ _ _ => TH.qts_nil) (fun _ _ _ _ _ => (TH.qe_call (C8.pe_c c_law_draw hr (by first | decide | exact Nat.le_refl _) (by rfl) (TH.qa_cons (TH.qe_var (pv 0)) (TH.qa_cons (TH.qe_int pe_int) TH.qa_nil)))))))) pa_nil))) TH.qa_nil)))))) TH.qss_nil)
      (TH.qss_cons (TH.qs_set' (ps_set (i := 1) sc_law_opening.nd rfl (Or.inl rfl) (TH.qe_biL TH.bTup (pe_callTy (TH.kcall_tuple (K := K)) (by rfl) T.b_tuple (by decide +kernel) (pa_cons (TH.ql_new (TH.qf_lc (vs := [3]) (TH.gr_name (by decide)) (pe_lc (own := [("turn", 3)]) (g := L2.gName 3) rfl sc_law_opening.nd (TH.qi_rng1 (pi_range1 (by rfl) T.b_range (TH.qa_cons (TH.qe_call (C8.pe_c c_law_draw hr (by first | decide | exact Nat.le_refl _) (by rfl) (TH.qa_cons (TH.qe_var (pv 0)) (TH.qa_cons (TH.qe_int pe_int) TH.qa_nil)))) TH.qa_nil))) (blkOk_by (own := [("turn", 3)]) (N := N_law_opening) (sc := C8.fnScope s_law_opening) (by decide +kernel)) (fun _ _ _ _ _ => (pg_name (i := 3) sc_law_opening.nd rfl (Or.inl rfl) (Or.inr rfl))) (fun _ _ _ _ _ => TH.qts_nil) (fun _ _ _ _ _ => (TH.qe_call (C8.pe_c c_law_draw hr (by first | decide | exact Nat.le_refl _) (by rfl) (TH.qa_cons (TH.qe_var (pv 0)) (TH.qa_cons (TH.qe_int pe_int) TH.qa_nil)))))))) pa_nil)))) (TH.sl_val (fun _ _ _ z => z)))
      (TH.qss_cons (TH.qs_set' (ps_set (i := 2) sc_law_opening.nd rfl (Or.inl rfl) (TH.qe_call (C8.pe_c c_law_draw hr (by first | decide | exact Nat.le_refl _) (by rfl) (TH.qa_cons (TH.qe_var (pv 0)) (TH.qa_cons (TH.qe_int pe_int) TH.qa_nil))))) (TH.sl_val (fun _ _ _ z => z)))
      (TH.qss_cons (TH.qs_if (TH.qt_cmp op_eq TH.oEqS (TH.qe_var (pv 2)) (TH.qe_int pe_int) (nomark _)) (TH.qss_one (TH.qs_ret (TH.qe_tup (TH.qa_cons (TH.qe_op (TH.kop_catA (K := K)) TH.oCatT (TH.qe_op (TH.kop_repA (K := K)) TH.oRepT (TH.qe_tup (TH.qa_cons (TH.qe_int pe_int) TH.qa_nil)) (TH.qe_call (C8.pe_c c_law_draw hr (by first | decide | exact Nat.le_refl _) (by rfl) (TH.qa_cons (TH.qe_var (pv 0)) (TH.qa_cons (TH.qe_int pe_int) TH.qa_nil))))) (TH.qe_var (pv 1))) (TH.qa_cons (TH.qe_tup (TH.qa_cons (TH.qe_int pe_int) TH.qa_nil)) TH.qa_nil))))) TH.qss_nil)
      (TH.qss_cons (TH.qs_if (TH.qt_cmp op_lt TH.oLt (TH.qe_var (pv 2)) (TH.qe_int pe_int) (nomark _)) (TH.qss_one (TH.qs_ret (TH.qe_tup (TH.qa_cons (TH.qe_var (pv 1)) (TH.qa_cons (TH.qe_tup (TH.qa_cons (TH.qe_int pe_int) TH.qa_nil)) TH.qa_nil))))) TH.qss_nil)
      (TH.qss_one (TH.qs_ret (TH.qe_tup (TH.qa_cons (TH.qe_var (pv 1)) (TH.qa_cons (TH.qe_biL TH.bTup (pe_callTy (TH.kcall_tuple (K := K)) (by rfl) T.b_tuple (by decide +kernel) (pa_cons (TH.ql_new (TH.qf_lc (vs := [3]) (TH.gr_name (by decide)) (pe_lc (own := [("turn", 3)]) (g := L2.gName 3) rfl sc_law_opening.nd (TH.qi_rng1 (pi_range1 (by rfl) T.b_range (TH.qa_cons (TH.qe_op op_add TH.oAdd (TH.qe_int pe_int) (TH.qe_call (C8.pe_c c_law_draw hr (by first | decide | exact Nat.le_refl _) (by rfl) (TH.qa_cons (TH.qe_var (pv 0)) (TH.qa_cons (TH.qe_int pe_int) TH.qa_nil))))) TH.qa_nil))) (blkOk_by (own := [("turn", 3)]) (N := N_law_opening) (sc := C8.fnScope s_law_opening) (by decide +kernel)) (fun _ _ _ _ _ => (pg_name (i := 3) sc_law_opening.nd rfl (Or.inl rfl) (Or.inr rfl))) (fun _ _ _ _ _ => TH.qts_nil) (fun _ _ _ _ _ => (TH.qe_call (C8.pe_c c_law_draw hr (by first | decide | exact Nat.le_refl _) (by rfl) (TH.qa_cons (TH.qe_var (pv 0)) (TH.qa_cons (TH.qe_int pe_int) TH.qa_nil)))))))) pa_nil))) TH.qa_nil))))))))))

abbrev s_law_timing_parts : Stmt := top 36
abbrev N_law_timing_parts : List Str := ["hand", "ties", "right", "tie"]
theorem sc_law_timing_parts : FnScope N_law_timing_parts ["hand", "ties"] (C8.fnScope s_law_timing_parts) := ⟨rfl, rfl, rfl, by decide +kernel, rfl, by decide +kernel, by decide +kernel⟩

theorem q_law_timing_parts {f : Addr} {fd : FuncData} (F : C8.Def K mg "_law_timing_parts" s_law_timing_parts f fd) (b : Binds K fd ["hand", "ties"] []) (T : Txt mg) (c_law_opening : C8.Cal P w K mg base 2 "_law_opening" (TH.spD0 K PD.p_law_opening) []) : C8.Cal P w K mg base 3 "_law_timing_parts" (TH.spD0 K PD.m_law_timing_parts) [] := by
  refine TH.calD (n := 2) F b sc_law_timing_parts rfl (fun cdv A outer s H E hr => ?_)
  have hu64 := TH.hu64_of hr
  have hu := hu_of hr
  exact (TH.qss_cons (TH.qs_set' (ps_set (i := 2) sc_law_timing_parts.nd rfl (Or.inl rfl) (TH.qe_biL TH.bTup (pe_callTy (TH.kcall_tuple (K := K)) (by rfl) T.b_tuple (by decide +kernel) (pa_cons (TH.ql_new (TH.qf_lc (vs := [3]) (TH.gr_name (by decide)) (pe_lc (own := [("tie", 3)]) (g := L2.gName 3) rfl sc_law_timing_parts.nd (TH.qi_rng1 (pi_range1 (by rfl) T.b_range (TH.qa_cons (TH.qe_var (pv 1)) TH.qa_nil))) (blkOk_by (own := [("tie", 3)]) (N := N_law_timing_parts) (sc := C8.fnScope s_law_timing_parts) (by decide +kernel)) (fun _ _ _ _ _ => (pg_name (i := 3) sc_law_timing_parts.nd rfl (Or.inl rfl) (Or.inr rfl))) (fun _ _ _ _ _ => TH.qts_nil) (fun _ _ _ _ _ => (TH.qe_call (C8.pe_c c_law_opening hr (by first | decide | exact Nat.le_refl _) (by rfl) (TH.qa_cons (TH.qe_var (pv 0)) TH.qa_nil))))))) pa_nil)))) (TH.sl_val (fun _ _ _ z => z)))
      (TH.qss_one (TH.qs_ret (TH.qe_tup (TH.qa_cons (TH.qe_var (pv 2)) (TH.qa_cons (TH.qe_biL TH.bTup (pe_callTy (TH.kcall_tuple (K := K)) (by rfl) T.b_tuple (by decide +kernel) (pa_cons (TH.ql_new (TH.qf_lc (vs := [3]) (TH.gr_name (by decide)) (pe_lc (own := [("tie", 3)]) (g := L2.gName 3) rfl sc_law_timing_parts.nd (TH.qi_rng1 (pi_range1 (by rfl) T.b_range (TH.qa_cons (TH.qe_var (pv 1)) TH.qa_nil))) (blkOk_by (own := [("tie", 3)]) (N := N_law_timing_parts) (sc := C8.fnScope s_law_timing_parts) (by decide +kernel)) (fun _ _ _ _ _ => (pg_name (i := 3) sc_law_timing_parts.nd rfl (Or.inl rfl) (Or.inr rfl))) (fun _ _ _ _ _ => TH.qts_nil) (fun _ _ _ _ _ => (TH.qe_call (C8.pe_c c_law_opening hr (by first | decide | exact Nat.le_refl _) (by rfl) (TH.qa_cons (TH.qe_var (pv 0)) TH.qa_nil))))))) pa_nil))) TH.qa_nil))))))

abbrev s_law_tried : Stmt := top 40
abbrev N_law_tried : List Str := ["right", "left", "found", "e", "made"]
theorem sc_law_tried : FnScope N_law_tried ["right", "left"] (C8.fnScope s_law_tried) := ⟨rfl, rfl, rfl, by decide +kernel, rfl, by decide +kernel, by decide +kernel⟩

theorem q_law_tried {f : Addr} {fd : FuncData} {C_Timing : Addr} (CL_Timing : TH.ClC K "Timing" PD.ns_Timing C_Timing) {E_BadTiming : Addr} (X_BadTiming : TH.ErX K mg "BadTiming" E_BadTiming) {E_TollError : Addr} (X_TollError : TH.ErX K mg "TollError" E_TollError) (F : C8.Def K mg "_law_tried" s_law_tried f fd) (b : Binds K fd ["right", "left"] []) (T : Txt mg) (EA : TH.ErrAll K PD.errSub) (FA_BadTiming : ∀ e D, PD.errSub e "BadTiming" = some true → TH.clsAt K (Str.ofString e) = some D → L2.XfC K D ∧ PySem.W.findIn K (.ref D) "part" = some none) (c_Timing : TH.MakX P w K mg base 6 "Timing" C_Timing (TH.spMkX K "Timing" PD.p_Timing_init)) : C8.Cal P w K mg base 8 "_law_tried" (TH.spD0 K PD.m_law_tried) [] := by
  refine TH.calD (n := 2) F b sc_law_tried rfl (fun cdv A outer s H E hr => ?_)
  have hu64 := TH.hu64_of hr
  have hu := hu_of hr
  exact (TH.qss_cons (TH.qs_set' (ps_set (i := 2) sc_law_tried.nd rfl (Or.inl rfl) (TH.qe_str pe_str)) (TH.sl_val (fun _ _ _ z => z)))
      (TH.qss_cons (TH.qs_tryF (i := 3) EA rfl X_BadTiming.v rfl rfl sc_law_tried.nd rfl rfl ⟨(by rfl), by decide, .inl X_BadTiming.gC⟩ TH.takes_no (fun W pn xe tk hpo => (TH.qss_cons (TH.qs_set' (ps_set (i := 4) sc_law_tried.nd rfl (Or.inl rfl) (TH.qe_mkX CL_Timing.at' (TH.pe_mkX c_Timing hr (by first | decide | exact Nat.le_refl _) (by rfl) tk (TH.qa_cons (TH.qe_var (pv 0)) (TH.qa_cons (TH.qe_var (pv 1)) TH.qa_nil))))) (TH.sl_val (fun _ _ _ z => z)))
      (TH.qss_one (TH.qs_set' (ps_set (i := 2) sc_law_tried.nd rfl (Or.inl rfl) (TH.qe_if (TH.qt_cmp (TH.kop_eqD (K := K) hu64) TH.oEqD (TH.qe_tup (TH.qa_cons (TH.qe_fld CL_Timing (by rfl) (TH.kpe_fld (K := K) (TH.qe_var (pv 4)) rfl)) (TH.qa_cons (TH.qe_fld CL_Timing (by rfl) (TH.kpe_fld (K := K) (TH.qe_var (pv 4)) rfl)) TH.qa_nil))) (TH.qe_tup (TH.qa_cons (TH.qe_var (pv 0)) (TH.qa_cons (TH.qe_var (pv 1)) TH.qa_nil))) (nomark _)) (TH.qe_non pe_non) (TH.qe_str pe_str))) (TH.sl_val (fun _ _ _ z => z)))))) (fun a DD dx oe y dd pn hyb hDD hEE hz1 hf1 hdd => (TH.qss_one (TH.qs_set' (ps_set (i := 2) sc_law_tried.nd rfl (Or.inl rfl) (TH.qe_if (TH.qt_val (TH.qe_isX EA rfl hDD hdd (.own X_TollError.v) (pe_callB (TH.call_isEx (fs := []) hEE hz1 hf1) (by rfl) T.b_isinstance (by decide +kernel) (pa_cons (TH.qe_var (pv 3)) (pa_cons (C8.pe_gc (v := .ref E_TollError) (by rfl) ⟨_, X_TollError.gC, rfl⟩) pa_nil))))) (TH.qe_xf rfl hdd (pe_xf (FA_BadTiming _ _ hyb hDD).1 (FA_BadTiming _ _ hyb hDD).2 hz1 hf1 (TH.qe_var (pv 3)))) (TH.qe_var (pv 2)))) (TH.sl_val (fun _ _ _ z => z))))))
      (TH.qss_one (TH.qs_ret (TH.qe_var (pv 2))))))

abbrev s_law : Stmt := top 46
abbrev N_law : List Str := ["script", "hand", "kept", "turn", "ties", "timing", "tie", "bent", "one", "first", "right", "left", "way", "opening", "total", "tick", "far", "other", "second"]
theorem sc_law : FnScope N_law ["script"] (C8.fnScope s_law) := ⟨rfl, rfl, rfl, by decide +kernel, rfl, by decide +kernel, by decide +kernel⟩

theorem q_law {f : Addr} {fd : FuncData} {C_Timing : Addr} (CL_Timing : TH.ClC K "Timing" PD.ns_Timing C_Timing) (F : C8.Def K mg "law" s_law f fd) (b : Binds K fd ["script"] []) (T : Txt mg) (c_Timing_eq : C8.Met P w K mg base 1 C_Timing "__eq__" (TH.spD0 K PD.p_Timing_eq) []) (c_law_bent : C8.Cal P w K mg base 3 "_law_bent" (TH.spD0 K PD.p_law_bent) []) (c_law_carried : C8.Cal P w K mg base 1 "_law_carried" (TH.spD0 K PD.p_law_carried) []) (c_law_draw : C8.Cal P w K mg base 1 "_law_draw" (TH.spD0 K PD.p_law_draw) []) (c_law_due : C8.Cal P w K mg base 3 "_law_due" (TH.spD0 K PD.p_law_due) []) (c_law_even_right : C8.Cal P w K mg base 68 "_law_even_right" (TH.spD0 K PD.p_law_even_right) []) (c_law_hand : C8.Cal P w K mg base 1 "_law_hand" (TH.spD0 K PD.p_law_hand) []) (c_law_is : C8.Cal P w K mg base 67 "_law_is" (TH.spD0 K PD.p_law_is) []) (c_law_places : C8.Cal P w K mg base 1 "_law_places" (TH.spD0 K PD.p_law_places) []) (c_law_refused_right : C8.Cal P w K mg base 6 "_law_refused_right" (TH.spD0 K PD.p_law_refused_right) []) (c_law_timing_parts : C8.Cal P w K mg base 3 "_law_timing_parts" (TH.spD0 K PD.p_law_timing_parts) []) (c_law_tried : C8.Cal P w K mg base 8 "_law_tried" (TH.spD0 K PD.p_law_tried) []) (c_carried : TH.CalX P w K mg base 4 "carried" (TH.spD K PD.p_carried)) (c_places : TH.CalX P w K mg base 4 "places" (TH.spD K PD.p_places)) (c_Timing : TH.MakX P w K mg base 6 "Timing" C_Timing (TH.spMkX K "Timing" PD.p_Timing_init)) (NT_Timing : PySem.W.subIn K (.type "tuple") (.ref C_Timing) = some false) : FnOk P w K mg base C8.CX0 69 f fd ["script"] (TH.spD0 K PD.m_law) := by
  refine TH.fnD0 (n := 1) F b sc_law rfl (fun cdv A outer s H E hr => ?_)
  have hu64 := TH.hu64_of hr
  have hu := hu_of hr
  exact (TH.qss_cons (TH.qs_set' (ps_set (i := 1) sc_law.nd rfl (Or.inl rfl) (TH.qe_call (C8.pe_c c_law_hand hr (by first | decide | exact Nat.le_refl _) (by rfl) (TH.qa_cons (TH.qe_var (pv 0)) TH.qa_nil)))) (TH.sl_val (fun _ _ _ z => z)))
      (TH.qss_cons (TH.qs_set' (ps_set (i := 2) sc_law.nd rfl (Or.inl rfl) (TH.qf_lst TH.qa_nil)) (TH.sl_own (fun _ _ _ z => z)))
      (TH.qss_cons (TH.qs_for (vs := [3]) (TH.gr_name (by decide)) (fun _ _ _ z => z) (ps_for PassesOwn.never rfl (TH.qi_rng1 (pi_range1 (by rfl) T.b_range (TH.qa_cons (TH.qe_int pe_int) TH.qa_nil))) (pg_name (i := 3) sc_law.nd rfl (Or.inl rfl) (Or.inr rfl)) (TH.qss_cons (TH.qs_set' (ps_set (i := 4) sc_law.nd rfl (Or.inl rfl) (TH.qe_op op_add TH.oAdd (TH.qe_int pe_int) (TH.qe_call (C8.pe_c c_law_draw hr (by first | decide | exact Nat.le_refl _) (by rfl) (TH.qa_cons (TH.qe_var (pv 1)) (TH.qa_cons (TH.qe_int pe_int) TH.qa_nil)))))) (TH.sl_val (fun _ _ _ z => z)))
      (TH.qss_cons (TH.qs_asg (vs := [10, 11]) (TH.gr_tup (TH.gsr_cons (TH.gr_name (by decide)) (TH.gsr_cons (TH.gr_name (by decide)) TH.gsr_nil))) (ps_asg (TH.qe_call (C8.pe_c c_law_timing_parts hr (by first | decide | exact Nat.le_refl _) (by rfl) (TH.qa_cons (TH.qe_var (pv 1)) (TH.qa_cons (TH.qe_var (pv 4)) TH.qa_nil)))) (TH.kpg_tup (K := K) (n := 2) rfl (pgs_cons (pg_name (i := 10) sc_law.nd rfl (Or.inl rfl) (Or.inr rfl)) (pgs_cons (pg_name (i := 11) sc_law.nd rfl (Or.inl rfl) (Or.inr rfl)) pgs_nil)))))
      (TH.qss_cons (TH.qs_if (TH.qt_cmp op_notN TH.oNotN (TH.qe_call (C8.pe_c c_law_tried hr (by first | decide | exact Nat.le_refl _) (by rfl) (TH.qa_cons (TH.qe_var (pv 10)) (TH.qa_cons (TH.qe_var (pv 11)) TH.qa_nil)))) (TH.qe_non pe_non) (nomark _)) (TH.qss_one (TH.qs_ret (TH.qe_bl pe_bl))) TH.qss_nil)
      (TH.qss_cons (TH.qs_set' (ps_set (i := 5) sc_law.nd rfl (Or.inl rfl) (TH.qe_mk CL_Timing.at' (C8.pe_mk (TH.makX_no c_Timing) hr (by first | decide | exact Nat.le_refl _) (by rfl) (TH.qa_cons (TH.qe_var (pv 10)) (TH.qa_cons (TH.qe_var (pv 11)) TH.qa_nil))))) (TH.sl_val (fun _ _ _ z => z)))
      (TH.qss_cons (TH.qs_mu TH.mApp (ps_expr (TH.kpe_bm (K := K) PySem.F.plainAttrs_list PySem.F.slot_list_append PySem.F.type_list_append mt_append (pv 2) (TH.qa_cons (TH.qe_tup (TH.qa_cons (TH.qe_var (pv 5)) (TH.qa_cons (TH.qe_tup (TH.qa_cons (TH.qe_var (pv 10)) (TH.qa_cons (TH.qe_var (pv 11)) TH.qa_nil))) TH.qa_nil))) TH.qa_nil))))
      (TH.qss_cons (TH.qs_set' (ps_set (i := 6) sc_law.nd rfl (Or.inl rfl) (TH.qe_call (C8.pe_c c_law_draw hr (by first | decide | exact Nat.le_refl _) (by rfl) (TH.qa_cons (TH.qe_var (pv 1)) (TH.qa_cons (TH.qe_var (pv 4)) TH.qa_nil))))) (TH.sl_val (fun _ _ _ z => z)))
      (TH.qss_cons (TH.qs_for (vs := [12, 13]) (TH.gr_tup (TH.gsr_cons (TH.gr_name (by decide)) (TH.gsr_cons (TH.gr_name (by decide)) TH.gsr_nil))) (fun _ _ _ z => z) (ps_for PassesOwn.never rfl (TH.qi_tup (TH.kpi_tup (K := K) (TH.qe_tup (TH.qa_cons (TH.qe_tup (TH.qa_cons (TH.qe_tup (TH.qa_cons (TH.qe_var (pv 6)) (TH.qa_cons (TH.qe_op op_add TH.oAdd (TH.qe_var (pv 6)) (TH.qe_int pe_int)) TH.qa_nil))) (TH.qa_cons (TH.qe_ixT (TH.kix_tup (K := K)) (TH.qe_var (pv 10)) (TH.qe_var (pv 6)) (fun _ _ => rfl)) TH.qa_nil))) (TH.qa_cons (TH.qe_tup (TH.qa_cons (TH.qe_tup (TH.qa_cons (TH.qe_op op_add TH.oAdd (TH.qe_var (pv 6)) (TH.qe_int pe_int)) (TH.qa_cons (TH.qe_var (pv 6)) TH.qa_nil))) (TH.qa_cons (TH.qe_ixT (TH.kix_tup (K := K)) (TH.qe_var (pv 11)) (TH.qe_var (pv 6)) (fun _ _ => rfl)) TH.qa_nil))) TH.qa_nil))))) (TH.kpg_tup (K := K) (n := 2) rfl (pgs_cons (pg_name (i := 12) sc_law.nd rfl (Or.inl rfl) (Or.inr rfl)) (pgs_cons (pg_name (i := 13) sc_law.nd rfl (Or.inl rfl) (Or.inr rfl)) pgs_nil))) (TH.qss_cons (TH.qs_set' (ps_set (i := 14) sc_law.nd rfl (Or.inl rfl) (TH.qe_int pe_int)) (TH.sl_val (fun _ _ _ z => z)))
      (TH.qss_cons (TH.qs_for (vs := [15]) (TH.gr_name (by decide)) (fun _ _ _ z => z) (ps_for PassesOwn.never rfl (TH.qi_rng1 (pi_range1 (by rfl) T.b_range (TH.qa_cons (TH.qe_call (C8.pe_c c_law_draw hr (by first | decide | exact Nat.le_refl _) (by rfl) (TH.qa_cons (TH.qe_var (pv 1)) (TH.qa_cons (TH.qe_int pe_int) TH.qa_nil)))) TH.qa_nil))) (pg_name (i := 15) sc_law.nd rfl (Or.inl rfl) (Or.inr rfl)) (TH.qss_cons (TH.qs_set' (ps_set (i := 14) sc_law.nd rfl (Or.inl rfl) (TH.qe_op op_add TH.oAdd (TH.qe_var (pv 14)) (TH.qe_call (C8.pe_c c_law_places hr (by first | decide | exact Nat.le_refl _) (by rfl) (TH.qa_cons (TH.qe_var (pv 13)) (TH.qa_cons (TH.qe_var (pv 15)) TH.qa_nil)))))) (TH.sl_val (fun _ _ _ z => z)))
      (TH.qss_one (TH.qs_if (TH.qt_not (TH.qt_val (TH.qe_call (C8.pe_c c_law_is hr (by first | decide | exact Nat.le_refl _) (by rfl) (TH.qa_cons (TH.qe_new (TH.qf_lst (TH.qa_cons (TH.qe_call (C8.pe_c (TH.calX_no c_places) hr (by first | decide | exact Nat.le_refl _) (by rfl) (TH.qa_cons (TH.qe_var (pv 5)) (TH.qa_cons (TH.qe_var (pv 12)) (TH.qa_cons (TH.qe_var (pv 15)) TH.qa_nil))))) (TH.qa_cons (TH.qe_call (C8.pe_c (TH.calX_no c_carried) hr (by first | decide | exact Nat.le_refl _) (by rfl) (TH.qa_cons (TH.qe_var (pv 5)) (TH.qa_cons (TH.qe_var (pv 12)) (TH.qa_cons (TH.qe_var (pv 15)) TH.qa_nil))))) TH.qa_nil)))) (TH.qa_cons (TH.qe_new (TH.qf_lst (TH.qa_cons (TH.qe_call (C8.pe_c c_law_places hr (by first | decide | exact Nat.le_refl _) (by rfl) (TH.qa_cons (TH.qe_var (pv 13)) (TH.qa_cons (TH.qe_var (pv 15)) TH.qa_nil)))) (TH.qa_cons (TH.qe_var (pv 14)) TH.qa_nil)))) TH.qa_nil)))))) (TH.qss_one (TH.qs_ret (TH.qe_bl pe_bl))) TH.qss_nil)))))
      (TH.qss_cons (TH.qs_set' (ps_set (i := 16) sc_law.nd rfl (Or.inl rfl) (TH.qe_call (C8.pe_c c_law_draw hr (by first | decide | exact Nat.le_refl _) (by rfl) (TH.qa_cons (TH.qe_var (pv 1)) (TH.qa_cons (TH.qe_op op_pow TH.oPow (TH.qe_int pe_int) (TH.qe_int pe_int)) TH.qa_nil))))) (TH.sl_val (fun _ _ _ z => z)))
      (TH.qss_one (TH.qs_if (TH.qt_not (TH.qt_val (TH.qe_call (C8.pe_c c_law_is hr (by first | decide | exact Nat.le_refl _) (by rfl) (TH.qa_cons (TH.qe_new (TH.qf_lst (TH.qa_cons (TH.qe_call (C8.pe_c (TH.calX_no c_places) hr (by first | decide | exact Nat.le_refl _) (by rfl) (TH.qa_cons (TH.qe_var (pv 5)) (TH.qa_cons (TH.qe_var (pv 12)) (TH.qa_cons (TH.qe_var (pv 16)) TH.qa_nil))))) (TH.qa_cons (TH.qe_call (C8.pe_c (TH.calX_no c_carried) hr (by first | decide | exact Nat.le_refl _) (by rfl) (TH.qa_cons (TH.qe_var (pv 5)) (TH.qa_cons (TH.qe_var (pv 12)) (TH.qa_cons (TH.qe_var (pv 16)) TH.qa_nil))))) TH.qa_nil)))) (TH.qa_cons (TH.qe_new (TH.qf_lst (TH.qa_cons (TH.qe_call (C8.pe_c c_law_places hr (by first | decide | exact Nat.le_refl _) (by rfl) (TH.qa_cons (TH.qe_var (pv 13)) (TH.qa_cons (TH.qe_var (pv 16)) TH.qa_nil)))) (TH.qa_cons (TH.qe_call (C8.pe_c c_law_carried hr (by first | decide | exact Nat.le_refl _) (by rfl) (TH.qa_cons (TH.qe_var (pv 13)) (TH.qa_cons (TH.qe_var (pv 16)) TH.qa_nil)))) TH.qa_nil)))) TH.qa_nil)))))) (TH.qss_one (TH.qs_ret (TH.qe_bl pe_bl))) TH.qss_nil)))))))
      (TH.qss_cons (TH.qs_set' (ps_set (i := 7) sc_law.nd rfl (Or.inl rfl) (TH.qe_ixL (TH.kix_list (K := K)) (TH.ql_new (TH.qf_lst (TH.qa_cons (TH.qe_tup (TH.qa_cons (TH.qe_call (C8.pe_c c_law_bent hr (by first | decide | exact Nat.le_refl _) (by rfl) (TH.qa_cons (TH.qe_var (pv 1)) (TH.qa_cons (TH.qe_var (pv 10)) TH.qa_nil)))) (TH.qa_cons (TH.qe_var (pv 11)) TH.qa_nil))) (TH.qa_cons (TH.qe_tup (TH.qa_cons (TH.qe_var (pv 10)) (TH.qa_cons (TH.qe_call (C8.pe_c c_law_bent hr (by first | decide | exact Nat.le_refl _) (by rfl) (TH.qa_cons (TH.qe_var (pv 1)) (TH.qa_cons (TH.qe_var (pv 11)) TH.qa_nil)))) TH.qa_nil))) TH.qa_nil)))) (TH.qe_call (C8.pe_c c_law_draw hr (by first | decide | exact Nat.le_refl _) (by rfl) (TH.qa_cons (TH.qe_var (pv 1)) (TH.qa_cons (TH.qe_int pe_int) TH.qa_nil)))) (fun _ _ => rfl))) (TH.sl_val (fun _ _ _ z => z)))
      (TH.qss_cons (TH.qs_if (TH.qt_not (TH.qt_val (TH.qe_call (C8.pe_c c_law_is hr (by first | decide | exact Nat.le_refl _) (by rfl) (TH.qa_cons (TH.qe_new (TH.qf_lst (TH.qa_cons (TH.qe_call (C8.pe_c c_law_tried hr (by first | decide | exact Nat.le_refl _) (by rfl) (TH.qa_cons (TH.qe_ixT (TH.kix_tup (K := K)) (TH.qe_var (pv 7)) (TH.qe_int pe_int) (fun _ _ => rfl)) (TH.qa_cons (TH.qe_ixT (TH.kix_tup (K := K)) (TH.qe_var (pv 7)) (TH.qe_int pe_int) (fun _ _ => rfl)) TH.qa_nil)))) TH.qa_nil))) (TH.qa_cons (TH.qe_new (TH.qf_lst (TH.qa_cons (TH.qe_call (C8.pe_c c_law_due hr (by first | decide | exact Nat.le_refl _) (by rfl) (TH.qa_cons (TH.qe_ixT (TH.kix_tup (K := K)) (TH.qe_var (pv 7)) (TH.qe_int pe_int) (fun _ _ => rfl)) (TH.qa_cons (TH.qe_ixT (TH.kix_tup (K := K)) (TH.qe_var (pv 7)) (TH.qe_int pe_int) (fun _ _ => rfl)) TH.qa_nil)))) TH.qa_nil))) TH.qa_nil)))))) (TH.qss_one (TH.qs_ret (TH.qe_bl pe_bl))) TH.qss_nil)
      (TH.qss_one (TH.qs_if (TH.qt_w (TH.qw_or (TH.qt_not (TH.qt_val (TH.qe_call (C8.pe_c c_law_refused_right hr (by first | decide | exact Nat.le_refl _) (by rfl) (TH.qa_cons (TH.qe_var (pv 1)) (TH.qa_cons (TH.qe_var (pv 5)) (TH.qa_cons (TH.qe_var (pv 4)) TH.qa_nil))))))) (TH.qw_or1 (TH.qt_not (TH.qt_val (TH.qe_call (C8.pe_c c_law_even_right hr (by first | decide | exact Nat.le_refl _) (by rfl) (TH.qa_cons (TH.qe_var (pv 1)) TH.qa_nil)))))))) (TH.qss_one (TH.qs_ret (TH.qe_bl pe_bl))) TH.qss_nil)))))))))))))
      (TH.qss_cons (TH.qs_tell (TH.qs_for (vs := [8, 9]) (TH.gr_tup (TH.gsr_cons (TH.gr_name (by decide)) (TH.gsr_cons (TH.gr_name (by decide)) TH.gsr_nil))) (fun _ _ _ z => z) (ps_for PassesOwn.never rfl (TH.qi_listS (TH.kpi_list (K := K) (TH.qe_var (pv 2)))) (TH.kpg_tup (K := K) (n := 2) rfl (pgs_cons (pg_name (i := 8) sc_law.nd rfl (Or.inl rfl) (Or.inr rfl)) (pgs_cons (pg_name (i := 9) sc_law.nd rfl (Or.inl rfl) (Or.inr rfl)) pgs_nil))) (TH.qss_one (TH.qs_for (vs := [17, 18]) (TH.gr_tup (TH.gsr_cons (TH.gr_name (by decide)) (TH.gsr_cons (TH.gr_name (by decide)) TH.gsr_nil))) (fun _ _ _ z => z) (ps_for PassesOwn.never rfl (TH.qi_listS (TH.kpi_list (K := K) (TH.qe_var (pv 2)))) (TH.kpg_tup (K := K) (n := 2) rfl (pgs_cons (pg_name (i := 17) sc_law.nd rfl (Or.inl rfl) (Or.inr rfl)) (pgs_cons (pg_name (i := 18) sc_law.nd rfl (Or.inl rfl) (Or.inr rfl)) pgs_nil))) (TH.qss_one (TH.qs_if (TH.qt_w (TH.qw_or (TH.qt_cmp op_ne TH.oNeS (TH.qe_cmp (TH.op_eqM c_Timing_eq hr (by first | decide | exact Nat.le_refl _)) (TH.oOwn CL_Timing) (TH.qe_var (pv 8)) (TH.qe_var (pv 17)) (nomark _)) (TH.qe_cmp (TH.kop_eqD (K := K) hu64) TH.oEqD (TH.qe_var (pv 9)) (TH.qe_var (pv 18)) (nomark _)) (nomark _)) (TH.qw_or1 (TH.qt_cmp (TH.op_eqT c_Timing_eq hr (by first | decide | exact Nat.le_refl _) NT_Timing) (TH.oOwnT CL_Timing) (TH.qe_var (pv 8)) (TH.qe_var (pv 18)) (nomark _))))) (TH.qss_one (TH.qs_ret (TH.qe_bl pe_bl))) TH.qss_nil))))))))
      (TH.qss_one (TH.qs_ret (TH.qe_bl pe_bl)))))))

end TK

namespace TK
open PySem PySem.Spec PyProof.Rows L2 TH
theorem all_mk {l : PySem.W.OpenLaw} {w : World} {K : PySem.W.Frag} {h : Heap} {mg : Str → Option Value} {fa C_Timing E_TollError E_NoNumber E_NoWay E_BadTiming E_NoTick : Addr} (X : K.In h) (G : h.Ns mainGlobals mg) (hfa : mg "law" = some (.ref fa))
    {f0 f1 f2 f3 f4 f5 f6 f7 f8 f9 f10 f11 f12 f13 f14 f15 f16 f17 f18 f19 f20 f21 f22 f23 f24 f25 f26 f27 f28 f29 f30 f31 f32 f33 f34 : Addr} {od0 an0 od1 an1 od2 an2 od3 an3 od4 an4 od5 an5 od6 an6 od7 an7 od8 an8 od9 an9 od10 an10 od11 an11 od12 an12 od13 an13 od14 an14 od15 an15 od16 an16 od17 an17 od18 an18 od19 an19 od20 an20 od21 an21 od22 an22 od23 an23 od24 an24 od25 an25 od26 an26 od27 an27 od28 an28 od29 an29 od30 an30 od31 an31 od32 an32 od33 an33 od34 an34 : Option Addr} {sl0 sl1 sl2 sl3 sl4 sl5 sl6 sl7 sl8 sl9 sl10 sl11 sl12 sl13 sl14 sl15 sl16 sl17 sl18 sl19 sl20 sl21 sl22 sl23 sl24 sl25 sl26 sl27 sl28 sl29 sl30 sl31 sl32 sl33 sl34 : Array (Option Value)} {oc0 kV0 dc0 pm0 cd0 ct0 oc1 kV1 dc1 pm1 cd1 ct1 oc2 kV2 dc2 pm2 cd2 ct2 oc3 kV3 dc3 pm3 cd3 ct3 oc4 kV4 dc4 pm4 cd4 ct4 oc5 kV5 dc5 pm5 cd5 ct5 oc6 kV6 dc6 pm6 cd6 ct6 oc7 kV7 dc7 pm7 cd7 ct7 oc8 kV8 dc8 pm8 cd8 ct8 oc9 kV9 dc9 pm9 cd9 ct9 oc10 kV10 dc10 pm10 cd10 ct10 oc11 kV11 dc11 pm11 cd11 ct11 oc12 kV12 dc12 pm12 cd12 ct12 oc13 kV13 dc13 pm13 cd13 ct13 oc14 kV14 dc14 pm14 cd14 ct14 oc15 kV15 dc15 pm15 cd15 ct15 oc16 kV16 dc16 pm16 cd16 ct16 oc17 kV17 dc17 pm17 cd17 ct17 oc18 kV18 dc18 pm18 cd18 ct18 oc19 kV19 dc19 pm19 cd19 ct19 oc20 kV20 dc20 pm20 cd20 ct20 oc21 kV21 dc21 pm21 cd21 ct21 oc22 kV22 dc22 pm22 cd22 ct22 oc23 kV23 dc23 pm23 cd23 ct23 oc24 kV24 dc24 pm24 cd24 ct24 oc25 kV25 dc25 pm25 cd25 ct25 oc26 kV26 dc26 pm26 cd26 ct26 oc27 kV27 dc27 pm27 cd27 ct27 oc28 kV28 dc28 pm28 cd28 ct28 oc29 kV29 dc29 pm29 cd29 ct29 oc30 kV30 dc30 pm30 cd30 ct30 oc31 kV31 dc31 pm31 cd31 ct31 oc32 kV32 dc32 pm32 cd32 ct32 oc33 kV33 dc33 pm33 cd33 ct33 oc34 kV34 dc34 pm34 cd34 ct34 : Value} {t_MOST_LISTED t_MOST_PLACES t_MOST_TICK t_MOST_TIES : Tok} {nm_BadTiming q_BadTiming : Str} {bs_BadTiming bm_BadTiming sb_BadTiming : List Value} {N_BadTiming fi_BadTiming cda_BadTiming cc_BadTiming : Addr} {sn_BadTiming : List Str} {ab_BadTiming : Bool} {col_BadTiming : Option Bool} {dd_BadTiming od_BadTiming an_BadTiming cdd_BadTiming cld_BadTiming : Option Addr} {k0_BadTiming k1_BadTiming k2_BadTiming k3_BadTiming k5_BadTiming : Option Value} {oc_BadTiming kV_BadTiming doc_BadTiming pm_BadTiming ct_BadTiming ccl_BadTiming cl_BadTiming : Value} {osl_BadTiming ccs_BadTiming csl_BadTiming : Array (Option Value)} {vs_BadTiming : Array Value} {file_BadTiming : Str} {tf_BadTiming : Tok}
    (a0 : PySem.W.nsIn K mainGlobals "_law_draw" = some (some (.ref f0)))
    (l0 : K.lookup f0 = some ⟨oc0, od0, .func (PySem.W.fnOf "_law_draw" "_law_draw" (C8.fnArgs s_law_draw) (C8.fnBody s_law_draw) (C8.fnScope s_law_draw) .none kV0 dc0 pm0 an0 cd0 ct0), sl0⟩)
    (c0 : PySem.W.codeIn K cd0 "_law_draw" = true)
    (k0 : PySem.W.keepIn K (.ref f0) = true)
    (a1 : PySem.W.nsIn K mainGlobals "_law_deep" = some (some (.ref f1)))
    (l1 : K.lookup f1 = some ⟨oc1, od1, .func (PySem.W.fnOf "_law_deep" "_law_deep" (C8.fnArgs s_law_deep) (C8.fnBody s_law_deep) (C8.fnScope s_law_deep) .none kV1 dc1 pm1 an1 cd1 ct1), sl1⟩)
    (c1 : PySem.W.codeIn K cd1 "_law_deep" = true)
    (k1 : PySem.W.keepIn K (.ref f1) = true)
    (a2 : PySem.W.nsIn K mainGlobals "_law_bent" = some (some (.ref f2)))
    (l2 : K.lookup f2 = some ⟨oc2, od2, .func (PySem.W.fnOf "_law_bent" "_law_bent" (C8.fnArgs s_law_bent) (C8.fnBody s_law_bent) (C8.fnScope s_law_bent) .none kV2 dc2 pm2 an2 cd2 ct2), sl2⟩)
    (c2 : PySem.W.codeIn K cd2 "_law_bent" = true)
    (k2 : PySem.W.keepIn K (.ref f2) = true)
    (a3 : PySem.W.nsIn K mainGlobals "_law_carried" = some (some (.ref f3)))
    (l3 : K.lookup f3 = some ⟨oc3, od3, .func (PySem.W.fnOf "_law_carried" "_law_carried" (C8.fnArgs s_law_carried) (C8.fnBody s_law_carried) (C8.fnScope s_law_carried) .none kV3 dc3 pm3 an3 cd3 ct3), sl3⟩)
    (c3 : PySem.W.codeIn K cd3 "_law_carried" = true)
    (k3 : PySem.W.keepIn K (.ref f3) = true)
    (a4 : PySem.W.nsIn K mainGlobals "_law_whole" = some (some (.ref f4)))
    (l4 : K.lookup f4 = some ⟨oc4, od4, .func (PySem.W.fnOf "_law_whole" "_law_whole" (C8.fnArgs s_law_whole) (C8.fnBody s_law_whole) (C8.fnScope s_law_whole) .none kV4 dc4 pm4 an4 cd4 ct4), sl4⟩)
    (c4 : PySem.W.codeIn K cd4 "_law_whole" = true)
    (k4 : PySem.W.keepIn K (.ref f4) = true)
    (a5 : PySem.W.nsIn K mainGlobals "_law_is_opening" = some (some (.ref f5)))
    (l5 : K.lookup f5 = some ⟨oc5, od5, .func (PySem.W.fnOf "_law_is_opening" "_law_is_opening" (C8.fnArgs s_law_is_opening) (C8.fnBody s_law_is_opening) (C8.fnScope s_law_is_opening) .none kV5 dc5 pm5 an5 cd5 ct5), sl5⟩)
    (c5 : PySem.W.codeIn K cd5 "_law_is_opening" = true)
    (k5 : PySem.W.keepIn K (.ref f5) = true)
    (a6 : PySem.W.nsIn K mainGlobals "_law_due" = some (some (.ref f6)))
    (l6 : K.lookup f6 = some ⟨oc6, od6, .func (PySem.W.fnOf "_law_due" "_law_due" (C8.fnArgs s_law_due) (C8.fnBody s_law_due) (C8.fnScope s_law_due) .none kV6 dc6 pm6 an6 cd6 ct6), sl6⟩)
    (c6 : PySem.W.codeIn K cd6 "_law_due" = true)
    (k6 : PySem.W.keepIn K (.ref f6) = true)
    (a7 : PySem.W.nsIn K mainGlobals "_law_is" = some (some (.ref f7)))
    (l7 : K.lookup f7 = some ⟨oc7, od7, .func (PySem.W.fnOf "_law_is" "_law_is" (C8.fnArgs s_law_is) (C8.fnBody s_law_is) (C8.fnScope s_law_is) .none kV7 dc7 pm7 an7 cd7 ct7), sl7⟩)
    (c7 : PySem.W.codeIn K cd7 "_law_is" = true)
    (k7 : PySem.W.keepIn K (.ref f7) = true)
    (a8 : PySem.W.nsIn K mainGlobals "carried_by" = some (some (.ref f8)))
    (l8 : K.lookup f8 = some ⟨oc8, od8, .func (PySem.W.fnOf "carried_by" "carried_by" (C8.fnArgs s_carried_by) (C8.fnBody s_carried_by) (C8.fnScope s_carried_by) .none kV8 dc8 pm8 an8 cd8 ct8), sl8⟩)
    (c8 : PySem.W.codeIn K cd8 "carried_by" = true)
    (k8 : PySem.W.keepIn K (.ref f8) = true)
    (a9 : PySem.W.nsIn K mainGlobals "is_integer" = some (some (.ref f9)))
    (l9 : K.lookup f9 = some ⟨oc9, od9, .func (PySem.W.fnOf "is_integer" "is_integer" (C8.fnArgs s_is_integer) (C8.fnBody s_is_integer) (C8.fnScope s_is_integer) .none kV9 dc9 pm9 an9 cd9 ct9), sl9⟩)
    (c9 : PySem.W.codeIn K cd9 "is_integer" = true)
    (k9 : PySem.W.keepIn K (.ref f9) = true)
    (a10 : PySem.W.nsIn K mainGlobals "is_within" = some (some (.ref f10)))
    (l10 : K.lookup f10 = some ⟨oc10, od10, .func (PySem.W.fnOf "is_within" "is_within" (C8.fnArgs s_is_within) (C8.fnBody s_is_within) (C8.fnScope s_is_within) .none kV10 dc10 pm10 an10 cd10 ct10), sl10⟩)
    (c10 : PySem.W.codeIn K cd10 "is_within" = true)
    (k10 : PySem.W.keepIn K (.ref f10) = true)
    (a11 : PySem.W.nsIn K mainGlobals "check_tick" = some (some (.ref f11)))
    (l11 : K.lookup f11 = some ⟨oc11, od11, .func (PySem.W.fnOf "check_tick" "check_tick" (C8.fnArgs s_check_tick) (C8.fnBody s_check_tick) (C8.fnScope s_check_tick) .none kV11 dc11 pm11 an11 cd11 ct11), sl11⟩)
    (c11 : PySem.W.codeIn K cd11 "check_tick" = true)
    (k11 : PySem.W.keepIn K (.ref f11) = true)
    (a12 : PySem.W.nsIn K mainGlobals "is_pair" = some (some (.ref f12)))
    (l12 : K.lookup f12 = some ⟨oc12, od12, .func (PySem.W.fnOf "is_pair" "is_pair" (C8.fnArgs s_is_pair) (C8.fnBody s_is_pair) (C8.fnScope s_is_pair) .none kV12 dc12 pm12 an12 cd12 ct12), sl12⟩)
    (c12 : PySem.W.codeIn K cd12 "is_pair" = true)
    (k12 : PySem.W.keepIn K (.ref f12) = true)
    (a13 : PySem.W.nsIn K mainGlobals "check_way" = some (some (.ref f13)))
    (l13 : K.lookup f13 = some ⟨oc13, od13, .func (PySem.W.fnOf "check_way" "check_way" (C8.fnArgs s_check_way) (C8.fnBody s_check_way) (C8.fnScope s_check_way) .none kV13 dc13 pm13 an13 cd13 ct13), sl13⟩)
    (c13 : PySem.W.codeIn K cd13 "check_way" = true)
    (k13 : PySem.W.keepIn K (.ref f13) = true)
    (a14 : PySem.W.nsIn K mainGlobals "opening_of" = some (some (.ref f14)))
    (l14 : K.lookup f14 = some ⟨oc14, od14, .func (PySem.W.fnOf "opening_of" "opening_of" (C8.fnArgs s_opening_of) (C8.fnBody s_opening_of) (C8.fnScope s_opening_of) .none kV14 dc14 pm14 an14 cd14 ct14), sl14⟩)
    (c14 : PySem.W.codeIn K cd14 "opening_of" = true)
    (k14 : PySem.W.keepIn K (.ref f14) = true)
    (a15 : PySem.W.nsIn K mainGlobals "carried" = some (some (.ref f15)))
    (l15 : K.lookup f15 = some ⟨oc15, od15, .func (PySem.W.fnOf "carried" "carried" (C8.fnArgs s_carried) (C8.fnBody s_carried) (C8.fnScope s_carried) .none kV15 dc15 pm15 an15 cd15 ct15), sl15⟩)
    (c15 : PySem.W.codeIn K cd15 "carried" = true)
    (k15 : PySem.W.keepIn K (.ref f15) = true)
    (a16 : PySem.W.nsIn K mainGlobals "check_number" = some (some (.ref f16)))
    (l16 : K.lookup f16 = some ⟨oc16, od16, .func (PySem.W.fnOf "check_number" "check_number" (C8.fnArgs s_check_number) (C8.fnBody s_check_number) (C8.fnScope s_check_number) .none kV16 dc16 pm16 an16 cd16 ct16), sl16⟩)
    (c16 : PySem.W.codeIn K cd16 "check_number" = true)
    (k16 : PySem.W.keepIn K (.ref f16) = true)
    (a17 : PySem.W.nsIn K mainGlobals "is_numbers" = some (some (.ref f17)))
    (l17 : K.lookup f17 = some ⟨oc17, od17, .func (PySem.W.fnOf "is_numbers" "is_numbers" (C8.fnArgs s_is_numbers) (C8.fnBody s_is_numbers) (C8.fnScope s_is_numbers) .none kV17 dc17 pm17 an17 cd17 ct17), sl17⟩)
    (c17 : PySem.W.codeIn K cd17 "is_numbers" = true)
    (k17 : PySem.W.keepIn K (.ref f17) = true)
    (a18 : PySem.W.nsIn K mainGlobals "is_opening" = some (some (.ref f18)))
    (l18 : K.lookup f18 = some ⟨oc18, od18, .func (PySem.W.fnOf "is_opening" "is_opening" (C8.fnArgs s_is_opening) (C8.fnBody s_is_opening) (C8.fnScope s_is_opening) .none kV18 dc18 pm18 an18 cd18 ct18), sl18⟩)
    (c18 : PySem.W.codeIn K cd18 "is_opening" = true)
    (k18 : PySem.W.keepIn K (.ref f18) = true)
    (a19 : PySem.W.nsIn K mainGlobals "are_openings" = some (some (.ref f19)))
    (l19 : K.lookup f19 = some ⟨oc19, od19, .func (PySem.W.fnOf "are_openings" "are_openings" (C8.fnArgs s_are_openings) (C8.fnBody s_are_openings) (C8.fnScope s_are_openings) .none kV19 dc19 pm19 an19 cd19 ct19), sl19⟩)
    (c19 : PySem.W.codeIn K cd19 "are_openings" = true)
    (k19 : PySem.W.keepIn K (.ref f19) = true)
    (a20 : PySem.W.nsIn K mainGlobals "evenly" = some (some (.ref f20)))
    (l20 : K.lookup f20 = some ⟨oc20, od20, .func (PySem.W.fnOf "evenly" "evenly" (C8.fnArgs s_evenly) (C8.fnBody s_evenly) (C8.fnScope s_evenly) .none kV20 dc20 pm20 an20 cd20 ct20), sl20⟩)
    (c20 : PySem.W.codeIn K cd20 "evenly" = true)
    (k20 : PySem.W.keepIn K (.ref f20) = true)
    (a21 : PySem.W.nsIn K mainGlobals "even_timing" = some (some (.ref f21)))
    (l21 : K.lookup f21 = some ⟨oc21, od21, .func (PySem.W.fnOf "even_timing" "even_timing" (C8.fnArgs s_even_timing) (C8.fnBody s_even_timing) (C8.fnScope s_even_timing) .none kV21 dc21 pm21 an21 cd21 ct21), sl21⟩)
    (c21 : PySem.W.codeIn K cd21 "even_timing" = true)
    (k21 : PySem.W.keepIn K (.ref f21) = true)
    (a22 : PySem.W.nsIn K mainGlobals "places_in" = some (some (.ref f22)))
    (l22 : K.lookup f22 = some ⟨oc22, od22, .func (PySem.W.fnOf "places_in" "places_in" (C8.fnArgs s_places_in) (C8.fnBody s_places_in) (C8.fnScope s_places_in) .none kV22 dc22 pm22 an22 cd22 ct22), sl22⟩)
    (c22 : PySem.W.codeIn K cd22 "places_in" = true)
    (k22 : PySem.W.keepIn K (.ref f22) = true)
    (a23 : PySem.W.nsIn K mainGlobals "places" = some (some (.ref f23)))
    (l23 : K.lookup f23 = some ⟨oc23, od23, .func (PySem.W.fnOf "places" "places" (C8.fnArgs s_places) (C8.fnBody s_places) (C8.fnScope s_places) .none kV23 dc23 pm23 an23 cd23 ct23), sl23⟩)
    (c23 : PySem.W.codeIn K cd23 "places" = true)
    (k23 : PySem.W.keepIn K (.ref f23) = true)
    (a24 : PySem.W.nsIn K mainGlobals "_law_even_right" = some (some (.ref f24)))
    (l24 : K.lookup f24 = some ⟨oc24, od24, .func (PySem.W.fnOf "_law_even_right" "_law_even_right" (C8.fnArgs s_law_even_right) (C8.fnBody s_law_even_right) (C8.fnScope s_law_even_right) .none kV24 dc24 pm24 an24 cd24 ct24), sl24⟩)
    (c24 : PySem.W.codeIn K cd24 "_law_even_right" = true)
    (k24 : PySem.W.keepIn K (.ref f24) = true)
    (a25 : PySem.W.nsIn K mainGlobals "_law_hand" = some (some (.ref f25)))
    (l25 : K.lookup f25 = some ⟨oc25, od25, .func (PySem.W.fnOf "_law_hand" "_law_hand" (C8.fnArgs s_law_hand) (C8.fnBody s_law_hand) (C8.fnScope s_law_hand) .none kV25 dc25 pm25 an25 cd25 ct25), sl25⟩)
    (c25 : PySem.W.codeIn K cd25 "_law_hand" = true)
    (k25 : PySem.W.keepIn K (.ref f25) = true)
    (a26 : PySem.W.nsIn K mainGlobals "_law_places" = some (some (.ref f26)))
    (l26 : K.lookup f26 = some ⟨oc26, od26, .func (PySem.W.fnOf "_law_places" "_law_places" (C8.fnArgs s_law_places) (C8.fnBody s_law_places) (C8.fnScope s_law_places) .none kV26 dc26 pm26 an26 cd26 ct26), sl26⟩)
    (c26 : PySem.W.codeIn K cd26 "_law_places" = true)
    (k26 : PySem.W.keepIn K (.ref f26) = true)
    (a27 : PySem.W.nsIn K mainGlobals "_law_word" = some (some (.ref f27)))
    (l27 : K.lookup f27 = some ⟨oc27, od27, .func (PySem.W.fnOf "_law_word" "_law_word" (C8.fnArgs s_law_word) (C8.fnBody s_law_word) (C8.fnScope s_law_word) .none kV27 dc27 pm27 an27 cd27 ct27), sl27⟩)
    (c27 : PySem.W.codeIn K cd27 "_law_word" = true)
    (k27 : PySem.W.keepIn K (.ref f27) = true)
    (a28 : PySem.W.nsIn K mainGlobals "_law_refused_right" = some (some (.ref f28)))
    (l28 : K.lookup f28 = some ⟨oc28, od28, .func (PySem.W.fnOf "_law_refused_right" "_law_refused_right" (C8.fnArgs s_law_refused_right) (C8.fnBody s_law_refused_right) (C8.fnScope s_law_refused_right) .none kV28 dc28 pm28 an28 cd28 ct28), sl28⟩)
    (c28 : PySem.W.codeIn K cd28 "_law_refused_right" = true)
    (k28 : PySem.W.keepIn K (.ref f28) = true)
    (a29 : PySem.W.nsIn K mainGlobals "_law_opening" = some (some (.ref f29)))
    (l29 : K.lookup f29 = some ⟨oc29, od29, .func (PySem.W.fnOf "_law_opening" "_law_opening" (C8.fnArgs s_law_opening) (C8.fnBody s_law_opening) (C8.fnScope s_law_opening) .none kV29 dc29 pm29 an29 cd29 ct29), sl29⟩)
    (c29 : PySem.W.codeIn K cd29 "_law_opening" = true)
    (k29 : PySem.W.keepIn K (.ref f29) = true)
    (a30 : PySem.W.nsIn K mainGlobals "_law_timing_parts" = some (some (.ref f30)))
    (l30 : K.lookup f30 = some ⟨oc30, od30, .func (PySem.W.fnOf "_law_timing_parts" "_law_timing_parts" (C8.fnArgs s_law_timing_parts) (C8.fnBody s_law_timing_parts) (C8.fnScope s_law_timing_parts) .none kV30 dc30 pm30 an30 cd30 ct30), sl30⟩)
    (c30 : PySem.W.codeIn K cd30 "_law_timing_parts" = true)
    (k30 : PySem.W.keepIn K (.ref f30) = true)
    (a31 : PySem.W.nsIn K mainGlobals "_law_tried" = some (some (.ref f31)))
    (l31 : K.lookup f31 = some ⟨oc31, od31, .func (PySem.W.fnOf "_law_tried" "_law_tried" (C8.fnArgs s_law_tried) (C8.fnBody s_law_tried) (C8.fnScope s_law_tried) .none kV31 dc31 pm31 an31 cd31 ct31), sl31⟩)
    (c31 : PySem.W.codeIn K cd31 "_law_tried" = true)
    (k31 : PySem.W.keepIn K (.ref f31) = true)
    (a32 : PySem.W.nsIn K mainGlobals "law" = some (some (.ref f32)))
    (l32 : K.lookup f32 = some ⟨oc32, od32, .func (PySem.W.fnOf "law" "law" (C8.fnArgs s_law) (C8.fnBody s_law) (C8.fnScope s_law) .none kV32 dc32 pm32 an32 cd32 ct32), sl32⟩)
    (c32 : PySem.W.codeIn K cd32 "law" = true)
    (k32 : PySem.W.keepIn K (.ref f32) = true)
    (a_C_Timing : PySem.W.nsIn K mainGlobals "Timing" = some (some (.ref C_Timing)))
    (a_E_TollError : PySem.W.nsIn K mainGlobals "TollError" = some (some (.ref E_TollError)))
    (a_E_NoNumber : PySem.W.nsIn K mainGlobals "NoNumber" = some (some (.ref E_NoNumber)))
    (a_E_NoWay : PySem.W.nsIn K mainGlobals "NoWay" = some (some (.ref E_NoWay)))
    (a_E_BadTiming : PySem.W.nsIn K mainGlobals "BadTiming" = some (some (.ref E_BadTiming)))
    (a_E_NoTick : PySem.W.nsIn K mainGlobals "NoTick" = some (some (.ref E_NoTick)))
    (a33 : PySem.W.findIn K (.ref C_Timing) "__eq__" = some (some (.ref f33)))
    (i33 : PySem.W.isFn K (.ref f33) = true)
    (l33 : K.lookup f33 = some ⟨oc33, od33, .func (PySem.W.fnOf "__eq__" "Timing.__eq__" (C8.fnArgs s_Timing_eq) (C8.fnBody s_Timing_eq) (C8.fnScope s_Timing_eq) .none kV33 dc33 pm33 an33 cd33 ct33), sl33⟩)
    (c33 : PySem.W.codeIn K cd33 "Timing.__eq__" = true)
    (k33 : PySem.W.keepIn K (.ref f33) = true)
    (a34 : PySem.W.findIn K (.ref C_Timing) "__init__" = some (some (.ref f34)))
    (i34 : PySem.W.isFn K (.ref f34) = true)
    (l34 : K.lookup f34 = some ⟨oc34, od34, .func (PySem.W.fnOf "__init__" "Timing.__init__" (C8.fnArgs s_Timing_init) (C8.fnBody s_Timing_init) (C8.fnScope s_Timing_init) .none kV34 dc34 pm34 an34 cd34 ct34), sl34⟩)
    (c34 : PySem.W.codeIn K cd34 "Timing.__init__" = true)
    (k34 : PySem.W.keepIn K (.ref f34) = true)
    (pg_C_Timing : PySem.W.plainGet K C_Timing Str.empty = true)
    (hd_C_Timing : PySem.W.hasDictIn K C_Timing = true)
    (po_C_Timing : PySem.W.plainOver K C_Timing = true)
    (sa_C_Timing : PySem.W.findIn K (.ref C_Timing) "__setattr__" = some (some (.builtin "object.__setattr__")))
    (mk_C_Timing : PySem.W.makesIn K C_Timing = true)
    (kc_C_Timing : PySem.W.keepIn K (.ref C_Timing) = true)
    (n_C_Timing_right : PySem.W.findIn K (.ref C_Timing) "right" = some none)
    (n_C_Timing_left : PySem.W.findIn K (.ref C_Timing) "left" = some none)
    (ha_C_Timing : PySem.W.findIn K (.ref C_Timing) "__class__" = some (some (.builtin "object.__class__")))
    (hm_C_Timing : PySem.W.mroIn K C_Timing (.type "object") = some true)
    (hnO : PySem.W.specialIn K (.builtin "object.__class__") "__get__" = some (some (.builtin "getset_descriptor.__get__")))
    (htO : PySem.W.takesIn K (.builtin "object.__class__") = some true)
    (nk0_Timing : PySem.W.subIn K (.type "NoneType") (.ref C_Timing) = some false)
    (nk1_Timing : PySem.W.subIn K (.type "bool") (.ref C_Timing) = some false)
    (nk2_Timing : PySem.W.subIn K (.type "int") (.ref C_Timing) = some false)
    (nk3_Timing : PySem.W.subIn K (.type "str") (.ref C_Timing) = some false)
    (nk4_Timing : PySem.W.subIn K (.type "list") (.ref C_Timing) = some false)
    (nk5_Timing : PySem.W.subIn K (.type "tuple") (.ref C_Timing) = some false)
    (nk6_Timing : PySem.W.subIn K (.type "dict") (.ref C_Timing) = some false)
    (nkt_Timing : PySem.W.typeIn K (.ref C_Timing) = some (.type "type"))
    (x_E_NoNumber : PySem.W.excIn K E_NoNumber [.type "ValueError", .type "Exception", .type "BaseException", .type "object"] "ValueError.__new__" = true)
    (kp_E_NoNumber : PySem.W.keepIn K (.ref E_NoNumber) = true)
    (b0_E_NoNumber : PySem.W.subIn K (.ref E_NoNumber) (.type "BaseException") = some true)
    (t0_E_NoNumber : PySem.W.typeIn K (.ref E_NoNumber) = some (.type "type"))
    (x_E_NoTick : PySem.W.excIn K E_NoTick [.type "ValueError", .type "Exception", .type "BaseException", .type "object"] "ValueError.__new__" = true)
    (kp_E_NoTick : PySem.W.keepIn K (.ref E_NoTick) = true)
    (b0_E_NoTick : PySem.W.subIn K (.ref E_NoTick) (.type "BaseException") = some true)
    (t0_E_NoTick : PySem.W.typeIn K (.ref E_NoTick) = some (.type "type"))
    (x_E_NoWay : PySem.W.excIn K E_NoWay [.type "ValueError", .type "Exception", .type "BaseException", .type "object"] "ValueError.__new__" = true)
    (kp_E_NoWay : PySem.W.keepIn K (.ref E_NoWay) = true)
    (b0_E_NoWay : PySem.W.subIn K (.ref E_NoWay) (.type "BaseException") = some true)
    (t0_E_NoWay : PySem.W.typeIn K (.ref E_NoWay) = some (.type "type"))
    (eg_E_TollError : PySem.W.findIn K (.ref E_TollError) "__getattribute__" = some (some (.builtin "BaseException.__getattribute__")))
    (ek_E_TollError : PySem.W.findIn K (.ref E_TollError) "__getattr__" = some none)
    (es_E_TollError : PySem.W.subIn K (.ref E_TollError) (.type "BaseException") = some true)
    (ed_E_TollError : PySem.W.hasDictIn K E_TollError = true)
    (ea_E_TollError : PySem.W.findIn K (.ref E_TollError) "__class__" = some (some (.builtin "object.__class__")))
    (em_E_TollError : PySem.W.mroIn K E_TollError (.type "object") = some true)
    (ss_TollError_TollError : PySem.W.subIn K (.ref E_TollError) (.ref E_TollError) = some true)
    (ss_TollError_NoNumber : PySem.W.subIn K (.ref E_TollError) (.ref E_NoNumber) = some false)
    (ss_TollError_NoWay : PySem.W.subIn K (.ref E_TollError) (.ref E_NoWay) = some false)
    (ss_TollError_BadTiming : PySem.W.subIn K (.ref E_TollError) (.ref E_BadTiming) = some false)
    (ss_TollError_NoTick : PySem.W.subIn K (.ref E_TollError) (.ref E_NoTick) = some false)
    (sv_TollError : PySem.W.subIn K (.ref E_TollError) (.type "ValueError") = some true)
    (ty_TollError : PySem.W.typeIn K (.ref E_TollError) = some (.type "type"))
    (eg_E_NoNumber : PySem.W.findIn K (.ref E_NoNumber) "__getattribute__" = some (some (.builtin "BaseException.__getattribute__")))
    (ek_E_NoNumber : PySem.W.findIn K (.ref E_NoNumber) "__getattr__" = some none)
    (es_E_NoNumber : PySem.W.subIn K (.ref E_NoNumber) (.type "BaseException") = some true)
    (ed_E_NoNumber : PySem.W.hasDictIn K E_NoNumber = true)
    (ea_E_NoNumber : PySem.W.findIn K (.ref E_NoNumber) "__class__" = some (some (.builtin "object.__class__")))
    (em_E_NoNumber : PySem.W.mroIn K E_NoNumber (.type "object") = some true)
    (ss_NoNumber_TollError : PySem.W.subIn K (.ref E_NoNumber) (.ref E_TollError) = some true)
    (ss_NoNumber_NoNumber : PySem.W.subIn K (.ref E_NoNumber) (.ref E_NoNumber) = some true)
    (ss_NoNumber_NoWay : PySem.W.subIn K (.ref E_NoNumber) (.ref E_NoWay) = some false)
    (ss_NoNumber_BadTiming : PySem.W.subIn K (.ref E_NoNumber) (.ref E_BadTiming) = some false)
    (ss_NoNumber_NoTick : PySem.W.subIn K (.ref E_NoNumber) (.ref E_NoTick) = some false)
    (sv_NoNumber : PySem.W.subIn K (.ref E_NoNumber) (.type "ValueError") = some true)
    (ty_NoNumber : PySem.W.typeIn K (.ref E_NoNumber) = some (.type "type"))
    (eg_E_NoWay : PySem.W.findIn K (.ref E_NoWay) "__getattribute__" = some (some (.builtin "BaseException.__getattribute__")))
    (ek_E_NoWay : PySem.W.findIn K (.ref E_NoWay) "__getattr__" = some none)
    (es_E_NoWay : PySem.W.subIn K (.ref E_NoWay) (.type "BaseException") = some true)
    (ed_E_NoWay : PySem.W.hasDictIn K E_NoWay = true)
    (ea_E_NoWay : PySem.W.findIn K (.ref E_NoWay) "__class__" = some (some (.builtin "object.__class__")))
    (em_E_NoWay : PySem.W.mroIn K E_NoWay (.type "object") = some true)
    (ss_NoWay_TollError : PySem.W.subIn K (.ref E_NoWay) (.ref E_TollError) = some true)
    (ss_NoWay_NoNumber : PySem.W.subIn K (.ref E_NoWay) (.ref E_NoNumber) = some false)
    (ss_NoWay_NoWay : PySem.W.subIn K (.ref E_NoWay) (.ref E_NoWay) = some true)
    (ss_NoWay_BadTiming : PySem.W.subIn K (.ref E_NoWay) (.ref E_BadTiming) = some false)
    (ss_NoWay_NoTick : PySem.W.subIn K (.ref E_NoWay) (.ref E_NoTick) = some false)
    (sv_NoWay : PySem.W.subIn K (.ref E_NoWay) (.type "ValueError") = some true)
    (ty_NoWay : PySem.W.typeIn K (.ref E_NoWay) = some (.type "type"))
    (eg_E_BadTiming : PySem.W.findIn K (.ref E_BadTiming) "__getattribute__" = some (some (.builtin "BaseException.__getattribute__")))
    (ek_E_BadTiming : PySem.W.findIn K (.ref E_BadTiming) "__getattr__" = some none)
    (es_E_BadTiming : PySem.W.subIn K (.ref E_BadTiming) (.type "BaseException") = some true)
    (ed_E_BadTiming : PySem.W.hasDictIn K E_BadTiming = true)
    (ea_E_BadTiming : PySem.W.findIn K (.ref E_BadTiming) "__class__" = some (some (.builtin "object.__class__")))
    (em_E_BadTiming : PySem.W.mroIn K E_BadTiming (.type "object") = some true)
    (ss_BadTiming_TollError : PySem.W.subIn K (.ref E_BadTiming) (.ref E_TollError) = some true)
    (ss_BadTiming_NoNumber : PySem.W.subIn K (.ref E_BadTiming) (.ref E_NoNumber) = some false)
    (ss_BadTiming_NoWay : PySem.W.subIn K (.ref E_BadTiming) (.ref E_NoWay) = some false)
    (ss_BadTiming_BadTiming : PySem.W.subIn K (.ref E_BadTiming) (.ref E_BadTiming) = some true)
    (ss_BadTiming_NoTick : PySem.W.subIn K (.ref E_BadTiming) (.ref E_NoTick) = some false)
    (sv_BadTiming : PySem.W.subIn K (.ref E_BadTiming) (.type "ValueError") = some true)
    (ty_BadTiming : PySem.W.typeIn K (.ref E_BadTiming) = some (.type "type"))
    (eg_E_NoTick : PySem.W.findIn K (.ref E_NoTick) "__getattribute__" = some (some (.builtin "BaseException.__getattribute__")))
    (ek_E_NoTick : PySem.W.findIn K (.ref E_NoTick) "__getattr__" = some none)
    (es_E_NoTick : PySem.W.subIn K (.ref E_NoTick) (.type "BaseException") = some true)
    (ed_E_NoTick : PySem.W.hasDictIn K E_NoTick = true)
    (ea_E_NoTick : PySem.W.findIn K (.ref E_NoTick) "__class__" = some (some (.builtin "object.__class__")))
    (em_E_NoTick : PySem.W.mroIn K E_NoTick (.type "object") = some true)
    (ss_NoTick_TollError : PySem.W.subIn K (.ref E_NoTick) (.ref E_TollError) = some true)
    (ss_NoTick_NoNumber : PySem.W.subIn K (.ref E_NoTick) (.ref E_NoNumber) = some false)
    (ss_NoTick_NoWay : PySem.W.subIn K (.ref E_NoTick) (.ref E_NoWay) = some false)
    (ss_NoTick_BadTiming : PySem.W.subIn K (.ref E_NoTick) (.ref E_BadTiming) = some false)
    (ss_NoTick_NoTick : PySem.W.subIn K (.ref E_NoTick) (.ref E_NoTick) = some true)
    (sv_NoTick : PySem.W.subIn K (.ref E_NoTick) (.type "ValueError") = some true)
    (ty_NoTick : PySem.W.typeIn K (.ref E_NoTick) = some (.type "type"))
    (lo_E_BadTiming : K.lookup E_BadTiming = some (PySem.excClassObj nm_BadTiming q_BadTiming E_BadTiming N_BadTiming bs_BadTiming bm_BadTiming true sn_BadTiming sb_BadTiming ab_BadTiming col_BadTiming dd_BadTiming k0_BadTiming k1_BadTiming k2_BadTiming k3_BadTiming k5_BadTiming "ValueError.__new__"))
    (rv_E_BadTiming : PySem.HandSPX.refsVE bm_BadTiming = true)
    (xs_E_BadTiming : PySem.W.findIn K (.ref E_BadTiming) "__setattr__" = some (some (.builtin "object.__setattr__")))
    (xk_E_BadTiming : PySem.W.keepIn K (.ref E_BadTiming) = true)
    (xi_E_BadTiming : PySem.W.findIn K (.ref E_BadTiming) "__init__" = some (some (.ref fi_BadTiming)))
    (xt_E_BadTiming : PySem.W.typeIn K (.ref fi_BadTiming) = some (.type "function"))
    (xf_E_BadTiming : K.lookup fi_BadTiming = some ⟨oc_BadTiming, od_BadTiming, .func (PySem.W.ksFn "__init__" "BadTiming.__init__" (C8.fnArgs s_BadTiming_sup) (C8.fnBody s_BadTiming_sup) (C8.fnScope s_BadTiming_sup) .none kV_BadTiming doc_BadTiming pm_BadTiming an_BadTiming (.ref cda_BadTiming) ct_BadTiming cc_BadTiming), osl_BadTiming⟩)
    (xc_E_BadTiming : PySem.W.codeIn K (.ref cda_BadTiming) "BadTiming.__init__" = true)
    (xo_E_BadTiming : K.lookup cda_BadTiming = some ⟨ccl_BadTiming, cdd_BadTiming, .fields vs_BadTiming, ccs_BadTiming⟩)
    (xv_E_BadTiming : vs_BadTiming[2]? = some (.str file_BadTiming tf_BadTiming))
    (xw_E_BadTiming : ((l.prog.main.file : Str) == file_BadTiming) = true)
    (xl_E_BadTiming : K.lookup cc_BadTiming = some ⟨cl_BadTiming, cld_BadTiming, .cell (some (.ref E_BadTiming)), csl_BadTiming⟩)
    (xp_E_BadTiming : PySem.W.ks_superIn K E_BadTiming E_BadTiming "__init__" = some (some (.builtin "ValueError.__init__")))
    (xm_E_BadTiming : PySem.W.mroIn K E_BadTiming (.ref E_BadTiming) = some true)
    (xn_E_BadTiming : PySem.W.findIn K (.ref E_BadTiming) "part" = some none)
    (xq_E_BadTiming : (l.prog.main.scope.names.lookup ("super" : Str)).isSome = false)
    (xopq : PySem.W.nsIn K cStatics "thirdparty.any" = some none)
    (svB : PySem.W.subIn K (.type "ValueError") (.type "BaseException") = some true)
    (b_ValueError : PySem.W.nsIn K mainGlobals "ValueError" = some none)
    (b_abs : PySem.W.nsIn K mainGlobals "abs" = some none)
    (b_all : PySem.W.nsIn K mainGlobals "all" = some none)
    (b_bool : PySem.W.nsIn K mainGlobals "bool" = some none)
    (b_divmod : PySem.W.nsIn K mainGlobals "divmod" = some none)
    (b_int : PySem.W.nsIn K mainGlobals "int" = some none)
    (b_isinstance : PySem.W.nsIn K mainGlobals "isinstance" = some none)
    (b_len : PySem.W.nsIn K mainGlobals "len" = some none)
    (b_list : PySem.W.nsIn K mainGlobals "list" = some none)
    (b_range : PySem.W.nsIn K mainGlobals "range" = some none)
    (b_sum : PySem.W.nsIn K mainGlobals "sum" = some none)
    (b_super : PySem.W.nsIn K mainGlobals "super" = some none)
    (b_tuple : PySem.W.nsIn K mainGlobals "tuple" = some none)
    (b_zip : PySem.W.nsIn K mainGlobals "zip" = some none)
    (g_MOST_LISTED : PySem.W.nsIn K mainGlobals "MOST_LISTED" = some (some (.int 40 t_MOST_LISTED)))
    (g_MOST_PLACES : PySem.W.nsIn K mainGlobals "MOST_PLACES" = some (some (.int 8 t_MOST_PLACES)))
    (g_MOST_TICK : PySem.W.nsIn K mainGlobals "MOST_TICK" = some (some (.int 1000000000 t_MOST_TICK)))
    (g_MOST_TIES : PySem.W.nsIn K mainGlobals "MOST_TIES" = some (some (.int 23 t_MOST_TIES)))
    : ∃ fd : FuncData, (∀ (s : Shared) (v : Value), BindsTo s fd ⟨[v], []⟩ [("script", v)]) ∧ ∀ base : Heap, K.In base → base.Ns mainGlobals mg → FnOk l.prog w K mg base C8.CX0 69 fa fd ["script"] (TH.spLaw K) := by
  have e := (PySem.W.mg_of X G a32).symm.trans hfa
  cases e
  have T : Txt mg := ⟨PySem.W.mg_none_of X G b_ValueError, PySem.W.mg_none_of X G b_abs, PySem.W.mg_none_of X G b_all, PySem.W.mg_none_of X G b_bool, PySem.W.mg_none_of X G b_divmod, PySem.W.mg_none_of X G b_int, PySem.W.mg_none_of X G b_isinstance, PySem.W.mg_none_of X G b_len, PySem.W.mg_none_of X G b_list, PySem.W.mg_none_of X G b_range, PySem.W.mg_none_of X G b_sum, PySem.W.mg_none_of X G b_super, PySem.W.mg_none_of X G b_tuple, PySem.W.mg_none_of X G b_zip, ⟨_, PySem.W.mg_of X G g_MOST_LISTED, ⟨t_MOST_LISTED, rfl⟩⟩, ⟨_, PySem.W.mg_of X G g_MOST_PLACES, ⟨t_MOST_PLACES, rfl⟩⟩, ⟨_, PySem.W.mg_of X G g_MOST_TICK, ⟨t_MOST_TICK, rfl⟩⟩, ⟨_, PySem.W.mg_of X G g_MOST_TIES, ⟨t_MOST_TIES, rfl⟩⟩⟩
  have cls_C_Timing : Cls K C_Timing := ⟨pg_C_Timing, hd_C_Timing, po_C_Timing, sa_C_Timing⟩
  have CL_Timing : TH.ClC K "Timing" PD.ns_Timing C_Timing := ⟨(by unfold TH.clsAt; rw [a_C_Timing]), cls_C_Timing, fun n hn => by
    simp only [PD.ns_Timing, List.mem_cons, List.not_mem_nil, or_false] at hn
    rcases hn with rfl | rfl
    · exact n_C_Timing_right
    · exact n_C_Timing_left, ha_C_Timing, hnO, htO, hm_C_Timing⟩
  have G_Timing : mg "Timing" = some (.ref C_Timing) := PySem.W.mg_of X G a_C_Timing
  have X_TollError : TH.ErX K mg "TollError" E_TollError := ⟨PySem.W.mg_of X G a_E_TollError, (by unfold TH.clsAt; rw [show (Str.ofString "TollError") = ("TollError" : Str) from rfl, a_E_TollError])⟩
  have X_NoNumber : TH.ErX K mg "NoNumber" E_NoNumber := ⟨PySem.W.mg_of X G a_E_NoNumber, (by unfold TH.clsAt; rw [show (Str.ofString "NoNumber") = ("NoNumber" : Str) from rfl, a_E_NoNumber])⟩
  have X_NoWay : TH.ErX K mg "NoWay" E_NoWay := ⟨PySem.W.mg_of X G a_E_NoWay, (by unfold TH.clsAt; rw [show (Str.ofString "NoWay") = ("NoWay" : Str) from rfl, a_E_NoWay])⟩
  have X_BadTiming : TH.ErX K mg "BadTiming" E_BadTiming := ⟨PySem.W.mg_of X G a_E_BadTiming, (by unfold TH.clsAt; rw [show (Str.ofString "BadTiming") = ("BadTiming" : Str) from rfl, a_E_BadTiming])⟩
  have X_NoTick : TH.ErX K mg "NoTick" E_NoTick := ⟨PySem.W.mg_of X G a_E_NoTick, (by unfold TH.clsAt; rw [show (Str.ofString "NoTick") = ("NoTick" : Str) from rfl, a_E_NoTick])⟩
  have R_NoNumber : TH.ErrC K mg "NoNumber" E_NoNumber := ⟨PySem.W.mg_of X G a_E_NoNumber, x_E_NoNumber, kp_E_NoNumber, b0_E_NoNumber, t0_E_NoNumber⟩
  have R_NoTick : TH.ErrC K mg "NoTick" E_NoTick := ⟨PySem.W.mg_of X G a_E_NoTick, x_E_NoTick, kp_E_NoTick, b0_E_NoTick, t0_E_NoTick⟩
  have R_NoWay : TH.ErrC K mg "NoWay" E_NoWay := ⟨PySem.W.mg_of X G a_E_NoWay, x_E_NoWay, kp_E_NoWay, b0_E_NoWay, t0_E_NoWay⟩
  have V_ValueError : TH.clsV K "ValueError" = .type "ValueError" := by
    unfold TH.clsV TH.clsAt
    rw [show (Str.ofString "ValueError") = ("ValueError" : Str) from rfl, b_ValueError]
  have EA : TH.ErrAll K PD.errSub := TH.errAll_of (by
    intro p hp
    simp only [List.mem_cons, List.not_mem_nil, or_false] at hp
    rcases hp with rfl | rfl | rfl | rfl | rfl
    · refine ⟨E_TollError, X_TollError.at', ⟨eg_E_TollError, ek_E_TollError, es_E_TollError, ed_E_TollError, ea_E_TollError, hnO, htO, em_E_TollError⟩, fun c hc => ?_⟩
      simp only [List.mem_cons, List.not_mem_nil, or_false] at hc
      rcases hc with rfl | rfl | rfl | rfl | rfl | rfl
      · rw [X_TollError.v]; exact ⟨PySem.W.exm_ref es_E_TollError ed_E_TollError ty_TollError ss_TollError_TollError, TH.kit_of_sub ed_E_TollError ty_TollError ss_TollError_TollError ss_TollError_TollError⟩
      · rw [X_NoNumber.v]; exact ⟨PySem.W.exm_ref es_E_NoNumber ed_E_NoNumber ty_NoNumber ss_TollError_NoNumber, TH.kit_of_sub ed_E_NoNumber ty_NoNumber ss_TollError_NoNumber ss_TollError_TollError⟩
      · rw [X_NoWay.v]; exact ⟨PySem.W.exm_ref es_E_NoWay ed_E_NoWay ty_NoWay ss_TollError_NoWay, TH.kit_of_sub ed_E_NoWay ty_NoWay ss_TollError_NoWay ss_TollError_TollError⟩
      · rw [X_BadTiming.v]; exact ⟨PySem.W.exm_ref es_E_BadTiming ed_E_BadTiming ty_BadTiming ss_TollError_BadTiming, TH.kit_of_sub ed_E_BadTiming ty_BadTiming ss_TollError_BadTiming ss_TollError_TollError⟩
      · rw [X_NoTick.v]; exact ⟨PySem.W.exm_ref es_E_NoTick ed_E_NoTick ty_NoTick ss_TollError_NoTick, TH.kit_of_sub ed_E_NoTick ty_NoTick ss_TollError_NoTick ss_TollError_TollError⟩
      · rw [V_ValueError]; exact ⟨TH.exm_of_ve svB sv_TollError, TH.kit_of_ve sv_TollError⟩
    · refine ⟨E_NoNumber, X_NoNumber.at', ⟨eg_E_NoNumber, ek_E_NoNumber, es_E_NoNumber, ed_E_NoNumber, ea_E_NoNumber, hnO, htO, em_E_NoNumber⟩, fun c hc => ?_⟩
      simp only [List.mem_cons, List.not_mem_nil, or_false] at hc
      rcases hc with rfl | rfl | rfl | rfl | rfl | rfl
      · rw [X_TollError.v]; exact ⟨PySem.W.exm_ref es_E_TollError ed_E_TollError ty_TollError ss_NoNumber_TollError, TH.kit_of_sub ed_E_TollError ty_TollError ss_NoNumber_TollError ss_NoNumber_NoNumber⟩
      · rw [X_NoNumber.v]; exact ⟨PySem.W.exm_ref es_E_NoNumber ed_E_NoNumber ty_NoNumber ss_NoNumber_NoNumber, TH.kit_of_sub ed_E_NoNumber ty_NoNumber ss_NoNumber_NoNumber ss_NoNumber_NoNumber⟩
      · rw [X_NoWay.v]; exact ⟨PySem.W.exm_ref es_E_NoWay ed_E_NoWay ty_NoWay ss_NoNumber_NoWay, TH.kit_of_sub ed_E_NoWay ty_NoWay ss_NoNumber_NoWay ss_NoNumber_NoNumber⟩
      · rw [X_BadTiming.v]; exact ⟨PySem.W.exm_ref es_E_BadTiming ed_E_BadTiming ty_BadTiming ss_NoNumber_BadTiming, TH.kit_of_sub ed_E_BadTiming ty_BadTiming ss_NoNumber_BadTiming ss_NoNumber_NoNumber⟩
      · rw [X_NoTick.v]; exact ⟨PySem.W.exm_ref es_E_NoTick ed_E_NoTick ty_NoTick ss_NoNumber_NoTick, TH.kit_of_sub ed_E_NoTick ty_NoTick ss_NoNumber_NoTick ss_NoNumber_NoNumber⟩
      · rw [V_ValueError]; exact ⟨TH.exm_of_ve svB sv_NoNumber, TH.kit_of_ve sv_NoNumber⟩
    · refine ⟨E_NoWay, X_NoWay.at', ⟨eg_E_NoWay, ek_E_NoWay, es_E_NoWay, ed_E_NoWay, ea_E_NoWay, hnO, htO, em_E_NoWay⟩, fun c hc => ?_⟩
      simp only [List.mem_cons, List.not_mem_nil, or_false] at hc
      rcases hc with rfl | rfl | rfl | rfl | rfl | rfl
      · rw [X_TollError.v]; exact ⟨PySem.W.exm_ref es_E_TollError ed_E_TollError ty_TollError ss_NoWay_TollError, TH.kit_of_sub ed_E_TollError ty_TollError ss_NoWay_TollError ss_NoWay_NoWay⟩
      · rw [X_NoNumber.v]; exact ⟨PySem.W.exm_ref es_E_NoNumber ed_E_NoNumber ty_NoNumber ss_NoWay_NoNumber, TH.kit_of_sub ed_E_NoNumber ty_NoNumber ss_NoWay_NoNumber ss_NoWay_NoWay⟩
      · rw [X_NoWay.v]; exact ⟨PySem.W.exm_ref es_E_NoWay ed_E_NoWay ty_NoWay ss_NoWay_NoWay, TH.kit_of_sub ed_E_NoWay ty_NoWay ss_NoWay_NoWay ss_NoWay_NoWay⟩
      · rw [X_BadTiming.v]; exact ⟨PySem.W.exm_ref es_E_BadTiming ed_E_BadTiming ty_BadTiming ss_NoWay_BadTiming, TH.kit_of_sub ed_E_BadTiming ty_BadTiming ss_NoWay_BadTiming ss_NoWay_NoWay⟩
      · rw [X_NoTick.v]; exact ⟨PySem.W.exm_ref es_E_NoTick ed_E_NoTick ty_NoTick ss_NoWay_NoTick, TH.kit_of_sub ed_E_NoTick ty_NoTick ss_NoWay_NoTick ss_NoWay_NoWay⟩
      · rw [V_ValueError]; exact ⟨TH.exm_of_ve svB sv_NoWay, TH.kit_of_ve sv_NoWay⟩
    · refine ⟨E_BadTiming, X_BadTiming.at', ⟨eg_E_BadTiming, ek_E_BadTiming, es_E_BadTiming, ed_E_BadTiming, ea_E_BadTiming, hnO, htO, em_E_BadTiming⟩, fun c hc => ?_⟩
      simp only [List.mem_cons, List.not_mem_nil, or_false] at hc
      rcases hc with rfl | rfl | rfl | rfl | rfl | rfl
      · rw [X_TollError.v]; exact ⟨PySem.W.exm_ref es_E_TollError ed_E_TollError ty_TollError ss_BadTiming_TollError, TH.kit_of_sub ed_E_TollError ty_TollError ss_BadTiming_TollError ss_BadTiming_BadTiming⟩
      · rw [X_NoNumber.v]; exact ⟨PySem.W.exm_ref es_E_NoNumber ed_E_NoNumber ty_NoNumber ss_BadTiming_NoNumber, TH.kit_of_sub ed_E_NoNumber ty_NoNumber ss_BadTiming_NoNumber ss_BadTiming_BadTiming⟩
      · rw [X_NoWay.v]; exact ⟨PySem.W.exm_ref es_E_NoWay ed_E_NoWay ty_NoWay ss_BadTiming_NoWay, TH.kit_of_sub ed_E_NoWay ty_NoWay ss_BadTiming_NoWay ss_BadTiming_BadTiming⟩
      · rw [X_BadTiming.v]; exact ⟨PySem.W.exm_ref es_E_BadTiming ed_E_BadTiming ty_BadTiming ss_BadTiming_BadTiming, TH.kit_of_sub ed_E_BadTiming ty_BadTiming ss_BadTiming_BadTiming ss_BadTiming_BadTiming⟩
      · rw [X_NoTick.v]; exact ⟨PySem.W.exm_ref es_E_NoTick ed_E_NoTick ty_NoTick ss_BadTiming_NoTick, TH.kit_of_sub ed_E_NoTick ty_NoTick ss_BadTiming_NoTick ss_BadTiming_BadTiming⟩
      · rw [V_ValueError]; exact ⟨TH.exm_of_ve svB sv_BadTiming, TH.kit_of_ve sv_BadTiming⟩
    · refine ⟨E_NoTick, X_NoTick.at', ⟨eg_E_NoTick, ek_E_NoTick, es_E_NoTick, ed_E_NoTick, ea_E_NoTick, hnO, htO, em_E_NoTick⟩, fun c hc => ?_⟩
      simp only [List.mem_cons, List.not_mem_nil, or_false] at hc
      rcases hc with rfl | rfl | rfl | rfl | rfl | rfl
      · rw [X_TollError.v]; exact ⟨PySem.W.exm_ref es_E_TollError ed_E_TollError ty_TollError ss_NoTick_TollError, TH.kit_of_sub ed_E_TollError ty_TollError ss_NoTick_TollError ss_NoTick_NoTick⟩
      · rw [X_NoNumber.v]; exact ⟨PySem.W.exm_ref es_E_NoNumber ed_E_NoNumber ty_NoNumber ss_NoTick_NoNumber, TH.kit_of_sub ed_E_NoNumber ty_NoNumber ss_NoTick_NoNumber ss_NoTick_NoTick⟩
      · rw [X_NoWay.v]; exact ⟨PySem.W.exm_ref es_E_NoWay ed_E_NoWay ty_NoWay ss_NoTick_NoWay, TH.kit_of_sub ed_E_NoWay ty_NoWay ss_NoTick_NoWay ss_NoTick_NoTick⟩
      · rw [X_BadTiming.v]; exact ⟨PySem.W.exm_ref es_E_BadTiming ed_E_BadTiming ty_BadTiming ss_NoTick_BadTiming, TH.kit_of_sub ed_E_BadTiming ty_BadTiming ss_NoTick_BadTiming ss_NoTick_NoTick⟩
      · rw [X_NoTick.v]; exact ⟨PySem.W.exm_ref es_E_NoTick ed_E_NoTick ty_NoTick ss_NoTick_NoTick, TH.kit_of_sub ed_E_NoTick ty_NoTick ss_NoTick_NoTick ss_NoTick_NoTick⟩
      · rw [V_ValueError]; exact ⟨TH.exm_of_ve svB sv_NoTick, TH.kit_of_ve sv_NoTick⟩
    )
  have NK_Timing : TH.NoKind K C_Timing := TH.noKind_of hd_C_Timing nk0_Timing nk1_Timing nk2_Timing nk3_Timing nk4_Timing nk5_Timing nk6_Timing nkt_Timing
  have NT_Timing := nk5_Timing
  have SU_BadTiming : TH.SupC l.prog K mg E_BadTiming := ⟨⟨⟨_, _, _, _, _, _, _, _, _, _, _, _, _, _, _, lo_E_BadTiming, rv_E_BadTiming⟩, xs_E_BadTiming, es_E_BadTiming, ty_BadTiming, xk_E_BadTiming⟩, ⟨fi_BadTiming, cda_BadTiming, cc_BadTiming, _, _, _, _, _, _, _, _, _, _, _, _, _, _, _, _, _, _, _, _, _, _, _, _, _, _, _, _, _, _, _, _, xi_E_BadTiming, xt_E_BadTiming, xf_E_BadTiming, xc_E_BadTiming, xo_E_BadTiming, xv_E_BadTiming, xw_E_BadTiming, xl_E_BadTiming, rfl, fun a b => rfl, fun L => ⟨_, rfl⟩⟩, xp_E_BadTiming, xopq, sv_BadTiming, xm_E_BadTiming, xn_E_BadTiming, PySem.W.mg_none_of X G b_super, xq_E_BadTiming⟩
  have FA_BadTiming : ∀ e D, PD.errSub e "BadTiming" = some true → TH.clsAt K (Str.ofString e) = some D → L2.XfC K D ∧ PySem.W.findIn K (.ref D) "part" = some none := fun e D h1 h2 => by
    obtain ⟨as, hm, hc⟩ := TH.subT_true h1
    simp only [List.mem_cons, List.not_mem_nil, or_false, Prod.mk.injEq] at hm
    rcases hm with ⟨rfl, rfl⟩ | ⟨rfl, rfl⟩ | ⟨rfl, rfl⟩ | ⟨rfl, rfl⟩ | ⟨rfl, rfl⟩
    · exact absurd hc (by decide)
    · exact absurd hc (by decide)
    · exact absurd hc (by decide)
    · have z := X_BadTiming.at'.symm.trans h2
      cases z
      exact ⟨⟨eg_E_BadTiming, ek_E_BadTiming, es_E_BadTiming, ed_E_BadTiming⟩, xn_E_BadTiming⟩
    · exact absurd hc (by decide)
  have F0 : C8.Def K mg "_law_draw" s_law_draw f0 _ := ⟨⟨_, _, _, _, _, _, _, _, _, _, rfl, l0, c0⟩, PySem.W.mg_of X G a0, k0⟩
  have B0 : Binds K _ ["hand", "many"] [] := F0.fn.binds rfl fun _ _ _ _ _ _ us hl => match us, hl with | [_, _], _ => rfl
  have F1 : C8.Def K mg "_law_deep" s_law_deep f1 _ := ⟨⟨_, _, _, _, _, _, _, _, _, _, rfl, l1, c1⟩, PySem.W.mg_of X G a1, k1⟩
  have B1 : Binds K _ ["hand"] [] := F1.fn.binds rfl fun _ _ _ _ _ _ us hl => match us, hl with | [_], _ => rfl
  have F2 : C8.Def K mg "_law_bent" s_law_bent f2 _ := ⟨⟨_, _, _, _, _, _, _, _, _, _, rfl, l2, c2⟩, PySem.W.mg_of X G a2, k2⟩
  have B2 : Binds K _ ["hand", "some"] [] := F2.fn.binds rfl fun _ _ _ _ _ _ us hl => match us, hl with | [_, _], _ => rfl
  have F3 : C8.Def K mg "_law_carried" s_law_carried f3 _ := ⟨⟨_, _, _, _, _, _, _, _, _, _, rfl, l3, c3⟩, PySem.W.mg_of X G a3, k3⟩
  have B3 : Binds K _ ["opening", "tick"] [] := F3.fn.binds rfl fun _ _ _ _ _ _ us hl => match us, hl with | [_, _], _ => rfl
  have F4 : C8.Def K mg "_law_whole" s_law_whole f4 _ := ⟨⟨_, _, _, _, _, _, _, _, _, _, rfl, l4, c4⟩, PySem.W.mg_of X G a4, k4⟩
  have B4 : Binds K _ ["thing", "least", "most"] [] := F4.fn.binds rfl fun _ _ _ _ _ _ us hl => match us, hl with | [_, _, _], _ => rfl
  have F5 : C8.Def K mg "_law_is_opening" s_law_is_opening f5 _ := ⟨⟨_, _, _, _, _, _, _, _, _, _, rfl, l5, c5⟩, PySem.W.mg_of X G a5, k5⟩
  have B5 : Binds K _ ["thing"] [] := F5.fn.binds rfl fun _ _ _ _ _ _ us hl => match us, hl with | [_], _ => rfl
  have F6 : C8.Def K mg "_law_due" s_law_due f6 _ := ⟨⟨_, _, _, _, _, _, _, _, _, _, rfl, l6, c6⟩, PySem.W.mg_of X G a6, k6⟩
  have B6 : Binds K _ ["right", "left"] [] := F6.fn.binds rfl fun _ _ _ _ _ _ us hl => match us, hl with | [_, _], _ => rfl
  have F7 : C8.Def K mg "_law_is" s_law_is f7 _ := ⟨⟨_, _, _, _, _, _, _, _, _, _, rfl, l7, c7⟩, PySem.W.mg_of X G a7, k7⟩
  have B7 : Binds K _ ["told", "due"] [] := F7.fn.binds rfl fun _ _ _ _ _ _ us hl => match us, hl with | [_, _], _ => rfl
  have F8 : C8.Def K mg "carried_by" s_carried_by f8 _ := ⟨⟨_, _, _, _, _, _, _, _, _, _, rfl, l8, c8⟩, PySem.W.mg_of X G a8, k8⟩
  have B8 : Binds K _ ["opening", "tick"] [] := F8.fn.binds rfl fun _ _ _ _ _ _ us hl => match us, hl with | [_, _], _ => rfl
  have F9 : C8.Def K mg "is_integer" s_is_integer f9 _ := ⟨⟨_, _, _, _, _, _, _, _, _, _, rfl, l9, c9⟩, PySem.W.mg_of X G a9, k9⟩
  have B9 : Binds K _ ["thing"] [] := F9.fn.binds rfl fun _ _ _ _ _ _ us hl => match us, hl with | [_], _ => rfl
  have F10 : C8.Def K mg "is_within" s_is_within f10 _ := ⟨⟨_, _, _, _, _, _, _, _, _, _, rfl, l10, c10⟩, PySem.W.mg_of X G a10, k10⟩
  have B10 : Binds K _ ["thing", "least", "most"] [] := F10.fn.binds rfl fun _ _ _ _ _ _ us hl => match us, hl with | [_, _, _], _ => rfl
  have F11 : C8.Def K mg "check_tick" s_check_tick f11 _ := ⟨⟨_, _, _, _, _, _, _, _, _, _, rfl, l11, c11⟩, PySem.W.mg_of X G a11, k11⟩
  have B11 : Binds K _ ["thing", "most"] [] := F11.fn.binds rfl fun _ _ _ _ _ _ us hl => match us, hl with | [_, _], _ => rfl
  have F12 : C8.Def K mg "is_pair" s_is_pair f12 _ := ⟨⟨_, _, _, _, _, _, _, _, _, _, rfl, l12, c12⟩, PySem.W.mg_of X G a12, k12⟩
  have B12 : Binds K _ ["thing"] [] := F12.fn.binds rfl fun _ _ _ _ _ _ us hl => match us, hl with | [_], _ => rfl
  have F13 : C8.Def K mg "check_way" s_check_way f13 _ := ⟨⟨_, _, _, _, _, _, _, _, _, _, rfl, l13, c13⟩, PySem.W.mg_of X G a13, k13⟩
  have B13 : Binds K _ ["timing", "way"] [] := F13.fn.binds rfl fun _ _ _ _ _ _ us hl => match us, hl with | [_, _], _ => rfl
  have F14 : C8.Def K mg "opening_of" s_opening_of f14 _ := ⟨⟨_, _, _, _, _, _, _, _, _, _, rfl, l14, c14⟩, PySem.W.mg_of X G a14, k14⟩
  have B14 : Binds K _ ["timing", "way"] [] := F14.fn.binds rfl fun _ _ _ _ _ _ us hl => match us, hl with | [_, _], _ => rfl
  have F15 : C8.Def K mg "carried" s_carried f15 _ := ⟨⟨_, _, _, _, _, _, _, _, _, _, rfl, l15, c15⟩, PySem.W.mg_of X G a15, k15⟩
  have B15 : Binds K _ ["timing", "way", "tick"] [] := F15.fn.binds rfl fun _ _ _ _ _ _ us hl => match us, hl with | [_, _, _], _ => rfl
  have F16 : C8.Def K mg "check_number" s_check_number f16 _ := ⟨⟨_, _, _, _, _, _, _, _, _, _, rfl, l16, c16⟩, PySem.W.mg_of X G a16, k16⟩
  have B16 : Binds K _ ["thing", "least", "most"] [] := F16.fn.binds rfl fun _ _ _ _ _ _ us hl => match us, hl with | [_, _, _], _ => rfl
  have F17 : C8.Def K mg "is_numbers" s_is_numbers f17 _ := ⟨⟨_, _, _, _, _, _, _, _, _, _, rfl, l17, c17⟩, PySem.W.mg_of X G a17, k17⟩
  have B17 : Binds K _ ["thing"] [] := F17.fn.binds rfl fun _ _ _ _ _ _ us hl => match us, hl with | [_], _ => rfl
  have F18 : C8.Def K mg "is_opening" s_is_opening f18 _ := ⟨⟨_, _, _, _, _, _, _, _, _, _, rfl, l18, c18⟩, PySem.W.mg_of X G a18, k18⟩
  have B18 : Binds K _ ["thing"] [] := F18.fn.binds rfl fun _ _ _ _ _ _ us hl => match us, hl with | [_], _ => rfl
  have F19 : C8.Def K mg "are_openings" s_are_openings f19 _ := ⟨⟨_, _, _, _, _, _, _, _, _, _, rfl, l19, c19⟩, PySem.W.mg_of X G a19, k19⟩
  have B19 : Binds K _ ["thing"] [] := F19.fn.binds rfl fun _ _ _ _ _ _ us hl => match us, hl with | [_], _ => rfl
  have F20 : C8.Def K mg "evenly" s_evenly f20 _ := ⟨⟨_, _, _, _, _, _, _, _, _, _, rfl, l20, c20⟩, PySem.W.mg_of X G a20, k20⟩
  have B20 : Binds K _ ["ties", "breadth"] [] := F20.fn.binds rfl fun _ _ _ _ _ _ us hl => match us, hl with | [_, _], _ => rfl
  have F21 : C8.Def K mg "even_timing" s_even_timing f21 _ := ⟨⟨_, _, _, _, _, _, _, _, _, _, rfl, l21, c21⟩, PySem.W.mg_of X G a21, k21⟩
  have B21 : Binds K _ ["ties", "breadth"] [] := F21.fn.binds rfl fun _ _ _ _ _ _ us hl => match us, hl with | [_, _], _ => rfl
  have F22 : C8.Def K mg "places_in" s_places_in f22 _ := ⟨⟨_, _, _, _, _, _, _, _, _, _, rfl, l22, c22⟩, PySem.W.mg_of X G a22, k22⟩
  have B22 : Binds K _ ["opening", "tick"] [] := F22.fn.binds rfl fun _ _ _ _ _ _ us hl => match us, hl with | [_, _], _ => rfl
  have F23 : C8.Def K mg "places" s_places f23 _ := ⟨⟨_, _, _, _, _, _, _, _, _, _, rfl, l23, c23⟩, PySem.W.mg_of X G a23, k23⟩
  have B23 : Binds K _ ["timing", "way", "tick"] [] := F23.fn.binds rfl fun _ _ _ _ _ _ us hl => match us, hl with | [_, _, _], _ => rfl
  have F24 : C8.Def K mg "_law_even_right" s_law_even_right f24 _ := ⟨⟨_, _, _, _, _, _, _, _, _, _, rfl, l24, c24⟩, PySem.W.mg_of X G a24, k24⟩
  have B24 : Binds K _ ["hand"] [] := F24.fn.binds rfl fun _ _ _ _ _ _ us hl => match us, hl with | [_], _ => rfl
  have F25 : C8.Def K mg "_law_hand" s_law_hand f25 _ := ⟨⟨_, _, _, _, _, _, _, _, _, _, rfl, l25, c25⟩, PySem.W.mg_of X G a25, k25⟩
  have B25 : Binds K _ ["script"] [] := F25.fn.binds rfl fun _ _ _ _ _ _ us hl => match us, hl with | [_], _ => rfl
  have F26 : C8.Def K mg "_law_places" s_law_places f26 _ := ⟨⟨_, _, _, _, _, _, _, _, _, _, rfl, l26, c26⟩, PySem.W.mg_of X G a26, k26⟩
  have B26 : Binds K _ ["opening", "tick"] [] := F26.fn.binds rfl fun _ _ _ _ _ _ us hl => match us, hl with | [_, _], _ => rfl
  have F27 : C8.Def K mg "_law_word" s_law_word f27 _ := ⟨⟨_, _, _, _, _, _, _, _, _, _, rfl, l27, c27⟩, PySem.W.mg_of X G a27, k27⟩
  have B27 : Binds K _ ["which", "timing", "way", "tick"] [] := F27.fn.binds rfl fun _ _ _ _ _ _ us hl => match us, hl with | [_, _, _, _], _ => rfl
  have F28 : C8.Def K mg "_law_refused_right" s_law_refused_right f28 _ := ⟨⟨_, _, _, _, _, _, _, _, _, _, rfl, l28, c28⟩, PySem.W.mg_of X G a28, k28⟩
  have B28 : Binds K _ ["hand", "timing", "ties"] [] := F28.fn.binds rfl fun _ _ _ _ _ _ us hl => match us, hl with | [_, _, _], _ => rfl
  have F29 : C8.Def K mg "_law_opening" s_law_opening f29 _ := ⟨⟨_, _, _, _, _, _, _, _, _, _, rfl, l29, c29⟩, PySem.W.mg_of X G a29, k29⟩
  have B29 : Binds K _ ["hand"] [] := F29.fn.binds rfl fun _ _ _ _ _ _ us hl => match us, hl with | [_], _ => rfl
  have F30 : C8.Def K mg "_law_timing_parts" s_law_timing_parts f30 _ := ⟨⟨_, _, _, _, _, _, _, _, _, _, rfl, l30, c30⟩, PySem.W.mg_of X G a30, k30⟩
  have B30 : Binds K _ ["hand", "ties"] [] := F30.fn.binds rfl fun _ _ _ _ _ _ us hl => match us, hl with | [_, _], _ => rfl
  have F31 : C8.Def K mg "_law_tried" s_law_tried f31 _ := ⟨⟨_, _, _, _, _, _, _, _, _, _, rfl, l31, c31⟩, PySem.W.mg_of X G a31, k31⟩
  have B31 : Binds K _ ["right", "left"] [] := F31.fn.binds rfl fun _ _ _ _ _ _ us hl => match us, hl with | [_, _], _ => rfl
  have F32 : C8.Def K mg "law" s_law fa _ := ⟨⟨_, _, _, _, _, _, _, _, _, _, rfl, l32, c32⟩, PySem.W.mg_of X G a32, k32⟩
  have B32 : Binds K _ ["script"] [] := F32.fn.binds rfl fun _ _ _ _ _ _ us hl => match us, hl with | [_], _ => rfl
  have F33 : C8.Fun K "__eq__" "Timing.__eq__" s_Timing_eq f33 _ := ⟨_, _, _, _, _, _, _, _, _, _, rfl, l33, c33⟩
  have B33 : Binds K _ ["self", "other"] [] := F33.binds rfl fun _ _ _ _ _ _ us hl => match us, hl with | [_, _], _ => rfl
  have F34 : C8.Fun K "__init__" "Timing.__init__" s_Timing_init f34 _ := ⟨_, _, _, _, _, _, _, _, _, _, rfl, l34, c34⟩
  have B34 : Binds K _ ["self", "right", "left"] [] := F34.binds rfl fun _ _ _ _ _ _ us hl => match us, hl with | [_, _, _], _ => rfl
  refine ⟨PySem.W.fnOf "law" "law" (C8.fnArgs s_law) (C8.fnBody s_law) (C8.fnScope s_law) .none kV32 dc32 pm32 an32 cd32 ct32, fun s v => .of_eq rfl, fun base KX _ => ?_⟩
  have m_Timing_eq := TH.met_by (q_Timing_eq (P := l.prog) (w := w) (base := base) (F := F33) (b := B33) (T := T) (CL_Timing := CL_Timing) (G_Timing := G_Timing) (NK_Timing := NK_Timing) (me := ⟨a33, i33, k33⟩)) fun _ _ h => PD.p_Timing_eq_ok h
  have m_law_draw := d_law_draw (ok_law_draw (P := l.prog) (w := w) (base := base) F0 B0 T)
  have m_law_deep := TH.cal_by (q_law_deep (P := l.prog) (w := w) (base := base) (F := F1) (b := B1) (T := T) (c_law_draw := m_law_draw)) fun _ _ h => PD.p_law_deep_ok h
  have m_law_bent := TH.cal_by (q_law_bent (P := l.prog) (w := w) (base := base) (F := F2) (b := B2) (T := T) (c_law_deep := m_law_deep) (c_law_draw := m_law_draw)) fun _ _ h => PD.p_law_bent_ok h
  have m_law_carried := TH.cal_by (q_law_carried (P := l.prog) (w := w) (base := base) (F := F3) (b := B3) (T := T)) fun _ _ h => PD.p_law_carried_ok h
  have m_law_whole := TH.cal_by (q_law_whole (P := l.prog) (w := w) (base := base) (F := F4) (b := B4) (T := T)) fun _ _ h => PD.p_law_whole_ok h
  have m_law_is_opening := TH.cal_by (q_law_is_opening (P := l.prog) (w := w) (base := base) (F := F5) (b := B5) (T := T) (c_law_whole := m_law_whole)) fun _ _ h => PD.p_law_is_opening_ok h
  have m_law_due := TH.cal_by (q_law_due (P := l.prog) (w := w) (base := base) (F := F6) (b := B6) (T := T) (c_law_is_opening := m_law_is_opening)) fun _ _ h => PD.p_law_due_ok h
  have r_law_is : ∀ n, C8.Cal l.prog w K mg base (3 + n) "_law_is" (TH.spD0 K (PD.ml_law_is n)) [] := fun n => by
    induction n with
    | zero => exact TH.cal_nil F7 B7 sc_law_is
    | succ n ih => exact q_law_is (P := l.prog) (w := w) (base := base) (F := F7) (b := B7) (T := T) (c_law_is := ih)
  have m_law_is := TH.cal_by (r_law_is 64) fun _ _ h => PD.p_law_is_ok h
  have m_carried_by := TH.cal_by (q_carried_by (P := l.prog) (w := w) (base := base) (F := F8) (b := B8) (T := T)) fun _ _ h => PD.p_carried_by_ok h
  have m_is_integer := TH.cal_by (q_is_integer (P := l.prog) (w := w) (base := base) (F := F9) (b := B9) (T := T)) fun _ _ h => PD.p_is_integer_ok h
  have m_is_within := TH.cal_by (q_is_within (P := l.prog) (w := w) (base := base) (F := F10) (b := B10) (c_is_integer := m_is_integer)) fun _ _ h => PD.p_is_within_ok h
  have m_check_tick := TH.calX_by (q_check_tick (P := l.prog) (w := w) (base := base) (F := F11) (b := B11) (X_NoTick := X_NoTick) (R_NoTick := R_NoTick) (c_is_within := m_is_within)) fun _ _ _ h => PD.p_check_tick_ok h
  have m_is_pair := TH.cal_by (q_is_pair (P := l.prog) (w := w) (base := base) (F := F12) (b := B12) (T := T)) fun _ _ h => PD.p_is_pair_ok h
  have m_check_way := TH.calX_by (q_check_way (P := l.prog) (w := w) (base := base) (F := F13) (b := B13) (T := T) (CL_Timing := CL_Timing) (X_NoWay := X_NoWay) (R_NoWay := R_NoWay) (c_is_pair := m_is_pair) (c_is_within := m_is_within)) fun _ _ _ h => PD.p_check_way_ok h
  have m_opening_of := TH.cal_by (q_opening_of (P := l.prog) (w := w) (base := base) (F := F14) (b := B14) (CL_Timing := CL_Timing)) fun _ _ h => PD.p_opening_of_ok h
  have m_carried := TH.calX_by (q_carried (P := l.prog) (w := w) (base := base) (F := F15) (b := B15) (T := T) (c_carried_by := m_carried_by) (c_check_tick := m_check_tick) (c_check_way := m_check_way) (c_opening_of := m_opening_of)) fun _ _ _ h => PD.p_carried_ok h
  have m_check_number := TH.calX_by (q_check_number (P := l.prog) (w := w) (base := base) (F := F16) (b := B16) (X_NoNumber := X_NoNumber) (R_NoNumber := R_NoNumber) (c_is_within := m_is_within)) fun _ _ _ h => PD.p_check_number_ok h
  have m_is_numbers := TH.cal_by (q_is_numbers (P := l.prog) (w := w) (base := base) (F := F17) (b := B17) (T := T) (c_is_within := m_is_within)) fun _ _ h => PD.p_is_numbers_ok h
  have m_is_opening := TH.cal_by (q_is_opening (P := l.prog) (w := w) (base := base) (F := F18) (b := B18) (T := T) (c_is_numbers := m_is_numbers) (c_is_pair := m_is_pair)) fun _ _ h => PD.p_is_opening_ok h
  have m_are_openings := TH.cal_by (q_are_openings (P := l.prog) (w := w) (base := base) (F := F19) (b := B19) (T := T) (c_is_opening := m_is_opening)) fun _ _ h => PD.p_are_openings_ok h
  have m_Timing_init := TH.makX_by (q_Timing_init (P := l.prog) (w := w) (base := base) (F := F34) (b := B34) (T := T) (CL_Timing := CL_Timing) (X_BadTiming := X_BadTiming) (SU_BadTiming := SU_BadTiming) (c_are_openings := m_are_openings) (M := ⟨mk_C_Timing, a34, i34, kc_C_Timing⟩) (hm := G_Timing)) fun _ _ _ h => PD.p_Timing_init_ok h
  have m_evenly := TH.calX_by (q_evenly (P := l.prog) (w := w) (base := base) (F := F20) (b := B20) (CL_Timing := CL_Timing) (c_Timing := m_Timing_init)) fun _ _ _ h => PD.p_evenly_ok h
  have m_even_timing := TH.calX_by (q_even_timing (P := l.prog) (w := w) (base := base) (F := F21) (b := B21) (T := T) (c_check_number := m_check_number) (c_evenly := m_evenly)) fun _ _ _ h => PD.p_even_timing_ok h
  have m_places_in := TH.cal_by (q_places_in (P := l.prog) (w := w) (base := base) (F := F22) (b := B22) (T := T)) fun _ _ h => PD.p_places_in_ok h
  have m_places := TH.calX_by (q_places (P := l.prog) (w := w) (base := base) (F := F23) (b := B23) (T := T) (c_check_tick := m_check_tick) (c_check_way := m_check_way) (c_opening_of := m_opening_of) (c_places_in := m_places_in)) fun _ _ _ h => PD.p_places_ok h
  have m_law_even_right := TH.cal_by (q_law_even_right (P := l.prog) (w := w) (base := base) (F := F24) (b := B24) (T := T) (CL_Timing := CL_Timing) (G_Timing := G_Timing) (X_NoNumber := X_NoNumber) (X_TollError := X_TollError) (V_ValueError := V_ValueError) (EA := EA) (c_law_draw := m_law_draw) (c_law_is := m_law_is) (c_law_whole := m_law_whole) (c_carried := m_carried) (c_even_timing := m_even_timing) (c_places := m_places) (NK_Timing := NK_Timing)) fun _ _ h => PD.p_law_even_right_ok h
  have m_law_hand := d_law_hand (ok_law_hand (P := l.prog) (w := w) (base := base) F25 B25 T)
  have m_law_places := TH.cal_by (q_law_places (P := l.prog) (w := w) (base := base) (F := F26) (b := B26) (T := T)) fun _ _ h => PD.p_law_places_ok h
  have m_law_word := TH.cal_by (q_law_word (P := l.prog) (w := w) (base := base) (F := F27) (b := B27) (T := T) (X_NoTick := X_NoTick) (X_NoWay := X_NoWay) (X_TollError := X_TollError) (V_ValueError := V_ValueError) (EA := EA) (c_carried := m_carried) (c_places := m_places)) fun _ _ h => PD.p_law_word_ok h
  have m_law_refused_right := TH.cal_by (q_law_refused_right (P := l.prog) (w := w) (base := base) (F := F28) (b := B28) (T := T) (c_law_deep := m_law_deep) (c_law_draw := m_law_draw) (c_law_whole := m_law_whole) (c_law_word := m_law_word)) fun _ _ h => PD.p_law_refused_right_ok h
  have m_law_opening := TH.cal_by (q_law_opening (P := l.prog) (w := w) (base := base) (F := F29) (b := B29) (T := T) (c_law_draw := m_law_draw)) fun _ _ h => PD.p_law_opening_ok h
  have m_law_timing_parts := TH.cal_by (q_law_timing_parts (P := l.prog) (w := w) (base := base) (F := F30) (b := B30) (T := T) (c_law_opening := m_law_opening)) fun _ _ h => PD.p_law_timing_parts_ok h
  have m_law_tried := TH.cal_by (q_law_tried (P := l.prog) (w := w) (base := base) (F := F31) (b := B31) (T := T) (CL_Timing := CL_Timing) (X_BadTiming := X_BadTiming) (X_TollError := X_TollError) (EA := EA) (FA_BadTiming := FA_BadTiming) (c_Timing := m_Timing_init)) fun _ _ h => PD.p_law_tried_ok h
  exact TH.fn_law (q_law (P := l.prog) (w := w) (base := base) (F := F32) (b := B32) (T := T) (CL_Timing := CL_Timing) (c_Timing_eq := m_Timing_eq) (c_law_bent := m_law_bent) (c_law_carried := m_law_carried) (c_law_draw := m_law_draw) (c_law_due := m_law_due) (c_law_even_right := m_law_even_right) (c_law_hand := m_law_hand) (c_law_is := m_law_is) (c_law_places := m_law_places) (c_law_refused_right := m_law_refused_right) (c_law_timing_parts := m_law_timing_parts) (c_law_tried := m_law_tried) (c_carried := m_carried) (c_places := m_places) (c_Timing := m_Timing_init) (NT_Timing := NT_Timing)) fun ns kk hk => PD.p_law_ok ⟨ns, rfl, hk⟩
end TK

open PySem PySem.W PyProof.Rows in
set_option maxRecDepth 100000 in
set_option maxHeartbeats 0 in
theorem PySem.Challenge.cw_tollhall_k24_whole_openings_tick_by_tick_holds : PySem.Challenge.rw_tollhall_k24_whole_openings_tick_by_tick.Holds := by
  w_on; o_law; k_head; (case hw => w_witness2)
  k_fill
  refine L2.walk_of (l := PySem.Challenge.rw_tollhall_k24_whole_openings_tick_by_tick) (n := 63) (k := 69) (x := "script") (CX := fun _ => C8.CX0) (sp := fun w => TH.spLaw _) rfl (by decide) rfl ⟨rfl, by decide, by decide⟩ (fun w h Y => PySem.W.kIn_of Y) ?F (fun _ _ a ns hl _ hS => ⟨a, ns, rfl, hS, Nat.le_trans hl (by decide), fun _ => rfl⟩) fun _ _ _ _ _ z => z
  case F =>
    intro w mg fa h KX G hmg
    refine' TK.all_mk KX G hmg ?a0 ?l0 ?c0 ?k0 ?a1 ?l1 ?c1 ?k1 ?a2 ?l2 ?c2 ?k2 ?a3 ?l3 ?c3 ?k3 ?a4 ?l4 ?c4 ?k4 ?a5 ?l5 ?c5 ?k5 ?a6 ?l6 ?c6 ?k6 ?a7 ?l7 ?c7 ?k7 ?a8 ?l8 ?c8 ?k8 ?a9 ?l9 ?c9 ?k9 ?a10 ?l10 ?c10 ?k10 ?a11 ?l11 ?c11 ?k11 ?a12 ?l12 ?c12 ?k12 ?a13 ?l13 ?c13 ?k13 ?a14 ?l14 ?c14 ?k14 ?a15 ?l15 ?c15 ?k15 ?a16 ?l16 ?c16 ?k16 ?a17 ?l17 ?c17 ?k17 ?a18 ?l18 ?c18 ?k18 ?a19 ?l19 ?c19 ?k19 ?a20 ?l20 ?c20 ?k20 ?a21 ?l21 ?c21 ?k21 ?a22 ?l22 ?c22 ?k22 ?a23 ?l23 ?c23 ?k23 ?a24 ?l24 ?c24 ?k24 ?a25 ?l25 ?c25 ?k25 ?a26 ?l26 ?c26 ?k26 ?a27 ?l27 ?c27 ?k27 ?a28 ?l28 ?c28 ?k28 ?a29 ?l29 ?c29 ?k29 ?a30 ?l30 ?c30 ?k30 ?a31 ?l31 ?c31 ?k31 ?a32 ?l32 ?c32 ?k32 ?a_C_Timing ?a_E_TollError ?a_E_NoNumber ?a_E_NoWay ?a_E_BadTiming ?a_E_NoTick ?a33 ?i33 ?l33 ?c33 ?k33 ?a34 ?i34 ?l34 ?c34 ?k34 ?pg_C_Timing ?hd_C_Timing ?po_C_Timing ?sa_C_Timing ?mk_C_Timing ?kc_C_Timing ?n_C_Timing_right ?n_C_Timing_left ?ha_C_Timing ?hm_C_Timing ?hnO ?htO ?nk0_Timing ?nk1_Timing ?nk2_Timing ?nk3_Timing ?nk4_Timing ?nk5_Timing ?nk6_Timing ?nkt_Timing ?x_E_NoNumber ?kp_E_NoNumber ?b0_E_NoNumber ?t0_E_NoNumber ?x_E_NoTick ?kp_E_NoTick ?b0_E_NoTick ?t0_E_NoTick ?x_E_NoWay ?kp_E_NoWay ?b0_E_NoWay ?t0_E_NoWay ?eg_E_TollError ?ek_E_TollError ?es_E_TollError ?ed_E_TollError ?ea_E_TollError ?em_E_TollError ?ss_TollError_TollError ?ss_TollError_NoNumber ?ss_TollError_NoWay ?ss_TollError_BadTiming ?ss_TollError_NoTick ?sv_TollError ?ty_TollError ?eg_E_NoNumber ?ek_E_NoNumber ?es_E_NoNumber ?ed_E_NoNumber ?ea_E_NoNumber ?em_E_NoNumber ?ss_NoNumber_TollError ?ss_NoNumber_NoNumber ?ss_NoNumber_NoWay ?ss_NoNumber_BadTiming ?ss_NoNumber_NoTick ?sv_NoNumber ?ty_NoNumber ?eg_E_NoWay ?ek_E_NoWay ?es_E_NoWay ?ed_E_NoWay ?ea_E_NoWay ?em_E_NoWay ?ss_NoWay_TollError ?ss_NoWay_NoNumber ?ss_NoWay_NoWay ?ss_NoWay_BadTiming ?ss_NoWay_NoTick ?sv_NoWay ?ty_NoWay ?eg_E_BadTiming ?ek_E_BadTiming ?es_E_BadTiming ?ed_E_BadTiming ?ea_E_BadTiming ?em_E_BadTiming ?ss_BadTiming_TollError ?ss_BadTiming_NoNumber ?ss_BadTiming_NoWay ?ss_BadTiming_BadTiming ?ss_BadTiming_NoTick ?sv_BadTiming ?ty_BadTiming ?eg_E_NoTick ?ek_E_NoTick ?es_E_NoTick ?ed_E_NoTick ?ea_E_NoTick ?em_E_NoTick ?ss_NoTick_TollError ?ss_NoTick_NoNumber ?ss_NoTick_NoWay ?ss_NoTick_BadTiming ?ss_NoTick_NoTick ?sv_NoTick ?ty_NoTick ?lo_E_BadTiming ?rv_E_BadTiming ?xs_E_BadTiming ?xk_E_BadTiming ?xi_E_BadTiming ?xt_E_BadTiming ?xf_E_BadTiming ?xc_E_BadTiming ?xo_E_BadTiming ?xv_E_BadTiming ?xw_E_BadTiming ?xl_E_BadTiming ?xp_E_BadTiming ?xm_E_BadTiming ?xn_E_BadTiming ?xq_E_BadTiming ?xopq ?svB ?b_ValueError ?b_abs ?b_all ?b_bool ?b_divmod ?b_int ?b_isinstance ?b_len ?b_list ?b_range ?b_sum ?b_super ?b_tuple ?b_zip ?g_MOST_LISTED ?g_MOST_PLACES ?g_MOST_TICK ?g_MOST_TIES
    (case a0 => k_is)
    (case l0 => k_is)
    (case c0 => k_is)
    (case k0 => k_is)
    (case a1 => k_is)
    (case l1 => k_is)
    (case c1 => k_is)
    (case k1 => k_is)
    (case a2 => k_is)
    (case l2 => k_is)
    (case c2 => k_is)
    (case k2 => k_is)
    (case a3 => k_is)
    (case l3 => k_is)
    (case c3 => k_is)
    (case k3 => k_is)
    (case a4 => k_is)
    (case l4 => k_is)
    (case c4 => k_is)
    (case k4 => k_is)
    (case a5 => k_is)
    (case l5 => k_is)
    (case c5 => k_is)
    (case k5 => k_is)
    (case a6 => k_is)
    (case l6 => k_is)
    (case c6 => k_is)
    (case k6 => k_is)
    (case a7 => k_is)
    (case l7 => k_is)
    (case c7 => k_is)
    (case k7 => k_is)
    (case a8 => k_is)
    (case l8 => k_is)
    (case c8 => k_is)
    (case k8 => k_is)
    (case a9 => k_is)
    (case l9 => k_is)
    (case c9 => k_is)
    (case k9 => k_is)
    (case a10 => k_is)
    (case l10 => k_is)
    (case c10 => k_is)
    (case k10 => k_is)
    (case a11 => k_is)
    (case l11 => k_is)
    (case c11 => k_is)
    (case k11 => k_is)
    (case a12 => k_is)
    (case l12 => k_is)
    (case c12 => k_is)
    (case k12 => k_is)
    (case a13 => k_is)
    (case l13 => k_is)
    (case c13 => k_is)
    (case k13 => k_is)
    (case a14 => k_is)
    (case l14 => k_is)
    (case c14 => k_is)
    (case k14 => k_is)
    (case a15 => k_is)
    (case l15 => k_is)
    (case c15 => k_is)
    (case k15 => k_is)
    (case a16 => k_is)
    (case l16 => k_is)
    (case c16 => k_is)
    (case k16 => k_is)
    (case a17 => k_is)
    (case l17 => k_is)
    (case c17 => k_is)
    (case k17 => k_is)
    (case a18 => k_is)
    (case l18 => k_is)
    (case c18 => k_is)
    (case k18 => k_is)
    (case a19 => k_is)
    (case l19 => k_is)
    (case c19 => k_is)
    (case k19 => k_is)
    (case a20 => k_is)
    (case l20 => k_is)
    (case c20 => k_is)
    (case k20 => k_is)
    (case a21 => k_is)
    (case l21 => k_is)
    (case c21 => k_is)
    (case k21 => k_is)
    (case a22 => k_is)
    (case l22 => k_is)
    (case c22 => k_is)
    (case k22 => k_is)
    (case a23 => k_is)
    (case l23 => k_is)
    (case c23 => k_is)
    (case k23 => k_is)
    (case a24 => k_is)
    (case l24 => k_is)
    (case c24 => k_is)
    (case k24 => k_is)
    (case a25 => k_is)
    (case l25 => k_is)
    (case c25 => k_is)
    (case k25 => k_is)
    (case a26 => k_is)
    (case l26 => k_is)
    (case c26 => k_is)
    (case k26 => k_is)
    (case a27 => k_is)
    (case l27 => k_is)
    (case c27 => k_is)
    (case k27 => k_is)
    (case a28 => k_is)
    (case l28 => k_is)
    (case c28 => k_is)
    (case k28 => k_is)
    (case a29 => k_is)
    (case l29 => k_is)
    (case c29 => k_is)
    (case k29 => k_is)
    (case a30 => k_is)
    (case l30 => k_is)
    (case c30 => k_is)
    (case k30 => k_is)
    (case a31 => k_is)
    (case l31 => k_is)
    (case c31 => k_is)
    (case k31 => k_is)
    (case a32 => k_is)
    (case l32 => k_is)
    (case c32 => k_is)
    (case k32 => k_is)
    (case a_C_Timing => k_is)
    (case a_E_TollError => k_is)
    (case a_E_NoNumber => k_is)
    (case a_E_NoWay => k_is)
    (case a_E_BadTiming => k_is)
    (case a_E_NoTick => k_is)
    (case a33 => k_is)
    (case i33 => k_is)
    (case l33 => k_is)
    (case c33 => k_is)
    (case k33 => k_is)
    (case a34 => k_is)
    (case i34 => k_is)
    (case l34 => k_is)
    (case c34 => k_is)
    (case k34 => k_is)
    (case pg_C_Timing => k_is)
    (case hd_C_Timing => k_is)
    (case po_C_Timing => k_is)
    (case sa_C_Timing => k_is)
    (case mk_C_Timing => k_is)
    (case kc_C_Timing => k_is)
    (case n_C_Timing_right => k_is)
    (case n_C_Timing_left => k_is)
    (case ha_C_Timing => k_is)
    (case hm_C_Timing => k_is)
    (case hnO => k_is)
    (case htO => k_is)
    (case nk0_Timing => k_is)
    (case nk1_Timing => k_is)
    (case nk2_Timing => k_is)
    (case nk3_Timing => k_is)
    (case nk4_Timing => k_is)
    (case nk5_Timing => k_is)
    (case nk6_Timing => k_is)
    (case nkt_Timing => k_is)
    (case x_E_NoNumber => k_exc)
    (case kp_E_NoNumber => k_is)
    (case b0_E_NoNumber => k_is)
    (case t0_E_NoNumber => k_is)
    (case x_E_NoTick => k_exc)
    (case kp_E_NoTick => k_is)
    (case b0_E_NoTick => k_is)
    (case t0_E_NoTick => k_is)
    (case x_E_NoWay => k_exc)
    (case kp_E_NoWay => k_is)
    (case b0_E_NoWay => k_is)
    (case t0_E_NoWay => k_is)
    (case eg_E_TollError => k_is)
    (case ek_E_TollError => k_is)
    (case es_E_TollError => k_is)
    (case ed_E_TollError => k_is)
    (case ea_E_TollError => k_is)
    (case em_E_TollError => k_is)
    (case ss_TollError_TollError => k_is)
    (case ss_TollError_NoNumber => k_is)
    (case ss_TollError_NoWay => k_is)
    (case ss_TollError_BadTiming => k_is)
    (case ss_TollError_NoTick => k_is)
    (case sv_TollError => k_is)
    (case ty_TollError => k_is)
    (case eg_E_NoNumber => k_is)
    (case ek_E_NoNumber => k_is)
    (case es_E_NoNumber => k_is)
    (case ed_E_NoNumber => k_is)
    (case ea_E_NoNumber => k_is)
    (case em_E_NoNumber => k_is)
    (case ss_NoNumber_TollError => k_is)
    (case ss_NoNumber_NoNumber => k_is)
    (case ss_NoNumber_NoWay => k_is)
    (case ss_NoNumber_BadTiming => k_is)
    (case ss_NoNumber_NoTick => k_is)
    (case sv_NoNumber => k_is)
    (case ty_NoNumber => k_is)
    (case eg_E_NoWay => k_is)
    (case ek_E_NoWay => k_is)
    (case es_E_NoWay => k_is)
    (case ed_E_NoWay => k_is)
    (case ea_E_NoWay => k_is)
    (case em_E_NoWay => k_is)
    (case ss_NoWay_TollError => k_is)
    (case ss_NoWay_NoNumber => k_is)
    (case ss_NoWay_NoWay => k_is)
    (case ss_NoWay_BadTiming => k_is)
    (case ss_NoWay_NoTick => k_is)
    (case sv_NoWay => k_is)
    (case ty_NoWay => k_is)
    (case eg_E_BadTiming => k_is)
    (case ek_E_BadTiming => k_is)
    (case es_E_BadTiming => k_is)
    (case ed_E_BadTiming => k_is)
    (case ea_E_BadTiming => k_is)
    (case em_E_BadTiming => k_is)
    (case ss_BadTiming_TollError => k_is)
    (case ss_BadTiming_NoNumber => k_is)
    (case ss_BadTiming_NoWay => k_is)
    (case ss_BadTiming_BadTiming => k_is)
    (case ss_BadTiming_NoTick => k_is)
    (case sv_BadTiming => k_is)
    (case ty_BadTiming => k_is)
    (case eg_E_NoTick => k_is)
    (case ek_E_NoTick => k_is)
    (case es_E_NoTick => k_is)
    (case ed_E_NoTick => k_is)
    (case ea_E_NoTick => k_is)
    (case em_E_NoTick => k_is)
    (case ss_NoTick_TollError => k_is)
    (case ss_NoTick_NoNumber => k_is)
    (case ss_NoTick_NoWay => k_is)
    (case ss_NoTick_BadTiming => k_is)
    (case ss_NoTick_NoTick => k_is)
    (case sv_NoTick => k_is)
    (case ty_NoTick => k_is)
    (case lo_E_BadTiming => k_is)
    (case rv_E_BadTiming => rfl)
    (case xs_E_BadTiming => k_is)
    (case xk_E_BadTiming => k_is)
    (case xi_E_BadTiming => k_is)
    (case xt_E_BadTiming => k_is)
    (case xf_E_BadTiming => k_is)
    (case xc_E_BadTiming => k_is)
    (case xo_E_BadTiming => k_is)
    (case xv_E_BadTiming => rfl)
    (case xw_E_BadTiming => decide +kernel)
    (case xl_E_BadTiming => k_is)
    (case xp_E_BadTiming => ks_is)
    (case xm_E_BadTiming => k_is)
    (case xn_E_BadTiming => k_is)
    (case xq_E_BadTiming => decide +kernel)
    (case xopq => k_is)
    (case svB => k_is)
    (case b_ValueError => k_is)
    (case b_abs => k_is)
    (case b_all => k_is)
    (case b_bool => k_is)
    (case b_divmod => k_is)
    (case b_int => k_is)
    (case b_isinstance => k_is)
    (case b_len => k_is)
    (case b_list => k_is)
    (case b_range => k_is)
    (case b_sum => k_is)
    (case b_super => k_is)
    (case b_tuple => k_is)
    (case b_zip => k_is)
    (case g_MOST_LISTED => k_is)
    (case g_MOST_PLACES => k_is)
    (case g_MOST_TICK => k_is)
    (case g_MOST_TIES => k_is)

