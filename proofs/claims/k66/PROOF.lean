import PyProof.Rows.All
import Wide.All
import OpenK.AllK
import Wide.FinOn
import PySem.Challenge.RW_pearlchains_k66_main_best_from_above
import HandS.Call
import HandS.List
import HandS.TupMul
import HandS.TupAny
import HandS.Iter
import KE.GoesEnum
import HandS.Base
import HandS.Comp
import HandS.Flow
import HandS.Words
import HandS.Ends
import HandS.Zip
import HandS.Style
import HandS.Wide
import HandS.IsInst
import HandS.Deep
import HandS.Text
import KE.KTupSum
import HandS.Defaults
import HandS.HeadEnd
import HandS.HeadHook1
import HandS.HeadHook2
import HandS.Head0
import HandS.Head1
import HandS.Head2
import KE.DataFind
import HandS.Strs
import HandS.SortInts
import HandS.Conv
import KE.SortData
import KE.DataMinMax
import HandS.ExcCtx
import HandS.ExcIs
set_option Elab.async false
set_option linter.all false
set_option maxRecDepth 100000
set_option maxHeartbeats 0
/-! TupMul1: tuple * int, any int. -/
namespace Pm
open PySem PySem.Spec PyProof.Rows L2
theorem tuple_mulSame (l : Addr) (items : Array Value) (n : Nat) (dd : Option Addr) (sl : Array (Option Value)) (x : Int) (u : Tok) (c0 : (decide (x < -(2 ^ 63)) || decide (x ≥ 2 ^ 63)) = false) (c1 : (items.isEmpty || x == 1) = true) :
    Meets (Builtin.«tuple.__mul__» ⟨[.ref l, .int x u], []⟩) (fun _ R s => s.heap.get? l = some { cls := .type "tuple", dict := dd, data := .seq items n, slots := sl } ∧ R (.ok (.ret (Value.ref l))) s) :=
  .of_wp fun prog w A R s h => by
    obtain ⟨hp, g, d, tk, os⟩ := s
    obtain ⟨hl, h⟩ := h
    have f1 := AutoSeq1.idx_int
    wp_walk using wpAny_loadPart' hl
    repeat (first
      | (refine wpAny_ite_false (decide_eq_false (by rw [c0]; exact Bool.false_ne_true)) ?_; wp_walk using wpAny_loadPart' hl)
      | (refine wpAny_ite_true (decide_eq_true (by rw [c1])) ?_; wp_walk using wpAny_loadPart' hl))
    exact ⟨_, rfl, h⟩
theorem tuple_mulNone (l : Addr) (items : Array Value) (n : Nat) (dd : Option Addr) (sl : Array (Option Value)) (x : Int) (u : Tok) (c0 : (decide (x < -(2 ^ 63)) || decide (x ≥ 2 ^ 63)) = false) (c1 : (items.isEmpty || x == 1) = false) (c2 : (decide (x ≤ 0) || items.isEmpty) = true) :
    Meets (Builtin.«tuple.__mul__» ⟨[.ref l, .int x u], []⟩) (fun _ R s => s.heap.get? l = some { cls := .type "tuple", dict := dd, data := .seq items n, slots := sl } ∧
      R (.ok (.ret (Value.ref s.heap.objs.size))) { s with heap := s.heap.push { cls := Value.type "tuple", data := Data.seq #[] }, toks := s.toks }) :=
  .of_wp fun prog w A R s h => by
    obtain ⟨hp, g, d, tk, os⟩ := s
    obtain ⟨hl, h⟩ := h
    have f1 := AutoSeq1.idx_int
    wp_walk using wpAny_loadPart' hl
    repeat (first
      | (refine wpAny_ite_false (decide_eq_false (by rw [c0]; exact Bool.false_ne_true)) ?_; wp_walk using wpAny_loadPart' hl)
      | (refine wpAny_ite_false (decide_eq_false (by rw [c1]; exact Bool.false_ne_true)) ?_; wp_walk using wpAny_loadPart' hl)
      | (refine wpAny_ite_true (decide_eq_true (by rw [c2])) ?_; wp_walk using wpAny_loadPart' hl))
    exact ⟨_, rfl, h⟩
def rRepT1 (K : PySem.W.Frag) : R2 := fun x y H Q => ∃ l k xs, x = .ref l ∧ y = .int k ∧ SqT K H l xs ∧ -1000000 ≤ k ∧ k ≤ 1000 ∧ ((xs = [] ∨ k = 1) ∧ Q (.ref l) H ∨ xs ≠ [] ∧ k ≤ 0 ∧ ∀ p, H p = none → Q (.ref p) (upd H p (.tup [])))
theorem op_repT1 {X : Cx} : OpR X (binaryOp .Mult) (rRepT1 X.K) := by
  intro pins s σ H x y v u Q I rx ry h
  obtain ⟨l, k, xs, rfl, rfl, hT, h1, h2, h⟩ := h
  cases rx
  obtain ⟨t, rfl⟩ := ry
  obtain ⟨its, r, ⟨⟨cls, dd, data, sl⟩, ho, hc, n, hd⟩, hs⟩ := I.tuple hT
  simp only at hc hd
  subst hc hd
  have hle : its.length = xs.length := r.length.symm
  have c0 : (decide (k < -(2 ^ 63)) || decide (k ≥ 2 ^ 63)) = false := by
    rw [decide_eq_false (by omega), decide_eq_false (by omega)] <;> rfl
  rcases h with ⟨h3, q⟩ | ⟨h3, h4, q⟩
  · have c1 : (its.toArray.isEmpty || k == 1) = true := by
      rcases h3 with h3 | h3
      · subst h3
        have : its = [] := List.eq_nil_of_length_eq_zero hle
        subst this; rfl
      · subst h3; simp
    refine wpAny_binaryOp_repeat_ref (T := "tuple") (U := "int") (by decide) ⟨_, ho, rfl⟩ (fun s' => typeIs_int s' k t) noFill_tuple_mul F.fills_int_mul F.slot_int_rmul repeat_tuple F.slot_int_index.lookup
      (call_meets F.slot_int_rmul (typeIs_int s k t) F.entry_int_rmul (F.args_int_rmul_2 _ _) (int_rmul_tuple k t l its.toArray n dd sl)
        ⟨ho, rfl, ⟨_, ho, rfl⟩, call_meets F.slot_tuple_mul ⟨_, ho, rfl⟩ F.entry_tuple_mul (F.args_tuple_mul_2 _ _) (tuple_mulSame l its.toArray n dd sl k t c0 c1) ⟨ho, ?_⟩⟩)
    exact ⟨.ref l, H, I, rfl, q⟩
  · have hi : its.toArray.isEmpty = false := by
      cases its with
      | nil => exact absurd (List.eq_nil_of_length_eq_zero hle.symm) h3
      | cons a b => rfl
    have c1 : (its.toArray.isEmpty || k == 1) = false := by
      rw [hi, Bool.false_or]
      exact beq_eq_false_iff_ne.mpr (by omega)
    have c2 : (decide (k ≤ 0) || its.toArray.isEmpty) = true := by
      rw [decide_eq_true h4]; rfl
    refine wpAny_binaryOp_repeat_ref (T := "tuple") (U := "int") (by decide) ⟨_, ho, rfl⟩ (fun s' => typeIs_int s' k t) noFill_tuple_mul F.fills_int_mul F.slot_int_rmul repeat_tuple F.slot_int_index.lookup
      (call_meets F.slot_int_rmul (typeIs_int s k t) F.entry_int_rmul (F.args_int_rmul_2 _ _) (int_rmul_tuple k t l its.toArray n dd sl)
        ⟨ho, rfl, ⟨_, ho, rfl⟩, call_meets F.slot_tuple_mul ⟨_, ho, rfl⟩ F.entry_tuple_mul (F.args_tuple_mul_2 _ _) (tuple_mulNone l its.toArray n dd sl k t c0 c1 c2) ⟨ho, ?_⟩⟩)
    refine ⟨.ref s.heap.objs.size, _, I.laid (t' := s.toks) (o := .tup []) (fun b ob q => Heap.get?_push_of_some _ q) (Nat.le_refl _) ?_, rfl, q _ (I.hok.fresh (Nat.le_refl _))⟩
    exact ⟨Nat.zero_le _, [], .nil, IsTup.new _ _⟩
end Pm

/-! TupF: tuples whose object is known to bear no dict. -/
namespace Pm
open PySem PySem.Spec PyProof.Rows L2
/-- a new tuple -/
def NewT (H : Hp) (Q : VK) (xs : List V) : Prop := ∀ (p : Addr) (ob : Obj), ob.dict = Option.none → H p = none → Q (.ref p) (upd H p (.frz ob (.tup xs)))
section
variable {X : Cx} {es : List Expr} {t : TA} {pos : Pos}
theorem laidT {pins : List (Addr × Obj)} {s : Shared} {σ : L2.St} {H : Hp} {xs : List V} {its : List Value} (I : Inv X pins σ H s) (hz : xs.length ≤ sizeLine) (r : Vals xs its) (tk : Nat) {Q : VK} (q : NewT H Q xs) :
    ∃ (v : V) (H' : Hp), Inv X pins σ H' { s with heap := s.heap.push { cls := .type "tuple", data := .seq its.toArray }, toks := tk } ∧ RelV v (.ref s.heap.objs.size) ∧ Q v H' :=
  ⟨.ref s.heap.objs.size, _, I.laid (t' := tk) (o := .frz { cls := .type "tuple", data := .seq its.toArray } (.tup xs)) (fun b ob q => Heap.get?_push_of_some _ q) (Nat.le_refl _) ⟨Heap.get?_push_size _ rfl, hz, its, r, IsTup.new _ _⟩, rfl, q _ _ rfl (I.hok.fresh (Nat.le_refl _))⟩
def tTupF (t : TA) : TE := fun σ H Q => t σ H fun xs H1 => xs.length ≤ sizeLine ∧ NewT H1 Q xs
theorem pe_tupF {x1} (h : PA X es t) : PE X (.Tuple es x1 pos) (tTupF t) := by
  refine ⟨fun pins s σ H Q I hq => ?_⟩
  refine wpAny_Tuple_spliced (thn (h.run pos pins s σ H _ I hq) fun us s1 ⟨xs, H1, I1, r, z, q⟩ => ⟨by rw [← r.length]; exact z, ?_⟩)
  obtain ⟨v, H', h1, h2, h3⟩ := laidT I1 z r s1.toks q
  exact ⟨v, H', h1, h2, h3⟩
def rSlF (K : PySem.W.Frag) : V → Option Int → Option Int → Hp → VK → Prop := fun x lo hi H Q => ∃ a xs, x = .ref a ∧ SqT K H a xs ∧
  (HT.sIx xs.length 0 lo = 0 ∧ HT.sIx xs.length xs.length hi = xs.length → Q (.ref a) H) ∧ (¬ (HT.sIx xs.length 0 lo = 0 ∧ HT.sIx xs.length xs.length hi = xs.length) → NewT H Q (cutV xs lo hi))
theorem sl_tupF : SlR X (rSlF X.K) := by
  intro pins s σ H x v vl vu lo hi sl Q I rx hs pl pu h
  obtain ⟨a, xs, rfl, hx, q1, q2⟩ := h
  cases rx
  obtain ⟨its, r, ht, hz⟩ := I.tuple hx
  have hlen : its.toArray.size = xs.length := by rw [List.size_toArray]; exact r.length.symm
  by_cases hw : HT.sIx xs.length 0 lo = 0 ∧ HT.sIx xs.length xs.length hi = xs.length
  · refine ⟨"tuple", _, PyProof.Rows.slot_tuple_getitem.lookup, ht.typeIs, ?_⟩
    exact getItem_tuple_whole ht hs pl pu (by rw [hlen]; exact hw) ⟨.ref a, H, I, rfl, q1 hw⟩
  · refine ⟨"tuple", _, PyProof.Rows.slot_tuple_getitem.lookup, ht.typeIs, ?_⟩
    refine HT.getItem_tuple_cut ht hs pl pu (by rw [hlen]; exact hw) ?_ (by rw [hlen]; exact hz)
    rw [hlen]
    exact laidT I (Nat.le_trans (cutV_length xs lo hi) hz) ((r.drop (HT.sIx xs.length 0 lo)).take (HT.sIx xs.length xs.length hi - HT.sIx xs.length 0 lo)) s.toks (q2 hw)
def rCatF (K : PySem.W.Frag) : R2 := fun x y H Q => ∃ a b xs ys, x = .ref a ∧ y = .ref b ∧ SqT K H a xs ∧ SqT K H b ys ∧ xs.length + ys.length ≤ sizeLine ∧
  (xs = [] → Q (.ref b) H) ∧ (xs ≠ [] → ys = [] → Q (.ref a) H) ∧ (xs ≠ [] → ys ≠ [] → NewT H Q (xs ++ ys))
theorem op_catF : OpR X (binaryOp .Add) (rCatF X.K) := by
  intro pins s σ H x y v u Q I rx ry h
  obtain ⟨a, b, xs, ys, rfl, rfl, ha, hb, hz, q0, q1, q2⟩ := h
  cases rx
  cases ry
  obtain ⟨its, r1, p1, _⟩ := I.tuple ha
  obtain ⟨its2, r2, p2, _⟩ := I.tuple hb
  by_cases hx : xs = []
  · subst hx
    cases r1
    exact cat_tup0 p1 p2 ⟨.ref b, H, I, rfl, q0 rfl⟩
  · refine HT.cat_tup p1 p2 (fun z => hx (r1.nil_iff.mp z)) (fun z => ⟨.ref a, H, I, rfl, q1 hx (r2.nil_iff.mp z)⟩) (fun z => ?_) (by rw [← r1.length, ← r2.length]; exact hz)
    exact laidT I (by rw [List.length_append]; exact hz) (r1.append r2) s.toks (q2 hx fun w => z (r2.nil_iff.mpr w))
theorem call_tuple_ofF : CallR X (.type "tuple") (fun xs H Q => ∃ p ys, xs = [.ref p] ∧ ((SqL X.K H p ys ∧ NewT H Q ys) ∨ (SqT X.K H p ys ∧ Q (.ref p) H))) := by
  intro pins s σ H xs us Q I r h
  obtain ⟨p, ys, rfl, h⟩ := h
  obtain ⟨u, rfl, rx⟩ := vals1 r
  cases rx
  rcases h with ⟨hq, q⟩ | ⟨hq, q⟩
  · obtain ⟨its, r', pl, hz⟩ := I.list hq
    have hlen := r'.length
    refine call_tuple_list pl.isList (fun h' kp => ?_) (by simp only [List.size_toArray] <;> omega)
    have I1 : Inv X pins σ H { s with heap := h' } := I.kept (t' := s.toks) kp
    exact laidT I1 hz r' s.toks q
  · obtain ⟨its, r', pl, hz⟩ := I.tuple hq
    exact call_tuple_same pl ⟨.ref p, H, I, rfl, q⟩
/-- t * k -/
def rRepF (K : PySem.W.Frag) : R2 := fun x y H Q => ∃ l k xs, x = .ref l ∧ y = .int k ∧ SqT K H l xs ∧ -1000000 ≤ k ∧ k ≤ 1000 ∧ xs.length ≤ 1000 ∧ ((xs = [] ∨ k = 1) ∧ Q (.ref l) H ∨ xs ≠ [] ∧ k ≤ 0 ∧ NewT H Q [] ∨ xs ≠ [] ∧ 2 ≤ k ∧ NewT H Q (List.replicate k.toNat xs).flatten)
theorem op_repF : OpR X (binaryOp .Mult) (rRepF X.K) := by
  intro pins s σ H x y v u Q I rx ry h
  obtain ⟨l, k, xs, rfl, rfl, hT, h1, h2, hz, h⟩ := h
  cases rx
  obtain ⟨t, rfl⟩ := ry
  obtain ⟨its, r, ⟨⟨cls, dd, data, sl⟩, ho, hc, n, hd⟩, hs⟩ := I.tuple hT
  simp only at hc hd
  subst hc hd
  have hle : its.length = xs.length := r.length.symm
  have c0 : (decide (k < -(2 ^ 63)) || decide (k ≥ 2 ^ 63)) = false := by
    rw [decide_eq_false (by omega), decide_eq_false (by omega)] <;> rfl
  rcases h with ⟨h3, q⟩ | ⟨h3, h4, q⟩ | ⟨h3, h4, q⟩
  · have c1 : (its.toArray.isEmpty || k == 1) = true := by
      rcases h3 with h3 | h3
      · subst h3
        have : its = [] := List.eq_nil_of_length_eq_zero hle
        subst this; rfl
      · subst h3; simp
    refine wpAny_binaryOp_repeat_ref (T := "tuple") (U := "int") (by decide) ⟨_, ho, rfl⟩ (fun s' => typeIs_int s' k t) noFill_tuple_mul F.fills_int_mul F.slot_int_rmul repeat_tuple F.slot_int_index.lookup
      (call_meets F.slot_int_rmul (typeIs_int s k t) F.entry_int_rmul (F.args_int_rmul_2 _ _) (int_rmul_tuple k t l its.toArray n dd sl)
        ⟨ho, rfl, ⟨_, ho, rfl⟩, call_meets F.slot_tuple_mul ⟨_, ho, rfl⟩ F.entry_tuple_mul (F.args_tuple_mul_2 _ _) (tuple_mulSame l its.toArray n dd sl k t c0 c1) ⟨ho, ?_⟩⟩)
    exact ⟨.ref l, H, I, rfl, q⟩
  · have hi : its.toArray.isEmpty = false := by
      cases its with
      | nil => exact absurd (List.eq_nil_of_length_eq_zero hle.symm) h3
      | cons a b => rfl
    have c1 : (its.toArray.isEmpty || k == 1) = false := by
      rw [hi, Bool.false_or]
      exact beq_eq_false_iff_ne.mpr (by omega)
    have c2 : (decide (k ≤ 0) || its.toArray.isEmpty) = true := by
      rw [decide_eq_true h4]; rfl
    refine wpAny_binaryOp_repeat_ref (T := "tuple") (U := "int") (by decide) ⟨_, ho, rfl⟩ (fun s' => typeIs_int s' k t) noFill_tuple_mul F.fills_int_mul F.slot_int_rmul repeat_tuple F.slot_int_index.lookup
      (call_meets F.slot_int_rmul (typeIs_int s k t) F.entry_int_rmul (F.args_int_rmul_2 _ _) (int_rmul_tuple k t l its.toArray n dd sl)
        ⟨ho, rfl, ⟨_, ho, rfl⟩, call_meets F.slot_tuple_mul ⟨_, ho, rfl⟩ F.entry_tuple_mul (F.args_tuple_mul_2 _ _) (tuple_mulNone l its.toArray n dd sl k t c0 c1 c2) ⟨ho, ?_⟩⟩)
    exact laidT I (its := []) (Nat.zero_le _) .nil s.toks q
  · have hi : its.toArray.isEmpty = false := by
      cases its with
      | nil => exact absurd (List.eq_nil_of_length_eq_zero hle.symm) h3
      | cons a b => rfl
    have hsz0 : its.toArray.size = xs.length := by rw [List.size_toArray, hle]
    have hm : ((its.toArray.size : Nat) : Int) * k ≤ 1000000 := by
      rw [hsz0]
      have a1 : ((xs.length : Nat) : Int) * k ≤ 1000 * k := Int.mul_le_mul_of_nonneg_right (by omega) (by omega)
      omega
    have flen : (List.replicate k.toNat its).flatten.length ≤ sizeLine := by
      rw [PyProof.Rows.lm_len_rep_flat, hle, sizeLine_eq]
      have a1 : k.toNat * xs.length ≤ 1000 * 1000 := Nat.mul_le_mul (by omega) hz
      omega
    have c1 : (its.toArray.isEmpty || k == 1) = false := by
      rw [hi, Bool.false_or]
      exact beq_eq_false_iff_ne.mpr (by omega)
    have c2 : (decide (k ≤ 0) || its.toArray.isEmpty) = false := by
      rw [hi, Bool.or_false]
      exact decide_eq_false (by omega)
    have c4 : Builtin.Tuple.tupleTooMany (((its.toArray.size : Nat) : Int) * k) = false := by
      unfold Builtin.Tuple.tupleTooMany
      rw [sizeLine_eq]
      exact decide_eq_false (by omega)
    refine wpAny_binaryOp_repeat_ref (T := "tuple") (U := "int") (by decide) ⟨_, ho, rfl⟩ (fun s' => typeIs_int s' k t) noFill_tuple_mul F.fills_int_mul F.slot_int_rmul repeat_tuple F.slot_int_index.lookup
      (call_meets F.slot_int_rmul (typeIs_int s k t) F.entry_int_rmul (F.args_int_rmul_2 _ _) (int_rmul_tuple k t l its.toArray n dd sl)
        ⟨ho, rfl, ⟨_, ho, rfl⟩, call_meets F.slot_tuple_mul ⟨_, ho, rfl⟩ F.entry_tuple_mul (F.args_tuple_mul_2 _ _) (tuple_mulW l its.toArray n dd sl k t c0 c1 c2 (by omega) c4 (by rw [size_rep, List.size_toArray]; exact flen)) ⟨ho, ?_⟩⟩)
    rw [size_rep]
    exact laidT I (by rw [PyProof.Rows.lm_len_rep_flat, sizeLine_eq]; have a1 : k.toNat * xs.length ≤ 1000 * 1000 := Nat.mul_le_mul (by omega) hz; omega) (r.rep k.toNat) s.toks q
end
end Pm

/-! EnumT: enumerate(tuple). -/
namespace Pm
open PySem PySem.Spec PyProof.Rows L2
open PySem (Begins Draws)
theorem meets_enumerate_newB1 {v : Value} {o : Obj} {H : Heap → Prop} (B : Begins v o H) :
    Meets (Builtin.«enumerate.__new__» ⟨[.type "enumerate", v], []⟩) (fun _ R s => H s.heap ∧
      R (.ok (.ret (.ref (s.heap.push o).objs.size))) { s with heap := (s.heap.push o).push { cls := .type "enumerate", data := .fields #[.none, .bool false, .ref s.heap.objs.size, rawInt 0, .none, .none] } }) :=
  .of_wp fun prog w A R s h => by
    obtain ⟨hp, g, d, tk, os⟩ := s; obtain ⟨h1, h⟩ := h
    have hsub := sub_enumerate
    have q1 : ∀ {A' : Around} {E : Value → Shared → Prop} {Q : Value → Shared → Prop}, Q (.ref hp.objs.size) ⟨hp.push o, g, d, tk, os⟩ → wpAny (model prog w) A' (pyIter v) Q E ⟨hp, g, d, tk, os⟩ :=
      fun q => B.iter prog w _ _ ⟨hp, g, d, tk, os⟩ _ h1 q
    wp_walk using q1
    refine wpAny_stack_any fun st => wpAny_pure ?_
    split
    · rename_i c _ _ _ _ _
      cases (c == Value.type "enumerate")
      · wp_walk using q1
        exact ⟨_, rfl, h⟩
      · wp_walk using q1
        exact ⟨_, rfl, h⟩
    · wp_walk using q1
      exact ⟨_, rfl, h⟩
section
variable {prog : Program} {w : World} {A : Around} {E : Value → Shared → Prop} {s : Shared}
theorem enum_begins1 {v : Value} {o : Obj} {H : Heap → Prop} {Q : Value → Shared → Prop} (B : Begins v o H) (h1 : H s.heap)
    (h : ∀ h', IsEnum h' (s.heap.objs.size + 1) s.heap.objs.size 0 .none → h'.get? s.heap.objs.size = some o → h'.objs.size = s.heap.objs.size + 2 →
      (∀ b o, s.heap.get? b = some o → h'.get? b = some o) → Q (.ref (s.heap.objs.size + 1)) { s with heap := h' }) :
    wpAny (model prog w) A (call (.type "enumerate") [v]) Q E s := by
  refine callType_new F.called_enumerate (by decide) (F.typeCall_enumerate_1 _) (F.newCall_enumerate_1 _) (fun obj => F.args_object_init_2 obj _) F.entry_enumerate_new
    (meets_enumerate_newB1 B) ⟨h1, ?_⟩
  have hz : (s.heap.push o).objs.size = s.heap.objs.size + 1 := Heap.size_push ..
  show _ ∧ _
  rw [hz]
  have he : IsEnum ((s.heap.push o).push { cls := .type "enumerate", data := .fields #[.none, .bool false, .ref s.heap.objs.size, rawInt 0, .none, .none] }) (s.heap.objs.size + 1) s.heap.objs.size 0 .none := by
    have := Heap.get?_push_size (s.heap.push o) (o := { cls := .type "enumerate", data := .fields #[.none, .bool false, .ref s.heap.objs.size, rawInt 0, .none, .none] }) rfl
    rw [hz] at this; exact this
  refine ⟨⟨_, he, rfl⟩, h _ he (Heap.get?_push_of_some _ (Heap.get?_push_size _ B.free)) (by rw [Heap.size_push, hz]) fun b o x => Heap.get?_push_of_some _ (Heap.get?_push_of_some _ x)⟩
end
/-- the tuple at a, each item in a new pair -/
def IteT (K : PySem.W.Frag) (a : Addr) : It :=
  ⟨fun i H => ∃ (xs : List V) (x : V), SqT K H a xs ∧ xs[i]? = some x, fun i H v H' => ∃ T x, v = .ref T ∧ H T = none ∧ H' = upd H T (.tup [.int (i : Nat), x]) ∧ ∀ xs, SqT K H a xs → xs[i]? = some x, fun i H => ∃ xs : List V, SqT K H a xs ∧ xs.length ≤ i⟩
theorem turn_enumT {P : Program} {w : World} {K : PySem.W.Frag} {elts : List Expr} {kk : Nat} {tpos : Pos} (a e it : Addr) :
    Turn P w K (.Tuple elts kk tpos) (IteT K a) [e, it] e (fun i h => (∃ old, IsEnum h e it ((i : Nat) : Int) old) ∧ h.IsTupleIter it a i ∧ e ≠ it) where
  mem := by simp
  obj := fun i h st b hb => by
    obtain ⟨⟨old, he⟩, ⟨o, ho, hc, hd⟩, _⟩ := st
    have e' : b = e ∨ b = it := by simpa using hb
    rcases e' with z | z
    · rw [z]; exact ⟨_, he, fun v q => nomatch q⟩
    · rw [z]; exact ⟨o, ho, fun v q => by rw [hd] at q; cases q⟩
  keep := fun i h h' st k => let ⟨⟨old, he⟩, hi, hne⟩ := st; ⟨⟨old, k e (by simp) _ he⟩, hi.at fun o q => k it (by simp) o q, hne⟩
  item := by
    intro X hP hw hK hc i pins s σ H E I hf st hg
    subst hP hw hK
    obtain ⟨⟨old, he⟩, hit, hne⟩ := st
    obtain ⟨xs, x, hq, hx⟩ := hg
    obtain ⟨its, rv, p, hz⟩ := I.tuple hq
    obtain ⟨u, hu, ru⟩ := rv.get hx
    have hel : e < s.heap.objs.size := Heap.lt_size he
    have hil : it < s.heap.objs.size := by obtain ⟨_, q, _⟩ := hit; exact Heap.lt_size q
    have ta : a ≠ it := fun z => by
      obtain ⟨o1, e1, c1, _⟩ := p
      obtain ⟨o2, e2, c2, _⟩ := hit
      rw [z, e2] at e1; cases e1; rw [c1] at c2; exact absurd c2 (by decide)
    have ea : e ≠ a := fun z => by
      obtain ⟨o1, e1, c1, _⟩ := p
      have he' : s.heap.get? e = some _ := he
      rw [z, e1] at he'; cases he'; exact absurd (show Value.type "enumerate" = Value.type "tuple" from c1) (by decide)
    have hget : its[i]? = some u := hu
    have hlt : i < its.toArray.size := by rw [List.size_toArray]; exact (List.getElem?_eq_some_iff.mp hget).1
    refine wpAny_pyNext_enum_itemD (Draws.tuple (show X.A.in1.handled = none from I.ok.hd hc) it a ta its.toArray) he ⟨hit, p⟩ hlt hne (by simp [hne, ea]) fun x' h' tk hP ho hst hT hsz hk => ?_
    have hxu : x' = u := by
      have h1 : its.toArray[i]? = some x' := hP
      rw [List.getElem?_toArray, hget] at h1
      exact (Option.some.inj h1).symm
    subst hxu
    obtain ⟨hit', _⟩ := hst
    refine ⟨_, rfl, wpAny_letOwnedTupleGo_enum (s := { s with heap := h', toks := tk + 1 }) ho fun h'' he' sb => ?_⟩
    have hT2 : h''.get? s.heap.objs.size = some { cls := .type "tuple", data := .seq #[.int i tk, x'] } := (sb.2 _ (Nat.ne_of_gt hel)).trans hT
    have new : ObjOk X.prog X.w (upd H s.heap.objs.size (.tup [.int (i : Nat), x])) h'' s.heap.objs.size (.tup [.int (i : Nat), x]) :=
      ⟨by show 2 ≤ sizeLine; decide, [.int i tk, x'], .cons ⟨_, rfl⟩ (.cons ru .nil), ⟨_, hT2, rfl, _, rfl⟩⟩
    have I1 : Inv X pins σ (upd H s.heap.objs.size (.tup [.int (i : Nat), x])) { s with heap := h'', toks := tk + 1 } :=
      I.turnedNew (ch := [e, it]) (fun b ob hb q => (sb.2 b (fun z => hb (by simp [z]))).trans (hk b ob (fun z => hb (by simp [z])) (fun z => hb (by simp [z])) q)) hf (Nat.le_refl _) new
    refine ⟨.ref s.heap.objs.size, _, I1, rfl, ⟨_, x, rfl, I.hok.fresh (Nat.le_refl _), rfl, fun ys hy => by rw [I.tuple_inj hy hq]; exact hx⟩, ⟨⟨x', ?_⟩, hit'.at fun o q => (sb.2 it (Ne.symm hne)).trans q, hne⟩, fun b hb => ?_⟩
    · have e1 : ((i + 1 : Nat) : Int) = (i : Int) + 1 := by omega
      rw [e1]; exact he'
    · have hb' : b < s.heap.objs.size := by
        have e' : b = e ∨ b = it := by simpa using hb
        rcases e' with z | z
        · rw [z]; exact hel
        · rw [z]; exact hil
      rw [upd_ne (Nat.ne_of_lt hb')]
      exact (hf b hb).1
  done := by
    intro X hP hw hK hc i pins s σ H E I hf st hg
    subst hP hw hK
    obtain ⟨⟨old, he⟩, hit, hne⟩ := st
    obtain ⟨xs, hq, hx⟩ := hg
    obtain ⟨its, rv, p, hz⟩ := I.tuple hq
    obtain ⟨f0, f1, f2, f3, f4, f5⟩ := hf it (by simp)
    have hl := rv.length
    have hT : s.TypeIs (.ref e) "enumerate" := ⟨_, he, rfl⟩
    unfold pyNext
    refine wpAny_bind (wpAny_attempt (wpAny_callSpecial?_slot (name := Str.ofString "__next__") hT F.slot_enumerate_next
      (wpAny_call_entry F.slot_enumerate_next hT F.entry_enumerate_next ?_ (F.args_enumerate_next_1 _))))
    show wpAny _ _ (field (.ref e) 2 >>= _) _ _ _
    refine wpAny_bind (wpAny_field he rfl (x := .ref it) rfl ?_)
    refine wpAny_bind (wpAny_nextOf_tuple_end (i := i) (items := its.toArray) (show X.A.in1.handled = none from I.ok.hd hc) hit p (by simp; omega) fun h' x' he' hx' => ?_)
    obtain ⟨o, ho, hcl⟩ := hx'
    refine wpAny_bind (wpAny_isInstance (T := "StopIteration") (b := true) ⟨o, ho, hcl⟩ isSubtype_stop ?_)
    exact wpAny_pure ⟨rfl, I.turned (t' := s.toks) (fun b o hb q => he' b o hb q) f0 f1 f3 f4 f5⟩
  self := fun A i s Q E st h => let ⟨⟨_, he⟩, _⟩ := st; wpAny_pyIter_enum he h
def iEnumA (K : PySem.W.Frag) (ta : TA) : TI := fun σ H R => ta σ H fun vs H1 => ∃ a xs, vs = [.ref a] ∧ ((SqL K H1 a xs ∧ R (Ite K a) H1) ∨ (SqT K H1 a xs ∧ R (IteT K a) H1))
theorem pi_enumA {X : Cx} {e : Expr} {ta : TA} {p pos tpos : Pos} {elts : List Expr} {kk : Nat} (hg : Gl X "enumerate") (hm : X.mg "enumerate" = none) (ha : PA X [e] ta) (hs : starEach [e] X.env = [(false, eval e X.env)] := by rfl) :
    PI X (.Tuple elts kk tpos) (.Call (.Name "enumerate" p) [e] [] pos) (iEnumA X.K ta) := by
  refine ⟨fun pins s σ H R I h => ?_⟩
  refine Call_ (ld_blt I hg hm boot_enumerate (PyProof.Rows.callWith_type1 (thn (ha.run pos pins s σ H _ I h) fun us s1 ⟨vs, H1, I1, r1, q1⟩ => ?_) hs rfl))
  obtain ⟨a, xs, ex, q⟩ := q1
  subst ex
  cases r1 with
  | cons r rr =>
    cases rr
    cases r
    have fin : ∀ b, b ∈ [s1.heap.objs.size + 1, s1.heap.objs.size] → FpOk X pins H1 b := fun b hb => by
      have e' : b = s1.heap.objs.size + 1 ∨ b = s1.heap.objs.size := by simpa using hb
      have hle : s1.heap.objs.size ≤ b := by
        rcases e' with z | z
        · rw [z]; exact Nat.le_add_right _ _
        · rw [z]; exact Nat.le_refl _
      exact I1.fpOk hle (I1.hok.fresh hle)
    rcases q with ⟨hq, q⟩ | ⟨hq, q⟩
    · obtain ⟨its, rv, p', hz⟩ := I1.list hq
      refine call_enumerate_list p'.isList fun h' he hit hsz hk => wpAny_pyIter_enum he ?_
      have I2 : Inv X pins σ H1 { s1 with heap := h' } := I1.kept (t' := s1.toks) hk
      exact ⟨s1.heap.objs.size + 1, [s1.heap.objs.size + 1, s1.heap.objs.size], _, _, H1, rfl, I2, turn_enum a (s1.heap.objs.size + 1) s1.heap.objs.size, ⟨⟨.none, he⟩, hit, Nat.succ_ne_self _⟩, fin, q⟩
    · obtain ⟨its, rv, p', hz⟩ := I1.tuple hq
      refine enum_begins1 (begins_tuple a its.toArray) p' fun h' he hit hsz hk => wpAny_pyIter_enum he ?_
      have I2 : Inv X pins σ H1 { s1 with heap := h' } := I1.kept (t' := s1.toks) hk
      exact ⟨s1.heap.objs.size + 1, [s1.heap.objs.size + 1, s1.heap.objs.size], _, _, H1, rfl, I2, turn_enumT a (s1.heap.objs.size + 1) s1.heap.objs.size, ⟨⟨.none, he⟩, ⟨_, hit, rfl, rfl⟩, Nat.succ_ne_self _⟩, fin, q⟩
end Pm

/-! Core1: plain data, the store, how both lie in a heap, and how heaps go on. -/
namespace Pm
open PySem PySem.Spec PyProof.Rows L2

/-- plain data that never changes -/
inductive D where
  | non | bl (b : Bool) | int (i : Int) | str (s : Str) | tup (ds : List D) | lst (ds : List D)
/-- a value: plain data, a changing cell, the script -/
inductive W where
  | p (d : D) | loc (n : Nat) | scr (ns : List Int)
inductive Cell where
  | l (ds : List D) | d (kvs : List (D × D))
abbrev Store := List (Option Cell)
abbrev Slots := List (Option W)
inductive R (α : Type) where
  | ok (a : α) | exc (c : Nat) (st : Store) | stuck
def R.bind {α β : Type} (m : R α) (f : α → R β) : R β := match m with
  | .ok a => f a
  | .exc c st => .exc c st
  | .stuck => .stuck
@[simp] theorem R.bind_ok {α β : Type} (a : α) (f : α → R β) : (R.ok a).bind f = f a := rfl
theorem R.bind_inv {α β : Type} {m : R α} {f : α → R β} {b : β} (h : m.bind f = .ok b) : ∃ a, m = .ok a ∧ f a = .ok b := by
  cases m with
  | ok a => exact ⟨a, rfl, h⟩
  | exc c st => cases h
  | stuck => cases h

/-- where the cells stand; what no plain datum may lie at -/
structure G where
  al : List (Option Addr)
  ex : Addr → Prop
  sub : ∀ a, some a ∈ al → ex a

/-- a tuple lies there, its object bears no dict -/
def HTup (H : Hp) (a : Addr) (vs : List V) : Prop := ∃ ob : Obj, ob.dict = none ∧ H a = some (.frz ob (.tup vs))
theorem HTup.sqt {K : PySem.W.Frag} {H : Hp} {a : Addr} {vs : List V} (h : HTup H a vs) : SqT K H a vs := by
  obtain ⟨ob, _, h⟩ := h
  exact .inl (.inr ⟨ob, h⟩)
mutual
def RepD (H : Hp) (g : G) : D → V → Prop
  | .non, v => v = .non
  | .bl b, v => v = .bl b
  | .int i, v => v = .int i
  | .str s, v => v = .str s
  | .tup ds, v => ∃ a vs, v = .ref a ∧ ¬ g.ex a ∧ HTup H a vs ∧ RepDs H g ds vs
  | .lst ds, v => ∃ a vs, v = .ref a ∧ ¬ g.ex a ∧ H a = some (.lst vs) ∧ RepDs H g ds vs
def RepDs (H : Hp) (g : G) : List D → List V → Prop
  | [], vs => vs = []
  | d :: ds, vs => ∃ v r, vs = v :: r ∧ RepD H g d v ∧ RepDs H g ds r
end
def RepCell (H : Hp) (g : G) (a : Addr) : Cell → Prop
  | .l ds => ∃ vs, H a = some (.lst vs) ∧ RepDs H g ds vs
  | .d _ => False
def RepW (K : PySem.W.Frag) (H : Hp) (g : G) : W → V → Prop
  | .p d, v => RepD H g d v
  | .loc n, v => ∃ o, g.al[n]? = some o ∧ ∀ a, o = some a → v = .ref a
  | .scr ns, v => ∃ a, v = .ref a ∧ ((∃ o, ¬ g.ex a ∧ H a = some o ∧ (o = .lst (ns.map V.int) ∨ ∃ ob, o = .frz ob (.lst (ns.map V.int)))) ∨ ∀ H1 : Hp, SqL K H1 a (ns.map V.int))
structure RepSt (H : Hp) (g : G) (st : Store) : Prop where
  len : st.length = g.al.length
  cell : ∀ (n : Nat) (c : Cell), st[n]? = some (some c) → ∃ a : Addr, g.al[n]? = some (some a) ∧ RepCell H g a c
  dead : ∀ (n : Nat) (a : Addr), g.al[n]? = some (some a) → ∃ c, st[n]? = some (some c)
  nd : ∀ (n m : Nat) (a : Addr), g.al[n]? = some (some a) → g.al[m]? = some (some a) → n = m
  exo : ∀ a, g.ex a → ∃ o, H a = some o
structure RepSl (K : PySem.W.Frag) (H : Hp) (g : G) (sl : Slots) (σ : L2.St) : Prop where
  len : sl.length = σ.length
  at_ : ∀ (i : Nat) (w : W), sl[i]? = some (some w) → ∃ v, σ[i]? = some (some v) ∧ RepW K H g w v
/-- how a heap goes on -/
structure Stp0 (g : G) (H : Hp) (g' : G) (H' : Hp) : Prop where
  ext : ∀ b o, H b = some o → some b ∉ g.al → H' b = some o
  fr : ∀ p, g'.ex p → g.ex p ∨ H p = none
/-- how a state goes on -/
structure Stp (g : G) (H : Hp) (g' : G) (H' : Hp) : Prop extends Stp0 g H g' H' where
  pre : ∀ (n : Nat) (o : Option Addr), g.al[n]? = some o → ∃ o' : Option Addr, g'.al[n]? = some o' ∧ ∀ a, o' = some a → o = some a
  res : ∀ a o, H a = some o → g.ex a → some a ∉ g.al → g'.ex a
  frA : ∀ a, some a ∈ g'.al → some a ∈ g.al ∨ H a = none
  dom : ∀ b, H b ≠ none → H' b ≠ none
theorem Stp.refl (g : G) (H : Hp) : Stp g H g H := ⟨⟨fun _ _ h _ => h, fun _ h => .inl h⟩, fun n o h => ⟨o, h, fun _ h => h⟩, fun _ _ _ h _ => h, fun _ h => .inl h, fun _ h => h⟩
theorem Stp0.notin {g g' : G} {H H' : Hp} (s : Stp0 g H g' H') {b : Addr} {o : HO} (h : H b = some o) (hn : ¬ g.ex b) : ¬ g'.ex b := fun z => by
  rcases s.fr b z with z | z
  · exact hn z
  · rw [h] at z; cases z
theorem Stp0.keep {g g' : G} {H H' : Hp} (s : Stp0 g H g' H') {b : Addr} {o : HO} (h : H b = some o) (hn : ¬ g.ex b) : H' b = some o := s.ext b o h fun z => hn (g.sub b z)
theorem Stp.trans {g g1 g2 : G} {H H1 H2 : Hp} (s : Stp g H g1 H1) (t : Stp g1 H1 g2 H2) : Stp g H g2 H2 := by
  have nA : ∀ b o, H b = some o → some b ∉ g.al → some b ∉ g1.al := fun b o h hn z => by
    rcases s.frA b z with z | z
    · exact hn z
    · rw [h] at z; cases z
  refine ⟨⟨fun b o h hn => t.ext b o (s.ext b o h hn) (nA b o h hn), fun p h => ?_⟩, fun n o h => ?_, fun a o h he hn => t.res a o (s.ext a o h hn) (s.res a o h he hn) (nA a o h hn), fun a h => ?_, fun b h => t.dom b (s.dom b h)⟩
  · rcases t.fr p h with h | h
    · exact s.fr p h
    · cases q : H p with
      | none => exact .inr rfl
      | some o =>
        by_cases hp : some p ∈ g.al
        · exact .inl (g.sub p hp)
        · rw [s.ext p o q hp] at h; cases h
  · obtain ⟨o1, h1, e1⟩ := s.pre n o h
    obtain ⟨o2, h2, e2⟩ := t.pre n o1 h1
    exact ⟨o2, h2, fun a e => e1 a (e2 a e)⟩
  · rcases t.frA a h with h | h
    · exact s.frA a h
    · cases q : H a with
      | none => exact .inr rfl
      | some o =>
        by_cases hp : some a ∈ g.al
        · exact .inl hp
        · rw [s.ext a o q hp] at h; cases h
mutual
theorem RepD.mono0 {g g' : G} {H H' : Hp} (s : Stp0 g H g' H') : ∀ (d : D) (v : V), RepD H g d v → RepD H' g' d v
  | .non, _, h => by simpa only [RepD] using h
  | .bl _, _, h => by simpa only [RepD] using h
  | .int _, _, h => by simpa only [RepD] using h
  | .str _, _, h => by simpa only [RepD] using h
  | .tup ds, v, h => by
    simp only [RepD] at h ⊢
    obtain ⟨a, vs, e, hn, ⟨ob, h0, ha⟩, hr⟩ := h
    exact ⟨a, vs, e, s.notin ha hn, ⟨ob, h0, s.keep ha hn⟩, RepDs.mono0 s ds vs hr⟩
  | .lst ds, v, h => by
    simp only [RepD] at h ⊢
    obtain ⟨a, vs, e, hn, ha, hr⟩ := h
    exact ⟨a, vs, e, s.notin ha hn, s.keep ha hn, RepDs.mono0 s ds vs hr⟩
theorem RepDs.mono0 {g g' : G} {H H' : Hp} (s : Stp0 g H g' H') : ∀ (ds : List D) (vs : List V), RepDs H g ds vs → RepDs H' g' ds vs
  | [], _, h => by simpa only [RepDs] using h
  | d :: ds, vs, h => by
    simp only [RepDs] at h ⊢
    obtain ⟨v, r, e, h1, h2⟩ := h
    exact ⟨v, r, e, RepD.mono0 s d v h1, RepDs.mono0 s ds r h2⟩
end
theorem RepD.mono {g g' : G} {H H' : Hp} (s : Stp g H g' H') {d : D} {v : V} (h : RepD H g d v) : RepD H' g' d v := RepD.mono0 s.toStp0 d v h
theorem RepDs.mono {g g' : G} {H H' : Hp} (s : Stp g H g' H') {ds : List D} {vs : List V} (h : RepDs H g ds vs) : RepDs H' g' ds vs := RepDs.mono0 s.toStp0 ds vs h
theorem RepW.mono {K : PySem.W.Frag} {g g' : G} {H H' : Hp} (s : Stp g H g' H') : ∀ {w : W} {v : V}, RepW K H g w v → RepW K H' g' w v
  | .p d, v, h => RepD.mono s (show RepD H g d v from h)
  | .loc n, v, h => by
    obtain ⟨o, h1, h2⟩ := h
    obtain ⟨o', h1', e'⟩ := s.pre n o h1
    exact ⟨o', h1', fun a e => h2 a (e' a e)⟩
  | .scr ns, v, h => by
    obtain ⟨a, e, h⟩ := h
    rcases h with ⟨o, hn, ha, ho⟩ | h
    · exact ⟨a, e, .inl ⟨o, s.notin ha hn, s.keep ha hn, ho⟩⟩
    · exact ⟨a, e, .inr h⟩
abbrev RepWs (K : PySem.W.Frag) (H : Hp) (g : G) : List W → List V → Prop := Paired (RepW K H g)
theorem RepWs.mono {K : PySem.W.Frag} {g g' : G} {H H' : Hp} (s : Stp g H g' H') : ∀ {ws : List W} {vs : List V}, RepWs K H g ws vs → RepWs K H' g' ws vs
  | _, _, .nil => .nil
  | _, _, .cons r t => .cons (RepW.mono s r) (RepWs.mono s t)
theorem RepSl.mono {K : PySem.W.Frag} {g g' : G} {H H' : Hp} {sl : Slots} {σ : L2.St} (s : Stp g H g' H') (h : RepSl K H g sl σ) : RepSl K H' g' sl σ :=
  ⟨h.len, fun i w e => let ⟨v, h1, h2⟩ := h.at_ i w e; ⟨v, h1, h2.mono s⟩⟩
theorem RepSl.set {K : PySem.W.Frag} {g : G} {H : Hp} {sl : Slots} {σ : L2.St} {w : W} {v : V} (h : RepSl K H g sl σ) (i : Nat) (r : RepW K H g w v) : RepSl K H g (sl.set i (some w)) (σ.set i (some v)) := by
  refine ⟨by simp [h.len], fun j u e => ?_⟩
  by_cases hj : i = j
  · subst hj
    have hi : i < sl.length := by
      by_cases hi : i < sl.length
      · exact hi
      · rw [List.getElem?_eq_none (by simpa using hi)] at e; cases e
    rw [List.getElem?_set_self hi] at e
    cases e
    exact ⟨v, List.getElem?_set_self (by rw [← h.len]; exact hi), r⟩
  · rw [List.getElem?_set_ne hj] at e ⊢
    exact h.at_ j u e
theorem RepSl.unset {K : PySem.W.Frag} {g : G} {H : Hp} {sl : Slots} {σ : L2.St} (h : RepSl K H g sl σ) (i : Nat) : RepSl K H g (sl.set i none) (σ.set i none) := by
  refine ⟨by simp [h.len], fun j u e => ?_⟩
  by_cases hj : i = j
  · subst hj
    have hi : i < sl.length := by
      by_cases hi : i < sl.length
      · exact hi
      · rw [List.getElem?_eq_none (by simpa using hi)] at e; cases e
    rw [List.getElem?_set_self hi] at e
    cases e
  · rw [List.getElem?_set_ne hj] at e ⊢
    exact h.at_ j u e

section
variable {H : Hp} {g : G}
theorem RepDs.length : ∀ {ds : List D} {vs : List V}, RepDs H g ds vs → ds.length = vs.length
  | [], vs, h => by
    have e : vs = [] := by simpa only [RepDs] using h
    subst e; rfl
  | d :: ds, vs, h => by
    simp only [RepDs] at h
    obtain ⟨v, r, rfl, _, h2⟩ := h
    simp [RepDs.length h2]
theorem RepDs.get : ∀ {ds : List D} {vs : List V} {i : Nat} {d : D}, RepDs H g ds vs → ds[i]? = some d → ∃ v, vs[i]? = some v ∧ RepD H g d v
  | [], _, _, _, _, e => by simp at e
  | d :: ds, vs, 0, _, h, e => by
    simp only [RepDs] at h
    obtain ⟨v, r, rfl, h1, h2⟩ := h
    cases e
    exact ⟨v, rfl, h1⟩
  | d :: ds, vs, i + 1, _, h, e => by
    simp only [RepDs] at h
    obtain ⟨v, r, rfl, h1, h2⟩ := h
    exact RepDs.get (i := i) h2 (by simpa using e)
theorem RepDs.append : ∀ {ds es : List D} {vs us : List V}, RepDs H g ds vs → RepDs H g es us → RepDs H g (ds ++ es) (vs ++ us)
  | [], _, vs, _, h, k => by
    have e : vs = [] := by simpa only [RepDs] using h
    subst e; exact k
  | d :: ds, es, vs, us, h, k => by
    simp only [RepDs] at h
    obtain ⟨v, r, rfl, h1, h2⟩ := h
    show RepDs H g (d :: (ds ++ es)) (v :: (r ++ us))
    simp only [RepDs]
    exact ⟨v, r ++ us, rfl, h1, RepDs.append h2 k⟩
theorem RepDs.nil : RepDs H g [] [] := by simp only [RepDs]
theorem RepDs.cons {d : D} {v : V} {ds : List D} {vs : List V} (h1 : RepD H g d v) (h2 : RepDs H g ds vs) : RepDs H g (d :: ds) (v :: vs) := by
  simp only [RepDs]
  exact ⟨v, vs, rfl, h1, h2⟩
theorem RepDs.inv {d : D} {ds : List D} {vs : List V} (h : RepDs H g (d :: ds) vs) : ∃ v r, vs = v :: r ∧ RepD H g d v ∧ RepDs H g ds r := by
  simpa only [RepDs] using h
theorem RepDs.inv0 {vs : List V} (h : RepDs H g [] vs) : vs = [] := by
  simpa only [RepDs] using h
theorem RepDs.take : ∀ {ds : List D} {vs : List V} (n : Nat), RepDs H g ds vs → RepDs H g (ds.take n) (vs.take n)
  | _, _, 0, _ => .nil
  | [], vs, n + 1, h => by rw [h.inv0]; exact .nil
  | d :: ds, vs, n + 1, h => by
    obtain ⟨v, r, rfl, h1, h2⟩ := h.inv
    exact .cons h1 (RepDs.take n h2)
theorem RepDs.drop : ∀ {ds : List D} {vs : List V} (n : Nat), RepDs H g ds vs → RepDs H g (ds.drop n) (vs.drop n)
  | _, _, 0, h => h
  | [], vs, n + 1, h => by rw [h.inv0]; exact .nil
  | d :: ds, vs, n + 1, h => by
    obtain ⟨v, r, rfl, h1, h2⟩ := h.inv
    exact RepDs.drop n h2
theorem RepDs.set {d : D} {v : V} (r : RepD H g d v) : ∀ {ds : List D} {vs : List V} (n : Nat), RepDs H g ds vs → RepDs H g (ds.set n d) (vs.set n v)
  | [], vs, n, h => by rw [h.inv0]; exact .nil
  | e :: ds, vs, 0, h => by
    obtain ⟨u, q, rfl, h1, h2⟩ := h.inv
    exact .cons r h2
  | e :: ds, vs, n + 1, h => by
    obtain ⟨u, q, rfl, h1, h2⟩ := h.inv
    exact .cons h1 (RepDs.set r n h2)
theorem RepDs.erase : ∀ {ds : List D} {vs : List V} (n : Nat), RepDs H g ds vs → RepDs H g (ds.eraseIdx n) (vs.eraseIdx n)
  | [], vs, n, h => by rw [h.inv0]; exact .nil
  | e :: ds, vs, 0, h => by
    obtain ⟨u, q, rfl, h1, h2⟩ := h.inv
    exact h2
  | e :: ds, vs, n + 1, h => by
    obtain ⟨u, q, rfl, h1, h2⟩ := h.inv
    exact .cons h1 (RepDs.erase n h2)
theorem RepDs.dropLast {ds : List D} {vs : List V} (h : RepDs H g ds vs) : RepDs H g ds.dropLast vs.dropLast := by
  rw [List.dropLast_eq_take, List.dropLast_eq_take, h.length]
  exact h.take _
theorem RepDs.reverse : ∀ {ds : List D} {vs : List V}, RepDs H g ds vs → RepDs H g ds.reverse vs.reverse
  | [], vs, h => by rw [h.inv0]; exact .nil
  | d :: ds, vs, h => by
    obtain ⟨v, r, rfl, h1, h2⟩ := h.inv
    rw [List.reverse_cons, List.reverse_cons]
    exact (RepDs.reverse h2).append (.cons h1 .nil)
theorem repInt (i : Int) : RepD H g (.int i) (.int i) := by simp only [RepD]
theorem repBl (i : Bool) : RepD H g (.bl i) (.bl i) := by simp only [RepD]
theorem repNon : RepD H g .non .non := by simp only [RepD]
theorem repStr (i : Str) : RepD H g (.str i) (.str i) := by simp only [RepD]
theorem rwInt {K : PySem.W.Frag} (i : Int) : RepW K H g (.p (.int i)) (.int i) := repInt (H := H) (g := g) i
theorem rwBl {K : PySem.W.Frag} (i : Bool) : RepW K H g (.p (.bl i)) (.bl i) := repBl (H := H) (g := g) i
theorem rwNon {K : PySem.W.Frag} : RepW K H g (.p .non) .non := repNon (H := H) (g := g)
theorem rwStr {K : PySem.W.Frag} (i : Str) : RepW K H g (.p (.str i)) (.str i) := repStr (H := H) (g := g) i
theorem rwInt_inv {K : PySem.W.Frag} {i : Int} {v : V} (h : RepW K H g (.p (.int i)) v) : v = .int i := by simpa only [RepW, RepD] using h
theorem rwBl_inv {K : PySem.W.Frag} {i : Bool} {v : V} (h : RepW K H g (.p (.bl i)) v) : v = .bl i := by simpa only [RepW, RepD] using h
theorem rwStr_inv {K : PySem.W.Frag} {i : Str} {v : V} (h : RepW K H g (.p (.str i)) v) : v = .str i := by simpa only [RepW, RepD] using h
theorem rwNon_inv {K : PySem.W.Frag} {v : V} (h : RepW K H g (.p .non) v) : v = .non := by simpa only [RepW, RepD] using h
theorem rwTup_inv {K : PySem.W.Frag} {ds : List D} {v : V} (h : RepW K H g (.p (.tup ds)) v) : ∃ a vs, v = .ref a ∧ ¬ g.ex a ∧ HTup H a vs ∧ RepDs H g ds vs := by simpa only [RepW, RepD] using h
theorem rwLst_inv {K : PySem.W.Frag} {ds : List D} {v : V} (h : RepW K H g (.p (.lst ds)) v) : ∃ a vs, v = .ref a ∧ ¬ g.ex a ∧ H a = some (.lst vs) ∧ RepDs H g ds vs := by simpa only [RepW, RepD] using h
theorem RepDs.ints : ∀ (ns : List Int), RepDs H g (ns.map D.int) (ns.map V.int)
  | [] => .nil
  | n :: ns => .cons (repInt n) (RepDs.ints ns)
theorem RepDs.rep (n : Nat) : ∀ {ds : List D} {vs : List V}, RepDs H g ds vs → RepDs H g (List.replicate n ds).flatten (List.replicate n vs).flatten := fun {ds vs} h => by
  induction n with
  | zero => exact .nil
  | succ n ih =>
    rw [List.replicate_succ, List.replicate_succ, List.flatten_cons, List.flatten_cons]
    exact h.append ih
end

/-! ### new objects -/
section
variable {K : PySem.W.Frag} {H : Hp} {g : G} {st : Store} {p : Addr} {o : HO}
theorem upd_dom (b : Addr) (h : H b ≠ none) : upd H p o b ≠ none := fun z => by
  unfold upd at z
  split at z
  · cases z
  · exact h z
theorem Stp.new (hp : H p = none) : Stp g H g (upd H p o) :=
  ⟨⟨fun b u h _ => by rw [upd_ne (ne_of_none h hp)]; exact h, fun _ h => .inl h⟩, fun n o h => ⟨o, h, fun _ h => h⟩, fun _ _ _ h _ => h, fun _ h => .inl h, upd_dom⟩
theorem RepCell.mono {g' : G} {H' : Hp} (s : Stp0 g H g' H') {a : Addr} (ha : ∀ u, H a = some u → H' a = some u) : ∀ c, RepCell H g a c → RepCell H' g' a c
  | .l ds, ⟨vs, h1, h2⟩ => ⟨vs, ha _ h1, RepDs.mono0 s _ _ h2⟩
  | .d _, h => h
theorem RepSt.free (S : RepSt H g st) (hp : H p = none) : ¬ g.ex p := fun z => by
  obtain ⟨u, e⟩ := S.exo p z
  rw [hp] at e; cases e
theorem RepSt.new (S : RepSt H g st) (hp : H p = none) : RepSt (upd H p o) g st where
  len := S.len
  cell := fun n c h => by
    obtain ⟨a, h1, h2⟩ := S.cell n c h
    exact ⟨a, h1, h2.mono (Stp.new hp).toStp0 fun u e => by rw [upd_ne (ne_of_none e hp)]; exact e⟩
  dead := S.dead
  nd := S.nd
  exo := fun a h => by
    obtain ⟨u, e⟩ := S.exo a h
    exact ⟨u, by rw [upd_ne (ne_of_none e hp)]; exact e⟩
theorem rep_tup (S : RepSt H g st) (hp : H p = none) {ob : Obj} (h0 : ob.dict = none) {ds : List D} {vs : List V} (r : RepDs H g ds vs) : RepD (upd H p (.frz ob (.tup vs))) g (.tup ds) (.ref p) := by
  simp only [RepD]
  exact ⟨p, vs, rfl, S.free hp, ⟨ob, h0, upd_same⟩, r.mono (Stp.new hp)⟩
theorem tup_p {Q : VK} {ds : List D} {vs : List V} (S : RepSt H g st) (r : RepDs H g ds vs) (k : ∀ g' v H', Stp g H g' H' → RepSt H' g' st → RepW K H' g' (.p (.tup ds)) v → Q v H') : NewT H Q vs :=
  fun p ob h0 hp => k g _ _ (Stp.new hp) (S.new hp) (rep_tup S hp h0 r)
theorem rep_lst (S : RepSt H g st) (hp : H p = none) {ds : List D} {vs : List V} (r : RepDs H g ds vs) : RepD (upd H p (.lst vs)) g (.lst ds) (.ref p) := by
  simp only [RepD]
  exact ⟨p, vs, rfl, S.free hp, upd_same, r.mono (Stp.new hp)⟩
/-- a place is kept free of plain data -/
def G.hold (g : G) (p : Addr) : G := ⟨g.al, fun a => g.ex a ∨ a = p, fun a h => .inl (g.sub a h)⟩
theorem Stp.hold (hp : H p = none) : Stp g H (g.hold p) (upd H p o) where
  ext := fun b u h _ => by rw [upd_ne (ne_of_none h hp)]; exact h
  fr := fun q h => by
    rcases h with h | h
    · exact .inl h
    · right
      rw [h]; exact hp
  pre := fun n u h => ⟨u, h, fun _ h => h⟩
  res := fun a u _ h _ => .inl h
  frA := fun a h => .inl h
  dom := upd_dom
theorem RepSt.hold (S : RepSt H g st) (hp : H p = none) : RepSt (upd H p o) (g.hold p) st where
  len := S.len
  cell := fun n c h => by
    obtain ⟨a, h1, h2⟩ := S.cell n c h
    exact ⟨a, h1, h2.mono (Stp.hold hp).toStp0 fun u e => by rw [upd_ne (ne_of_none e hp)]; exact e⟩
  dead := S.dead
  nd := S.nd
  exo := fun a h => by
    rcases h with h | h
    · obtain ⟨u, e⟩ := S.exo a h
      exact ⟨u, by rw [upd_ne (ne_of_none e hp)]; exact e⟩
    · exact ⟨o, by rw [h]; exact upd_same⟩
/-- a held place that is no cell becomes plain again -/
def G.drop (g : G) (p : Addr) (h : some p ∉ g.al) : G := ⟨g.al, fun a => g.ex a ∧ a ≠ p, fun a ha => ⟨g.sub a ha, fun e => h (e ▸ ha)⟩⟩
theorem Stp0.dropG (h : some p ∉ g.al) : Stp0 g H (g.drop p h) H := ⟨fun _ _ e _ => e, fun q hq => .inl hq.1⟩
theorem RepSt.dropG (S : RepSt H g st) (h : some p ∉ g.al) : RepSt H (g.drop p h) st where
  len := S.len
  cell := fun n c e => by
    obtain ⟨a, h1, h2⟩ := S.cell n c e
    exact ⟨a, h1, h2.mono (Stp0.dropG h) fun u e => e⟩
  dead := S.dead
  nd := S.nd
  exo := fun a e => S.exo a e.1
/-- a held list becomes a cell -/
def G.cell (g : G) (p : Addr) : G := ⟨g.al ++ [some p], fun a => g.ex a ∨ a = p, fun a h => by
  rcases List.mem_append.mp h with h | h
  · exact .inl (g.sub a h)
  · exact .inr (by simpa using h)⟩
theorem Stp0.cellG : Stp0 (g.hold p) H (g.cell p) H := ⟨fun _ _ e _ => e, fun q hq => .inl hq⟩
theorem RepSt.cellG (S : RepSt H g st) (hx : g.ex p) (hn : some p ∉ g.al) {ds : List D} {vs : List V} (e : H p = some (.lst vs)) (r : RepDs H g ds vs) : RepSt H (g.cell p) (st ++ [some (.l ds)]) := by
  have s0 : Stp0 g H (g.cell p) H := ⟨fun _ _ e _ => e, fun q hq => by
    rcases hq with hq | hq
    · exact .inl hq
    · rw [hq]; exact .inl hx⟩
  have key : ∀ (j : Nat) (o : Option Addr), (g.al ++ [some p])[j]? = some o → (j < g.al.length ∧ g.al[j]? = some o) ∨ (j = g.al.length ∧ o = some p) := fun j o e => by
    by_cases hj : j < g.al.length
    · rw [List.getElem?_append_left hj] at e
      exact .inl ⟨hj, e⟩
    · rw [List.getElem?_append_right (by omega)] at e
      have hj0 : j - g.al.length = 0 := by
        by_cases z : j - g.al.length = 0
        · exact z
        · rw [List.getElem?_eq_none (by simp; omega)] at e; cases e
      rw [hj0] at e
      cases e
      exact .inr ⟨by omega, rfl⟩
  have hl := S.len
  refine ⟨by show (st ++ _).length = (g.al ++ _).length; simp [S.len], fun n c h => ?_, fun n a h => ?_, fun n m a h k => ?_, fun a h => ?_⟩
  · by_cases hn : n < st.length
    · rw [List.getElem?_append_left hn] at h
      obtain ⟨a, h1, h2⟩ := S.cell n c h
      exact ⟨a, by show (g.al ++ _)[n]? = _; rw [List.getElem?_append_left (by omega)]; exact h1, h2.mono s0 fun u e => e⟩
    · rw [List.getElem?_append_right (by omega)] at h
      have hn0 : n - st.length = 0 := by
        by_cases z : n - st.length = 0
        · exact z
        · rw [List.getElem?_eq_none (by simp; omega)] at h; cases h
      rw [hn0] at h
      cases h
      refine ⟨p, ?_, vs, e, RepDs.mono0 s0 _ _ r⟩
      show (g.al ++ _)[n]? = _
      rw [List.getElem?_append_right (by omega), ← hl, hn0]; rfl
  · rcases key n _ h with ⟨h1, h2⟩ | ⟨h1, h2⟩
    · obtain ⟨c, hc⟩ := S.dead n a h2
      exact ⟨c, by rw [List.getElem?_append_left (by omega)]; exact hc⟩
    · exact ⟨.l ds, by rw [List.getElem?_append_right (by omega), show n - st.length = 0 by omega]; rfl⟩
  · rcases key n _ h with ⟨h1, h2⟩ | ⟨h1, h2⟩ <;> rcases key m _ k with ⟨k1, k2⟩ | ⟨k1, k2⟩
    · exact S.nd n m a h2 k2
    · cases k2
      exact absurd (List.mem_of_getElem? h2) hn
    · cases h2
      exact absurd (List.mem_of_getElem? k2) hn
    · omega
  · rcases h with h | h
    · exact S.exo a h
    · exact ⟨_, by rw [h]; exact e⟩
/-- a new cell at once -/
theorem Stp.cell (hp : H p = none) : Stp g H (g.cell p) (upd H p o) where
  ext := fun b u h _ => by rw [upd_ne (ne_of_none h hp)]; exact h
  fr := fun q h => by
    rcases h with h | h
    · exact .inl h
    · right
      rw [h]; exact hp
  pre := fun n u h => ⟨u, by show (g.al ++ _)[n]? = _; rw [List.getElem?_append_left (List.getElem?_eq_some_iff.mp h).1]; exact h, fun _ h => h⟩
  res := fun a u _ h _ => .inl h
  frA := fun a h => by
    rcases List.mem_append.mp h with h | h
    · exact .inl h
    · right
      have e : a = p := by simpa using h
      rw [e]; exact hp
  dom := upd_dom
theorem RepSt.nomem (S : RepSt H g st) (hp : H p = none) : some p ∉ g.al := fun z => S.free hp (g.sub p z)
theorem RepSt.newCell (S : RepSt H g st) (hp : H p = none) {ds : List D} {vs : List V} (r : RepDs H g ds vs) : RepSt (upd H p (.lst vs)) (g.cell p) (st ++ [some (.l ds)]) := by
  have S1 : RepSt (upd H p (.lst vs)) (g.hold p) st := S.hold hp
  have h := S1.cellG (p := p) (.inr rfl) (S.nomem hp) upd_same (r.mono (Stp.hold hp))
  refine ⟨h.len, fun n c e => ?_, h.dead, h.nd, fun a e => h.exo a (Or.inl (show g.ex a ∨ a = p from e))⟩
  obtain ⟨a, h1, h2⟩ := h.cell n c e
  exact ⟨a, h1, h2.mono ⟨fun _ _ e _ => e, fun q hq => Or.inl (Or.inl (show g.ex q ∨ q = p from hq))⟩ fun u e => e⟩
/-- a cell changes -/
theorem Stp.write {n : Nat} {a : Addr} (hn : g.al[n]? = some (some a)) : Stp g H g (upd H a o) where
  ext := fun b u h hb => by
    have e : b ≠ a := fun e => hb (by rw [e]; exact List.mem_of_getElem? hn)
    rw [upd_ne e]; exact h
  fr := fun q h => .inl h
  pre := fun n u h => ⟨u, h, fun _ h => h⟩
  res := fun a u _ h _ => h
  frA := fun a h => .inl h
  dom := upd_dom
theorem RepSt.write (S : RepSt H g st) {n : Nat} {a : Addr} (hn : g.al[n]? = some (some a)) {ds : List D} {vs : List V} (r : RepDs H g ds vs) : RepSt (upd H a (.lst vs)) g (st.set n (some (.l ds))) where
  len := by simp [S.len]
  cell := fun m c h => by
    by_cases hm : n = m
    · subst hm
      have hl : n < st.length := by rw [S.len]; exact (List.getElem?_eq_some_iff.mp hn).1
      rw [List.getElem?_set_self hl] at h
      cases h
      exact ⟨a, hn, vs, upd_same, r.mono (Stp.write hn)⟩
    · rw [List.getElem?_set_ne hm] at h
      obtain ⟨b, h1, h2⟩ := S.cell m c h
      have hb : b ≠ a := fun e => hm (S.nd n m a hn (by rw [← e]; exact h1))
      exact ⟨b, h1, h2.mono (Stp.write hn).toStp0 fun u e => by rw [upd_ne hb]; exact e⟩
  dead := fun m b h => by
    by_cases hm : n = m
    · subst hm
      have hl : n < st.length := by rw [S.len]; exact (List.getElem?_eq_some_iff.mp hn).1
      exact ⟨_, List.getElem?_set_self hl⟩
    · rw [List.getElem?_set_ne hm]
      exact S.dead m b h
  nd := S.nd
  exo := fun b h => by
    by_cases e : b = a
    · exact ⟨_, by rw [e]; exact upd_same⟩
    · rw [upd_ne e]
      exact S.exo b h
/-- a cell is frozen -/
def G.freeze (g : G) (n : Nat) (a : Addr) (h : g.al[n]? = some (some a)) (nd : ∀ m : Nat, g.al[m]? = some (some a) → n = m) : G :=
  ⟨g.al.set n none, fun b => g.ex b ∧ b ≠ a, fun b hb => by
    obtain ⟨m, hm⟩ := List.getElem?_of_mem hb
    by_cases e : n = m
    · subst e
      rw [List.getElem?_set_self (List.getElem?_eq_some_iff.mp h).1] at hm; cases hm
    · rw [List.getElem?_set_ne e] at hm
      exact ⟨g.sub b (List.mem_of_getElem? hm), fun z => e (nd m (by rw [← z]; exact hm))⟩⟩
theorem Stp.freeze {n : Nat} {a : Addr} {h : g.al[n]? = some (some a)} {nd : ∀ m : Nat, g.al[m]? = some (some a) → n = m} : Stp g H (g.freeze n a h nd) H where
  ext := fun b u h _ => h
  fr := fun q h => .inl h.1
  pre := fun m u hu => by
    show ∃ o', (g.al.set n none)[m]? = some o' ∧ _
    by_cases hm : n = m
    · subst hm
      exact ⟨none, List.getElem?_set_self (List.getElem?_eq_some_iff.mp hu).1, fun a z => by cases z⟩
    · exact ⟨u, by rw [List.getElem?_set_ne hm]; exact hu, fun _ h => h⟩
  res := fun b u _ hb hn => ⟨hb, fun e => hn (by rw [e]; exact List.mem_of_getElem? h)⟩
  frA := fun b hb => .inl (by
    rcases List.mem_or_eq_of_mem_set hb with h | h
    · exact h
    · cases h)
  dom := fun _ h => h
theorem RepSt.freeze (S : RepSt H g st) {n : Nat} {a : Addr} (h : g.al[n]? = some (some a)) (nd : ∀ m : Nat, g.al[m]? = some (some a) → n = m) : RepSt H (g.freeze n a h nd) (st.set n none) where
  len := by show _ = (g.al.set n none).length; simp [S.len]
  cell := fun m c hc => by
    show ∃ b, (g.al.set n none)[m]? = _ ∧ _
    by_cases hm : n = m
    · subst hm
      by_cases hl : n < st.length
      · rw [List.getElem?_set_self hl] at hc; cases hc
      · rw [List.getElem?_eq_none (by simpa using hl)] at hc; cases hc
    · rw [List.getElem?_set_ne hm] at hc
      obtain ⟨b, h1, h2⟩ := S.cell m c hc
      exact ⟨b, by rw [List.getElem?_set_ne hm]; exact h1, h2.mono Stp.freeze.toStp0 fun u e => e⟩
  dead := fun m b hb => by
    have hb : (g.al.set n none)[m]? = some (some b) := hb
    by_cases hm : n = m
    · subst hm
      by_cases hl : n < g.al.length
      · rw [List.getElem?_set_self hl] at hb; cases hb
      · rw [List.getElem?_eq_none (by simpa using hl)] at hb; cases hb
    · rw [List.getElem?_set_ne hm] at hb ⊢
      exact S.dead m b hb
  nd := fun i j b hb k => by
    have key : ∀ m : Nat, (g.al.set n none)[m]? = some (some b) → g.al[m]? = some (some b) := fun m e => by
      by_cases hm : n = m
      · subst hm
        by_cases hl : n < g.al.length
        · rw [List.getElem?_set_self hl] at e; cases e
        · rw [List.getElem?_eq_none (by simpa using hl)] at e; cases e
      · rw [List.getElem?_set_ne hm] at e; exact e
    exact S.nd i j b (key i hb) (key j k)
  exo := fun b hb => S.exo b hb.1
/-- what is behind a size is forgotten -/
def G.cut (g : G) (n : Nat) : G := ⟨g.al.take n, g.ex, fun a h => g.sub a (List.mem_of_mem_take h)⟩
theorem Stp0.cut (g : G) (H : Hp) (n : Nat) : Stp0 g H (g.cut n) H := ⟨fun _ _ h _ => h, fun p h => .inl h⟩
theorem RepSt.cut (S : RepSt H g st) (n : Nat) : RepSt H (g.cut n) (st.take n) where
  len := by show _ = (g.al.take n).length; simp [S.len]
  cell := fun m c h => by
    have hm : m < n := by
      have := (List.getElem?_eq_some_iff.mp h).1
      rw [List.length_take] at this; omega
    show ∃ b, (g.al.take n)[m]? = _ ∧ _
    rw [List.getElem?_take_of_lt hm] at h ⊢
    obtain ⟨b, h1, h2⟩ := S.cell m c h
    exact ⟨b, h1, h2.mono (Stp0.cut g H n) fun u e => e⟩
  dead := fun m b h => by
    have h : (g.al.take n)[m]? = some (some b) := h
    have hm : m < n := by
      have := (List.getElem?_eq_some_iff.mp h).1
      rw [List.length_take] at this; omega
    rw [List.getElem?_take_of_lt hm] at h ⊢
    exact S.dead m b h
  nd := fun i j a h k => by
    have key : ∀ m : Nat, (g.al.take n)[m]? = some (some a) → g.al[m]? = some (some a) := fun m e => by
      have hm : m < n := by
        have := (List.getElem?_eq_some_iff.mp e).1
        rw [List.length_take] at this; omega
      rwa [List.getElem?_take_of_lt hm] at e
    exact S.nd i j a (key i h) (key j k)
  exo := S.exo
/-- a callee's end: its own cells are forgotten -/
theorem Stp.cut {g' : G} {H' : Hp} (s : Stp g H g' H') : Stp g H (g'.cut g.al.length) H' where
  ext := s.ext
  fr := s.fr
  pre := fun n o h => by
    obtain ⟨o', h1, h2⟩ := s.pre n o h
    refine ⟨o', ?_, h2⟩
    show (g'.al.take _)[n]? = _
    rw [List.getElem?_take_of_lt (List.getElem?_eq_some_iff.mp h).1]
    exact h1
  res := s.res
  frA := fun a h => s.frA a (List.mem_of_mem_take h)
  dom := s.dom
end
end Pm

/-! Core2: runs of expressions, tests, statements as plain functions, and what ties them to the text. -/
namespace Pm
open PySem PySem.Spec PyProof.Rows L2

inductive Fl where | nx | bk | ct | rt (w : W)
abbrev ME := Slots → Store → R (W × Store)
abbrev MT := Slots → Store → R (Bool × Store)
abbrev MA := Slots → Store → R (List W × Store)
abbrev MS := Slots → Store → R (Fl × Slots × Store)
abbrev MI := Slots → Store → R (List D × Store)
abbrev Fn := List W → Store → R (W × Store)

/-! ### the readings -/
def tM (K : PySem.W.Frag) (m : ME) : TE := fun σ H Q => ∃ g sl st w st', RepSl K H g sl σ ∧ RepSt H g st ∧ m sl st = .ok (w, st') ∧ ∀ g' v H', Stp g H g' H' → RepSt H' g' st' → RepW K H' g' w v → Q v H'
def tT (K : PySem.W.Frag) (m : MT) : TT := fun σ H Q => ∃ g sl st w st', RepSl K H g sl σ ∧ RepSt H g st ∧ m sl st = .ok (w, st') ∧ ∀ g' H', Stp g H g' H' → RepSt H' g' st' → Q w H'
def tA (K : PySem.W.Frag) (m : MA) : TA := fun σ H Q => ∃ g sl st w st', RepSl K H g sl σ ∧ RepSt H g st ∧ m sl st = .ok (w, st') ∧ ∀ g' vs H', Stp g H g' H' → RepSt H' g' st' → RepWs K H' g' w vs → Q vs H'
def EndOk (K : PySem.W.Frag) (D : Ends) (H : Hp) (g : G) (sl : Slots) (σ : L2.St) : Fl → Prop
  | .nx => D.nx σ H
  | .bk => D.bk σ H
  | .ct => D.ct σ H
  | .rt w => ∀ v, RepW K H g w v → D.rt v H
def tS (K : PySem.W.Frag) (m : MS) : TS := fun D σ H => ∃ g sl st fl sl' st', RepSl K H g sl σ ∧ RepSt H g st ∧ m sl st = .ok (fl, sl', st') ∧ ∀ g' σ' H', Stp g H g' H' → RepSt H' g' st' → RepSl K H' g' sl' σ' → EndOk K D H' g' sl' σ' fl
/-- a call's reading, by values -/
def cM (K : PySem.W.Frag) (f : Fn) : List V → Hp → VK → Prop := fun vs H Q => ∃ g st ws w st', RepWs K H g ws vs ∧ RepSt H g st ∧ f ws st = .ok (w, st') ∧ ∀ g' v H', Stp g H g' H' → RepSt H' g' st' → RepW K H' g' w v → Q v H'
def r2M (K : PySem.W.Frag) (f : W → W → Store → R (W × Store)) : R2 := fun x y H Q => ∃ g st a b w st', RepW K H g a x ∧ RepW K H g b y ∧ RepSt H g st ∧ f a b st = .ok (w, st') ∧ ∀ g' v H', Stp g H g' H' → RepSt H' g' st' → RepW K H' g' w v → Q v H'
def uM (K : PySem.W.Frag) (f : W → Store → R (W × Store)) : V → Hp → VK → Prop := fun x H Q => ∃ g st a w st', RepW K H g a x ∧ RepSt H g st ∧ f a st = .ok (w, st') ∧ ∀ g' v H', Stp g H g' H' → RepSt H' g' st' → RepW K H' g' w v → Q v H'
abbrev PEm (X : Cx) (e : Expr) (m : ME) : Prop := PE X e (tM X.K m)
abbrev PTm (X : Cx) (e : Expr) (m : MT) : Prop := PT X e (tT X.K m)
abbrev PAm (X : Cx) (e : List Expr) (m : MA) : Prop := PA X e (tA X.K m)
abbrev PSm (X : Cx) (e : Stmt) (m : MS) : Prop := PS X e (tS X.K m)
abbrev PSsm (X : Cx) (e : List Stmt) (m : MS) : Prop := PSs X e (tS X.K m)

/-! ### the runs -/
def varM (i : Nat) : ME := fun sl st => match sl[i]? with
  | some (some w) => .ok (w, st)
  | _ => .stuck
def constM (d : D) : ME := fun _ st => .ok (.p d, st)
def binM (f : W → W → Store → R (W × Store)) (ma mb : ME) : ME := fun sl st => (ma sl st).bind fun x => (mb sl x.2).bind fun y => f x.1 y.1 y.2
def unM (f : W → Store → R (W × Store)) (ma : ME) : ME := fun sl st => (ma sl st).bind fun x => f x.1 x.2
def nilA : MA := fun _ st => .ok ([], st)
def consA (m : ME) (r : MA) : MA := fun sl st => (m sl st).bind fun x => (r sl x.2).bind fun y => .ok (x.1 :: y.1, y.2)
def callM (f : Fn) (a : MA) : ME := fun sl st => (a sl st).bind fun x => f x.1 x.2
def ifM (c : MT) (a b : ME) : ME := fun sl st => (c sl st).bind fun x => match x.1 with
  | true => a sl x.2
  | false => b sl x.2
/-- the list in a cell -/
def cellL (st : Store) (n : Nat) : Option (List D) := match st[n]? with
  | some (some (.l ds)) => some ds
  | _ => none
theorem cellL_inv {st : Store} {n : Nat} {ds : List D} (h : cellL st n = some ds) : st[n]? = some (some (.l ds)) := by
  unfold cellL at h
  split at h
  · cases h; assumption
  · cases h
theorem cellL_rep {H : Hp} {g : G} {st : Store} {n : Nat} {ds : List D} (S : RepSt H g st) (h : cellL st n = some ds) : ∃ a vs, g.al[n]? = some (some a) ∧ H a = some (.lst vs) ∧ RepDs H g ds vs := by
  obtain ⟨a, h1, vs, h2, h3⟩ := S.cell n _ (cellL_inv h)
  exact ⟨a, vs, h1, h2, h3⟩
/-- a value's truth -/
def truW (st : Store) : W → R Bool
  | .p .non => .ok false
  | .p (.bl b) => .ok b
  | .p (.int i) => .ok (i != 0)
  | .p (.str s) => if s.length ≤ 100000 then .ok ((s.length : Int) != 0) else .stuck
  | .p (.tup ds) => .ok (!ds.isEmpty)
  | .p (.lst ds) => .ok (!ds.isEmpty)
  | .loc n => match cellL st n with
    | some ds => .ok (!ds.isEmpty)
    | none => .stuck
  | .scr ns => .ok (!ns.isEmpty)
def truthM (m : ME) : MT := fun sl st => (m sl st).bind fun x => (truW x.2 x.1).bind fun b => .ok (b, x.2)
/-- a test whose value is True or False -/
def boolM (m : ME) : MT := fun sl st => (m sl st).bind fun x => match x.1 with
  | .p (.bl b) => .ok (b, x.2)
  | _ => .stuck
def andT (a b : MT) : MT := fun sl st => (a sl st).bind fun x => match x.1 with
  | true => b sl x.2
  | false => .ok (false, x.2)
def orT (a b : MT) : MT := fun sl st => (a sl st).bind fun x => match x.1 with
  | true => .ok (true, x.2)
  | false => b sl x.2
def notT (a : MT) : MT := fun sl st => (a sl st).bind fun x => .ok (!x.1, x.2)
def andM (a b : ME) : ME := fun sl st => (a sl st).bind fun x => (truW x.2 x.1).bind fun c => match c with
  | true => b sl x.2
  | false => .ok x
def orM (a b : ME) : ME := fun sl st => (a sl st).bind fun x => (truW x.2 x.1).bind fun c => match c with
  | true => .ok x
  | false => b sl x.2
def notM (a : ME) : ME := fun sl st => (a sl st).bind fun x => (truW x.2 x.1).bind fun c => .ok (.p (.bl (!c)), x.2)
/-- what becomes plain: a cell is frozen -/
def frz (w : W) (st : Store) : R (D × Store) := match w with
  | .p d => .ok (d, st)
  | .loc n => match cellL st n with
    | some ds => .ok (.lst ds, st.set n none)
    | none => .stuck
  | .scr _ => .stuck
def frzs : List W → Store → R (List D × Store)
  | [], st => .ok ([], st)
  | w :: ws, st => (frz w st).bind fun x => (frzs ws x.2).bind fun y => .ok (x.1 :: y.1, y.2)
def tupM (a : MA) : ME := fun sl st => (a sl st).bind fun x => (frzs x.1 x.2).bind fun y => .ok (.p (.tup y.1), y.2)
def lstM (a : MA) : ME := fun sl st => (a sl st).bind fun x => (frzs x.1 x.2).bind fun y => .ok (.p (.lst y.1), y.2)
def newM (a : MA) : ME := fun sl st => (a sl st).bind fun x => (frzs x.1 x.2).bind fun y => .ok (.loc y.2.length, y.2 ++ [some (.l y.1)])
def frzM (m : ME) : ME := fun sl st => (m sl st).bind fun x => (frz x.1 x.2).bind fun y => .ok (.p y.1, y.2)

def skipS : MS := fun sl st => .ok (.nx, sl, st)
def seqS (a b : MS) : MS := fun sl st => (a sl st).bind fun x => match x.1 with
  | .nx => b x.2.1 x.2.2
  | _ => .ok x
def retS (m : ME) : MS := fun sl st => (m sl st).bind fun x => .ok (.rt x.1, sl, x.2)
def breakS : MS := fun sl st => .ok (.bk, sl, st)
def contS : MS := fun sl st => .ok (.ct, sl, st)
def dropS (m : ME) : MS := fun sl st => (m sl st).bind fun x => .ok (.nx, sl, x.2)
def ifS (c : MT) (a b : MS) : MS := fun sl st => (c sl st).bind fun x => match x.1 with
  | true => a sl x.2
  | false => b sl x.2
def raiseS (c : Nat) : MS := fun _ st => .exc c st
def setS (i : Nat) (m : ME) : MS := fun sl st => (m sl st).bind fun x => .ok (.nx, sl.set i (some x.1), x.2)
inductive Tgt where | nm (i : Nat) | tp (ts : List Tgt)
mutual
def Tgt.put : Tgt → W → Slots → R Slots
  | .nm i, w, sl => .ok (sl.set i (some w))
  | .tp ts, .p (.tup ds), sl => if ds.length = ts.length then Tgt.puts ts ds sl else .stuck
  | .tp _, _, _ => .stuck
def Tgt.puts : List Tgt → List D → Slots → R Slots
  | [], _, sl => .ok sl
  | t :: ts, d :: ds, sl => (Tgt.put t (.p d) sl).bind fun sl1 => Tgt.puts ts ds sl1
  | _ :: _, [], _ => .stuck
end
def asgS (t : Tgt) (m : ME) : MS := fun sl st => (m sl st).bind fun x => (t.put x.1 sl).bind fun sl1 => .ok (.nx, sl1, x.2)
/-- a for loop over what is known ahead -/
def forGo (t : Tgt) (body : MS) : List D → MS
  | [], sl, st => .ok (.nx, sl, st)
  | d :: ds, sl, st => (t.put (.p d) sl).bind fun sl1 => (body sl1 st).bind fun x => match x.1 with
    | .nx => forGo t body ds x.2.1 x.2.2
    | .ct => forGo t body ds x.2.1 x.2.2
    | .bk => .ok (.nx, x.2.1, x.2.2)
    | .rt w => .ok (.rt w, x.2.1, x.2.2)
def forS (t : Tgt) (it : MI) (body : MS) : MS := fun sl st => (it sl st).bind fun x => forGo t body x.1 sl x.2
def whileS (c : MT) (body : MS) : Nat → MS
  | 0, _, _ => .stuck
  | n + 1, sl, st => (c sl st).bind fun x => match x.1 with
    | false => .ok (.nx, sl, x.2)
    | true => (body sl x.2).bind fun y => match y.1 with
      | .nx => whileS c body n y.2.1 y.2.2
      | .ct => whileS c body n y.2.1 y.2.2
      | .bk => .ok (.nx, y.2.1, y.2.2)
      | .rt w => .ok (.rt w, y.2.1, y.2.2)
def wipeSl (sl : Slots) : List Nat → Slots
  | [] => sl
  | v :: vs => (wipeSl sl vs).set v none
def lcGo (sl0 : Slots) (t : Tgt) (test : MT) (elt : ME) : List D → List D → Store → R (List D × Store)
  | [], acc, st => .ok (acc.reverse, st)
  | d :: ds, acc, st => (t.put (.p d) sl0).bind fun sl1 => (test sl1 st).bind fun b => match b.1 with
    | false => lcGo sl0 t test elt ds acc b.2
    | true => (elt sl1 b.2).bind fun x => (frz x.1 x.2).bind fun y => lcGo sl0 t test elt ds (y.1 :: acc) y.2
/-- the items of a list comprehension -/
def lcI (vs : List Nat) (t : Tgt) (it : MI) (test : MT) (elt : ME) : MI := fun sl st => (it sl st).bind fun x => if x.1.length ≤ 1000000 then lcGo (wipeSl sl vs) t test elt x.1 [] x.2 else .stuck
def yesT : MT := fun _ st => .ok (true, st)
/-- a new list's items as a value: frozen; as a cell -/
def lstOfI (m : MI) : ME := fun sl st => (m sl st).bind fun x => .ok (.p (.lst x.1), x.2)
def newOfI (m : MI) : ME := fun sl st => (m sl st).bind fun x => .ok (.loc x.2.length, x.2 ++ [some (.l x.1)])

/-! ### a def's run -/
/-- the value handed back is plain; the def's own cells are forgotten -/
def defP (N : Nat) (body : MS) : Fn := fun ws st => (body (ws.map some ++ List.replicate (N - ws.length) none) st).bind fun x => match x.1 with
  | .rt w => (frz w x.2.2).bind fun y => .ok (.p y.1, y.2.take st.length)
  | .nx => .ok (.p .non, x.2.2.take st.length)
  | _ => .stuck
/-- the value handed back may be a cell -/
def defC (N : Nat) (body : MS) : Fn := fun ws st => (body (ws.map some ++ List.replicate (N - ws.length) none) st).bind fun x => match x.1 with
  | .rt w => .ok (w, x.2.2)
  | .nx => .ok (.p .non, x.2.2)
  | _ => .stuck

/-! ### ties: expressions -/
section
variable {X : Cx} {e e1 e2 : Expr} {es : List Expr} {pos : Pos}
theorem pe_w {t t' : TE} (h : PE X e t) (w : ∀ σ H Q, t' σ H Q → t σ H Q) : PE X e t' := ⟨fun pins s σ H Q I q => h.run pins s σ H Q I (w σ H Q q)⟩
theorem pt_w {t t' : TT} (h : PT X e t) (w : ∀ σ H Q, t' σ H Q → t σ H Q) : PT X e t' := ⟨fun pins s σ H Q I q => h.run pins s σ H Q I (w σ H Q q)⟩
theorem pw_w {t t' : TT} (h : PW X e t) (w : ∀ σ H Q, t' σ H Q → t σ H Q) : PW X e t' := ⟨fun wh pins s σ H Q I q => h.run wh pins s σ H Q I (w σ H Q q)⟩
theorem pa_w {t t' : TA} (h : PA X es t) (w : ∀ σ H Q, t' σ H Q → t σ H Q) : PA X es t' := ⟨fun pos pins s σ H Q I q => h.run pos pins s σ H Q I (w σ H Q q)⟩
theorem ps_w {st : Stmt} {t t' : TS} (h : PS X st t) (w : ∀ D σ H, t' D σ H → t D σ H) : PS X st t' := ⟨fun pins s σ H D I q => h.run pins s σ H D I (w D σ H q)⟩
theorem pss_w {st : List Stmt} {t t' : TS} (h : PSs X st t) (w : ∀ D σ H, t' D σ H → t D σ H) : PSs X st t' := ⟨fun pins s σ H D I q => h.run pins s σ H D I (w D σ H q)⟩

theorem m_var (i : Nat) {x : Str} {pos : Pos} (hN : X.N[i]? = some x := by rfl) (hv : Vis X.env.scope x := by first | exact Or.inl rfl | exact Or.inr (Or.inl rfl) | exact Or.inr (Or.inr rfl)) (hd : (x == ("__debug__" : Str)) = false := by decide)
    (hcd : (x == ("__classdict__" : Str)) = false := by decide) : PEm X (.Name x pos) (varM i) := by
  refine pe_w (pe_var hN hv hd hcd) fun σ H Q ⟨g, sl, st, w, st', hs, ht, e, k⟩ => ?_
  unfold varM at e
  cases h : sl[i]? with
  | none => rw [h] at e; cases e
  | some o =>
    cases o with
    | none => rw [h] at e; cases e
    | some w' =>
      rw [h] at e
      cases e
      obtain ⟨v, h1, h2⟩ := hs.at_ i w h
      exact ⟨v, h1, k g v H (Stp.refl g H) ht h2⟩
theorem m_const {d : D} {v : V} (h : PE X e (tC v)) (r : ∀ H g, RepD H g d v) : PEm X e (constM d) := by
  refine pe_w h fun σ H Q ⟨g, sl, st, w, st', hs, ht, e, k⟩ => ?_
  cases e
  exact k g v H (Stp.refl g H) ht (r H g)
theorem m_bin {op : Operator} {f : W → W → Store → R (W × Store)} {ma mb : ME} (ho : OpR X (binaryOp op) (r2M X.K f)) (ha : PEm X e1 ma) (hb : PEm X e2 mb) : PEm X (.BinOp e1 op e2 pos) (binM f ma mb) := by
  refine pe_w (pe_op ho ha hb) fun σ H Q ⟨g, sl, st, w, st', hs, ht, e, k⟩ => ?_
  obtain ⟨⟨x, st1⟩, h1, e⟩ := R.bind_inv e
  obtain ⟨⟨y, st2⟩, h2, e⟩ := R.bind_inv e
  exact ⟨g, sl, st, x, st1, hs, ht, h1, fun g1 v1 H1 s1 t1 r1 => ⟨g1, sl, st1, y, st2, hs.mono s1, t1, h2, fun g2 v2 H2 s2 t2 r2 =>
    ⟨g2, st2, x, y, w, st', r1.mono s2, r2, t2, e, fun g3 v H3 s3 t3 r3 => k g3 v H3 (s1.trans (s2.trans s3)) t3 r3⟩⟩⟩
theorem m_un {op : UnaryOp} {f : W → Store → R (W × Store)} {ma : ME} (ho : UnR X (unaryOp op) (uM X.K f)) (ha : PEm X e1 ma) : PEm X (.UnaryOp op e1 pos) (unM f ma) := by
  refine pe_w (pe_un ho ha) fun σ H Q ⟨g, sl, st, w, st', hs, ht, e, k⟩ => ?_
  obtain ⟨⟨x, st1⟩, h1, e⟩ := R.bind_inv e
  exact ⟨g, sl, st, x, st1, hs, ht, h1, fun g1 v1 H1 s1 t1 r1 => ⟨g1, st1, x, w, st', r1, t1, e, fun g3 v H3 s3 t3 r3 => k g3 v H3 (s1.trans s3) t3 r3⟩⟩
theorem m_cmp {op : CmpOp} {f : W → W → Store → R (W × Store)} {ma mb : ME} (ho : OpR X (compareOp op) (r2M X.K f)) (ha : PEm X e1 ma) (hb : PEm X e2 mb) (hm : behindInMarks op e2 = false) : PEm X (.Compare e1 [op] [e2] pos) (binM f ma mb) := by
  refine pe_w (pe_cmpR ho ha hb hm) fun σ H Q ⟨g, sl, st, w, st', hs, ht, e, k⟩ => ?_
  obtain ⟨⟨x, st1⟩, h1, e⟩ := R.bind_inv e
  obtain ⟨⟨y, st2⟩, h2, e⟩ := R.bind_inv e
  exact ⟨g, sl, st, x, st1, hs, ht, h1, fun g1 v1 H1 s1 t1 r1 => ⟨g1, sl, st1, y, st2, hs.mono s1, t1, h2, fun g2 v2 H2 s2 t2 r2 =>
    ⟨g2, st2, x, y, w, st', r1.mono s2, r2, t2, e, fun g3 v H3 s3 t3 r3 => k g3 v H3 (s1.trans (s2.trans s3)) t3 r3⟩⟩⟩
theorem boolM_inv {m : ME} {sl : Slots} {st st' : Store} {b : Bool} (h : boolM m sl st = .ok (b, st')) : m sl st = .ok (.p (.bl b), st') := by
  obtain ⟨⟨x, st1⟩, h1, e⟩ := R.bind_inv h
  rw [h1]
  cases x with
  | loc n => cases e
  | scr n => cases e
  | p d =>
    cases d with
    | bl c => cases e; rfl
    | _ => cases e
theorem repBl_inv {H : Hp} {g : G} {b : Bool} {v : V} (h : RepD H g (.bl b) v) : v = .bl b := by simpa only [RepD] using h
theorem t_cmp {op : CmpOp} {f : W → W → Store → R (W × Store)} {ma mb : ME} (ho : OpR X (compareOp op) (r2M X.K f)) (ha : PEm X e1 ma) (hb : PEm X e2 mb) (hm : behindInMarks op e2 = false) : PTm X (.Compare e1 [op] [e2] pos) (boolM (binM f ma mb)) := by
  refine pt_w (pt_cmpR ho ha hb hm) fun σ H Q ⟨g, sl, st, w, st', hs, ht, e, k⟩ => ?_
  have e := boolM_inv e
  obtain ⟨⟨x, st1⟩, h1, e⟩ := R.bind_inv e
  obtain ⟨⟨y, st2⟩, h2, e⟩ := R.bind_inv e
  exact ⟨g, sl, st, x, st1, hs, ht, h1, fun g1 v1 H1 s1 t1 r1 => ⟨g1, sl, st1, y, st2, hs.mono s1, t1, h2, fun g2 v2 H2 s2 t2 r2 =>
    ⟨g2, st2, x, y, _, st', r1.mono s2, r2, t2, e, fun g3 v H3 s3 t3 r3 => ⟨w, rwBl_inv r3, k g3 H3 (s1.trans (s2.trans s3)) t3⟩⟩⟩⟩
/-- truth by the heap -/
theorem tru_rep {K : PySem.W.Frag} {H : Hp} {g : G} {st : Store} {w : W} {v : V} {b : Bool} (S : RepSt H g st) (r : RepW K H g w v) (h : truW st w = .ok b) : TruV K v H b := by
  have iso : ∀ {ds : List D} {vs : List V}, RepDs H g ds vs → (!ds.isEmpty) = !vs.isEmpty := fun {ds vs} q => by
    have := q.length
    cases ds <;> cases vs <;> simp_all
  cases w with
  | p d =>
    cases d with
    | non => cases h; have e : v = .non := by simpa only [RepW, RepD] using r
             subst e; rfl
    | bl c => have e : v = .bl c := by simpa only [RepW, RepD] using r
              subst e; cases h; rfl
    | int i => have e : v = .int i := by simpa only [RepW, RepD] using r
               subst e; cases h; rfl
    | str s =>
      have e : v = .str s := by simpa only [RepW, RepD] using r
      subst e
      have h : (if s.length ≤ 100000 then R.ok ((s.length : Int) != 0) else R.stuck) = R.ok b := h
      by_cases hz : s.length ≤ 100000
      · rw [if_pos hz] at h
        cases h
        exact ⟨Nat.le_trans hz (by decide), rfl⟩
      · rw [if_neg hz] at h
        cases h
    | tup ds =>
      simp only [RepW, RepD] at r
      obtain ⟨a, vs, rfl, _, ha, hr⟩ := r
      cases h
      exact .inr (.inl ⟨vs, ha.sqt, iso hr⟩)
    | lst ds =>
      simp only [RepW, RepD] at r
      obtain ⟨a, vs, rfl, _, ha, hr⟩ := r
      cases h
      exact .inl ⟨vs, .inl (.inl ha), iso hr⟩
  | loc n =>
    obtain ⟨o, h1, h2⟩ := r
    dsimp only [truW] at h
    cases hc : cellL st n with
    | none => rw [hc] at h; cases h
    | some ds =>
      rw [hc] at h
      cases h
      obtain ⟨a, vs, h3, h4, h5⟩ := cellL_rep S hc
      rw [h1] at h3
      cases h3
      rw [h2 a rfl]
      exact .inl ⟨vs, .inl (.inl h4), iso h5⟩
  | scr ns =>
    obtain ⟨a, rfl, r⟩ := r
    cases h
    refine .inl ⟨ns.map V.int, ?_, by cases ns <;> rfl⟩
    rcases r with ⟨o, _, ha, rfl | ⟨ob, rfl⟩⟩ | r
    · exact .inl (.inl ha)
    · exact .inl (.inr ⟨ob, ha⟩)
    · exact r H
theorem t_truth {m : ME} (ha : PEm X e m) (he : ∀ whole, isTrue e X.env whole = (do let v ← whole; standAt e.pos; holding [v] (truthy v)) := by intro _; rfl) : PTm X e (truthM m) := by
  refine pt_w (pt_truth ha he) fun σ H Q ⟨g, sl, st, w, st', hs, ht, e, k⟩ => ?_
  obtain ⟨⟨x, st1⟩, h1, e⟩ := R.bind_inv e
  obtain ⟨b, h2, e⟩ := R.bind_inv e
  cases e
  exact ⟨g, sl, st, x, st1, hs, ht, h1, fun g1 v1 H1 s1 t1 r1 => ⟨w, tru_rep t1 r1 h2, k g1 H1 s1 t1⟩⟩
theorem t_and1 {a : MT} (ha : PTm X e a) : PW X (.BoolOp .And [e] pos) (tT X.K a) := pw_and1 ha
theorem t_or1 {a : MT} (ha : PTm X e a) : PW X (.BoolOp .Or [e] pos) (tT X.K a) := pw_or1 ha
theorem t_and {a b : MT} {r : List Expr} (ha : PTm X e a) (hb : PW X (.BoolOp .And (e2 :: r) pos) (tT X.K b)) : PW X (.BoolOp .And (e :: e2 :: r) pos) (tT X.K (andT a b)) := by
  refine pw_w (pw_and ha hb) fun σ H Q ⟨g, sl, st, w, st', hs, ht, e, k⟩ => ?_
  obtain ⟨⟨x, st1⟩, h1, e⟩ := R.bind_inv e
  refine ⟨g, sl, st, x, st1, hs, ht, h1, fun g1 H1 s1 t1 => ?_⟩
  cases x with
  | true => exact ⟨g1, sl, st1, w, st', hs.mono s1, t1, e, fun g2 H2 s2 t2 => k g2 H2 (s1.trans s2) t2⟩
  | false => cases e; exact k g1 H1 s1 t1
theorem t_or {a b : MT} {r : List Expr} (ha : PTm X e a) (hb : PW X (.BoolOp .Or (e2 :: r) pos) (tT X.K b)) : PW X (.BoolOp .Or (e :: e2 :: r) pos) (tT X.K (orT a b)) := by
  refine pw_w (pw_or ha hb) fun σ H Q ⟨g, sl, st, w, st', hs, ht, e, k⟩ => ?_
  obtain ⟨⟨x, st1⟩, h1, e⟩ := R.bind_inv e
  refine ⟨g, sl, st, x, st1, hs, ht, h1, fun g1 H1 s1 t1 => ?_⟩
  cases x with
  | true => cases e; exact k g1 H1 s1 t1
  | false => exact ⟨g1, sl, st1, w, st', hs.mono s1, t1, e, fun g2 H2 s2 t2 => k g2 H2 (s1.trans s2) t2⟩
theorem t_not {a : MT} (ha : PTm X e a) : PTm X (.UnaryOp .Not e pos) (notT a) := by
  refine pt_w (pt_not ha) fun σ H Q ⟨g, sl, st, w, st', hs, ht, e, k⟩ => ?_
  obtain ⟨⟨x, st1⟩, h1, e⟩ := R.bind_inv e
  cases e
  exact ⟨g, sl, st, x, st1, hs, ht, h1, fun g1 H1 s1 t1 => k g1 H1 s1 t1⟩
theorem m_one {op} {a : ME} (ha : PEm X e a) : PEm X (.BoolOp op [e] pos) a := pe_one ha
theorem m_and {a b : ME} {r : List Expr} (ha : PEm X e a) (hb : PEm X (.BoolOp .And (e2 :: r) pos) b) : PEm X (.BoolOp .And (e :: e2 :: r) pos) (andM a b) := by
  refine pe_w (pe_andT ha hb) fun σ H Q ⟨g, sl, st, w, st', hs, ht, e, k⟩ => ?_
  obtain ⟨⟨x, st1⟩, h1, e⟩ := R.bind_inv e
  obtain ⟨c, h2, e⟩ := R.bind_inv e
  refine ⟨g, sl, st, x, st1, hs, ht, h1, fun g1 v1 H1 s1 t1 r1 => ⟨c, tru_rep t1 r1 h2, ?_⟩⟩
  cases c with
  | true => exact ⟨g1, sl, st1, w, st', hs.mono s1, t1, e, fun g2 v2 H2 s2 t2 r2 => k g2 v2 H2 (s1.trans s2) t2 r2⟩
  | false => cases e; exact k g1 v1 H1 s1 t1 r1
theorem m_or {a b : ME} {r : List Expr} (ha : PEm X e a) (hb : PEm X (.BoolOp .Or (e2 :: r) pos) b) : PEm X (.BoolOp .Or (e :: e2 :: r) pos) (orM a b) := by
  refine pe_w (pe_orT ha hb) fun σ H Q ⟨g, sl, st, w, st', hs, ht, e, k⟩ => ?_
  obtain ⟨⟨x, st1⟩, h1, e⟩ := R.bind_inv e
  obtain ⟨c, h2, e⟩ := R.bind_inv e
  refine ⟨g, sl, st, x, st1, hs, ht, h1, fun g1 v1 H1 s1 t1 r1 => ⟨c, tru_rep t1 r1 h2, ?_⟩⟩
  cases c with
  | true => cases e; exact k g1 v1 H1 s1 t1 r1
  | false => exact ⟨g1, sl, st1, w, st', hs.mono s1, t1, e, fun g2 v2 H2 s2 t2 r2 => k g2 v2 H2 (s1.trans s2) t2 r2⟩
theorem m_not {a : ME} (ha : PEm X e a) : PEm X (.UnaryOp .Not e pos) (notM a) := by
  refine pe_w (pe_notT ha) fun σ H Q ⟨g, sl, st, w, st', hs, ht, e, k⟩ => ?_
  obtain ⟨⟨x, st1⟩, h1, e⟩ := R.bind_inv e
  obtain ⟨c, h2, e⟩ := R.bind_inv e
  cases e
  exact ⟨g, sl, st, x, st1, hs, ht, h1, fun g1 v1 H1 s1 t1 r1 => ⟨c, tru_rep t1 r1 h2, k g1 _ H1 s1 t1 (rwBl _)⟩⟩
theorem m_ifx {c : Expr} {tc : MT} {a b : ME} (hc : PTm X c tc) (ha : PEm X e1 a) (hb : PEm X e2 b) : PEm X (.IfExp c e1 e2 pos) (ifM tc a b) := by
  refine pe_w (pe_ifExp hc ha hb) fun σ H Q ⟨g, sl, st, w, st', hs, ht, e, k⟩ => ?_
  obtain ⟨⟨x, st1⟩, h1, e⟩ := R.bind_inv e
  refine ⟨g, sl, st, x, st1, hs, ht, h1, fun g1 H1 s1 t1 => ?_⟩
  cases x with
  | true => exact ⟨g1, sl, st1, w, st', hs.mono s1, t1, e, fun g2 v2 H2 s2 t2 r2 => k g2 v2 H2 (s1.trans s2) t2 r2⟩
  | false => exact ⟨g1, sl, st1, w, st', hs.mono s1, t1, e, fun g2 v2 H2 s2 t2 r2 => k g2 v2 H2 (s1.trans s2) t2 r2⟩
theorem a_nil : PAm X [] nilA := by
  refine pa_w pa_nil fun σ H Q ⟨g, sl, st, w, st', hs, ht, e, k⟩ => ?_
  cases e
  exact k g [] H (Stp.refl g H) ht .nil
theorem a_cons {m : ME} {r : MA} (ha : PEm X e m) (hr : PAm X es r) (hs : starEach (e :: es) X.env = (false, eval e X.env) :: starEach es X.env := by rfl) : PAm X (e :: es) (consA m r) := by
  refine pa_w (pa_cons ha hr hs) fun σ H Q ⟨g, sl, st, w, st', hs, ht, e, k⟩ => ?_
  obtain ⟨⟨x, st1⟩, h1, e⟩ := R.bind_inv e
  obtain ⟨⟨y, st2⟩, h2, e⟩ := R.bind_inv e
  cases e
  exact ⟨g, sl, st, x, st1, hs, ht, h1, fun g1 v1 H1 s1 t1 r1 => ⟨g1, sl, st1, y, st2, hs.mono s1, t1, h2, fun g2 v2 H2 s2 t2 r2 => k g2 _ H2 (s1.trans s2) t2 (.cons (r1.mono s2) r2)⟩⟩
/-- freezing, in the heap -/
theorem frz_rep {K : PySem.W.Frag} {H : Hp} {g : G} {st st' : Store} {w : W} {v : V} {d : D} (S : RepSt H g st) (r : RepW K H g w v) (h : frz w st = .ok (d, st')) : ∃ g', Stp g H g' H ∧ RepSt H g' st' ∧ RepD H g' d v := by
  cases w with
  | p d' => cases h; exact ⟨g, Stp.refl g H, S, r⟩
  | scr ns => cases h
  | loc n =>
    dsimp only [frz] at h
    cases hc : cellL st n with
    | none => rw [hc] at h; cases h
    | some ds =>
      rw [hc] at h
      cases h
      obtain ⟨o, h1, h2⟩ := r
      obtain ⟨a, vs, h3, h4, h5⟩ := cellL_rep S hc
      rw [h1] at h3
      cases h3
      have nd : ∀ m : Nat, g.al[m]? = some (some a) → n = m := fun m hm => S.nd n m a h1 hm
      refine ⟨g.freeze n a h1 nd, Stp.freeze, S.freeze h1 nd, ?_⟩
      rw [h2 a rfl]
      simp only [RepD]
      exact ⟨a, vs, rfl, fun z => z.2 rfl, h4, h5.mono Stp.freeze⟩
theorem frzs_rep {K : PySem.W.Frag} {H : Hp} : ∀ {ws : List W} {g : G} {st st' : Store} {vs : List V} {ds : List D}, RepSt H g st → RepWs K H g ws vs → frzs ws st = .ok (ds, st') → ∃ g', Stp g H g' H ∧ RepSt H g' st' ∧ RepDs H g' ds vs
  | [], g, st, st', vs, ds, S, r, h => by
    cases h
    cases r
    exact ⟨g, Stp.refl g H, S, .nil⟩
  | w :: ws, g, st, st', vs, ds, S, r, h => by
    obtain ⟨⟨d, st1⟩, h1, h⟩ := R.bind_inv h
    obtain ⟨⟨es, st2⟩, h2, h⟩ := R.bind_inv h
    cases h
    cases r with
    | cons r1 r2 =>
      obtain ⟨g1, s1, t1, q1⟩ := frz_rep S r1 h1
      obtain ⟨g2, s2, t2, q2⟩ := frzs_rep t1 (RepWs.mono s1 r2) h2
      exact ⟨g2, s1.trans s2, t2, .cons (q1.mono s2) q2⟩
theorem len_ok {n : Nat} (h : n ≤ 1000000) : n ≤ sizeLine := Nat.le_trans h (by decide)
theorem len_lt {n : Nat} (h : n ≤ 1000000) : n < sizeLine := Nat.lt_of_le_of_lt h (by decide)
theorem frzs_len : ∀ {ws : List W} {st st' : Store} {ds : List D}, frzs ws st = .ok (ds, st') → ds.length = ws.length
  | [], _, _, _, h => by cases h; rfl
  | w :: ws, _, _, _, h => by
    obtain ⟨⟨d, st1⟩, h1, h⟩ := R.bind_inv h
    obtain ⟨⟨es, st2⟩, h2, h⟩ := R.bind_inv h
    cases h
    simp [frzs_len h2]
theorem RepWs.len {K : PySem.W.Frag} {H : Hp} {g : G} {ws : List W} {vs : List V} (r : RepWs K H g ws vs) : ws.length = vs.length := Paired.length r
/-- how many arguments an argument list has -/
def LenA (m : MA) (n : Nat) : Prop := ∀ sl st w st', m sl st = .ok (w, st') → w.length = n
theorem lenA_nil : LenA nilA 0 := fun sl st w st' h => by cases h; rfl
theorem lenA_cons {m : ME} {r : MA} {n : Nat} (h : LenA r n) : LenA (consA m r) (n + 1) := fun sl st w st' e => by
  obtain ⟨⟨x, st1⟩, h1, e⟩ := R.bind_inv e
  obtain ⟨⟨y, st2⟩, h2, e⟩ := R.bind_inv e
  cases e
  simp [h _ _ _ _ h2]
theorem m_tup {x1} {m : MA} {n : Nat} (ha : PAm X es m) (hl : LenA m n) (hn : n ≤ 1000000) : PEm X (.Tuple es x1 pos) (tupM m) := by
  refine pe_w (pe_tupF ha) fun σ H Q ⟨g, sl, st, w, st', hs, ht, e, k⟩ => ?_
  obtain ⟨⟨x, st1⟩, h1, e⟩ := R.bind_inv e
  obtain ⟨⟨y, st2⟩, h2, e⟩ := R.bind_inv e
  cases e
  refine ⟨g, sl, st, x, st1, hs, ht, h1, fun g1 vs H1 s1 t1 r1 => ⟨by rw [← r1.len, hl _ _ _ _ h1]; exact len_ok hn, ?_⟩⟩
  obtain ⟨g2, s2, t2, q2⟩ := frzs_rep t1 r1 h2
  exact tup_p t2 q2 fun g3 v3 H3 s3 t3 r3 => k g3 v3 H3 (s1.trans (s2.trans s3)) t3 r3
theorem m_lst {m : MA} {n : Nat} (ha : PAm X es m) (hl : LenA m n) (hn : n ≤ 1000000) : PEm X (.List es pos) (lstM m) := by
  refine pe_w (pe_lst ha) fun σ H Q ⟨g, sl, st, w, st', hs, ht, e, k⟩ => ?_
  obtain ⟨⟨x, st1⟩, h1, e⟩ := R.bind_inv e
  obtain ⟨⟨y, st2⟩, h2, e⟩ := R.bind_inv e
  cases e
  refine ⟨g, sl, st, x, st1, hs, ht, h1, fun g1 vs H1 s1 t1 r1 => ⟨by rw [← r1.len, hl _ _ _ _ h1]; exact len_ok hn, fun p hp => ?_⟩⟩
  obtain ⟨g2, s2, t2, q2⟩ := frzs_rep t1 r1 h2
  exact k g2 _ _ (s1.trans (s2.trans (Stp.new hp))) (t2.new hp) (rep_lst t2 hp q2)
theorem rep_cell {K : PySem.W.Frag} {H : Hp} {g : G} {st : Store} {p : Addr} (S : RepSt H g st) {o : HO} : RepW K (upd H p o) (g.cell p) (.loc st.length) (.ref p) :=
  ⟨some p, by show (g.al ++ _)[_]? = _; rw [S.len, List.getElem?_append_right (Nat.le_refl _), Nat.sub_self]; rfl, fun a e => by cases e; rfl⟩
theorem m_new {m : MA} {n : Nat} (ha : PAm X es m) (hl : LenA m n) (hn : n ≤ 1000000) : PEm X (.List es pos) (newM m) := by
  refine pe_w (pe_lst ha) fun σ H Q ⟨g, sl, st, w, st', hs, ht, e, k⟩ => ?_
  obtain ⟨⟨x, st1⟩, h1, e⟩ := R.bind_inv e
  obtain ⟨⟨y, st2⟩, h2, e⟩ := R.bind_inv e
  cases e
  refine ⟨g, sl, st, x, st1, hs, ht, h1, fun g1 vs H1 s1 t1 r1 => ⟨by rw [← r1.len, hl _ _ _ _ h1]; exact len_ok hn, fun p hp => ?_⟩⟩
  obtain ⟨g2, s2, t2, q2⟩ := frzs_rep t1 r1 h2
  exact k (g2.cell p) _ _ (s1.trans (s2.trans (Stp.cell hp))) (t2.newCell hp q2) (rep_cell t2)
/-- the value is frozen, whatever the expression -/
theorem m_frz {m : ME} (ha : PEm X e m) : PEm X e (frzM m) := by
  refine pe_w ha fun σ H Q ⟨g, sl, st, w, st', hs, ht, e, k⟩ => ?_
  obtain ⟨⟨x, st1⟩, h1, e⟩ := R.bind_inv e
  obtain ⟨⟨y, st2⟩, h2, e⟩ := R.bind_inv e
  cases e
  refine ⟨g, sl, st, x, st1, hs, ht, h1, fun g1 v1 H1 s1 t1 r1 => ?_⟩
  obtain ⟨g2, s2, t2, q2⟩ := frz_rep t1 r1 h2
  exact k g2 _ _ (s1.trans s2) t2 q2

/-! ### ties: calls -/
theorem m_callB {x : Str} {p : Pos} {id : String} {f : Fn} {m : MA} (hc : CallR X (.builtin id) (cM X.K f)) (hg : Gl X x) (hm : X.mg x = none) (hv : bootBuiltins x = some (.builtin id)) (ha : PAm X (e :: es) m) (hn : x ≠ "__name__" := by decide) (hdb : (x == ("__debug__" : Str)) = false := by decide)
    (he : starEach (e :: es) X.env = (false, eval e X.env) :: starEach es X.env := by rfl) (hpl : (backTo pos (starEach es X.env)).any (·.1) = false := by rfl) : PEm X (.Call (.Name x p) (e :: es) [] pos) (callM f m) := by
  refine pe_w (pe_callB hc hg hm hv ha hn hdb he hpl) fun σ H Q ⟨g, sl, st, w, st', hs, ht, e, k⟩ => ?_
  obtain ⟨⟨x, st1⟩, h1, e⟩ := R.bind_inv e
  exact ⟨g, sl, st, x, st1, hs, ht, h1, fun g1 v1 H1 s1 t1 r1 => ⟨g1, st1, x, w, st', r1, t1, e, fun g2 v2 H2 s2 t2 r2 => k g2 v2 H2 (s1.trans s2) t2 r2⟩⟩
theorem m_callTy {x : Str} {p : Pos} {T : String} {f : Fn} {m : MA} (hc : CallR X (.type T) (cM X.K f)) (hg : Gl X x) (hm : X.mg x = none) (hv : bootBuiltins x = some (.type T)) (ha : PAm X (e :: es) m) (hn : x ≠ "__name__" := by decide) (hdb : (x == ("__debug__" : Str)) = false := by decide)
    (he : starEach (e :: es) X.env = (false, eval e X.env) :: starEach es X.env := by rfl) (hpl : (backTo pos (starEach es X.env)).any (·.1) = false := by rfl) : PEm X (.Call (.Name x p) (e :: es) [] pos) (callM f m) := by
  refine pe_w (pe_callTy hc hg hm hv ha hn hdb he hpl) fun σ H Q ⟨g, sl, st, w, st', hs, ht, e, k⟩ => ?_
  obtain ⟨⟨x, st1⟩, h1, e⟩ := R.bind_inv e
  exact ⟨g, sl, st, x, st1, hs, ht, h1, fun g1 v1 H1 s1 t1 r1 => ⟨g1, st1, x, w, st', r1, t1, e, fun g2 v2 H2 s2 t2 r2 => k g2 v2 H2 (s1.trans s2) t2 r2⟩⟩
/-- a def's promise: what its run says -/
def spM (K : PySem.W.Frag) (f : Fn) (n : Nat) : Sp := fun vs H Q _ => vs.length = n ∧ cM K f vs H Q
theorem m_call {k : Nat} {a : Addr} {fd : FuncData} {ps : List Str} {f : Fn} {n : Nat} {x : Str} {p : Pos} {m : MA} (F : FnOk X.prog X.w X.K X.mg X.base CX0 k a fd ps (spM X.K f n)) (hr : Room k X.A) (hg : Gl X x) (hm : X.mg x = some (.ref a)) (hk : PySem.W.keepIn X.K (.ref a) = true) (hb : Binds X.K fd ps [])
    (ha : PAm X (e :: es) m) (hl : LenA m n) (hdb : (x == ("__debug__" : Str)) = false := by decide) (he : starEach (e :: es) X.env = (false, eval e X.env) :: starEach es X.env := by rfl) (hpl : (backTo pos (starEach es X.env)).any (·.1) = false := by rfl) :
    PEm X (.Call (.Name x p) (e :: es) [] pos) (callM f m) := by
  refine pe_w (pe_call F hr hg hm hk hb .nil pass0 ha hdb he hpl) fun σ H Q ⟨g, sl, st, w, st', hs, ht, e, k⟩ => ?_
  obtain ⟨⟨x, st1⟩, h1, e⟩ := R.bind_inv e
  refine ⟨g, sl, st, x, st1, hs, ht, h1, fun g1 v1 H1 s1 t1 r1 => ?_⟩
  show spM X.K f n (v1 ++ []) H1 Q _
  rw [List.append_nil]
  exact ⟨by rw [← r1.len]; exact hl _ _ _ _ h1, g1, st1, x, w, st', r1, t1, e, fun g2 v2 H2 s2 t2 r2 => k g2 v2 H2 (s1.trans s2) t2 r2⟩

/-! ### ties: statements -/
variable {s s1 : Stmt} {ss : List Stmt}
theorem s_nil : PSsm X [] skipS := by
  refine pss_w pss_nil fun D σ H ⟨g, sl, st, fl, sl', st', hs, ht, e, k⟩ => ?_
  cases e
  exact k g σ H (Stp.refl g H) ht hs
theorem EndOk.mono {K : PySem.W.Frag} {D : Ends} {u : L2.St → Hp → Prop} {H : Hp} {g : G} {sl : Slots} {σ : L2.St} {fl : Fl} (h : EndOk K D H g sl σ fl) (hf : fl ≠ .nx) : EndOk K { D with nx := u } H g sl σ fl := by
  cases fl with
  | nx => exact absurd rfl hf
  | bk => exact h
  | ct => exact h
  | rt w => exact h
theorem s_cons {a b : MS} (h1 : PSm X s a) (h2 : PSsm X ss b) : PSsm X (s :: ss) (seqS a b) := by
  refine pss_w (pss_cons h1 h2) fun D σ H ⟨g, sl, st, fl, sl', st', hs, ht, e, k⟩ => ?_
  obtain ⟨⟨f1, sl1, st1⟩, h1, e⟩ := R.bind_inv e
  refine ⟨g, sl, st, f1, sl1, st1, hs, ht, h1, fun g1 σ1 H1 s1 t1 r1 => ?_⟩
  cases f1 with
  | nx => exact ⟨g1, sl1, st1, fl, sl', st', r1, t1, e, fun g2 σ2 H2 s2 t2 r2 => k g2 σ2 H2 (s1.trans s2) t2 r2⟩
  | bk => cases e; exact k g1 σ1 H1 s1 t1 r1
  | ct => cases e; exact k g1 σ1 H1 s1 t1 r1
  | rt w => cases e; exact k g1 σ1 H1 s1 t1 r1
theorem s_one {a : MS} (h1 : PSm X s a) : PSsm X [s] a := pss_one h1
theorem s_break : PSm X (.Break pos) breakS := by
  refine ps_w ps_break fun D σ H ⟨g, sl, st, fl, sl', st', hs, ht, e, k⟩ => ?_
  cases e
  exact k g σ H (Stp.refl g H) ht hs
theorem s_cont : PSm X (.Continue pos) contS := by
  refine ps_w ps_continue fun D σ H ⟨g, sl, st, fl, sl', st', hs, ht, e, k⟩ => ?_
  cases e
  exact k g σ H (Stp.refl g H) ht hs
theorem s_pass : PSm X (.Pass pos) skipS := by
  refine ps_w ps_pass fun D σ H ⟨g, sl, st, fl, sl', st', hs, ht, e, k⟩ => ?_
  cases e
  exact k g σ H (Stp.refl g H) ht hs
/-- a statement that no run comes to -/
theorem s_raise {c : Nat} : PSm X s (raiseS c) := by
  refine ps_w ps_never fun D σ H ⟨g, sl, st, fl, sl', st', hs, ht, e, k⟩ => ?_
  cases e
theorem s_ret {m : ME} (h : PEm X e m) : PSm X (.Return (some e) pos) (retS m) := by
  refine ps_w (ps_ret h) fun D σ H ⟨g, sl, st, fl, sl', st', hs, ht, e, k⟩ => ?_
  obtain ⟨⟨x, st1⟩, h1, e⟩ := R.bind_inv e
  cases e
  exact ⟨g, sl, st, x, st1, hs, ht, h1, fun g1 v1 H1 s1 t1 r1 => k g1 σ H1 s1 t1 (hs.mono s1) v1 r1⟩
theorem s_drop {m : ME} (h : PEm X e m) (hw : swapsWith e none pos.line X.env = pure false := by rfl) : PSm X (.Expr e pos) (dropS m) := by
  refine ps_w (ps_expr h hw) fun D σ H ⟨g, sl, st, fl, sl', st', hs, ht, e, k⟩ => ?_
  obtain ⟨⟨x, st1⟩, h1, e⟩ := R.bind_inv e
  cases e
  exact ⟨g, sl, st, x, st1, hs, ht, h1, fun g1 v1 H1 s1 t1 r1 => k g1 σ H1 s1 t1 (hs.mono s1)⟩
theorem s_if {c : Expr} {p q : List Stmt} {tc : MT} {a b : MS} (hc : PTm X c tc) (ha : PSsm X p a) (hb : PSsm X q b) : PSm X (.If c p q pos) (ifS tc a b) := by
  refine ps_w (ps_if hc ha hb) fun D σ H ⟨g, sl, st, fl, sl', st', hs, ht, e, k⟩ => ?_
  obtain ⟨⟨x, st1⟩, h1, e⟩ := R.bind_inv e
  refine ⟨g, sl, st, x, st1, hs, ht, h1, fun g1 H1 s1 t1 => ?_⟩
  cases x with
  | true => exact ⟨g1, sl, st1, fl, sl', st', hs.mono s1, t1, e, fun g2 v2 H2 s2 t2 r2 => k g2 v2 H2 (s1.trans s2) t2 r2⟩
  | false => exact ⟨g1, sl, st1, fl, sl', st', hs.mono s1, t1, e, fun g2 v2 H2 s2 t2 r2 => k g2 v2 H2 (s1.trans s2) t2 r2⟩
theorem s_set {i : Nat} {x : Str} {m : ME} {pos' : Pos} (hN : X.N.Nodup) (hi : X.N[i]? = some x) (hx : Loc X.env.scope x) (h : PEm X e m) (hw : swapsWith e (some (.Name x pos')) pos.line X.env = pure false := by rfl) (hf : X.fn x = true ∨ X.env.scope.names.lookup x = some .local := by first | exact .inl rfl | exact .inr rfl | assumption) :
    PSm X (.Assign [.Name x pos'] e pos) (setS i m) := by
  refine ps_w (ps_set hN hi hx h hw hf) fun D σ H ⟨g, sl, st, fl, sl', st', hs, ht, e, k⟩ => ?_
  obtain ⟨⟨x, st1⟩, h1, e⟩ := R.bind_inv e
  cases e
  exact ⟨g, sl, st, x, st1, hs, ht, h1, fun g1 v1 H1 s1 t1 r1 => k g1 _ H1 s1 t1 ((hs.mono s1).set i r1)⟩
end
end Pm

/-! Core3: targets, loops, comprehensions, what is walked, defs. -/
namespace Pm
open PySem PySem.Spec PyProof.Rows L2

/-! ### targets -/
mutual
def Tgt.vars : Tgt → List Nat
  | .nm i => [i]
  | .tp ts => Tgt.varss ts
def Tgt.varss : List Tgt → List Nat
  | [] => []
  | t :: ts => t.vars ++ Tgt.varss ts
end
mutual
def gOf (K : PySem.W.Frag) : Tgt → TG
  | .nm i => gName i
  | .tp ts => gTup K ts.length (gOfs K ts)
def gOfs (K : PySem.W.Frag) : List Tgt → TGs
  | [] => gNil
  | t :: ts => gCons (gOf K t) (gOfs K ts)
end
/-- what a target leaves as it is -/
def Off (vs : List Nat) (σ σ' : L2.St) : Prop := σ'.length = σ.length ∧ ∀ i : Nat, i ∉ vs → σ'[i]? = σ[i]?
theorem Off.refl (vs : List Nat) (σ : L2.St) : Off vs σ σ := ⟨rfl, fun _ _ => rfl⟩
theorem Off.trans {u v : List Nat} {σ σ1 σ2 : L2.St} (a : Off u σ σ1) (b : Off v σ1 σ2) : Off (u ++ v) σ σ2 :=
  ⟨b.1.trans a.1, fun i h => (b.2 i fun z => h (List.mem_append_right _ z)).trans (a.2 i fun z => h (List.mem_append_left _ z))⟩
theorem wipe_get (σ : L2.St) (i : Nat) : ∀ vs : List Nat, (wipe σ vs)[i]? = if i ∈ vs then (if i < σ.length then some none else none) else σ[i]?
  | [] => by simp [wipe]
  | v :: vs => by
    unfold wipe
    rw [List.getElem?_set, wipe_length, wipe_get σ i vs]
    by_cases h : v = i
    · subst h
      simp
    · rw [if_neg h]
      have : (i ∈ v :: vs) ↔ i ∈ vs := by simp [Ne.symm h]
      simp only [this]
theorem Off.wipe {vs us : List Nat} {σ σ' : L2.St} (h : Off vs σ σ') (hs : ∀ i ∈ vs, i ∈ us) : L2.wipe σ' us = L2.wipe σ us := by
  apply List.ext_getElem?
  intro i
  rw [wipe_get, wipe_get, h.1]
  by_cases hi : i ∈ us
  · rw [if_pos hi, if_pos hi]
  · rw [if_neg hi, if_neg hi]
    exact h.2 i fun z => hi (hs i z)
mutual
theorem put_ok {K : PySem.W.Frag} {H : Hp} {g : G} : ∀ (t : Tgt) {w : W} {sl sl' : Slots} {σ : L2.St} {v : V} {Q : L2.St → Hp → Prop}, t.put w sl = .ok sl' → RepSl K H g sl σ → RepW K H g w v →
    (∀ σ', RepSl K H g sl' σ' → Off t.vars σ σ' → Q σ' H) → gOf K t v σ H Q
  | .nm i, w, sl, sl', σ, v, Q, h, S, r, q => by
    simp only [Tgt.put] at h
    cases h
    simp only [gOf]
    refine q _ (S.set i r) ⟨by simp, fun j hj => ?_⟩
    rw [List.getElem?_set_ne]
    intro e
    exact hj (by rw [← e]; simp [Tgt.vars])
  | .tp ts, w, sl, sl', σ, v, Q, h, S, r, q => by
    cases w with
    | loc n => simp [Tgt.put] at h
    | scr n => simp [Tgt.put] at h
    | p d =>
      cases d with
      | tup ds =>
        simp only [Tgt.put] at h
        split at h
        · rename_i hl
          obtain ⟨a, vs, rfl, _, ha, hr⟩ := rwTup_inv r
          simp only [gOf]
          refine ⟨a, vs, rfl, ha.sqt, by rw [← hr.length, hl], puts_ok ts hl h S hr fun σ' S' o => q σ' S' (by simpa only [Tgt.vars] using o)⟩
        · cases h
      | _ => simp [Tgt.put] at h
theorem puts_ok {K : PySem.W.Frag} {H : Hp} {g : G} : ∀ (ts : List Tgt) {ds : List D} {sl sl' : Slots} {σ : L2.St} {vs : List V} {Q : L2.St → Hp → Prop}, ds.length = ts.length → Tgt.puts ts ds sl = .ok sl' → RepSl K H g sl σ → RepDs H g ds vs →
    (∀ σ', RepSl K H g sl' σ' → Off (Tgt.varss ts) σ σ' → Q σ' H) → gOfs K ts vs σ H Q
  | [], ds, sl, sl', σ, vs, Q, hl, h, S, r, q => by
    simp only [Tgt.puts] at h
    cases h
    have e : ds = [] := List.length_eq_zero_iff.mp hl
    subst e
    simp only [gOfs]
    exact ⟨r.inv0, q σ S (Off.refl _ σ)⟩
  | t :: ts, [], sl, sl', σ, vs, Q, hl, h, S, r, q => by simp at hl
  | t :: ts, d :: ds, sl, sl', σ, vs, Q, hl, h, S, r, q => by
    simp only [Tgt.puts] at h
    obtain ⟨sl1, h1, h2⟩ := R.bind_inv h
    obtain ⟨v, vr, rfl, r1, r2⟩ := r.inv
    simp only [gOfs]
    refine ⟨v, vr, rfl, put_ok t h1 S (show RepW K H g (.p d) v from r1) fun σ1 S1 o1 => puts_ok ts (by simpa using hl) h2 S1 r2 fun σ2 S2 o2 => q σ2 S2 ?_⟩
    simp only [Tgt.varss]
    exact o1.trans o2
end
section
variable {X : Cx} {pos : Pos}
theorem g_nm {x : Str} {i : Nat} (hN : X.N.Nodup) (hi : X.N[i]? = some x) (hx : Loc X.env.scope x) (hf : X.fn x = true ∨ X.env.scope.names.lookup x = some .local := by first | exact .inl rfl | exact .inr rfl | assumption) : PG X (.Name x pos) (gOf X.K (.nm i)) := by
  simp only [gOf]
  exact pg_name hN hi hx hf
theorem gs_nil : PGs X [] (gOfs X.K []) := by
  simp only [gOfs]
  exact pgs_nil
theorem gs_cons {e : Expr} {es : List Expr} {t : Tgt} {ts : List Tgt} (h1 : PG X e (gOf X.K t)) (h2 : PGs X es (gOfs X.K ts))
    (hs : (assignEach (e :: es) X.env).map (·.2) = assign e X.env :: (assignEach es X.env).map (·.2) := by rfl) : PGs X (e :: es) (gOfs X.K (t :: ts)) := by
  simp only [gOfs]
  exact pgs_cons h1 h2 hs
theorem g_tp {es : List Expr} {k : Nat} {ts : List Tgt} (hc : X.calm = true) (h : PGs X es (gOfs X.K ts))
    (hn : (assignEach es X.env).length = ts.length := by rfl) (hst : (assignEach es X.env).findIdx? (·.1) = none := by rfl) : PG X (.Tuple es k pos) (gOf X.K (.tp ts)) := by
  simp only [gOf]
  exact pg_tup hc h hn hst
end

/-! ### what is walked -/
/-- an item to be put: its tuple may be of any kind if the target takes it apart -/
inductive RepI (H : Hp) (g : G) : Bool → D → V → Prop where
  | of {w : Bool} {d : D} {v : V} (h : RepD H g d v) : RepI H g w d v
  | wk {ds : List D} {vs : List V} {a : Addr} (h : H a = some (.tup vs)) (hr : RepDs H g ds vs) : RepI H g true (.tup ds) (.ref a)
def Tgt.isTp : Tgt → Bool
  | .nm _ => false
  | .tp _ => true
theorem put_okI {K : PySem.W.Frag} {H : Hp} {g : G} (w : Bool) (t : Tgt) (hw : (!w || t.isTp) = true) {d : D} {sl sl' : Slots} {σ : L2.St} {v : V} {Q : L2.St → Hp → Prop} (h : t.put (.p d) sl = .ok sl') (S : RepSl K H g sl σ) (r : RepI H g w d v)
    (q : ∀ σ', RepSl K H g sl' σ' → Off t.vars σ σ' → Q σ' H) : gOf K t v σ H Q := by
  cases r with
  | of r => exact put_ok (w := .p d) t h S r q
  | @wk ds vs a ha hr =>
    cases t with
    | nm i => cases hw
    | tp ts =>
      simp only [Tgt.put] at h
      split at h
      · rename_i hl
        simp only [gOf]
        exact ⟨a, vs, rfl, .inl (.inl ha), by rw [← hr.length, hl], puts_ok ts hl h S hr fun σ' S' o => q σ' S' (by simpa only [Tgt.vars] using o)⟩
      · cases h
structure ItOk (J : It) (g : G) (H : Hp) (items : List D) (w : Bool) : Prop where
  go : ∀ i g2 H2, Stp g H g2 H2 → i < items.length → J.go i H2
  stop : ∀ i g2 H2, Stp g H g2 H2 → items.length ≤ i → J.stop i H2
  yld : ∀ i g2 H2 st x H3 d, Stp g H g2 H2 → RepSt H2 g2 st → items[i]? = some d → J.yld i H2 x H3 → Stp g2 H2 g2 H3 ∧ RepSt H3 g2 st ∧ RepI H3 g2 w d x
def tI (K : PySem.W.Frag) (m : MI) (wk : Bool := false) : TI := fun σ H R => ∃ g sl st items st', RepSl K H g sl σ ∧ RepSt H g st ∧ m sl st = .ok (items, st') ∧ ∀ g' H' J, Stp g H g' H' → RepSt H' g' st' → ItOk J g' H' items wk → R J H'
abbrev PIm (X : Cx) (tg iter : Expr) (m : MI) (wk : Bool := false) : Prop := PI X tg iter (tI X.K m wk)
theorem pi_w {X : Cx} {tg iter : Expr} {t t' : TI} (h : PI X tg iter t) (w : ∀ σ H R, t' σ H R → t σ H R) : PI X tg iter t' := ⟨fun pins s σ H R I q => h.run pins s σ H R I (w σ H R q)⟩
/-- plain lists and tuples -/
def itemsOf : W → R (List D)
  | .p (.lst ds) => .ok ds
  | .p (.tup ds) => .ok ds
  | _ => .stuck
def seqI (m : ME) : MI := fun sl st => (m sl st).bind fun x => (itemsOf x.1).bind fun ds => .ok (ds, x.2)
def iSeq (K : PySem.W.Frag) (tl : TE) : TI := fun σ H R => tl σ H fun x H1 => ∃ a, x = .ref a ∧ (((∃ xs, SqL K H1 a xs) ∧ R (Itl K a) H1) ∨ ((∃ xs, SqT K H1 a xs) ∧ R (Itt K a) H1))
theorem pi_seq {X : Cx} {tg l : Expr} {tl : TE} (hl : PE X l tl) : PI X tg l (iSeq X.K tl) := by
  refine ⟨fun pins s σ H R I h => ?_⟩
  refine thn (hl.run pins s σ H _ I h) fun v s1 ⟨x, H1, I1, r1, q1⟩ => ?_
  obtain ⟨a, e, q⟩ := q1
  subst e
  cases r1
  rcases q with ⟨⟨xs, hq⟩, q⟩ | ⟨⟨xs, hq⟩, q⟩
  · obtain ⟨its, rv, p, hz⟩ := I1.list hq
    refine wpAny_pyIter_list p.isList ?_
    refine ⟨s1.heap.objs.size, [s1.heap.objs.size], _, _, H1, rfl, I1.kept (t' := s1.toks) fun b o e => Heap.get?_push_of_some _ e, turn_list a _, ⟨_, Heap.get?_push_size _ rfl, rfl, rfl⟩, fun b hb => ?_, q⟩
    have e : b = s1.heap.objs.size := by simpa using hb
    subst e
    exact I1.fpOk (Nat.le_refl _) (I1.hok.fresh (Nat.le_refl _))
  · obtain ⟨its, rv, p, hz⟩ := I1.tuple hq
    refine wpAny_pyIter_tuple (show s1.heap.IsTuple a its.toArray from p) ?_
    refine ⟨s1.heap.objs.size, [s1.heap.objs.size], _, _, H1, rfl, I1.kept (t' := s1.toks) fun b o e => Heap.get?_push_of_some _ e, turn_tuple a _, ⟨_, Heap.get?_push_size _ rfl, rfl, rfl⟩, fun b hb => ?_, q⟩
    have e : b = s1.heap.objs.size := by simpa using hb
    subst e
    exact I1.fpOk (Nat.le_refl _) (I1.hok.fresh (Nat.le_refl _))
section
variable {K : PySem.W.Frag} {g : G} {H : Hp} {a : Addr} {vs : List V} {ds : List D}
theorem get_lt {α : Type} {l : List α} {i : Nat} (h : i < l.length) : l[i]? = some l[i] := List.getElem?_eq_getElem h
theorem itOk_lst (hn : ¬ g.ex a) (ha : H a = some (.lst vs)) (hr : RepDs H g ds vs) : ItOk (Itl K a) g H ds false where
  go := fun i g2 H2 s hi => ⟨vs, vs[i]'(by rw [← hr.length]; exact hi), .inl (.inl (s.keep ha hn)), get_lt _⟩
  stop := fun i g2 H2 s hi => ⟨vs, .inl (.inl (s.keep ha hn)), by rw [← hr.length]; exact hi⟩
  yld := fun i g2 H2 st x H3 d s S hd hy => by
    obtain ⟨rfl, hy⟩ := hy
    have e := hy vs (.inl (.inl (s.keep ha hn)))
    obtain ⟨v, h1, h2⟩ := (hr.mono s).get hd
    rw [e] at h1
    cases h1
    exact ⟨Stp.refl _ _, S, .of h2⟩
theorem HTup.keep {g2 : G} {H2 : Hp} (s : Stp g H g2 H2) (hn : ¬ g.ex a) (ha : HTup H a vs) : HTup H2 a vs := by
  obtain ⟨ob, h0, h⟩ := ha
  exact ⟨ob, h0, s.keep h hn⟩
theorem itOk_tup (hn : ¬ g.ex a) (ha : HTup H a vs) (hr : RepDs H g ds vs) : ItOk (Itt K a) g H ds false where
  go := fun i g2 H2 s hi => ⟨vs, vs[i]'(by rw [← hr.length]; exact hi), (ha.keep s hn).sqt, get_lt _⟩
  stop := fun i g2 H2 s hi => ⟨vs, (ha.keep s hn).sqt, by rw [← hr.length]; exact hi⟩
  yld := fun i g2 H2 st x H3 d s S hd hy => by
    obtain ⟨rfl, hy⟩ := hy
    have e := hy vs ((ha.keep s hn).sqt)
    obtain ⟨v, h1, h2⟩ := (hr.mono s).get hd
    rw [e] at h1
    cases h1
    exact ⟨Stp.refl _ _, S, .of h2⟩
end
theorem i_seq {X : Cx} {tg l : Expr} {m : ME} (hl : PEm X l m) : PIm X tg l (seqI m) := by
  refine pi_w (pi_seq hl) fun σ H _ ⟨g, sl, st, items, st', hs, ht, e, k⟩ => ?_
  obtain ⟨⟨x, st1⟩, h1, e⟩ := R.bind_inv e
  obtain ⟨ds, h2, e⟩ := R.bind_inv e
  cases e
  refine ⟨g, sl, st, x, st1, hs, ht, h1, fun g1 v1 H1 s1 t1 r1 => ?_⟩
  cases x with
  | loc n => cases h2
  | scr n => cases h2
  | p d =>
    cases d with
    | lst es =>
      cases h2
      obtain ⟨a, vs, rfl, hn, ha, hr⟩ := rwLst_inv r1
      exact ⟨a, rfl, .inl ⟨⟨vs, .inl (.inl ha)⟩, k g1 H1 _ s1 t1 (itOk_lst hn ha hr)⟩⟩
    | tup es =>
      cases h2
      obtain ⟨a, vs, rfl, hn, ha, hr⟩ := rwTup_inv r1
      exact ⟨a, rfl, .inr ⟨⟨vs, ha.sqt⟩, k g1 H1 _ s1 t1 (itOk_tup hn ha hr)⟩⟩
    | _ => cases h2
/-- ranges -/
def rngD (lo : Int) (n : Nat) : List D := (List.range n).map fun i => .int (lo + (i : Nat))
def rng1I (m : MA) : MI := fun sl st => (m sl st).bind fun x => match x.1 with
  | [.p (.int j)] => if -(2 ^ 62) ≤ j ∧ j < 2 ^ 62 then .ok (rngD 0 j.toNat, x.2) else .stuck
  | _ => .stuck
def rng2I (m : MA) : MI := fun sl st => (m sl st).bind fun x => match x.1 with
  | [.p (.int i), .p (.int j)] => if -(2 ^ 62) ≤ i ∧ i < 2 ^ 62 ∧ -(2 ^ 62) ≤ j ∧ j < 2 ^ 62 then .ok (rngD i (j - i).toNat, x.2) else .stuck
  | _ => .stuck
theorem itOk_rng {g : G} {H : Hp} {lo : Int} {n : Nat} : ItOk (Itr lo n) g H (rngD lo n) false where
  go := fun i g2 H2 s hi => by
    show i < n
    simpa [rngD] using hi
  stop := fun i g2 H2 s hi => by
    show n ≤ i
    simpa [rngD] using hi
  yld := fun i g2 H2 st x H3 d s S hd hy => by
    obtain ⟨rfl, rfl⟩ := hy
    have e : d = .int (lo + (i : Nat)) := by
      unfold rngD at hd
      rw [List.getElem?_map] at hd
      cases h : (List.range n)[i]? with
      | none => rw [h] at hd; cases hd
      | some j =>
        rw [h] at hd
        have hj : i = j := by
          have := List.getElem?_eq_some_iff.mp h
          obtain ⟨h1, h2⟩ := this
          rw [List.getElem_range] at h2
          exact h2
        cases hd
        rw [hj]
    rw [e]
    exact ⟨Stp.refl _ _, S, .of (repInt _)⟩
theorem i_rng1 {X : Cx} {tg a : Expr} {m : MA} {p pos : Pos} (hg : Gl X "range") (hm : X.mg "range" = none) (ha : PAm X [a] m) (hs : starEach [a] X.env = [(false, eval a X.env)] := by rfl) : PIm X tg (.Call (.Name "range" p) [a] [] pos) (rng1I m) := by
  refine pi_w (pi_range1 hg hm ha hs) fun σ H _ ⟨g, sl, st, items, st', hs, ht, e, k⟩ => ?_
  obtain ⟨⟨x, st1⟩, h1, e⟩ := R.bind_inv e
  refine ⟨g, sl, st, x, st1, hs, ht, h1, fun g1 v1 H1 s1 t1 r1 => ?_⟩
  dsimp only at e
  split at e
  · split at e
    · rename_i j hj
      cases e
      cases r1 with
      | cons r rr =>
        cases rr
        rw [rwInt_inv r]
        exact ⟨_, rfl, hj.1, hj.2, k g1 H1 _ s1 t1 itOk_rng⟩
    · cases e
  · cases e
theorem i_rng2 {X : Cx} {tg a b : Expr} {m : MA} {p pos : Pos} (hg : Gl X "range") (hm : X.mg "range" = none) (ha : PAm X [a, b] m) (hs : starEach [a, b] X.env = [(false, eval a X.env), (false, eval b X.env)] := by rfl) (hs2 : starEach [b] X.env = [(false, eval b X.env)] := by rfl) :
    PIm X tg (.Call (.Name "range" p) [a, b] [] pos) (rng2I m) := by
  refine pi_w (pi_range2 hg hm ha hs hs2) fun σ H _ ⟨g, sl, st, items, st', hs, ht, e, k⟩ => ?_
  obtain ⟨⟨x, st1⟩, h1, e⟩ := R.bind_inv e
  refine ⟨g, sl, st, x, st1, hs, ht, h1, fun g1 v1 H1 s1 t1 r1 => ?_⟩
  dsimp only at e
  split at e
  · split at e
    · rename_i i j hj
      cases e
      cases r1 with
      | cons r rr =>
        cases rr with
        | cons r2 rr =>
          cases rr
          rw [rwInt_inv r, rwInt_inv r2]
          exact ⟨_, _, rfl, hj, k g1 H1 _ s1 t1 itOk_rng⟩
    · cases e
  · cases e
/-- enumerate of a plain list -/
def enumFrom (n : Nat) : List D → List D
  | [] => []
  | d :: ds => .tup [.int (n : Nat), d] :: enumFrom (n + 1) ds
theorem enumFrom_get : ∀ (ds : List D) (n i : Nat), (enumFrom n ds)[i]? = (ds[i]?).map fun d => .tup [.int ((n + i : Nat) : Int), d]
  | [], _, _ => rfl
  | d :: ds, n, 0 => rfl
  | d :: ds, n, i + 1 => by
    show (enumFrom (n + 1) ds)[i]? = _
    rw [enumFrom_get ds (n + 1) i]
    show _ = (ds[i]?).map _
    rw [show n + 1 + i = n + (i + 1) by omega]
theorem enumFrom_len : ∀ (ds : List D) (n : Nat), (enumFrom n ds).length = ds.length
  | [], _ => rfl
  | d :: ds, n => by
    show (enumFrom (n + 1) ds).length + 1 = _
    rw [enumFrom_len ds (n + 1)]
    rfl
def enumI (m : MA) : MI := fun sl st => (m sl st).bind fun x => match x.1 with
  | [.p (.lst ds)] => .ok (enumFrom 0 ds, x.2)
  | [.p (.tup ds)] => .ok (enumFrom 0 ds, x.2)
  | _ => .stuck
section
variable {K : PySem.W.Frag} {g : G} {H : Hp} {a b : Addr} {vs us : List V} {ds es : List D}
theorem pair_new {g2 : G} {H2 : Hp} {T : Addr} {x y : V} {d e : D} (hT : H2 T = none) (h1 : RepD H2 g2 d x) (h2 : RepD H2 g2 e y) (hf : ¬ g2.ex T) : RepI (upd H2 T (.tup [x, y])) g2 true (.tup [d, e]) (.ref T) :=
  .wk upd_same (.cons (h1.mono (Stp.new hT)) (.cons (h2.mono (Stp.new hT)) .nil))
theorem itOk_enum (hn : ¬ g.ex a) (ha : H a = some (.lst vs)) (hr : RepDs H g ds vs) : ItOk (Ite K a) g H (enumFrom 0 ds) true where
  go := fun i g2 H2 s hi => by
    rw [enumFrom_len] at hi
    exact ⟨vs, vs[i]'(by rw [← hr.length]; exact hi), .inl (.inl (s.keep ha hn)), get_lt _⟩
  stop := fun i g2 H2 s hi => by
    rw [enumFrom_len] at hi
    exact ⟨vs, .inl (.inl (s.keep ha hn)), by rw [← hr.length]; exact hi⟩
  yld := fun i g2 H2 st x H3 d s S hd hy => by
    obtain ⟨T, v, rfl, hT, rfl, hy⟩ := hy
    have e := hy vs (.inl (.inl (s.keep ha hn)))
    rw [enumFrom_get] at hd
    cases hdi : ds[i]? with
    | none => rw [hdi] at hd; cases hd
    | some d0 =>
      rw [hdi] at hd
      cases hd
      obtain ⟨v', h1, h2⟩ := (hr.mono s).get hdi
      rw [e] at h1
      cases h1
      refine ⟨Stp.new hT, S.new hT, ?_⟩
      rw [Nat.zero_add]
      exact pair_new hT (repInt _) h2 (S.free hT)
theorem itOk_enumT (hn : ¬ g.ex a) (ha : HTup H a vs) (hr : RepDs H g ds vs) : ItOk (IteT K a) g H (enumFrom 0 ds) true where
  go := fun i g2 H2 s hi => by
    rw [enumFrom_len] at hi
    exact ⟨vs, vs[i]'(by rw [← hr.length]; exact hi), (ha.keep s hn).sqt, get_lt _⟩
  stop := fun i g2 H2 s hi => by
    rw [enumFrom_len] at hi
    exact ⟨vs, (ha.keep s hn).sqt, by rw [← hr.length]; exact hi⟩
  yld := fun i g2 H2 st x H3 d s S hd hy => by
    obtain ⟨T, v, rfl, hT, rfl, hy⟩ := hy
    have e := hy vs ((ha.keep s hn).sqt)
    rw [enumFrom_get] at hd
    cases hdi : ds[i]? with
    | none => rw [hdi] at hd; cases hd
    | some d0 =>
      rw [hdi] at hd
      cases hd
      obtain ⟨v', h1, h2⟩ := (hr.mono s).get hdi
      rw [e] at h1
      cases h1
      refine ⟨Stp.new hT, S.new hT, ?_⟩
      rw [Nat.zero_add]
      exact pair_new hT (repInt _) h2 (S.free hT)
/-- zip of two plain lists, of two plain tuples -/
def zipD : List D → List D → List D
  | d :: ds, e :: es => .tup [d, e] :: zipD ds es
  | _, _ => []
theorem zipD_get : ∀ (ds es : List D) (i : Nat) (d e : D), ds[i]? = some d → es[i]? = some e → (zipD ds es)[i]? = some (.tup [d, e])
  | d :: ds, e :: es, 0, _, _, h1, h2 => by cases h1; cases h2; rfl
  | d :: ds, e :: es, i + 1, _, _, h1, h2 => zipD_get ds es i _ _ (by simpa using h1) (by simpa using h2)
  | [], _, _, _, _, h1, _ => by simp at h1
  | _ :: _, [], _, _, _, _, h2 => by simp at h2
theorem zipD_len : ∀ (ds es : List D), (zipD ds es).length = min ds.length es.length
  | d :: ds, e :: es => by
    show (zipD ds es).length + 1 = _
    rw [zipD_len ds es, List.length_cons, List.length_cons]
    omega
  | [], _ => by simp [zipD]
  | _ :: _, [] => by simp [zipD]
def zipI (m : MA) : MI := fun sl st => (m sl st).bind fun x => match x.1 with
  | [.p (.lst ds), .p (.lst es)] => .ok (zipD ds es, x.2)
  | [.p (.tup ds), .p (.tup es)] => .ok (zipD ds es, x.2)
  | _ => .stuck
theorem itOk_zipL (hn : ¬ g.ex a) (ha : H a = some (.lst vs)) (hr : RepDs H g ds vs) (hn2 : ¬ g.ex b) (hb : H b = some (.lst us)) (hr2 : RepDs H g es us) : ItOk (Itz K a b) g H (zipD ds es) true where
  go := fun i g2 H2 s hi => by
    rw [zipD_len] at hi
    exact ⟨vs, us, vs[i]'(by rw [← hr.length]; omega), us[i]'(by rw [← hr2.length]; omega), .inl (.inl (s.keep ha hn)), .inl (.inl (s.keep hb hn2)), get_lt _, get_lt _⟩
  stop := fun i g2 H2 s hi => by
    rw [zipD_len] at hi
    exact ⟨vs, us, .inl (.inl (s.keep ha hn)), .inl (.inl (s.keep hb hn2)), by rw [← hr.length, ← hr2.length]; omega⟩
  yld := fun i g2 H2 st x H3 d s S hd hy => by
    obtain ⟨T, v, u, rfl, hT, rfl, hy1, hy2⟩ := hy
    have e1 := hy1 vs (.inl (.inl (s.keep ha hn)))
    have e2 := hy2 us (.inl (.inl (s.keep hb hn2)))
    have hi1 : i < ds.length := by rw [hr.length]; exact (List.getElem?_eq_some_iff.mp e1).1
    have hi2 : i < es.length := by rw [hr2.length]; exact (List.getElem?_eq_some_iff.mp e2).1
    rw [zipD_get ds es i _ _ (get_lt hi1) (get_lt hi2)] at hd
    cases hd
    obtain ⟨v', h1, q1⟩ := (hr.mono s).get (get_lt hi1)
    obtain ⟨u', h2, q2⟩ := (hr2.mono s).get (get_lt hi2)
    rw [e1] at h1
    rw [e2] at h2
    cases h1
    cases h2
    exact ⟨Stp.new hT, S.new hT, pair_new hT q1 q2 (S.free hT)⟩
theorem itOk_zipT (hn : ¬ g.ex a) (ha : HTup H a vs) (hr : RepDs H g ds vs) (hn2 : ¬ g.ex b) (hb : HTup H b us) (hr2 : RepDs H g es us) : ItOk (RZ.ItzT K a b) g H (zipD ds es) true where
  go := fun i g2 H2 s hi => by
    rw [zipD_len] at hi
    exact ⟨vs, us, vs[i]'(by rw [← hr.length]; omega), us[i]'(by rw [← hr2.length]; omega), (ha.keep s hn).sqt, (hb.keep s hn2).sqt, get_lt _, get_lt _⟩
  stop := fun i g2 H2 s hi => by
    rw [zipD_len] at hi
    exact ⟨vs, us, (ha.keep s hn).sqt, (hb.keep s hn2).sqt, by rw [← hr.length, ← hr2.length]; omega⟩
  yld := fun i g2 H2 st x H3 d s S hd hy => by
    obtain ⟨T, v, u, rfl, hT, rfl, hy1, hy2⟩ := hy
    have e1 := hy1 vs ((ha.keep s hn).sqt)
    have e2 := hy2 us ((hb.keep s hn2).sqt)
    have hi1 : i < ds.length := by rw [hr.length]; exact (List.getElem?_eq_some_iff.mp e1).1
    have hi2 : i < es.length := by rw [hr2.length]; exact (List.getElem?_eq_some_iff.mp e2).1
    rw [zipD_get ds es i _ _ (get_lt hi1) (get_lt hi2)] at hd
    cases hd
    obtain ⟨v', h1, q1⟩ := (hr.mono s).get (get_lt hi1)
    obtain ⟨u', h2, q2⟩ := (hr2.mono s).get (get_lt hi2)
    rw [e1] at h1
    rw [e2] at h2
    cases h1
    cases h2
    exact ⟨Stp.new hT, S.new hT, pair_new hT q1 q2 (S.free hT)⟩
end
theorem i_enum {X : Cx} {e : Expr} {m : MA} {p pos tpos : Pos} {elts : List Expr} {kk : Nat} (hg : Gl X "enumerate") (hm : X.mg "enumerate" = none) (ha : PAm X [e] m) (hs : starEach [e] X.env = [(false, eval e X.env)] := by rfl) :
    PIm X (.Tuple elts kk tpos) (.Call (.Name "enumerate" p) [e] [] pos) (enumI m) true := by
  refine pi_w (pi_enumA hg hm ha hs) fun σ H _ ⟨g, sl, st, items, st', hs, ht, e, k⟩ => ?_
  obtain ⟨⟨x, st1⟩, h1, e⟩ := R.bind_inv e
  refine ⟨g, sl, st, x, st1, hs, ht, h1, fun g1 v1 H1 s1 t1 r1 => ?_⟩
  dsimp only at e
  split at e
  · cases e
    cases r1 with
    | cons r rr =>
      cases rr
      obtain ⟨a, vs, rfl, hn, ha, hr⟩ := rwLst_inv r
      exact ⟨a, vs, rfl, .inl ⟨.inl (.inl ha), k g1 H1 _ s1 t1 (itOk_enum hn ha hr)⟩⟩
  · cases e
    cases r1 with
    | cons r rr =>
      cases rr
      obtain ⟨a, vs, rfl, hn, ha, hr⟩ := rwTup_inv r
      exact ⟨a, vs, rfl, .inr ⟨ha.sqt, k g1 H1 _ s1 t1 (itOk_enumT hn ha hr)⟩⟩
  · cases e
theorem i_zip {X : Cx} {e e2 : Expr} {m : MA} {p pos tpos : Pos} {elts : List Expr} {kk : Nat} (hg : Gl X "zip") (hm : X.mg "zip" = none) (ha : PAm X [e, e2] m)
    (hs : starEach [e, e2] X.env = (false, eval e X.env) :: starEach [e2] X.env := by rfl) (hpl : (backTo pos (starEach [e2] X.env)).any (·.1) = false := by rfl) :
    PIm X (.Tuple elts kk tpos) (.Call (.Name "zip" p) [e, e2] [] pos) (zipI m) true := by
  refine pi_w (RZ.pi_zipA hg hm ha hs hpl) fun σ H _ ⟨g, sl, st, items, st', hs, ht, e, k⟩ => ?_
  obtain ⟨⟨x, st1⟩, h1, e⟩ := R.bind_inv e
  refine ⟨g, sl, st, x, st1, hs, ht, h1, fun g1 v1 H1 s1 t1 r1 => ?_⟩
  dsimp only at e
  split at e
  · cases e
    cases r1 with
    | cons r rr =>
      cases rr with
      | cons r2 rr =>
        cases rr
        obtain ⟨a, vs, rfl, hn, ha, hr⟩ := rwLst_inv r
        obtain ⟨b, us, rfl, hn2, hb, hr2⟩ := rwLst_inv r2
        exact ⟨a, b, vs, us, rfl, .inl ⟨.inl (.inl ha), .inl (.inl hb), k g1 H1 _ s1 t1 (itOk_zipL hn ha hr hn2 hb hr2)⟩⟩
  · cases e
    cases r1 with
    | cons r rr =>
      cases rr with
      | cons r2 rr =>
        cases rr
        obtain ⟨a, vs, rfl, hn, ha, hr⟩ := rwTup_inv r
        obtain ⟨b, us, rfl, hn2, hb, hr2⟩ := rwTup_inv r2
        exact ⟨a, b, vs, us, rfl, .inr ⟨ha.sqt, hb.sqt, k g1 H1 _ s1 t1 (itOk_zipT hn ha hr hn2 hb hr2)⟩⟩
  · cases e

/-! ### statements with targets, loops -/
section
variable {X : Cx} {e : Expr} {pos : Pos}
theorem s_asg {tg : Expr} {t : Tgt} {m : ME} (h : PEm X e m) (hg : PG X tg (gOf X.K t)) (hs : swapsWithSole [tg] e pos.line X.env = pure false := by rfl) (hw : swappedStores [tg] e X.env = pure none := by rfl) (h1 : (assignEach [tg] X.env).map (·.2) = [assign tg X.env] := by rfl) : PSm X (.Assign [tg] e pos) (asgS t m) := by
  refine ps_w (ps_asg h hg hs hw h1) fun D σ H ⟨g, sl, st, fl, sl', st', hs, ht, e, k⟩ => ?_
  obtain ⟨⟨x, st1⟩, h1, e⟩ := R.bind_inv e
  obtain ⟨sl1, h2, e⟩ := R.bind_inv e
  cases e
  exact ⟨g, sl, st, x, st1, hs, ht, h1, fun g1 v1 H1 s1 t1 r1 => put_ok t h2 (hs.mono s1) r1 fun σ' S' _ => k g1 σ' H1 s1 t1 S'⟩
theorem s_for {tg iter : Expr} {body : List Stmt} {t : Tgt} {it : MI} {b : MS} {wk : Bool} (hp : PassesOwn (model X.prog X.w) X.A X.env X.xe) (hc : X.calm = true) (hi : PIm X tg iter it wk) (hg : PG X tg (gOf X.K t)) (hb : PSsm X body b)
    (hs : ∀ x, foldedSetIterable iter X.env x = pure x := by intro _; rfl) (hwk : (!wk || t.isTp) = true := by rfl) : PSm X (.For tg iter body [] pos) (forS t it b) := by
  refine ps_w (ps_for hp hc hi hg hb hs) fun D σ H ⟨g, sl, st, fl, sl', st', hs, ht, e, k⟩ => ?_
  obtain ⟨⟨items, st1⟩, h1, e⟩ := R.bind_inv e
  refine ⟨g, sl, st, items, st1, hs, ht, h1, fun g1 H1 J s1 t1 IT => ?_⟩
  refine ⟨fun i m σ2 H2 => ∃ g2 sl2 st2, Stp g1 H1 g2 H2 ∧ RepSl X.K H2 g2 sl2 σ2 ∧ RepSt H2 g2 st2 ∧ i + m = items.length ∧ forGo t b (items.drop i) sl2 st2 = .ok (fl, sl', st'),
    ⟨items.length, g1, sl, st1, Stp.refl g1 H1, hs.mono s1, t1, by omega, e⟩, fun i m σ2 H2 ⟨g2, sl2, st2, s2, S2, t2, hm, e2⟩ => ?_⟩
  by_cases hi : i < items.length
  · rw [List.drop_eq_getElem_cons hi] at e2
    obtain ⟨sl3, h3, e3⟩ := R.bind_inv (show ((t.put (.p items[i]) sl2).bind _) = _ from e2)
    obtain ⟨⟨f4, sl4, st4⟩, h4, e4⟩ := R.bind_inv e3
    refine .inr ⟨IT.go i g2 H2 s2 hi, fun σ' H' => ∃ g' sl2 st2, Stp g1 H1 g' H' ∧ RepSl X.K H' g' sl2 σ' ∧ RepSt H' g' st2 ∧ forGo t b (items.drop (i + 1)) sl2 st2 = .ok (fl, sl', st'),
      fun σ' H' ⟨g', sl5, st5, s5, S5, t5, e5⟩ => ⟨m - 1, by omega, g', sl5, st5, s5, S5, t5, by omega, e5⟩, fun x H3 hy => ?_⟩
    obtain ⟨s3, t3, r3⟩ := IT.yld i g2 H2 st2 x H3 _ s2 t2 (get_lt hi) hy
    refine put_okI wk t hwk h3 (S2.mono s3) r3 fun σ4 S4 _ => ?_
    refine ⟨g2, sl3, st2, f4, sl4, st4, S4, t3, h4, fun g5 σ5 H5 s5 t5 S5 => ?_⟩
    cases f4 with
    | nx => exact ⟨g5, sl4, st4, s2.trans (s3.trans s5), S5, t5, e4⟩
    | ct => exact ⟨g5, sl4, st4, s2.trans (s3.trans s5), S5, t5, e4⟩
    | bk => cases e4; exact k g5 σ5 H5 (s1.trans (s2.trans (s3.trans s5))) t5 S5
    | rt w => cases e4; exact k g5 σ5 H5 (s1.trans (s2.trans (s3.trans s5))) t5 S5
  · have hl : items.length ≤ i := by omega
    rw [List.drop_eq_nil_of_le hl] at e2
    cases e2
    exact .inl ⟨IT.stop i g2 H2 s2 hl, k g2 σ2 H2 (s1.trans s2) t2 S2⟩
theorem s_while {c : Expr} {body : List Stmt} {tc : MT} {b : MS} {n : Nat} (hp : PassesOwn (model X.prog X.w) X.A X.env X.xe) (hc : PTm X c tc) (hb : PSsm X body b) : PSm X (.While c body [] pos) (whileS tc b n) := by
  refine ps_w (ps_while hp hc hb) fun D σ H ⟨g, sl, st, fl, sl', st', hs, ht, e, k⟩ => ?_
  refine ⟨fun m σ2 H2 => ∃ g2 sl2 st2, Stp g H g2 H2 ∧ RepSl X.K H2 g2 sl2 σ2 ∧ RepSt H2 g2 st2 ∧ whileS tc b m sl2 st2 = .ok (fl, sl', st'),
    ⟨n, g, sl, st, Stp.refl g H, hs, ht, e⟩, fun m σ2 H2 ⟨g2, sl2, st2, s2, S2, t2, e2⟩ => ?_⟩
  cases m with
  | zero => cases e2
  | succ m =>
    obtain ⟨⟨x, st3⟩, h3, e3⟩ := R.bind_inv (show ((tc sl2 st2).bind _) = _ from e2)
    refine ⟨g2, sl2, st2, x, st3, S2, t2, h3, fun g3 H3 s3 t3 => ?_⟩
    cases x with
    | false =>
      cases e3
      exact k g3 σ2 H3 (s2.trans s3) t3 (S2.mono s3)
    | true =>
      obtain ⟨⟨f4, sl4, st4⟩, h4, e4⟩ := R.bind_inv (show ((b sl2 st3).bind _) = _ from e3)
      refine ⟨fun σ' H' => ∃ g' sl2 st2, Stp g H g' H' ∧ RepSl X.K H' g' sl2 σ' ∧ RepSt H' g' st2 ∧ whileS tc b m sl2 st2 = .ok (fl, sl', st'), fun σ' H' q => ⟨m, Nat.lt_succ_self m, q⟩, ?_⟩
      refine ⟨g3, sl2, st3, f4, sl4, st4, S2.mono s3, t3, h4, fun g5 σ5 H5 s5 t5 S5 => ?_⟩
      cases f4 with
      | nx => exact ⟨g5, sl4, st4, s2.trans (s3.trans s5), S5, t5, e4⟩
      | ct => exact ⟨g5, sl4, st4, s2.trans (s3.trans s5), S5, t5, e4⟩
      | bk => cases e4; exact k g5 σ5 H5 (s2.trans (s3.trans s5)) t5 S5
      | rt w => cases e4; exact k g5 σ5 H5 (s2.trans (s3.trans s5)) t5 S5
end

/-! ### comprehensions -/
def hp0 (H : Hp) (p : Addr) : Hp := fun b => if b = p then none else H b
theorem hp0_ne {H : Hp} {p b : Addr} (h : b ≠ p) : hp0 H p b = H b := by unfold hp0; rw [if_neg h]
theorem hp0_some {H : Hp} {p b : Addr} {o : HO} (h : hp0 H p b = some o) : b ≠ p ∧ H b = some o := by
  unfold hp0 at h
  split at h
  · cases h
  · exact ⟨by assumption, h⟩
theorem hp0_upd {H : Hp} {p : Addr} {o : HO} : hp0 (upd H p o) p = hp0 H p := by
  funext b
  unfold hp0
  split
  · rfl
  · rw [upd_ne (by assumption)]
theorem hp0_none {H : Hp} {p : Addr} (h : H p = none) : hp0 H p = H := by
  funext b
  unfold hp0
  split
  · rename_i e; rw [e, h]
  · rfl
/-- the list at p grows; all else goes on -/
structure Lst (g : G) (H : Hp) (p : Addr) (g' : G) (H' : Hp) : Prop where
  nal : some p ∉ g'.al
  ex : g'.ex p
  stp : Stp g H (g'.drop p nal) (hp0 H' p)
theorem Lst.start {g : G} {H : Hp} {p : Addr} {st : Store} {o : HO} (S : RepSt H g st) (hp : H p = none) : Lst g H p (g.hold p) (upd H p o) where
  nal := S.nomem hp
  ex := .inr rfl
  stp := by
    rw [hp0_upd, hp0_none hp]
    refine ⟨⟨fun _ _ h _ => h, fun q h => ?_⟩, fun n o h => ⟨o, h, fun _ h => h⟩, fun a u h he hn => ⟨.inl he, fun e => ?_⟩, fun _ h => .inl h, fun _ h => h⟩
    · rcases h.1 with h1 | h1
      · exact .inl h1
      · exact absurd h1 h.2
    · rw [e, hp] at h; cases h
theorem Lst.go {g g1 g2 : G} {H H1 H2 : Hp} {p : Addr} {u : HO} (l : Lst g H p g1 H1) (hu : H1 p = some u) (s : Stp g1 H1 g2 H2) : Lst g H p g2 H2 := by
  have nal : some p ∉ g2.al := fun z => by
    rcases s.frA p z with z | z
    · exact l.nal z
    · rw [hu] at z; cases z
  refine ⟨nal, s.res p u hu l.ex l.nal, l.stp.trans ⟨⟨fun b o h hn => ?_, fun q h => ?_⟩, s.pre, fun a o h he hn => ?_, fun a h => ?_, fun b h z => ?_⟩⟩
  · obtain ⟨h1, h2⟩ := hp0_some h
    rw [hp0_ne h1]
    exact s.ext b o h2 hn
  · rcases s.fr q h.1 with z | z
    · exact .inl ⟨z, h.2⟩
    · exact .inr (by rw [hp0_ne h.2]; exact z)
  · obtain ⟨h1, h2⟩ := hp0_some h
    exact ⟨s.res a o h2 he.1 hn, h1⟩
  · rcases s.frA a h with z | z
    · exact .inl z
    · right
      unfold hp0
      split
      · rfl
      · exact z
  · unfold hp0 at h z
    split at h
    · exact h rfl
    · rename_i hne
      rw [if_neg hne] at z
      exact s.dom b h z
theorem hp0_dom {H : Hp} {p b : Addr} (h : hp0 H p b ≠ none) : H b ≠ none := fun z => by
  unfold hp0 at h
  split at h
  · exact h rfl
  · exact h z
theorem Lst.full {g g' : G} {H H' : Hp} {p : Addr} (l : Lst g H p g' H') (hp : H p = none) : Stp g H g' H' :=
  ⟨⟨fun b o h hn => (hp0_some (l.stp.ext b o h hn)).2, fun q h => by
    by_cases z : q = p
    · right; rw [z]; exact hp
    · exact l.stp.fr q ⟨h, z⟩⟩, l.stp.pre, fun a o h he hn => (l.stp.res a o h he hn).1, fun a h => l.stp.frA a h, fun b h => hp0_dom (l.stp.dom b h)⟩
theorem Lst.put {g g1 : G} {H H1 : Hp} {p : Addr} {o : HO} (l : Lst g H p g1 H1) : Lst g H p g1 (upd H1 p o) := ⟨l.nal, l.ex, by rw [hp0_upd]; exact l.stp⟩
mutual
theorem RepD.off {g : G} {H H' : Hp} (k : ∀ b, ¬ g.ex b → H' b = H b) : ∀ (d : D) (v : V), RepD H g d v → RepD H' g d v
  | .non, _, h => by simpa only [RepD] using h
  | .bl _, _, h => by simpa only [RepD] using h
  | .int _, _, h => by simpa only [RepD] using h
  | .str _, _, h => by simpa only [RepD] using h
  | .tup ds, v, h => by
    simp only [RepD] at h ⊢
    obtain ⟨a, vs, e, hn, ⟨ob, h0, ha⟩, hr⟩ := h
    exact ⟨a, vs, e, hn, ⟨ob, h0, (k a hn).trans ha⟩, RepDs.off k ds vs hr⟩
  | .lst ds, v, h => by
    simp only [RepD] at h ⊢
    obtain ⟨a, vs, e, hn, ha, hr⟩ := h
    exact ⟨a, vs, e, hn, (k a hn).trans ha, RepDs.off k ds vs hr⟩
theorem RepDs.off {g : G} {H H' : Hp} (k : ∀ b, ¬ g.ex b → H' b = H b) : ∀ (ds : List D) (vs : List V), RepDs H g ds vs → RepDs H' g ds vs
  | [], _, h => by simpa only [RepDs] using h
  | d :: ds, vs, h => by
    simp only [RepDs] at h ⊢
    obtain ⟨v, r, e, h1, h2⟩ := h
    exact ⟨v, r, e, RepD.off k d v h1, RepDs.off k ds r h2⟩
end
theorem RepSt.putL {g : G} {H : Hp} {st : Store} {p : Addr} {o u : HO} (S : RepSt H g st) (nal : some p ∉ g.al) (hx : g.ex p) (hu : H p = some u) : RepSt (upd H p o) g st where
  len := S.len
  cell := fun n c h => by
    obtain ⟨a, h1, h2⟩ := S.cell n c h
    have hne : a ≠ p := fun e => nal (by rw [← e]; exact List.mem_of_getElem? h1)
    refine ⟨a, h1, ?_⟩
    cases c with
    | d _ => exact h2
    | l ds =>
      obtain ⟨vs, h3, h4⟩ := h2
      exact ⟨vs, by rw [upd_ne hne]; exact h3, RepDs.off (fun b hb => upd_ne fun e => hb (by rw [e]; exact hx)) ds vs h4⟩
  dead := S.dead
  nd := S.nd
  exo := fun a h => by
    by_cases e : a = p
    · exact ⟨o, by rw [e]; exact upd_same⟩
    · rw [upd_ne e]
      exact S.exo a h

/-- a new list, its items -/
def tLI (K : PySem.W.Frag) (m : MI) : TE := fun σ H Q => ∃ g sl st ds st', RepSl K H g sl σ ∧ RepSt H g st ∧ m sl st = .ok (ds, st') ∧
  ∀ g' p vs H', H p = none → Lst g H p g' H' → RepSt H' g' st' → H' p = some (.lst vs) → RepDs H' g' ds vs → Q (.ref p) H'
theorem tLI_lst {K : PySem.W.Frag} {m : MI} {σ : L2.St} {H : Hp} {Q : VK} (h : tM K (lstOfI m) σ H Q) : tLI K m σ H Q := by
  obtain ⟨g, sl, st, w, st', hs, ht, e, k⟩ := h
  obtain ⟨⟨ds, st1⟩, h1, e⟩ := R.bind_inv e
  cases e
  refine ⟨g, sl, st, ds, _, hs, ht, h1, fun g' p vs H' hp l t' hv hr => k (g'.drop p l.nal) _ H' ?_ (t'.dropG l.nal) ?_⟩
  · have s := l.stp
    refine ⟨⟨fun b o h hn => ?_, s.fr⟩, s.pre, s.res, s.frA, fun b h => hp0_dom (s.dom b h)⟩
    have := s.ext b o h hn
    exact (hp0_some this).2
  · show RepD H' (g'.drop p l.nal) (.lst ds) (.ref p)
    simp only [RepD]
    exact ⟨p, vs, rfl, fun z => z.2 rfl, hv, RepDs.mono0 (Stp0.dropG l.nal) _ _ hr⟩
theorem tLI_new {K : PySem.W.Frag} {m : MI} {σ : L2.St} {H : Hp} {Q : VK} (h : tM K (newOfI m) σ H Q) : tLI K m σ H Q := by
  obtain ⟨g, sl, st, w, st', hs, ht, e, k⟩ := h
  obtain ⟨⟨ds, st1⟩, h1, e⟩ := R.bind_inv e
  cases e
  refine ⟨g, sl, st, ds, _, hs, ht, h1, fun g' p vs H' hp l t' hv hr => k (g'.cell p) _ H' ?_ (t'.cellG l.ex l.nal hv hr) ?_⟩
  · have s := l.stp
    refine ⟨⟨fun b o h hn => (hp0_some (s.ext b o h hn)).2, fun q h => ?_⟩, fun n o h => ?_, fun a o h he hn => .inl (s.res a o h he hn).1, fun a h => ?_, fun b h => hp0_dom (s.dom b h)⟩
    · by_cases e : q = p
      · right; rw [e]; exact hp
      · rcases h with h | h
        · exact s.fr q ⟨h, e⟩
        · exact absurd h e
    · obtain ⟨o', h1, h2⟩ := s.pre n o h
      have h1 : g'.al[n]? = some o' := h1
      exact ⟨o', by show (g'.al ++ _)[n]? = _; rw [List.getElem?_append_left (List.getElem?_eq_some_iff.mp h1).1]; exact h1, h2⟩
    · rcases List.mem_append.mp h with h | h
      · exact s.frA a h
      · right
        have e : a = p := by simpa using h
        rw [e]; exact hp
  · exact ⟨some p, by show (g'.al ++ _)[_]? = _; rw [t'.len, List.getElem?_append_right (Nat.le_refl _), Nat.sub_self]; rfl, fun a e => by cases e; rfl⟩
theorem wipeSl_rep {K : PySem.W.Frag} {H : Hp} {g : G} {sl : Slots} {σ : L2.St} (S : RepSl K H g sl σ) : ∀ vs : List Nat, RepSl K H g (wipeSl sl vs) (wipe σ vs)
  | [] => S
  | v :: vs => (wipeSl_rep S vs).unset v
theorem lcR {K : PySem.W.Frag} {wi : TI} {it : MI} {t : Tgt} {tt : TT} {te : TE} {test : MT} {elt : ME} {vs : List Nat} {σ : L2.St} {H : Hp} {Q : VK} {wk : Bool} (hwk : (!wk || t.isTp) = true) (hwi : ∀ σ H R, tI K it wk σ H R → wi σ H R) (htt : ∀ σ H Q, tT K test σ H Q → tt σ H Q) (hte : ∀ σ H Q, tM K elt σ H Q → te σ H Q)
    (hv : ∀ i ∈ t.vars, i ∈ vs) (h : tLI K (lcI vs t it test elt) σ H Q) : tLc wi (gOf K t) tt te vs σ H Q := by
  obtain ⟨g, sl, st, ds, st', hs, ht, e, k⟩ := h
  obtain ⟨⟨items, st1⟩, h1, e⟩ := R.bind_inv e
  dsimp only at e
  split at e
  · rename_i hlen
    refine hwi σ H _ ⟨g, sl, st, items, st1, hs, ht, h1, fun g1 H1 J s1 t1 IT p hp => ?_⟩
    have hpH : H p = none := by
      cases q : H p with
      | none => rfl
      | some o => exact absurd hp (s1.dom p (by rw [q]; simp))
    have lift : ∀ {g2 : G} {H2 : Hp}, Lst g1 H1 p g2 H2 → Lst g H p g2 H2 := fun l => ⟨l.nal, l.ex, s1.trans l.stp⟩
    refine ⟨fun i m H2 => ∃ g2 st2 acc us, Lst g1 H1 p g2 H2 ∧ RepSt H2 g2 st2 ∧ H2 p = some (.lst us) ∧ RepDs H2 g2 acc.reverse us ∧ acc.length ≤ i ∧ i + m = items.length ∧ lcGo (wipeSl sl vs) t test elt (items.drop i) acc st2 = .ok (ds, st'),
      ⟨items.length, g1.hold p, st1, [], [], Lst.start t1 hp, t1.hold hp, upd_same, .nil, Nat.zero_le _, by omega, e⟩, fun i m H2 ⟨g2, st2, acc, us, l2, t2, hu, hr, hacc, hm, e2⟩ => ?_⟩
    have sp : Stp g1 H1 g2 H2 := l2.full hp
    by_cases hi : i < items.length
    · rw [List.drop_eq_getElem_cons hi] at e2
      obtain ⟨sl3, h3, e3⟩ := R.bind_inv (show ((t.put (.p items[i]) (wipeSl sl vs)).bind _) = _ from e2)
      obtain ⟨⟨b, st4⟩, h4, e4⟩ := R.bind_inv e3
      refine .inr ⟨IT.go i g2 H2 sp hi, fun H2 => ∃ g2 st2 acc us, Lst g1 H1 p g2 H2 ∧ RepSt H2 g2 st2 ∧ H2 p = some (.lst us) ∧ RepDs H2 g2 acc.reverse us ∧ acc.length ≤ i + 1 ∧ lcGo (wipeSl sl vs) t test elt (items.drop (i + 1)) acc st2 = .ok (ds, st'),
        fun H' ⟨g2, st2, acc, us, l2, t2, hu, hr, hacc, e2⟩ => ⟨m - 1, by omega, g2, st2, acc, us, l2, t2, hu, hr, hacc, by omega, e2⟩, fun x H3 hy => ?_⟩
      obtain ⟨s3, t3, r3⟩ := IT.yld i g2 H2 st2 x H3 _ sp t2 (get_lt hi) hy
      have S0 : RepSl K H3 g2 (wipeSl sl vs) (wipe σ vs) := wipeSl_rep (hs.mono (s1.trans (sp.trans s3))) vs
      refine put_okI wk t hwk h3 S0 r3 fun σ4 S4 o4 => ⟨?_, ?_⟩
      · have := o4.wipe hv
        rw [this]
        apply List.ext_getElem?
        intro j
        rw [wipe_get, wipe_get, wipe_length]
        by_cases hj : j ∈ vs
        · rw [if_pos hj, if_pos hj]
        · rw [if_neg hj, if_neg hj]
      · have hu3 : H3 p = some (.lst us) := s3.ext p _ hu l2.nal
        refine htt σ4 H3 _ ⟨g2, sl3, st2, b, st4, S4, t3, h4, fun g5 H5 s5 t5 => ?_⟩
        have l5 : Lst g1 H1 p g5 H5 := l2.go hu (s3.trans s5)
        have hu5 : H5 p = some (.lst us) := s5.ext p _ hu3 l2.nal
        cases b with
        | false => exact ⟨g5, st4, acc, us, l5, t5, hu5, hr.mono (s3.trans s5), by omega, e4⟩
        | true =>
          obtain ⟨⟨y, st6⟩, h6, e6⟩ := R.bind_inv (show ((elt sl3 st4).bind _) = _ from e4)
          obtain ⟨⟨d, st7⟩, h7, e7⟩ := R.bind_inv e6
          refine hte σ4 H5 _ ⟨g5, sl3, st4, y, st6, S4.mono s5, t5, h6, fun g6 v6 H6 s6 t6 r6 => ⟨us, s6.ext p _ hu5 l5.nal, ?_, ?_⟩⟩
          · rw [← hr.length, List.length_reverse]
            exact len_lt (by omega)
          · obtain ⟨g7, s7, t7, r7⟩ := frz_rep t6 r6 h7
            have l7 : Lst g1 H1 p g7 H6 := l5.go hu5 (s6.trans s7)
            have hu7 : H6 p = some (.lst us) := s6.ext p _ hu5 l5.nal
            have hk : ∀ b, ¬ g7.ex b → upd H6 p (.lst (us ++ [v6])) b = H6 b := fun b hb => upd_ne fun e => hb (by rw [e]; exact l7.ex)
            refine ⟨g7, st7, d :: acc, us ++ [v6], l7.put, RepSt.putL t7 l7.nal l7.ex hu7, upd_same, ?_, by simp; omega, e7⟩
            rw [List.reverse_cons]
            exact RepDs.off hk _ _ ((hr.mono (s3.trans (s5.trans (s6.trans s7)))).append (.cons r7 .nil))
    · have hl : items.length ≤ i := by omega
      rw [List.drop_eq_nil_of_le hl] at e2
      cases e2
      exact .inl ⟨IT.stop i g2 H2 sp hl, k g2 p us H2 hpH (lift l2) t2 hu hr⟩
  · cases e
section
variable {X : Cx}
abbrev PTsm (X : Cx) (ifs : List Expr) (m : MT) : Prop := PTs X ifs (tT X.K m)
theorem ts_nil : PTsm X [] yesT := ⟨fun pins s σ H Q I ⟨g, sl, st, w, st', hs, ht, e, k⟩ => by
  cases e
  exact pts_nil.run pins s σ H Q I (k g H (Stp.refl g H) ht)⟩
theorem ts_one {c : Expr} {m : MT} (h : PTm X c m) : PTsm X [c] m := pts_one h
theorem li_lc {elt tg iter : Expr} {ifs : List Expr} {scope : Scope} {own : List (Str × Nat)} {pos : Pos} {it : MI} {t : Tgt} {test : MT} {el : ME} {wk : Bool} (hc : X.calm = true) (hN : X.N.Nodup) (hi : PIm X tg iter it wk) (ok : BlkOk X.N X.env.scope scope own)
    (hg : ∀ (s : Shared) (H : Hp) (C : Addr) (cl : List (Str × Addr)) (fp : List Addr), PG (X.blk s H scope (compEnvC scope cl C X.env) fp) tg (gOf X.K t)) (ht : ∀ (s : Shared) (H : Hp) (C : Addr) (cl : List (Str × Addr)) (fp : List Addr), PTsm (X.blk s H scope (compEnvC scope cl C X.env) fp) ifs test)
    (he : ∀ (s : Shared) (H : Hp) (C : Addr) (cl : List (Str × Addr)) (fp : List Addr), PEm (X.blk s H scope (compEnvC scope cl C X.env) fp) elt el) (hv : t.vars.all (fun i => (own.map (·.2)).contains i) = true := by rfl) (hs : ∀ x, foldedSetIterable iter X.env x = pure x := by intro _; rfl) (hwk : (!wk || t.isTp) = true := by rfl) :
    PE X (.ListComp elt [⟨tg, iter, ifs, 0⟩] scope pos) (tLI X.K (lcI (own.map (·.2)) t it test el)) := by
  refine pe_w (pe_lc (tt := tT X.K test) (te := tM X.K el) hc hN hi ok hg ht he hs) fun σ H Q h => ?_
  exact lcR (K := X.K) hwk (fun _ _ _ h => h) (fun _ _ _ h => h) (fun _ _ _ h => h) (fun i hi => by simpa using List.all_eq_true.mp hv i hi) h
theorem m_lc {e : Expr} {m : MI} (h : PE X e (tLI X.K m)) : PEm X e (lstOfI m) := pe_w h fun _ _ _ h => tLI_lst h
theorem m_lcN {e : Expr} {m : MI} (h : PE X e (tLI X.K m)) : PEm X e (newOfI m) := pe_w h fun _ _ _ h => tLI_new h
theorem s_setLc {i : Nat} {y : Str} {py : Pos} {elt tg iter : Expr} {ifs : List Expr} {scope : Scope} {own : List (Str × Nat)} {pos spos : Pos} {it : MI} {t : Tgt} {test : MT} {el : ME} {wk : Bool} (hc : X.calm = true) (hN : X.N.Nodup) (hy : X.N[i]? = some y) (hyl : X.env.scope.names.lookup y = some .local)
    (hsw : swapsWith (.ListComp elt [⟨tg, iter, ifs, 0⟩] scope pos) (some (.Name y py)) spos.line X.env = pure true) (hi : PIm X tg iter it wk) (ok : BlkOk X.N X.env.scope scope own)
    (hg : ∀ (s : Shared) (H : Hp) (C : Addr) (cl : List (Str × Addr)) (fp : List Addr), PG (X.blk s H scope (compEnvC scope cl C X.env) fp) tg (gOf X.K t)) (ht : ∀ (s : Shared) (H : Hp) (C : Addr) (cl : List (Str × Addr)) (fp : List Addr), PTsm (X.blk s H scope (compEnvC scope cl C X.env) fp) ifs test)
    (he : ∀ (s : Shared) (H : Hp) (C : Addr) (cl : List (Str × Addr)) (fp : List Addr), PEm (X.blk s H scope (compEnvC scope cl C X.env) fp) elt el) (hv : t.vars.all (fun i => (own.map (·.2)).contains i) = true := by rfl) (hs : ∀ x, foldedSetIterable iter X.env x = pure x := by intro _; rfl) (hwk : (!wk || t.isTp) = true := by rfl) :
    PSm X (.Assign [.Name y py] (.ListComp elt [⟨tg, iter, ifs, 0⟩] scope pos) spos) (setS i (lstOfI (lcI (own.map (·.2)) t it test el))) := by
  refine ps_w (ps_setLc (tt := tT X.K test) (te := tM X.K el) hc hN hy hyl hsw hi ok hg ht he hs) fun D σ H ⟨g, sl, st, fl, sl', st', hs, ht, e, k⟩ => ?_
  refine lcR (K := X.K) hwk (fun _ _ _ h => h) (fun _ _ _ h => h) (fun _ _ _ h => h) (fun i hi => by simpa using List.all_eq_true.mp hv i hi) (tLI_lst ?_)
  obtain ⟨⟨x, st1⟩, h1, e⟩ := R.bind_inv e
  cases e
  exact ⟨g, sl, st, x, st1, hs, ht, h1, fun g1 v1 H1 s1 t1 r1 => k g1 _ H1 s1 t1 ((hs.mono s1).set i r1)⟩
theorem s_setLcN {i : Nat} {y : Str} {py : Pos} {elt tg iter : Expr} {ifs : List Expr} {scope : Scope} {own : List (Str × Nat)} {pos spos : Pos} {it : MI} {t : Tgt} {test : MT} {el : ME} {wk : Bool} (hc : X.calm = true) (hN : X.N.Nodup) (hy : X.N[i]? = some y) (hyl : X.env.scope.names.lookup y = some .local)
    (hsw : swapsWith (.ListComp elt [⟨tg, iter, ifs, 0⟩] scope pos) (some (.Name y py)) spos.line X.env = pure true) (hi : PIm X tg iter it wk) (ok : BlkOk X.N X.env.scope scope own)
    (hg : ∀ (s : Shared) (H : Hp) (C : Addr) (cl : List (Str × Addr)) (fp : List Addr), PG (X.blk s H scope (compEnvC scope cl C X.env) fp) tg (gOf X.K t)) (ht : ∀ (s : Shared) (H : Hp) (C : Addr) (cl : List (Str × Addr)) (fp : List Addr), PTsm (X.blk s H scope (compEnvC scope cl C X.env) fp) ifs test)
    (he : ∀ (s : Shared) (H : Hp) (C : Addr) (cl : List (Str × Addr)) (fp : List Addr), PEm (X.blk s H scope (compEnvC scope cl C X.env) fp) elt el) (hv : t.vars.all (fun i => (own.map (·.2)).contains i) = true := by rfl) (hs : ∀ x, foldedSetIterable iter X.env x = pure x := by intro _; rfl) (hwk : (!wk || t.isTp) = true := by rfl) :
    PSm X (.Assign [.Name y py] (.ListComp elt [⟨tg, iter, ifs, 0⟩] scope pos) spos) (setS i (newOfI (lcI (own.map (·.2)) t it test el))) := by
  refine ps_w (ps_setLc (tt := tT X.K test) (te := tM X.K el) hc hN hy hyl hsw hi ok hg ht he hs) fun D σ H ⟨g, sl, st, fl, sl', st', hs, ht, e, k⟩ => ?_
  refine lcR (K := X.K) hwk (fun _ _ _ h => h) (fun _ _ _ h => h) (fun _ _ _ h => h) (fun i hi => by simpa using List.all_eq_true.mp hv i hi) (tLI_new ?_)
  obtain ⟨⟨x, st1⟩, h1, e⟩ := R.bind_inv e
  cases e
  exact ⟨g, sl, st, x, st1, hs, ht, h1, fun g1 v1 H1 s1 t1 r1 => k g1 _ H1 s1 t1 ((hs.mono s1).set i r1)⟩
end

/-! ### defs -/
section
variable {P : Program} {w : World} {K : PySem.W.Frag} {mg : Str → Option Value} {base : Heap}
theorem start_rep {H : Hp} {g : G} {ws : List W} {vs : List V} (N : Nat) (r : RepWs K H g ws vs) : RepSl K H g (ws.map some ++ List.replicate (N - ws.length) none) (vs.map some ++ List.replicate (N - vs.length) none) := by
  have hl := r.len
  refine ⟨by simp [hl], fun i u e => ?_⟩
  by_cases hi : i < ws.length
  · rw [List.getElem?_append_left (by simpa using hi), List.getElem?_map] at e
    have key : ∀ {ws : List W} {vs : List V} {i : Nat} {u : W}, RepWs K H g ws vs → ws[i]? = some u → ∃ v, vs[i]? = some v ∧ RepW K H g u v := fun {ws vs i u} r => by
      induction r generalizing i with
      | nil => intro e; simp at e
      | cons r1 _ ih =>
        intro e
        cases i with
        | zero => cases e; exact ⟨_, rfl, r1⟩
        | succ i => simpa using ih (by simpa using e)
    cases q : ws[i]? with
    | none => rw [q] at e; cases e
    | some u' =>
      rw [q] at e
      cases e
      obtain ⟨v, h1, h2⟩ := key r q
      refine ⟨v, ?_, h2⟩
      rw [List.getElem?_append_left (by rw [List.length_map, ← hl]; exact hi), List.getElem?_map, h1]
      rfl
  · rw [List.getElem?_append_right (by simpa using hi), List.getElem?_replicate] at e
    split at e <;> cases e
theorem ok_defP {x qual : Str} {st : Stmt} {f : Addr} {fd : FuncData} {N ps : List Str} {k n : Nat} {body : MS} (F : Fun K x qual st f fd) (S : FnScope N ps (defScope st)) (hn : ps.length = n)
    (hb : ∀ (cdv : Value) (A : Around) (outer : List Env) (s : Shared) (H : Hp) (E : XK), Room k (A.deeper (envOfC qual (defScope st) s.heap.objs.size f cdv)) → PSsm (cxOf CX0 P w K mg base N qual (defScope st) f cdv A outer s H E).nox (defBody st) body) :
    FnOk P w K mg base CX0 (k + 1) f fd ps (spM K (defP N.length body) n) := by
  refine F.ok S (fun vs H Q E h => by rw [hn]; exact h.1) (fun cdv A outer s H vs Q E hr h => ?_)
  obtain ⟨hl, g, st0, ws, wr, st', r, t, e, k⟩ := h
  refine ⟨_, hb cdv A outer s H E hr, ?_⟩
  obtain ⟨⟨fl, sl1, st1⟩, h1, e⟩ := R.bind_inv e
  refine ⟨g, _, st0, fl, sl1, st1, start_rep N.length r, t, h1, fun g1 σ1 H1 s1 t1 S1 => ?_⟩
  cases fl with
  | nx =>
    cases e
    have := S1
    refine k (g1.cut g.al.length) .non H1 s1.cut ?_ rwNon
    rw [t.len]
    exact t1.cut _
  | bk => cases e
  | ct => cases e
  | rt w =>
    obtain ⟨⟨d, st2⟩, h2, e⟩ := R.bind_inv (show ((frz w st1).bind _) = _ from e)
    cases e
    intro v rv
    obtain ⟨g2, s2, t2, r2⟩ := frz_rep t1 rv h2
    refine k (g2.cut g.al.length) v H1 (s1.trans s2).cut ?_ (RepD.mono0 (Stp0.cut g2 H1 _) _ _ r2)
    rw [t.len]
    exact t2.cut _
theorem ok_defC {x qual : Str} {st : Stmt} {f : Addr} {fd : FuncData} {N ps : List Str} {k n : Nat} {body : MS} (F : Fun K x qual st f fd) (S : FnScope N ps (defScope st)) (hn : ps.length = n)
    (hb : ∀ (cdv : Value) (A : Around) (outer : List Env) (s : Shared) (H : Hp) (E : XK), Room k (A.deeper (envOfC qual (defScope st) s.heap.objs.size f cdv)) → PSsm (cxOf CX0 P w K mg base N qual (defScope st) f cdv A outer s H E).nox (defBody st) body) :
    FnOk P w K mg base CX0 (k + 1) f fd ps (spM K (defC N.length body) n) := by
  refine F.ok S (fun vs H Q E h => by rw [hn]; exact h.1) (fun cdv A outer s H vs Q E hr h => ?_)
  obtain ⟨hl, g, st0, ws, wr, st', r, t, e, k⟩ := h
  refine ⟨_, hb cdv A outer s H E hr, ?_⟩
  obtain ⟨⟨fl, sl1, st1⟩, h1, e⟩ := R.bind_inv e
  refine ⟨g, _, st0, fl, sl1, st1, start_rep N.length r, t, h1, fun g1 σ1 H1 s1 t1 S1 => ?_⟩
  cases fl with
  | nx => cases e; exact k g1 .non H1 s1 t1 rwNon
  | bk => cases e
  | ct => cases e
  | rt w => cases e; exact fun v rv => k g1 v H1 s1 t1 rv
end
end Pm

/-! TupRev: t[::-1] of a tuple. -/
namespace Pm
open PySem PySem.Spec PyProof.Rows L2 HT
section
variable {prog : Program} {w : World} {A : Around} {E : Value → Shared → Prop} {s : Shared}
theorem sliceApplied_rev {sl : Addr} {vs : Value} {n : Nat} {Q : Int × Int × Nat → Shared → Prop} (hs : s.heap.IsSliceOf sl .none .none vs) (ps : IsPart vs (some (-1)))
    (h : Q (((n : Int) - 1), -1, n) s) : wpAny (model prog w) A (Builtin.Slice.sliceApplied (.ref sl) (pure (n : Int))) Q E s := by
  obtain ⟨os, hos, hcs, hds⟩ := id hs
  unfold Builtin.Slice.sliceApplied Builtin.Slice.sliceFields
  refine wpAny_bind (wpAny_bind (wpAny_field hos hds (x := .none) rfl (wpAny_bind (wpAny_field hos hds (x := .none) rfl (wpAny_bind (wpAny_field hos hds (x := vs) rfl (wpAny_pure ?_)))))))
  refine wpAny_bind (slicePart_ ps ?_)
  show wpAny _ _ (if ((-1 : Int) == 0) = true then _ else _) _ _ s
  rw [if_neg (by decide)]
  refine wpAny_bind (slicePart_none (wpAny_bind (slicePart_none (wpAny_bind (wpAny_pure ?_)))))
  show wpAny _ _ (match Builtin.Slice.sliceAdjust none none (-1) (n : Int) with | (lo, hi) => pure (lo, (-1 : Int), Builtin.Slice.slicePlaces lo hi (-1))) _ _ s
  have e1 : Builtin.Slice.sliceAdjust none none (-1) (n : Int) = ((n : Int) - 1, -1) := by
    unfold Builtin.Slice.sliceAdjust
    simp
  rw [e1]
  have e2 : Builtin.Slice.slicePlaces ((n : Int) - 1) (-1) (-1) = n := by
    unfold Builtin.Slice.slicePlaces
    simp
    omega
  show wpAny _ _ (pure ((n : Int) - 1, (-1 : Int), Builtin.Slice.slicePlaces ((n : Int) - 1) (-1) (-1))) _ _ s
  rw [e2]
  exact wpAny_pure h
theorem fm_congr {α β : Type} {f g : α → Option β} : ∀ l : List α, (∀ x ∈ l, f x = g x) → l.filterMap f = l.filterMap g
  | [], _ => rfl
  | x :: l, h => by
    rw [List.filterMap_cons, List.filterMap_cons, h x List.mem_cons_self, fm_congr l fun y hy => h y (List.mem_cons_of_mem _ hy)]
theorem rev_pick (xs : Array Value) : ((List.range xs.size).filterMap fun (k : Nat) => xs[(((xs.size : Nat) : Int) - 1 + (k : Int) * (-1)).toNat]?) = xs.toList.reverse := by
  have e : ((List.range xs.size).filterMap fun (k : Nat) => xs[(((xs.size : Nat) : Int) - 1 + (k : Int) * (-1)).toNat]?) = ((List.range xs.size).map fun k => xs.size - 1 - k).filterMap (xs[·]?) := by
    rw [List.filterMap_map]
    refine fm_congr _ fun k hk => ?_
    have hk : k < xs.size := List.mem_range.mp hk
    have : (((xs.size : Nat) : Int) - 1 + (k : Int) * (-1)).toNat = xs.size - 1 - k := by omega
    show xs[_]? = xs[_]?
    rw [this]
  rw [e, PySem.W.krv_range, List.filterMap_reverse, PySem.W.krv_all]
theorem getItem_tuple_rev {t sl : Addr} {items : Array Value} {vs : Value} {Q : Value → Shared → Prop} (ht : IsTup s.heap t items) (hs : s.heap.IsSliceOf sl .none .none vs) (ps : IsPart vs (some (-1)))
    (h : Q (.ref s.heap.objs.size) { s with heap := s.heap.push { cls := .type "tuple", data := .seq (items.toList.reverse).toArray } })
    (hsz : items.size ≤ sizeLine) : wpAny (model prog w) A (getItem (.ref t) (.ref sl)) Q E s := by
  have htake : sizeOk (.seq (items.toList.reverse).toArray) := by
    show (items.toList.reverse).toArray.size ≤ sizeLine
    rw [List.size_toArray, List.length_reverse, Array.length_toList]
    exact hsz
  obtain ⟨os, hos, hcs, hds⟩ := id hs
  have hTs : s.TypeIs (.ref sl) "slice" := ⟨os, hos, hcs⟩
  unfold getItem
  try with_reducible refine wpAny_holding ?_
  first | refine wpAny_bind (wpAny_pure ?_) | skip
  refine wpAny_bind (wpAny_sequenceKey ht.typeIs (by decide) ?_)
  refine wpAny_bind (wpAny_callSpecial?_slot (name := Str.ofString "__getitem__") ht.typeIs PyProof.Rows.slot_tuple_getitem
    (wpAny_call_entry PyProof.Rows.slot_tuple_getitem ht.typeIs entry_tuple_getitem ?_ (args_tuple_getitem _ _)))
  show wpAny _ _ (Builtin.Tuple.tupleItemsOf (.ref t) >>= _) _ _ s
  refine wpAny_bind (tupleItemsOf_ ht ?_)
  refine wpAny_bind (wpAny_typeOf hTs ?_)
  rw [if_pos (by decide)]
  refine wpAny_bind (sliceApplied_rev hs ps ?_)
  have hno : ¬ ((((items.size : Nat) : Int) - 1 == 0 && (-1 : Int) == 1 && items.size == items.size) = true) := by simp
  show wpAny _ _ (if (((items.size : Nat) : Int) - 1 == 0 && (-1 : Int) == 1 && items.size == items.size) = true then _ else _) _ _ s
  rw [if_neg hno, rev_pick]
  first
    | exact wpAny_bind (m := Builtin.Tuple.tupleExact _) (wpAny_newObj_type (wpAny_pure ⟨_, rfl, wpAny_pure h⟩) htake)
    | exact wpAny_bind (m := Builtin.Tuple.tupleExact _) (wpAny_newObj_type (wpAny_bind (wpAny_pure (wpAny_pure ⟨_, rfl, wpAny_pure h⟩))) htake)
    | exact wpAny_bind (wpAny_bind (m := Builtin.Tuple.tupleExact _) (wpAny_newObj_type (wpAny_pure (wpAny_pure ⟨_, rfl, wpAny_pure h⟩)) htake))
    | exact wpAny_bind (wpAny_bind (m := Builtin.Tuple.tupleExact _) (wpAny_newObj_type (wpAny_pure ⟨_, rfl, wpAny_pure h⟩) htake))
end
/-- x[::-1], a list or a tuple -/
def tRevA (K : PySem.W.Frag) (te : TE) : TE := fun σ H Q => te σ H fun x H1 => ∃ a xs, x = .ref a ∧ ((SqL K H1 a xs ∧ ∀ p, H1 p = none → Q (.ref p) (upd H1 p (.lst xs.reverse))) ∨ (SqT K H1 a xs ∧ NewT H1 Q xs.reverse))
theorem pe_revA {X : Cx} {e : Expr} {te : TE} {k : Nat} {p1 p2 p3 pos : Pos} (he : PE X e te) : PE X (.Subscript e (.Slice none none (some (.UnaryOp .USub (.Constant (.int 1) k p1) p2)) p3) pos) (tRevA X.K te) := by
  refine ⟨fun pins s σ H Q I h => ?_⟩
  refine Subscript_ (thn (he.run pins s σ H _ I h) fun v s1 ⟨x, H1, I1, r1, q1⟩ => ?_)
  obtain ⟨a, xs, ex, q⟩ := q1
  subst ex
  cases r1
  have hst : PO X (some (.UnaryOp .USub (.Constant (.int 1) k p1) p2)) (tPart (tUn (rU fun i => .int (-i)) (tC (.int 1)))) := po_some (pe_un un_neg pe_int)
  refine wpAny_Slice (thn (po_none.run pins s1 σ H1 (fun o H2 => o = none ∧ H2 = H1) I1 ⟨rfl, rfl⟩) fun vl s2 ⟨l, H2, I2, pl, el, e2⟩ => ?_)
  subst el e2
  refine thn (po_none.run pins s2 σ H2 (fun o H3 => o = none ∧ H3 = H2) I2 ⟨rfl, rfl⟩) fun vu s3 ⟨u, H3, I3, pu, eu, e3⟩ => ?_
  subst eu e3
  refine thn (hst.run pins s3 σ H3 (fun o H4 => o = some (-1) ∧ H4 = H3) I3 ⟨1, rfl, -1, rfl, rfl, rfl⟩) fun vs s4 ⟨o, H4, I4, ps, eo, e4⟩ => ?_
  subst eo e4
  have I5 : Inv X pins σ H4 { s4 with heap := s4.heap.push { cls := .type "slice", data := .fields #[vl, vu, vs] } } := I4.kept (t' := s4.toks) fun b ob q => Heap.get?_push_of_some _ q
  show wpAny (model X.prog X.w) X.A (subscriptTail e (.Slice none none (some (.UnaryOp .USub (.Constant (.int 1) k p1) p2)) p3) (.ref a) (.ref s4.heap.objs.size)) (EP X pins σ Q) X.xe { s4 with heap := s4.heap.push { cls := .type "slice", data := .fields #[vl, vu, vs] } }
  rcases q with ⟨hx, q⟩ | ⟨hx, q⟩
  · obtain ⟨its, r, ht, hz⟩ := I5.list hx
    have hlen := r.length
    refine tail_any (ops := [.ref a, .ref s4.heap.objs.size]) ht.isList.typeIs (PySem.slot_list_getitem.lookup) ?_ (by with_unfolding_all rfl)
    refine wpAny_getItem_list_slice ht.isList (Heap.IsSliceOf.new _ vl vu vs) pl pu ps (by decide) ?_ (by rw [List.size_toArray]; omega)
    rw [PySem.W.krv_pick]
    refine ⟨.ref _, _, I5.laid (t' := s4.toks) (o := .lst xs.reverse) (fun b ob q => Heap.get?_push_of_some _ q) (Nat.le_refl _) ?_, rfl, q _ (I5.hok.fresh (Nat.le_refl _))⟩
    exact ⟨by rw [List.length_reverse]; exact hz, _, 0, r.reverse, Heap.get?_push_size _ rfl⟩
  · obtain ⟨its, r, ht, hz⟩ := I5.tuple hx
    have hlen := r.length
    cases pl
    cases pu
    refine tail_any (ops := [.ref a, .ref s4.heap.objs.size]) ht.typeIs (PyProof.Rows.slot_tuple_getitem.lookup) ?_ (by with_unfolding_all rfl)
    refine getItem_tuple_rev ht (Heap.IsSliceOf.new _ .none .none vs) ps ?_ (by rw [List.size_toArray]; omega)
    exact laidT I5 (by rw [List.length_reverse]; exact hz) r.reverse s4.toks q
def revF : W → Store → R (W × Store)
  | .p (.lst ds), st => .ok (.p (.lst ds.reverse), st)
  | .p (.tup ds), st => .ok (.p (.tup ds.reverse), st)
  | .loc n, st => match cellL st n with
    | some ds => .ok (.p (.lst ds.reverse), st)
    | none => .stuck
  | _, _ => .stuck
theorem m_rev {X : Cx} {e : Expr} {m : ME} {k : Nat} {p1 p2 p3 pos : Pos} (he : PEm X e m) : PEm X (.Subscript e (.Slice none none (some (.UnaryOp .USub (.Constant (.int 1) k p1) p2)) p3) pos) (unM revF m) := by
  refine pe_w (pe_revA he) fun σ H Q ⟨g, sl, st, w, st', hs, ht, e, k⟩ => ?_
  obtain ⟨⟨x, st1⟩, h1, e⟩ := R.bind_inv e
  refine ⟨g, sl, st, x, st1, hs, ht, h1, fun g1 v1 H1 s1 t1 r1 => ?_⟩
  cases x with
  | scr n => cases e
  | loc n =>
    dsimp only [revF] at e
    cases hc : cellL st1 n with
    | none => rw [hc] at e; cases e
    | some ds =>
      rw [hc] at e
      cases e
      obtain ⟨o, q1, q2⟩ := r1
      obtain ⟨a, vs, h3, h4, h5⟩ := cellL_rep t1 hc
      rw [q1] at h3
      cases h3
      rw [q2 a rfl]
      exact ⟨a, vs, rfl, .inl ⟨.inl (.inl h4), fun p hp => k g1 _ _ (s1.trans (Stp.new hp)) (t1.new hp) (rep_lst t1 hp h5.reverse)⟩⟩
  | p d =>
    cases d with
    | lst ds =>
      cases e
      obtain ⟨a, vs, rfl, hn, ha, hr⟩ := rwLst_inv r1
      exact ⟨a, vs, rfl, .inl ⟨.inl (.inl ha), fun p hp => k g1 _ _ (s1.trans (Stp.new hp)) (t1.new hp) (rep_lst t1 hp hr.reverse)⟩⟩
    | tup ds =>
      cases e
      obtain ⟨a, vs, rfl, hn, ha, hr⟩ := rwTup_inv r1
      exact ⟨a, vs, rfl, .inr ⟨ha.sqt, tup_p t1 hr.reverse fun g2 v2 H2 s2 t2 r2 => k g2 v2 H2 (s1.trans s2) t2 r2⟩⟩
    | _ => cases e
end Pm

/-! Core4: operators and built-ins. -/
namespace Pm
open PySem PySem.Spec PyProof.Rows L2

theorem OpR.or {X : Cx} {f : Value → Value → Sem Value} {r1 r2 : R2} (h1 : OpR X f r1) (h2 : OpR X f r2) : OpR X f (fun x y H Q => r1 x y H Q ∨ r2 x y H Q) := by
  intro pins s σ H x y v u Q I rx ry h
  rcases h with h | h
  · exact h1 pins s σ H x y v u Q I rx ry h
  · exact h2 pins s σ H x y v u Q I rx ry h
theorem OpR.imp {X : Cx} {f : Value → Value → Sem Value} {r r' : R2} (h : OpR X f r) (w : ∀ x y H Q, r' x y H Q → r x y H Q) : OpR X f r' := fun pins s σ H x y v u Q I rx ry q => h pins s σ H x y v u Q I rx ry (w x y H Q q)
theorem CallR.imp {X : Cx} {f : Value} {r r' : List V → Hp → VK → Prop} (h : CallR X f r) (w : ∀ x H Q, r' x H Q → r x H Q) : CallR X f r' := fun pins s σ H x v Q I rx q => h pins s σ H x v Q I rx (w x H Q q)
theorem CallR.or {X : Cx} {f : Value} {r1 r2 : List V → Hp → VK → Prop} (h1 : CallR X f r1) (h2 : CallR X f r2) : CallR X f (fun x H Q => r1 x H Q ∨ r2 x H Q) := by
  intro pins s σ H x v Q I rx h
  rcases h with h | h
  · exact h1 pins s σ H x v Q I rx h
  · exact h2 pins s σ H x v Q I rx h
theorem IxR.imp {X : Cx} {r r' : R2} (h : IxR X r) (w : ∀ x y H Q, r' x y H Q → r x y H Q) : IxR X r' := fun value slice pins s σ H x y v u Q I rx ry q hs => h value slice pins s σ H x y v u Q I rx ry (w x y H Q q) hs

/-! ### the list that a value is -/
/-- an exact list: plain, a cell -/
def lstX (st : Store) : W → Option (List D)
  | .p (.lst ds) => some ds
  | .loc n => cellL st n
  | _ => none
/-- any list -/
def lstR (st : Store) : W → Option (List D)
  | .scr ns => some (ns.map D.int)
  | w => lstX st w
section
variable {K : PySem.W.Frag} {H : Hp} {g : G} {st : Store} {w : W} {v : V} {ds : List D}
theorem lstX_rep (S : RepSt H g st) (r : RepW K H g w v) (h : lstX st w = some ds) : ∃ a vs, v = .ref a ∧ H a = some (.lst vs) ∧ RepDs H g ds vs := by
  cases w with
  | scr n => cases h
  | loc n =>
    have hc : cellL st n = some ds := h
    obtain ⟨o, q1, q2⟩ := r
    obtain ⟨a, vs, h3, h4, h5⟩ := cellL_rep S hc
    rw [q1] at h3
    cases h3
    exact ⟨a, vs, q2 a rfl, h4, h5⟩
  | p d =>
    cases d with
    | lst es =>
      cases h
      obtain ⟨a, vs, e, hn, ha, hr⟩ := rwLst_inv r
      exact ⟨a, vs, e, ha, hr⟩
    | _ => cases h
theorem lstR_rep (S : RepSt H g st) (r : RepW K H g w v) (h : lstR st w = some ds) : ∃ a vs, v = .ref a ∧ SqL K H a vs ∧ RepDs H g ds vs := by
  cases w with
  | scr ns =>
    cases h
    obtain ⟨a, rfl, r⟩ := r
    refine ⟨a, ns.map V.int, rfl, ?_, RepDs.ints ns⟩
    rcases r with ⟨o, _, ha, rfl | ⟨ob, rfl⟩⟩ | r
    · exact .inl (.inl ha)
    · exact .inl (.inr ⟨ob, ha⟩)
    · exact r H
  | loc n =>
    obtain ⟨a, vs, e, h1, h2⟩ := lstX_rep S r (show lstX st (.loc n) = some ds from h)
    exact ⟨a, vs, e, .inl (.inl h1), h2⟩
  | p d =>
    obtain ⟨a, vs, e, h1, h2⟩ := lstX_rep S r (show lstX st (.p d) = some ds from h)
    exact ⟨a, vs, e, .inl (.inl h1), h2⟩
end

/-! ### arithmetic -/
def big (i : Int) : Bool := (i.natAbs.log2 < 499999 : Bool)
def smallI (i : Int) : Bool := decide (-(2 ^ 64) < i) && decide (i < 2 ^ 64)
def addF (a b : W) (st : Store) : R (W × Store) := match a, b with
  | .p (.int i), .p (.int j) => .ok (.p (.int (i + j)), st)
  | .p (.str i), .p (.str j) => if i.length + j.length ≤ 100000 then .ok (.p (.str (i ++ j)), st) else .stuck
  | .p (.tup i), .p (.tup j) => if i.length + j.length ≤ 1000000 then .ok (.p (.tup (i ++ j)), st) else .stuck
  | a, b => match lstX st a, lstX st b with
    | some i, some j => if i.length + j.length ≤ 1000000 then .ok (.p (.lst (i ++ j)), st) else .stuck
    | _, _ => .stuck
def subF (a b : W) (st : Store) : R (W × Store) := match a, b with
  | .p (.int i), .p (.int j) => .ok (.p (.int (i - j)), st)
  | _, _ => .stuck
def mulF (a b : W) (st : Store) : R (W × Store) := match a, b with
  | .p (.int i), .p (.int j) => if smallI i || smallI j || (big i && big j) then .ok (.p (.int (i * j)), st) else .stuck
  | .p (.tup ds), .p (.int k) => if -1000000 ≤ k ∧ k ≤ 1000 ∧ ds.length ≤ 1000 then .ok (.p (.tup (List.replicate k.toNat ds).flatten), st) else .stuck
  | .p (.lst ds), .p (.int k) => if k ≤ 1000000 ∧ -1000000 ≤ k ∧ ds.length * k.toNat ≤ 1000000 then .ok (.p (.lst (List.replicate k.toNat ds).flatten), st) else .stuck
  | _, _ => .stuck
def divF (a b : W) (st : Store) : R (W × Store) := match a, b with
  | .p (.int i), .p (.int j) => if 0 < j ∧ j.natAbs.log2 < 9000 then .ok (.p (.int (i / j)), st) else .stuck
  | _, _ => .stuck
def modF (a b : W) (st : Store) : R (W × Store) := match a, b with
  | .p (.int i), .p (.int j) => if 0 < j then .ok (.p (.int (i % j)), st) else .stuck
  | _, _ => .stuck
def powF (a b : W) (st : Store) : R (W × Store) := match a, b with
  | .p (.int i), .p (.int j) => if 0 ≤ j ∧ j ≤ 1000000 ∧ i.natAbs < 2 ^ 64 then .ok (.p (.int (i ^ j.toNat)), st) else .stuck
  | _, _ => .stuck
def negF (a : W) (st : Store) : R (W × Store) := match a with
  | .p (.int i) => .ok (.p (.int (-i)), st)
  | _ => .stuck
def ltF (a b : W) (st : Store) : R (W × Store) := match a, b with
  | .p (.int i), .p (.int j) => .ok (.p (.bl (decide (i < j))), st)
  | _, _ => .stuck
def leF (a b : W) (st : Store) : R (W × Store) := match a, b with
  | .p (.int i), .p (.int j) => .ok (.p (.bl (decide (i ≤ j))), st)
  | _, _ => .stuck
def gtF (a b : W) (st : Store) : R (W × Store) := match a, b with
  | .p (.int i), .p (.int j) => .ok (.p (.bl (decide (j < i))), st)
  | _, _ => .stuck
def geF (a b : W) (st : Store) : R (W × Store) := match a, b with
  | .p (.int i), .p (.int j) => .ok (.p (.bl (decide (j ≤ i))), st)
  | _, _ => .stuck
/-- is None -/
def isNonF (a b : W) (st : Store) : R (W × Store) := match b with
  | .p .non => match a with
    | .p .non => .ok (.p (.bl true), st)
    | .scr _ => .stuck
    | .loc n => match cellL st n with
      | some _ => .ok (.p (.bl false), st)
      | none => .stuck
    | _ => .ok (.p (.bl false), st)
  | _ => .stuck
def isntNonF (a b : W) (st : Store) : R (W × Store) := match isNonF a b st with
  | .ok (.p (.bl c), s) => .ok (.p (.bl (!c)), s)
  | _ => .stuck

/-- ints in, by rules of the layer -/
theorem opII {X : Cx} {f : Value → Value → Sem Value} {F : W → W → Store → R (W × Store)} {C : Int → Int → Prop} {v : Int → Int → V} {d : Int → Int → D} (h : OpR X f (rI C v))
    (hF : ∀ a b st w st', F a b st = .ok (w, st') → ∃ i j, a = .p (.int i) ∧ b = .p (.int j) ∧ C i j ∧ w = .p (d i j) ∧ st' = st) (hd : ∀ H g i j, RepD H g (d i j) (v i j)) : OpR X f (r2M X.K F) := by
  refine OpR.imp h fun x y H Q ⟨g, st, a, b, w, st', ra, rb, S, e, k⟩ => ?_
  obtain ⟨i, j, rfl, rfl, hc, rfl, rfl⟩ := hF _ _ _ _ _ e
  exact ⟨i, j, rwInt_inv ra, rwInt_inv rb, hc, k g _ H (Stp.refl g H) S (hd H g i j)⟩
section
variable {X : Cx}
theorem rI_of {f : Value → Value → Sem Value} {v : Int → Int → V} (h : OpR X f (rI0 v)) : OpR X f (rI (fun _ _ => True) v) := OpR.imp h fun x y H Q ⟨i, j, a, b, _, q⟩ => ⟨i, j, a, b, q⟩
theorem o_sub : OpR X (binaryOp .Sub) (r2M X.K subF) := opII (rI_of op_sub) (d := fun i j => .int (i - j)) (fun a b st w st' e => by
  unfold subF at e
  split at e
  · cases e; exact ⟨_, _, rfl, rfl, trivial, rfl, rfl⟩
  · cases e) fun _ _ _ _ => repInt _
theorem o_lt : OpR X (compareOp .Lt) (r2M X.K ltF) := opII (rI_of op_lt) (d := fun i j => .bl (decide (i < j))) (fun a b st w st' e => by
  unfold ltF at e
  split at e
  · cases e; exact ⟨_, _, rfl, rfl, trivial, rfl, rfl⟩
  · cases e) fun _ _ _ _ => repBl _
theorem o_le : OpR X (compareOp .LtE) (r2M X.K leF) := opII (rI_of op_le) (d := fun i j => .bl (decide (i ≤ j))) (fun a b st w st' e => by
  unfold leF at e
  split at e
  · cases e; exact ⟨_, _, rfl, rfl, trivial, rfl, rfl⟩
  · cases e) fun _ _ _ _ => repBl _
theorem o_gt : OpR X (compareOp .Gt) (r2M X.K gtF) := opII (rI_of op_gt) (d := fun i j => .bl (decide (j < i))) (fun a b st w st' e => by
  unfold gtF at e
  split at e
  · cases e; exact ⟨_, _, rfl, rfl, trivial, rfl, rfl⟩
  · cases e) fun _ _ _ _ => repBl _
theorem o_ge : OpR X (compareOp .GtE) (r2M X.K geF) := opII (rI_of op_ge) (d := fun i j => .bl (decide (j ≤ i))) (fun a b st w st' e => by
  unfold geF at e
  split at e
  · cases e; exact ⟨_, _, rfl, rfl, trivial, rfl, rfl⟩
  · cases e) fun _ _ _ _ => repBl _
theorem o_div : OpR X (binaryOp .FloorDiv) (r2M X.K divF) := opII op_fdivW (d := fun i j => .int (i / j)) (fun a b st w st' e => by
  unfold divF at e
  split at e
  · split at e
    · cases e; exact ⟨_, _, rfl, rfl, by assumption, rfl, rfl⟩
    · cases e
  · cases e) fun _ _ _ _ => repInt _
theorem o_mod : OpR X (binaryOp .Mod) (r2M X.K modF) := opII op_mod (d := fun i j => .int (i % j)) (fun a b st w st' e => by
  unfold modF at e
  split at e
  · split at e
    · cases e; exact ⟨_, _, rfl, rfl, by assumption, rfl, rfl⟩
    · cases e
  · cases e) fun _ _ _ _ => repInt _
theorem o_pow : OpR X (binaryOp .Pow) (r2M X.K powF) := opII op_pow (d := fun i j => .int (i ^ j.toNat)) (fun a b st w st' e => by
  unfold powF at e
  split at e
  · split at e
    · cases e; exact ⟨_, _, rfl, rfl, by assumption, rfl, rfl⟩
    · cases e
  · cases e) fun _ _ _ _ => repInt _
theorem u_neg : UnR X (unaryOp .USub) (uM X.K negF) := fun pins s σ H x v Q I rx ⟨g, st, a, w, st', ra, S, e, k⟩ => by
  unfold negF at e
  split at e
  · cases e
    exact un_neg pins s σ H x v Q I rx ⟨_, rwInt_inv ra, k g _ H (Stp.refl g H) S (rwInt _)⟩
  · cases e
theorem lst_p {K : PySem.W.Frag} {H : Hp} {g : G} {st : Store} {ds : List D} {vs : List V} {Q : VK} {st' : Store} (S : RepSt H g st) (r : RepDs H g ds vs) (k : ∀ g' v H', Stp g H g' H' → RepSt H' g' st → RepW K H' g' (.p (.lst ds)) v → Q v H') : ∀ p, H p = none → Q (.ref p) (upd H p (.lst vs)) :=
  fun p hp => k g _ _ (Stp.new hp) (S.new hp) (rep_lst S hp r)
theorem o_add : OpR X (binaryOp .Add) (r2M X.K addF) := by
  refine OpR.imp ((op_add.or op_add_str).or (op_catF.or op_cat)) fun x y H Q ⟨g, st, a, b, w, st', ra, rb, S, e, k⟩ => ?_
  unfold addF at e
  split at e
  · cases e
    exact .inl (.inl ⟨_, _, rwInt_inv ra, rwInt_inv rb, k g _ H (Stp.refl g H) S (rwInt _)⟩)
  · split at e
    · rename_i i j hz
      cases e
      exact .inl (.inr ⟨_, _, rwStr_inv ra, rwStr_inv rb, Nat.le_trans hz (by decide), k g _ H (Stp.refl g H) S (rwStr _)⟩)
    · cases e
  · split at e
    · rename_i i j hz
      cases e
      obtain ⟨p, vs, rfl, hn, hp, hr⟩ := rwTup_inv ra
      obtain ⟨q, us, rfl, hn2, hq, hr2⟩ := rwTup_inv rb
      refine .inr (.inl ⟨p, q, vs, us, rfl, rfl, hp.sqt, hq.sqt, by rw [← hr.length, ← hr2.length]; exact len_ok hz, fun e0 => ?_, fun _ e0 => ?_, fun _ _ => tup_p S (hr.append hr2) k⟩)
      · subst e0
        have : i = [] := by
          have := hr.length
          exact List.length_eq_zero_iff.mp this
        subst this
        exact k g _ H (Stp.refl g H) S rb
      · subst e0
        have : j = [] := by
          have := hr2.length
          exact List.length_eq_zero_iff.mp this
        subst this
        rw [List.append_nil] at k
        exact k g _ H (Stp.refl g H) S ra
    · cases e
  · split at e
    · split at e
      · rename_i i j hi hj hz
        cases e
        obtain ⟨p, vs, rfl, hp, hr⟩ := lstX_rep S ra hi
        obtain ⟨q, us, rfl, hq, hr2⟩ := lstX_rep S rb hj
        exact .inr (.inr ⟨p, q, vs, us, rfl, rfl, hp, hq, by rw [← hr.length, ← hr2.length]; exact len_ok hz, lst_p (st' := st) S (hr.append hr2) k⟩)
      · cases e
    · cases e
theorem o_mul : OpR X (binaryOp .Mult) (r2M X.K mulF) := by
  refine OpR.imp ((op_mul.or op_mulW).or (op_repF.or op_rep)) fun x y H Q ⟨g, st, a, b, w, st', ra, rb, S, e, k⟩ => ?_
  unfold mulF at e
  split at e
  · split at e
    · rename_i i j hz
      cases e
      rw [Bool.or_eq_true, Bool.or_eq_true] at hz
      rcases hz with (hz | hz) | hz
      · simp only [smallI, Bool.and_eq_true, decide_eq_true_eq] at hz
        exact .inl (.inl ⟨_, _, rwInt_inv ra, rwInt_inv rb, .inl hz, k g _ H (Stp.refl g H) S (rwInt _)⟩)
      · simp only [smallI, Bool.and_eq_true, decide_eq_true_eq] at hz
        exact .inl (.inl ⟨_, _, rwInt_inv ra, rwInt_inv rb, .inr hz, k g _ H (Stp.refl g H) S (rwInt _)⟩)
      · simp only [big, Bool.and_eq_true, decide_eq_true_eq] at hz
        exact .inl (.inr ⟨_, _, rwInt_inv ra, rwInt_inv rb, by show _ + _ < _; omega, k g _ H (Stp.refl g H) S (rwInt _)⟩)
    · cases e
  · split at e
    · rename_i ds kk hz
      cases e
      obtain ⟨p, vs, rfl, hn, hp, hr⟩ := rwTup_inv ra
      have hlen := hr.length
      by_cases h1 : ds = [] ∨ kk = 1
      · have e2 : (List.replicate kk.toNat ds).flatten = ds := by
          rcases h1 with h1 | h1
          · subst h1; simp
          · subst h1; simp
        refine .inr (.inl ⟨p, kk, vs, rfl, rwInt_inv rb, hp.sqt, hz.1, hz.2.1, by rw [← hlen]; exact hz.2.2, .inl ⟨?_, ?_⟩⟩)
        · rcases h1 with h1 | h1
          · subst h1; exact .inl (List.eq_nil_of_length_eq_zero hlen.symm)
          · exact .inr h1
        · rw [e2] at k
          exact k g _ H (Stp.refl g H) S ra
      · have hne : vs ≠ [] := fun z => h1 (.inl (by subst z; exact List.eq_nil_of_length_eq_zero hlen))
        by_cases h2 : kk ≤ 0
        · have e2 : (List.replicate kk.toNat ds).flatten = [] := by rw [show kk.toNat = 0 by omega]; rfl
          rw [e2] at k
          exact .inr (.inl ⟨p, kk, vs, rfl, rwInt_inv rb, hp.sqt, hz.1, hz.2.1, by rw [← hlen]; exact hz.2.2, .inr (.inl ⟨hne, h2, tup_p S .nil k⟩)⟩)
        · exact .inr (.inl ⟨p, kk, vs, rfl, rwInt_inv rb, hp.sqt, hz.1, hz.2.1, by rw [← hlen]; exact hz.2.2, .inr (.inr ⟨hne, by have : kk ≠ 1 := fun z => h1 (.inr z); omega, tup_p S (hr.rep _) k⟩)⟩)
    · cases e
  · split at e
    · rename_i ds kk hz
      cases e
      obtain ⟨p, vs, rfl, hn, hp, hr⟩ := rwLst_inv ra
      exact .inr (.inr ⟨p, kk, vs, rfl, rwInt_inv rb, hp, by omega, by omega, by rw [← hr.length]; exact len_ok hz.2.2, lst_p (st' := st) S (hr.rep _) k⟩)
    · cases e
  · cases e
theorem isNon_rep {H : Hp} {g : G} {st : Store} {a b : W} {x y : V} {c : Bool} {st' : Store} {K : PySem.W.Frag} (S : RepSt H g st) (ra : RepW K H g a x) (rb : RepW K H g b y) (e : isNonF a b st = .ok (.p (.bl c), st')) : y = .non ∧ decide (x = .non) = c ∧ st' = st := by
  unfold isNonF at e
  split at e
  · refine ⟨rwNon_inv rb, ?_⟩
    split at e
    · cases e; rw [rwNon_inv ra]; exact ⟨rfl, rfl⟩
    · cases e
    · rename_i n
      cases hc : cellL st n with
      | none => rw [hc] at e; cases e
      | some ds =>
        rw [hc] at e
        cases e
        obtain ⟨a, vs, e1, _, _⟩ := lstX_rep S ra (show lstX st (.loc n) = some ds from hc)
        rw [e1]
        exact ⟨rfl, rfl⟩
    · rename_i w h1 h2 h3
      cases e
      refine ⟨?_, rfl⟩
      cases a with
      | scr n => exact absurd rfl (h2 n)
      | loc n => exact absurd rfl (h3 n)
      | p d =>
        cases d with
        | non => exact absurd rfl h1
        | bl b => rw [rwBl_inv ra]; rfl
        | int i => rw [rwInt_inv ra]; rfl
        | str i => rw [rwStr_inv ra]; rfl
        | tup ds => obtain ⟨a, vs, e1, _⟩ := rwTup_inv ra; rw [e1]; rfl
        | lst ds => obtain ⟨a, vs, e1, _⟩ := rwLst_inv ra; rw [e1]; rfl
  · cases e
theorem isNon_shape {a b w : W} {st st' : Store} (e : isNonF a b st = .ok (w, st')) : ∃ c, w = .p (.bl c) := by
  unfold isNonF at e
  split at e
  · split at e
    · cases e; exact ⟨_, rfl⟩
    · cases e
    · rename_i n
      cases hc : cellL st n with
      | none => rw [hc] at e; cases e
      | some ds => rw [hc] at e; cases e; exact ⟨_, rfl⟩
    · cases e; exact ⟨_, rfl⟩
  · cases e
theorem o_is : OpR X (compareOp .Is) (r2M X.K isNonF) := by
  refine OpR.imp op_isN fun x y H Q ⟨g, st, a, b, w, st', ra, rb, S, e, k⟩ => ?_
  obtain ⟨c, rfl⟩ := isNon_shape e
  obtain ⟨h1, h2, rfl⟩ := isNon_rep S ra rb e
  exact ⟨h1, by rw [h2]; exact k g _ H (Stp.refl g H) S (rwBl _)⟩
theorem o_isnt : OpR X (compareOp .IsNot) (r2M X.K isntNonF) := by
  refine OpR.imp op_notN fun x y H Q ⟨g, st, a, b, w, st', ra, rb, S, e, k⟩ => ?_
  unfold isntNonF at e
  split at e
  · rename_i c s h
    cases e
    obtain ⟨h1, h2, rfl⟩ := isNon_rep S ra rb h
    exact ⟨h1, by rw [h2]; exact k g _ H (Stp.refl g H) S (rwBl _)⟩
  · cases e

/-! ### == -/
mutual
def eqD : D → D → Bool
  | .non, .non => true
  | .bl a, .bl b => a == b
  | .bl a, .int j => (if a then 1 else 0) == j
  | .int i, .bl b => i == (if b then 1 else 0)
  | .int i, .int j => i == j
  | .str x, .str y => x == y
  | .tup xs, .tup ys => eqDs xs ys
  | .lst xs, .lst ys => eqDs xs ys
  | _, _ => false
def eqDs : List D → List D → Bool
  | [], [] => true
  | x :: xs, y :: ys => eqD x y && eqDs xs ys
  | _, _ => false
end
mutual
def toPy : D → PyData
  | .non => .none
  | .bl b => .bool b
  | .int i => .int i
  | .str s => .str s
  | .tup ds => .tuple (toPys ds)
  | .lst ds => .list (toPys ds)
def toPys : List D → List PyData
  | [] => []
  | d :: ds => toPy d :: toPys ds
end
mutual
/-- no deeper than so, texts of true signs -/
def okD : Nat → D → Bool
  | n + 1, .tup ds => okDs n ds
  | n + 1, .lst ds => okDs n ds
  | 0, .tup _ => false
  | 0, .lst _ => false
  | _, .str s => PyData.strOk s
  | _, _ => true
def okDs : Nat → List D → Bool
  | _, [] => true
  | n, d :: ds => okD n d && okDs n ds
end
mutual
theorem toPy_rep {K : PySem.W.Frag} {H : Hp} {g : G} : ∀ (d : D) (v : V), RepD H g d v → Dp K H v (toPy d)
  | .non, v, h => by
    have e : v = .non := by simpa only [RepD] using h
    rw [e]; simp only [toPy]; exact .non
  | .bl b, v, h => by
    have e : v = .bl b := by simpa only [RepD] using h
    rw [e]; simp only [toPy]; exact .bl b
  | .int b, v, h => by
    have e : v = .int b := by simpa only [RepD] using h
    rw [e]; simp only [toPy]; exact .int b
  | .str b, v, h => by
    have e : v = .str b := by simpa only [RepD] using h
    rw [e]; simp only [toPy]; exact .str b
  | .tup ds, v, h => by
    simp only [RepD] at h
    obtain ⟨a, vs, rfl, _, ha, hr⟩ := h
    simp only [toPy]
    exact .tup ha.sqt (toPys_rep ds vs hr)
  | .lst ds, v, h => by
    simp only [RepD] at h
    obtain ⟨a, vs, rfl, _, ha, hr⟩ := h
    simp only [toPy]
    exact .lst (.inl (.inl ha)) (toPys_rep ds vs hr)
theorem toPys_rep {K : PySem.W.Frag} {H : Hp} {g : G} : ∀ (ds : List D) (vs : List V), RepDs H g ds vs → DpAll K H vs (toPys ds)
  | [], vs, h => by
    rw [h.inv0]; simp only [toPys]; exact .nil
  | d :: ds, vs, h => by
    obtain ⟨v, r, rfl, h1, h2⟩ := h.inv
    simp only [toPys]
    exact .cons (toPy_rep d v h1) (toPys_rep ds r h2)
end
mutual
theorem okD_py : ∀ (n : Nat) (d : D), okD n d = true → (toPy d).canLay0 = true ∧ (toPy d).depth ≤ n
  | n + 1, .tup ds, h => by
    simp only [okD] at h
    obtain ⟨h1, h2⟩ := okDs_py n ds h
    simp only [toPy, PyData.canLay0, PyData.depth]
    exact ⟨h1, by omega⟩
  | n + 1, .lst ds, h => by
    simp only [okD] at h
    obtain ⟨h1, h2⟩ := okDs_py n ds h
    simp only [toPy, PyData.canLay0, PyData.depth]
    exact ⟨h1, by omega⟩
  | 0, .tup _, h => by simp [okD] at h
  | 0, .lst _, h => by simp [okD] at h
  | n, .str s, h => by
    have h : PyData.strOk s = true := by cases n <;> simpa only [okD] using h
    simp only [toPy, PyData.canLay0, PyData.depth]
    exact ⟨h, by omega⟩
  | n, .non, h => by simp [toPy, PyData.canLay0, PyData.depth]
  | n, .bl _, h => by simp [toPy, PyData.canLay0, PyData.depth]
  | n, .int _, h => by simp [toPy, PyData.canLay0, PyData.depth]
theorem okDs_py : ∀ (n : Nat) (ds : List D), okDs n ds = true → PyData.canLayAll0 (toPys ds) = true ∧ PyData.depthAll (toPys ds) ≤ n
  | n, [], _ => by simp [toPys, PyData.canLayAll0, PyData.depthAll]
  | n, d :: ds, h => by
    simp only [okDs, Bool.and_eq_true] at h
    obtain ⟨h1, h2⟩ := okD_py n d h.1
    obtain ⟨h3, h4⟩ := okDs_py n ds h.2
    simp only [toPys, PyData.canLayAll0, PyData.depthAll]
    exact ⟨by rw [h1, h3]; rfl, by omega⟩
end
mutual
theorem eqD_py : ∀ (d e : D), PyData.eqv (toPy d) (toPy e) = eqD d e
  | .tup xs, .tup ys => by simp only [toPy, PyData.eqv, eqD]; exact eqDs_py xs ys
  | .lst xs, .lst ys => by simp only [toPy, PyData.eqv, eqD]; exact eqDs_py xs ys
  | .non, .non | .non, .bl _ | .non, .int _ | .non, .str _ | .non, .tup _ | .non, .lst _ => by simp [toPy, PyData.eqv, eqD]
  | .bl _, .non | .bl _, .bl _ | .bl _, .int _ | .bl _, .str _ | .bl _, .tup _ | .bl _, .lst _ => by simp [toPy, PyData.eqv, eqD]
  | .int _, .non | .int _, .bl _ | .int _, .int _ | .int _, .str _ | .int _, .tup _ | .int _, .lst _ => by simp [toPy, PyData.eqv, eqD]
  | .str _, .non | .str _, .bl _ | .str _, .int _ | .str _, .str _ | .str _, .tup _ | .str _, .lst _ => by simp [toPy, PyData.eqv, eqD]
  | .tup _, .non | .tup _, .bl _ | .tup _, .int _ | .tup _, .str _ | .tup _, .lst _ => by simp [toPy, PyData.eqv, eqD]
  | .lst _, .non | .lst _, .bl _ | .lst _, .int _ | .lst _, .str _ | .lst _, .tup _ => by simp [toPy, PyData.eqv, eqD]
theorem eqDs_py : ∀ (ds es : List D), PyData.eqvAll (toPys ds) (toPys es) = eqDs ds es
  | [], [] => by simp [toPys, PyData.eqvAll, eqDs]
  | d :: ds, [] => by simp [toPys, PyData.eqvAll, eqDs]
  | [], e :: es => by simp [toPys, PyData.eqvAll, eqDs]
  | d :: ds, e :: es => by
    simp only [toPys, PyData.eqvAll, eqDs]
    rw [eqD_py d e, eqDs_py ds es]
end
/-- a value's plain reading, left as it is -/
def plainW (st : Store) : W → Option D
  | .p d => some d
  | .loc n => (cellL st n).map D.lst
  | .scr _ => none
theorem plainW_rep {K : PySem.W.Frag} {H : Hp} {g : G} {st : Store} {w : W} {v : V} {d : D} (S : RepSt H g st) (r : RepW K H g w v) (h : plainW st w = some d) : Dp K H v (toPy d) := by
  cases w with
  | scr n => cases h
  | p e => cases h; exact toPy_rep d v r
  | loc n =>
    have h : (cellL st n).map D.lst = some d := h
    cases hc : cellL st n with
    | none => rw [hc] at h; cases h
    | some ds =>
      rw [hc] at h
      cases h
      obtain ⟨a, vs, rfl, ha, hr⟩ := lstX_rep S r (show lstX st (.loc n) = some ds from hc)
      simp only [toPy]
      exact .lst (.inl (.inl ha)) (toPys_rep ds vs hr)
def eqF (a b : W) (st : Store) : R (W × Store) := match plainW st a, plainW st b with
  | some d, some e => if okD 60 d && okD 60 e then .ok (.p (.bl (eqD d e)), st) else .stuck
  | _, _ => .stuck
def neF (a b : W) (st : Store) : R (W × Store) := match plainW st a, plainW st b with
  | some d, some e => if okD 60 d && okD 60 e then .ok (.p (.bl (!eqD d e)), st) else .stuck
  | _, _ => .stuck
theorem okD_shaped {d : D} (h : okD 60 d = true) : SeqAt.shaped (toPy d) = true := by
  obtain ⟨h1, h2⟩ := okD_py 60 d h
  unfold SeqAt.shaped
  rw [h1, decide_eq_true (by omega : (toPy d).depth ≤ 64)]
  rfl
theorem o_eq (hu : X.A.units + 64 < cLine) : OpR X (compareOp .Eq) (r2M X.K eqF) := by
  refine OpR.imp (op_eqD hu) fun x y H Q ⟨g, st, a, b, w, st', ra, rb, S, e, k⟩ => ?_
  unfold eqF at e
  split at e
  · split at e
    · rename_i d e' hd he hz
      cases e
      rw [Bool.and_eq_true] at hz
      exact ⟨_, _, plainW_rep S ra hd, plainW_rep S rb he, okD_shaped hz.1, okD_shaped hz.2, by rw [eqD_py]; exact k g _ H (Stp.refl g H) S (rwBl _)⟩
    · cases e
  · cases e
theorem o_ne (hu : X.A.units + 64 < cLine) : OpR X (compareOp .NotEq) (r2M X.K neF) := by
  refine OpR.imp (op_neD hu) fun x y H Q ⟨g, st, a, b, w, st', ra, rb, S, e, k⟩ => ?_
  unfold neF at e
  split at e
  · split at e
    · rename_i d e' hd he hz
      cases e
      rw [Bool.and_eq_true] at hz
      exact ⟨_, _, plainW_rep S ra hd, plainW_rep S rb he, okD_shaped hz.1, okD_shaped hz.2, by rw [eqD_py]; exact k g _ H (Stp.refl g H) S (rwBl _)⟩
    · cases e
  · cases e
end
end Pm

/-! Core5: built-ins, subscripts, methods. -/
namespace Pm
open PySem PySem.Spec PyProof.Rows L2

def intsOf : List D → Option (List Int)
  | [] => some []
  | .int i :: r => match intsOf r with
    | some l => some (i :: l)
    | none => none
  | _ :: _ => none
def boolsOf : List D → Option (List Bool)
  | [] => some []
  | .bl i :: r => match boolsOf r with
    | some l => some (i :: l)
    | none => none
  | _ :: _ => none
theorem intsOf_rep {H : Hp} {g : G} : ∀ {ds : List D} {ns : List Int} {vs : List V}, intsOf ds = some ns → RepDs H g ds vs → vs = ns.map V.int
  | [], ns, vs, h, r => by cases h; exact r.inv0
  | d :: ds, ns, vs, h, r => by
    obtain ⟨v, us, rfl, r1, r2⟩ := r.inv
    cases d with
    | int i =>
      simp only [intsOf] at h
      split at h
      · rename_i l hl
        cases h
        rw [intsOf_rep hl r2, rwInt_inv (K := []) (H := H) (g := g) r1]
        rfl
      · cases h
    | _ => simp [intsOf] at h
theorem boolsOf_rep {H : Hp} {g : G} : ∀ {ds : List D} {ns : List Bool} {vs : List V}, boolsOf ds = some ns → RepDs H g ds vs → vs = ns.map V.bl
  | [], ns, vs, h, r => by cases h; exact r.inv0
  | d :: ds, ns, vs, h, r => by
    obtain ⟨v, us, rfl, r1, r2⟩ := r.inv
    cases d with
    | bl i =>
      simp only [boolsOf] at h
      split at h
      · rename_i l hl
        cases h
        rw [boolsOf_rep hl r2, rwBl_inv (K := []) (H := H) (g := g) r1]
        rfl
      · cases h
    | _ => simp [boolsOf] at h

/-! ### built-ins by values -/
def absF : Fn := fun ws st => match ws with
  | [.p (.int i)] => .ok (.p (.int (if i < 0 then -i else i)), st)
  | _ => .stuck
def intF : Fn := fun ws st => match ws with
  | [.p (.int i)] => .ok (.p (.int i), st)
  | [.p (.bl k)] => .ok (.p (.int (if k then 1 else 0)), st)
  | _ => .stuck
def lenF : Fn := fun ws st => match ws with
  | [.p (.tup ds)] => .ok (.p (.int ds.length), st)
  | [.p (.str s)] => if s.length ≤ 100000 then .ok (.p (.int s.length), st) else .stuck
  | [w] => match lstR st w with
    | some ds => .ok (.p (.int ds.length), st)
    | none => .stuck
  | _ => .stuck
def tupleF : Fn := fun ws st => match ws with
  | [.p (.tup ds)] => .ok (.p (.tup ds), st)
  | [w] => match lstR st w with
    | some ds => .ok (.p (.tup ds), st)
    | none => .stuck
  | _ => .stuck
/-- a value's items, a list's or a tuple's -/
def seqW (st : Store) : W → Option (List D)
  | .p (.tup ds) => some ds
  | w => lstR st w
def listF : Fn := fun ws st => match ws with
  | [w] => match seqW st w with
    | some ds => .ok (.p (.lst ds), st)
    | none => .stuck
  | _ => .stuck
def listNF : Fn := fun ws st => match ws with
  | [w] => match seqW st w with
    | some ds => .ok (.loc st.length, st ++ [some (.l ds)])
    | none => .stuck
  | _ => .stuck
def intsL (st : Store) (w : W) : Option (List Int) := match lstR st w with
  | some ds => intsOf ds
  | none => none
def boolsL (st : Store) (w : W) : Option (List Bool) := match lstR st w with
  | some ds => boolsOf ds
  | none => none
def intsS (st : Store) (w : W) : Option (List Int) := match seqW st w with
  | some ds => intsOf ds
  | none => none
def sumF : Fn := fun ws st => match ws with
  | [w] => match intsS st w with
    | some ns => .ok (.p (.int ns.sum), st)
    | none => .stuck
  | _ => .stuck
def allF : Fn := fun ws st => match ws with
  | [w] => match boolsL st w with
    | some ns => .ok (.p (.bl (ns.all id)), st)
    | none => .stuck
  | _ => .stuck
def anyF : Fn := fun ws st => match ws with
  | [w] => match boolsL st w with
    | some ns => .ok (.p (.bl (ns.any id)), st)
    | none => .stuck
  | _ => .stuck
def maxL (x : Int) : List Int → Int
  | [] => x
  | y :: r => maxL (if x < y then y else x) r
def minL (x : Int) : List Int → Int
  | [] => x
  | y :: r => minL (if y < x then y else x) r
theorem maxL_spec : ∀ (l : List Int) (x : Int), maxL x l ∈ x :: l ∧ ∀ y ∈ x :: l, y ≤ maxL x l
  | [], x => by simp [maxL]
  | z :: l, x => by
    simp only [maxL]
    by_cases c : x < z
    · rw [if_pos c]
      obtain ⟨h1, h2⟩ := maxL_spec l z
      have h3 := h2 z List.mem_cons_self
      refine ⟨List.mem_cons_of_mem _ h1, fun y hy => ?_⟩
      rcases List.mem_cons.mp hy with h | h
      · omega
      · exact h2 y h
    · rw [if_neg c]
      obtain ⟨h1, h2⟩ := maxL_spec l x
      have h3 := h2 x List.mem_cons_self
      refine ⟨?_, fun y hy => ?_⟩
      · rcases List.mem_cons.mp h1 with h | h
        · rw [h]; exact List.mem_cons_self
        · exact List.mem_cons_of_mem _ (List.mem_cons_of_mem _ h)
      · rcases List.mem_cons.mp hy with h | h
        · omega
        · rcases List.mem_cons.mp h with h | h
          · omega
          · exact h2 y (List.mem_cons_of_mem _ h)
theorem minL_spec : ∀ (l : List Int) (x : Int), minL x l ∈ x :: l ∧ ∀ y ∈ x :: l, minL x l ≤ y
  | [], x => by simp [minL]
  | z :: l, x => by
    simp only [minL]
    by_cases c : z < x
    · rw [if_pos c]
      obtain ⟨h1, h2⟩ := minL_spec l z
      have h3 := h2 z List.mem_cons_self
      refine ⟨List.mem_cons_of_mem _ h1, fun y hy => ?_⟩
      rcases List.mem_cons.mp hy with h | h
      · omega
      · exact h2 y h
    · rw [if_neg c]
      obtain ⟨h1, h2⟩ := minL_spec l x
      have h3 := h2 x List.mem_cons_self
      refine ⟨?_, fun y hy => ?_⟩
      · rcases List.mem_cons.mp h1 with h | h
        · rw [h]; exact List.mem_cons_self
        · exact List.mem_cons_of_mem _ (List.mem_cons_of_mem _ h)
      · rcases List.mem_cons.mp hy with h | h
        · omega
        · rcases List.mem_cons.mp h with h | h
          · omega
          · exact h2 y (List.mem_cons_of_mem _ h)
def maxF : Fn := fun ws st => match ws with
  | [.p (.int i), .p (.int j)] => .ok (.p (.int (if j > i then j else i)), st)
  | [w] => match intsS st w with
    | some (n :: ns) => .ok (.p (.int (maxL n ns)), st)
    | _ => .stuck
  | _ => .stuck
def minF : Fn := fun ws st => match ws with
  | [.p (.int i), .p (.int j)] => .ok (.p (.int (if j < i then j else i)), st)
  | [w] => match intsS st w with
    | some (n :: ns) => .ok (.p (.int (minL n ns)), st)
    | _ => .stuck
  | _ => .stuck
theorem seqW_rep {K : PySem.W.Frag} {H : Hp} {g : G} {st : Store} {w : W} {v : V} {ds : List D} (S : RepSt H g st) (r : RepW K H g w v) (h : seqW st w = some ds) : ∃ a vs, v = .ref a ∧ (SqL K H a vs ∨ SqT K H a vs) ∧ RepDs H g ds vs := by
  have key : lstR st w = some ds → ∃ a vs, v = .ref a ∧ (SqL K H a vs ∨ SqT K H a vs) ∧ RepDs H g ds vs := fun h => by
    obtain ⟨a, vs, e, h1, h2⟩ := lstR_rep S r h
    exact ⟨a, vs, e, .inl h1, h2⟩
  cases w with
  | loc n => exact key h
  | scr n => exact key h
  | p d =>
    cases d with
    | tup es =>
      cases h
      obtain ⟨a, vs, e, hn, ha, hr⟩ := rwTup_inv r
      exact ⟨a, vs, e, .inr ha.sqt, hr⟩
    | _ => exact key h
theorem intsL_rep {K : PySem.W.Frag} {H : Hp} {g : G} {st : Store} {w : W} {v : V} {ns : List Int} (S : RepSt H g st) (r : RepW K H g w v) (h : intsL st w = some ns) : ∃ a, v = .ref a ∧ SqL K H a (ns.map V.int) := by
  unfold intsL at h
  cases q : lstR st w with
  | none => rw [q] at h; cases h
  | some ds =>
    rw [q] at h
    obtain ⟨a, us, e, ha, hr⟩ := lstR_rep S r q
    exact ⟨a, e, by rw [← intsOf_rep h hr]; exact ha⟩
theorem boolsL_rep {K : PySem.W.Frag} {H : Hp} {g : G} {st : Store} {w : W} {v : V} {ns : List Bool} (S : RepSt H g st) (r : RepW K H g w v) (h : boolsL st w = some ns) : ∃ a, v = .ref a ∧ SqL K H a (ns.map V.bl) := by
  unfold boolsL at h
  cases q : lstR st w with
  | none => rw [q] at h; cases h
  | some ds =>
    rw [q] at h
    obtain ⟨a, us, e, ha, hr⟩ := lstR_rep S r q
    exact ⟨a, e, by rw [← boolsOf_rep h hr]; exact ha⟩
theorem intsS_rep {K : PySem.W.Frag} {H : Hp} {g : G} {st : Store} {w : W} {v : V} {ns : List Int} (S : RepSt H g st) (r : RepW K H g w v) (h : intsS st w = some ns) : ∃ a, v = .ref a ∧ (SqL K H a (ns.map V.int) ∨ SqT K H a (ns.map V.int)) := by
  unfold intsS at h
  cases q : seqW st w with
  | none => rw [q] at h; cases h
  | some ds =>
    rw [q] at h
    obtain ⟨a, us, e, ha, hr⟩ := seqW_rep S r q
    exact ⟨a, e, by rw [← intsOf_rep h hr]; exact ha⟩
/-- one argument -/
theorem ws1 {K : PySem.W.Frag} {H : Hp} {g : G} {w : W} {vs : List V} (r : RepWs K H g [w] vs) : ∃ v, vs = [v] ∧ RepW K H g w v := by
  cases r with
  | cons r t => cases t; exact ⟨_, rfl, r⟩
theorem ws2 {K : PySem.W.Frag} {H : Hp} {g : G} {w u : W} {vs : List V} (r : RepWs K H g [w, u] vs) : ∃ v z, vs = [v, z] ∧ RepW K H g w v ∧ RepW K H g u z := by
  cases r with
  | cons r t =>
    cases t with
    | cons r2 t => cases t; exact ⟨_, _, rfl, r, r2⟩
section
variable {X : Cx}
theorem c_abs : CallR X (.builtin "abs") (cM X.K absF) := by
  refine CallR.imp call_abs fun vs H Q ⟨g, st, ws, w, st', r, S, e, k⟩ => ?_
  unfold absF at e
  split at e
  · cases e
    obtain ⟨v, rfl, r1⟩ := ws1 r
    rw [rwInt_inv r1]
    exact ⟨_, rfl, k g _ H (Stp.refl g H) S (rwInt _)⟩
  · cases e
theorem c_int : CallR X (.type "int") (cM X.K intF) := by
  refine CallR.imp call_int1 fun vs H Q ⟨g, st, ws, w, st', r, S, e, k⟩ => ?_
  unfold intF at e
  split at e
  · cases e
    obtain ⟨v, rfl, r1⟩ := ws1 r
    rw [rwInt_inv r1]
    exact .inl ⟨_, rfl, k g _ H (Stp.refl g H) S (rwInt _)⟩
  · cases e
    obtain ⟨v, rfl, r1⟩ := ws1 r
    rw [rwBl_inv r1]
    exact .inr ⟨_, rfl, k g _ H (Stp.refl g H) S (rwInt _)⟩
  · cases e
theorem c_len : CallR X (.builtin "len") (cM X.K lenF) := by
  refine CallR.imp (call_len_seq.or call_len_str) fun vs H Q ⟨g, st, ws, w, st', r, S, e, k⟩ => ?_
  unfold lenF at e
  split at e
  · cases e
    obtain ⟨v, rfl, r1⟩ := ws1 r
    obtain ⟨a, us, rfl, hn, ha, hr⟩ := rwTup_inv r1
    refine .inl ⟨a, us, rfl, .inr ha.sqt, ?_⟩
    rw [← hr.length]
    exact k g _ H (Stp.refl g H) S (rwInt _)
  · split at e
    · rename_i s hz
      cases e
      obtain ⟨v, rfl, r1⟩ := ws1 r
      rw [rwStr_inv r1]
      exact .inr ⟨_, rfl, Nat.le_trans hz (by decide), k g _ H (Stp.refl g H) S (rwInt _)⟩
    · cases e
  · split at e
    · rename_i w' h1 h2 ds hd
      cases e
      obtain ⟨v, rfl, r1⟩ := ws1 r
      obtain ⟨a, us, rfl, ha, hr⟩ := lstR_rep S r1 hd
      refine .inl ⟨a, us, rfl, .inl ha, ?_⟩
      rw [← hr.length]
      exact k g _ H (Stp.refl g H) S (rwInt _)
    · cases e
  · cases e
theorem c_tuple : CallR X (.type "tuple") (cM X.K tupleF) := by
  refine CallR.imp call_tuple_ofF fun vs H Q ⟨g, st, ws, w, st', r, S, e, k⟩ => ?_
  unfold tupleF at e
  split at e
  · cases e
    obtain ⟨v, rfl, r1⟩ := ws1 r
    obtain ⟨a, us, rfl, hn, ha, hr⟩ := rwTup_inv r1
    exact ⟨a, us, rfl, .inr ⟨ha.sqt, k g _ H (Stp.refl g H) S r1⟩⟩
  · split at e
    · rename_i w' h1 ds hd
      cases e
      obtain ⟨v, rfl, r1⟩ := ws1 r
      obtain ⟨a, us, rfl, ha, hr⟩ := lstR_rep S r1 hd
      exact ⟨a, us, rfl, .inl ⟨ha, tup_p S hr k⟩⟩
    · cases e
  · cases e
theorem c_list : CallR X (.type "list") (cM X.K listF) := by
  refine CallR.imp call_list_of fun vs H Q ⟨g, st, ws, w, st', r, S, e, k⟩ => ?_
  unfold listF at e
  split at e
  · split at e
    · rename_i w' ds hd
      cases e
      obtain ⟨v, rfl, r1⟩ := ws1 r
      obtain ⟨a, us, rfl, ha, hr⟩ := seqW_rep S r1 hd
      exact ⟨a, us, rfl, ha, lst_p (st' := st) S hr k⟩
    · cases e
  · cases e
theorem c_listN : CallR X (.type "list") (cM X.K listNF) := by
  refine CallR.imp call_list_of fun vs H Q ⟨g, st, ws, w, st', r, S, e, k⟩ => ?_
  unfold listNF at e
  split at e
  · split at e
    · rename_i w' ds hd
      cases e
      obtain ⟨v, rfl, r1⟩ := ws1 r
      obtain ⟨a, us, rfl, ha, hr⟩ := seqW_rep S r1 hd
      exact ⟨a, us, rfl, ha, fun p hp => k (g.cell p) _ _ (Stp.cell hp) (S.newCell hp hr) (rep_cell S)⟩
    · cases e
  · cases e
theorem cr_sumT (hc : X.calm = true) : CallR X (.builtin "sum") (fun vs H Q => ∃ (a : Addr) (ns : List Int), vs = [V.ref a] ∧ (SqL X.K H a (ns.map V.int) ∨ SqT X.K H a (ns.map V.int)) ∧ Q (.int ns.sum) H) := by
  intro pins s σ H vs us Q I r h
  obtain ⟨a, ns, e, hs, q⟩ := h
  rcases hs with hs | hs
  · exact cr_sum hc pins s σ H vs us Q I r ⟨a, ns, e, hs, q⟩
  · subst e
    obtain ⟨its, rv, ht, _⟩ := I.tuple hs
    rw [Vals.ref1 r]
    have hi := rv.ints
    obtain ⟨xs, e⟩ := hi.allInts.items
    have hn : numsOf (intItems xs).toList = ns := by rw [← e]; exact hi.numsOf
    rw [nums_intItems] at hn
    rw [e] at ht
    refine PySem.W.ktm_sumG (I.ok.hd hc) ht fun h' tk t' hk => ?_
    rw [preSum_eq, List.take_of_length_le (by simp), hn]
    exact ⟨.int _, H, I.kept hk, ⟨_, rfl⟩, q⟩
theorem c_sum (hc : X.calm = true) : CallR X (.builtin "sum") (cM X.K sumF) := by
  refine CallR.imp (cr_sumT hc) fun vs H Q ⟨g, st, ws, w, st', r, S, e, k⟩ => ?_
  unfold sumF at e
  split at e
  · split at e
    · rename_i hn
      cases e
      obtain ⟨v, rfl, r1⟩ := ws1 r
      obtain ⟨a, rfl, ha⟩ := intsS_rep S r1 hn
      exact ⟨a, _, rfl, ha, k g _ H (Stp.refl g H) S (rwInt _)⟩
    · cases e
  · cases e
theorem c_all (hc : X.calm = true) : CallR X (.builtin "all") (cM X.K allF) := by
  refine CallR.imp (cr_all hc) fun vs H Q ⟨g, st, ws, w, st', r, S, e, k⟩ => ?_
  unfold allF at e
  split at e
  · split at e
    · rename_i hn
      cases e
      obtain ⟨v, rfl, r1⟩ := ws1 r
      obtain ⟨a, rfl, ha⟩ := boolsL_rep S r1 hn
      exact ⟨a, _, rfl, ha, k g _ H (Stp.refl g H) S (rwBl _)⟩
    · cases e
  · cases e
theorem c_any (hc : X.calm = true) : CallR X (.builtin "any") (cM X.K anyF) := by
  refine CallR.imp (cr_any hc) fun vs H Q ⟨g, st, ws, w, st', r, S, e, k⟩ => ?_
  unfold anyF at e
  split at e
  · split at e
    · rename_i hn
      cases e
      obtain ⟨v, rfl, r1⟩ := ws1 r
      obtain ⟨a, rfl, ha⟩ := boolsL_rep S r1 hn
      exact ⟨a, _, rfl, ha, k g _ H (Stp.refl g H) S (rwBl _)⟩
    · cases e
  · cases e
/-- min, max of a tuple of ints -/
def rMinT (K : PySem.W.Frag) : List V → Hp → VK → Prop := fun vs H Q => ∃ (a : Addr) (ns : List Int), vs = [V.ref a] ∧ SqT K H a (ns.map V.int) ∧ 0 < ns.length ∧ ∀ m, m ∈ ns → (∀ y, y ∈ ns → m ≤ y) → Q (.int m) H
def rMaxT (K : PySem.W.Frag) : List V → Hp → VK → Prop := fun vs H Q => ∃ (a : Addr) (ns : List Int), vs = [V.ref a] ∧ SqT K H a (ns.map V.int) ∧ 0 < ns.length ∧ ∀ m, m ∈ ns → (∀ y, y ∈ ns → y ≤ m) → Q (.int m) H
end
section
variable {prog : Program} {w : World} {A : Around} {E : Value → Shared → Prop} {s : Shared}
theorem min_rawT {its : List Value} {ns : List Int} {l : Addr} {Q : Value → Shared → Prop} (hh : A.handled = none) (hl : s.heap.IsTuple l its.toArray) (hi : IntsAre its ns) (hne : 0 < ns.length)
    (h : ∀ h' tk M t', (∀ b o, s.heap.get? b = some o → h'.get? b = some o) → M ∈ ns → (∀ a, a ∈ ns → M ≤ a) → Q (.int M t') { s with heap := h', toks := tk }) : wpAny (model prog w) A (call (.builtin "min") [.ref l]) Q E s := by
  obtain ⟨xs, e⟩ := hi.allInts.items
  have hn : numsOf (intItems xs).toList = ns := by rw [← e]; exact hi.numsOf
  rw [nums_intItems] at hn
  subst hn
  rw [e] at hl
  have hsz : 0 < xs.size := by simpa using hne
  have hlt : l < s.heap.objs.size := let ⟨_, h, _⟩ := hl; Heap.lt_size h
  refine call_min_walk (wpAny_pyIter_tuple hl ?_)
  refine ⟨_, _, [s.heap.objs.size], _, _, _, _, rfl, Walks.tuple (A := A.in1) hh s.heap.objs.size l (Nat.ne_of_lt hlt) (intItems xs), ⟨⟨_, Heap.get?_push_size _ rfl, rfl, rfl⟩, hl.push _⟩, fun b hb => ?_, by simpa [intItems] using hsz, CmpOf.ints_lt (numAt xs) (fun _ _ => intItems_at), fun v h' tk hP hk => ?_⟩
  · show b < (s.heap.push _).objs.size
    rw [Heap.size_push]
    rcases List.mem_cons.mp hb with rfl | hb
    · exact Nat.lt_succ_self _
    · rcases List.mem_cons.mp hb with rfl | hb
      · exact Nat.lt_succ_of_lt hlt
      · cases hb
  · have hold : ∀ c o, s.heap.get? c = some o → h'.get? c = some o := fun c o e => by
      refine hk c o (fun hm => ?_) (Heap.get?_push_of_some _ e)
      rcases List.mem_cons.mp hm with e1 | hm
      · have := Heap.lt_size e; rw [e1] at this; exact Nat.lt_irrefl _ this
      · cases hm
    have hP' : (intItems xs)[argBest (fun i j => decide (numAt xs i < numAt xs j)) (xs.size - 1)]? = some v := by simpa [intItems] using hP
    obtain ⟨t, rfl⟩ := intItems_at hP'
    obtain ⟨h1, h2⟩ := argBest_lt (numAt xs) (xs.size - 1)
    refine h h' tk _ t hold ?_ fun a ha => ?_
    · rw [numAt_eq]; exact PySem.getD_mem (by rw [List.length_map, Array.length_toList]; omega)
    · obtain ⟨j, hj, rfl⟩ := mem_getD ha
      rw [List.length_map, Array.length_toList] at hj
      rw [← numAt_eq]; exact h2 j (by omega)
theorem max_rawT {its : List Value} {ns : List Int} {l : Addr} {Q : Value → Shared → Prop} (hh : A.handled = none) (hl : s.heap.IsTuple l its.toArray) (hi : IntsAre its ns) (hne : 0 < ns.length)
    (h : ∀ h' tk M t', (∀ b o, s.heap.get? b = some o → h'.get? b = some o) → M ∈ ns → (∀ a, a ∈ ns → a ≤ M) → Q (.int M t') { s with heap := h', toks := tk }) : wpAny (model prog w) A (call (.builtin "max") [.ref l]) Q E s := by
  obtain ⟨xs, e⟩ := hi.allInts.items
  have hn : numsOf (intItems xs).toList = ns := by rw [← e]; exact hi.numsOf
  rw [nums_intItems] at hn
  subst hn
  rw [e] at hl
  have hsz : 0 < xs.size := by simpa using hne
  have hlt : l < s.heap.objs.size := let ⟨_, h, _⟩ := hl; Heap.lt_size h
  refine call_max_walk (wpAny_pyIter_tuple hl ?_)
  refine ⟨_, _, [s.heap.objs.size], _, _, _, _, rfl, Walks.tuple (A := A.in1) hh s.heap.objs.size l (Nat.ne_of_lt hlt) (intItems xs), ⟨⟨_, Heap.get?_push_size _ rfl, rfl, rfl⟩, hl.push _⟩, fun b hb => ?_, by simpa [intItems] using hsz, CmpOf.ints_gt (numAt xs) (fun _ _ => intItems_at), fun v h' tk hP hk => ?_⟩
  · show b < (s.heap.push _).objs.size
    rw [Heap.size_push]
    rcases List.mem_cons.mp hb with rfl | hb
    · exact Nat.lt_succ_self _
    · rcases List.mem_cons.mp hb with rfl | hb
      · exact Nat.lt_succ_of_lt hlt
      · cases hb
  · have hold : ∀ c o, s.heap.get? c = some o → h'.get? c = some o := fun c o e => by
      refine hk c o (fun hm => ?_) (Heap.get?_push_of_some _ e)
      rcases List.mem_cons.mp hm with e1 | hm
      · have := Heap.lt_size e; rw [e1] at this; exact Nat.lt_irrefl _ this
      · cases hm
    have hP' : (intItems xs)[argBest (fun i j => decide (numAt xs i > numAt xs j)) (xs.size - 1)]? = some v := by simpa [intItems] using hP
    obtain ⟨t, rfl⟩ := intItems_at hP'
    obtain ⟨h1, h2⟩ := argBest_gt (numAt xs) (xs.size - 1)
    refine h h' tk _ t hold ?_ fun a ha => ?_
    · rw [numAt_eq]; exact PySem.getD_mem (by rw [List.length_map, Array.length_toList]; omega)
    · obtain ⟨j, hj, rfl⟩ := mem_getD ha
      rw [List.length_map, Array.length_toList] at hj
      rw [← numAt_eq]; exact h2 j (by omega)
end
section
variable {X : Cx}
theorem cr_minT (hc : X.calm = true) : CallR X (.builtin "min") (rMinT X.K) := by
  intro pins s σ H vs us Q I r h
  obtain ⟨a, ns, rfl, hs, hne, q⟩ := h
  obtain ⟨its, rv, hl, _⟩ := I.tuple hs
  rw [Vals.ref1 r]
  exact min_rawT (I.ok.hd hc) (show s.heap.IsTuple a its.toArray from hl) rv.ints hne fun h' tk m t' hk h1 h2 => ⟨.int _, H, I.kept hk, ⟨_, rfl⟩, q m h1 h2⟩
theorem cr_maxT (hc : X.calm = true) : CallR X (.builtin "max") (rMaxT X.K) := by
  intro pins s σ H vs us Q I r h
  obtain ⟨a, ns, rfl, hs, hne, q⟩ := h
  obtain ⟨its, rv, hl, _⟩ := I.tuple hs
  rw [Vals.ref1 r]
  exact max_rawT (I.ok.hd hc) (show s.heap.IsTuple a its.toArray from hl) rv.ints hne fun h' tk m t' hk h1 h2 => ⟨.int _, H, I.kept hk, ⟨_, rfl⟩, q m h1 h2⟩
theorem min_eq {n m : Int} {ns : List Int} (h1 : m ∈ n :: ns) (h2 : ∀ y ∈ n :: ns, m ≤ y) : m = minL n ns := by
  obtain ⟨h3, h4⟩ := minL_spec ns n
  exact Int.le_antisymm (h2 _ h3) (h4 _ h1)
theorem max_eq {n m : Int} {ns : List Int} (h1 : m ∈ n :: ns) (h2 : ∀ y ∈ n :: ns, y ≤ m) : m = maxL n ns := by
  obtain ⟨h3, h4⟩ := maxL_spec ns n
  exact Int.le_antisymm (h4 _ h1) (h2 _ h3)
theorem c_min (hc : X.calm = true) : CallR X (.builtin "min") (cM X.K minF) := by
  refine CallR.imp (((call_min2 hc).or (cr_min hc)).or (cr_minT hc)) fun vs H Q ⟨g, st, ws, w, st', r, S, e, k⟩ => ?_
  unfold minF at e
  split at e
  · cases e
    obtain ⟨v, u, rfl, r1, r2⟩ := ws2 r
    rw [rwInt_inv r1, rwInt_inv r2]
    exact .inl (.inl ⟨_, _, rfl, k g _ H (Stp.refl g H) S (rwInt _)⟩)
  · split at e
    · rename_i hn
      cases e
      obtain ⟨v, rfl, r1⟩ := ws1 r
      obtain ⟨a, rfl, ha⟩ := intsS_rep S r1 hn
      rcases ha with ha | ha
      · exact .inl (.inr ⟨a, _, rfl, ha, Nat.succ_pos _, fun m h1 h2 => by rw [min_eq h1 h2]; exact k g _ H (Stp.refl g H) S (rwInt _)⟩)
      · exact .inr ⟨a, _, rfl, ha, Nat.succ_pos _, fun m h1 h2 => by rw [min_eq h1 h2]; exact k g _ H (Stp.refl g H) S (rwInt _)⟩
    · cases e
  · cases e
theorem c_max (hc : X.calm = true) : CallR X (.builtin "max") (cM X.K maxF) := by
  refine CallR.imp (((call_max2 hc).or (cr_max hc)).or (cr_maxT hc)) fun vs H Q ⟨g, st, ws, w, st', r, S, e, k⟩ => ?_
  unfold maxF at e
  split at e
  · cases e
    obtain ⟨v, u, rfl, r1, r2⟩ := ws2 r
    rw [rwInt_inv r1, rwInt_inv r2]
    exact .inl (.inl ⟨_, _, rfl, k g _ H (Stp.refl g H) S (rwInt _)⟩)
  · split at e
    · rename_i hn
      cases e
      obtain ⟨v, rfl, r1⟩ := ws1 r
      obtain ⟨a, rfl, ha⟩ := intsS_rep S r1 hn
      rcases ha with ha | ha
      · exact .inl (.inr ⟨a, _, rfl, ha, Nat.succ_pos _, fun m h1 h2 => by rw [max_eq h1 h2]; exact k g _ H (Stp.refl g H) S (rwInt _)⟩)
      · exact .inr ⟨a, _, rfl, ha, Nat.succ_pos _, fun m h1 h2 => by rw [max_eq h1 h2]; exact k g _ H (Stp.refl g H) S (rwInt _)⟩
    · cases e
  · cases e

end
end Pm

/-! Core6: isinstance, subscripts, slices. -/
namespace Pm
open PySem PySem.Spec PyProof.Rows L2
section
variable {X : Cx}
/-! ### isinstance -/
inductive Tg where | non | bool | int | str | tup | lst
def Tg.name : Tg → String
  | .non => "NoneType" | .bool => "bool" | .int => "int" | .str => "str" | .tup => "tuple" | .lst => "list"
def isT : Tg → Tg → Bool
  | .non, .non => true | .bool, .bool => true | .int, .int => true | .str, .str => true | .tup, .tup => true | .lst, .lst => true
  | .bool, .int => true
  | _, _ => false
def tagD : D → Tg
  | .non => .non | .bl _ => .bool | .int _ => .int | .str _ => .str | .tup _ => .tup | .lst _ => .lst
def tagW (st : Store) : W → Option Tg
  | .p d => some (tagD d)
  | .loc n => match cellL st n with
    | some _ => some .lst
    | none => none
  | .scr _ => none
theorem kit_tg {K : PySem.W.Frag} (t u : Tg) : PySem.W.kitOne K (.type t.name) (.type u.name) = some (isT t u) := by
  refine kit_ty ?_
  cases t <;> cases u <;> decide +kernel
theorem tag_rep {K : PySem.W.Frag} {H : Hp} {g : G} {st : Store} {w : W} {v : V} {t : Tg} (S : RepSt H g st) (r : RepW K H g w v) (h : tagW st w = some t) : TyX K H v (.type t.name) := by
  cases w with
  | scr n => cases h
  | loc n =>
    dsimp only [tagW] at h
    cases hc : cellL st n with
    | none => rw [hc] at h; cases h
    | some ds =>
      rw [hc] at h
      cases h
      obtain ⟨a, vs, rfl, ha, _⟩ := lstX_rep S r (show lstX st (.loc n) = some ds from hc)
      exact .base (.lst ha)
  | p d =>
    cases h
    cases d with
    | non => rw [rwNon_inv r]; exact .base .non
    | bl b => rw [rwBl_inv r]; exact .base (.bl b)
    | int b => rw [rwInt_inv r]; exact .base (.int b)
    | str b => rw [rwStr_inv r]; exact .base (.str b)
    | tup ds => obtain ⟨a, vs, rfl, _, ⟨ob, _, ha⟩, _⟩ := rwTup_inv r; exact .fTuple ha
    | lst ds => obtain ⟨a, vs, rfl, _, ha, _⟩ := rwLst_inv r; exact .base (.lst ha)
def isF (us : List Tg) (w : W) (st : Store) : R (W × Store) := match tagW st w with
  | some t => .ok (.p (.bl (us.any (isT t))), st)
  | none => .stuck
theorem kitAny_tg {K : PySem.W.Frag} (t : Tg) : ∀ us : List Tg, PySem.W.kitAny K (.type t.name) (us.map fun u => .type u.name) = some (us.any (isT t))
  | [] => kitAny_nil
  | u :: us => by
    refine kitAny_cons (kit_tg t u) (fun h => ?_) fun h => ?_
    · rw [kitAny_tg t us, List.any_cons, h]; rfl
    · rw [List.any_cons, h]; rfl
theorem m_isi {e : Expr} {m : ME} {u : Tg} {x : Str} {p p2 pos : Pos} (hg : Gl X "isinstance") (hm : X.mg "isinstance" = none) (ha : PEm X e m) (hg2 : Gl X x) (hm2 : X.mg x = none) (hv : bootBuiltins x = some (.type u.name)) (hn : x ≠ "__name__") (hd : (x == ("__debug__" : Str)) = false)
    (he : starEach [e, .Name x p2] X.env = (false, eval e X.env) :: starEach [.Name x p2] X.env := by rfl) (hpl : (backTo pos (starEach [.Name x p2] X.env)).any (·.1) = false := by rfl) : PEm X (.Call (.Name "isinstance" p) [e, .Name x p2] [] pos) (unM (isF [u]) m) := by
  refine pe_w (pe_callB call_isi hg hm PyProof.Rows.boot_isinstance (pa_cons ha (pa_cons (pe_bltn (v := .ty u.name) hg2 hm2 hv rfl hn hd) pa_nil) he) (he := he) (hpl := hpl)) fun σ H Q ⟨g, sl, st, w, st', hs, ht, e, k⟩ => ?_
  obtain ⟨⟨x, st1⟩, h1, e⟩ := R.bind_inv e
  refine ⟨g, sl, st, x, st1, hs, ht, h1, fun g1 v1 H1 s1 t1 r1 => ?_⟩
  unfold isF at e
  split at e
  · rename_i t htg
    cases e
    refine ⟨v1, .ty u.name, .type t.name, .type u.name, isT t u, rfl, .ty _, tag_rep t1 r1 htg, kit_tg t u, ?_⟩
    have : [u].any (isT t) = isT t u := by simp
    rw [this] at k
    exact k g1 _ H1 s1 t1 (rwBl _)
  · cases e
theorem m_isi2 {e : Expr} {m : ME} {u1 u2 : Tg} {x1 x2 : Str} {kk : Nat} {p p2 p3 pt pos : Pos} (hg : Gl X "isinstance") (hm : X.mg "isinstance" = none) (ha : PEm X e m) (hg1 : Gl X x1) (hm1 : X.mg x1 = none) (hv1 : bootBuiltins x1 = some (.type u1.name)) (hn1 : x1 ≠ "__name__") (hd1 : (x1 == ("__debug__" : Str)) = false)
    (hg2 : Gl X x2) (hm2 : X.mg x2 = none) (hv2 : bootBuiltins x2 = some (.type u2.name)) (hn2 : x2 ≠ "__name__") (hd2 : (x2 == ("__debug__" : Str)) = false)
    (he : starEach [e, .Tuple [.Name x1 p2, .Name x2 p3] kk pt] X.env = (false, eval e X.env) :: starEach [.Tuple [.Name x1 p2, .Name x2 p3] kk pt] X.env := by rfl) (hpl : (backTo pos (starEach [.Tuple [.Name x1 p2, .Name x2 p3] kk pt] X.env)).any (·.1) = false := by rfl) :
    PEm X (.Call (.Name "isinstance" p) [e, .Tuple [.Name x1 p2, .Name x2 p3] kk pt] [] pos) (unM (isF [u1, u2]) m) := by
  refine pe_w (pe_callB call_isiT hg hm PyProof.Rows.boot_isinstance (pa_cons ha (pa_cons (pe_tup (pa_cons (pe_bltn (v := .ty u1.name) hg1 hm1 hv1 rfl hn1 hd1) (pa_cons (pe_bltn (v := .ty u2.name) hg2 hm2 hv2 rfl hn2 hd2) pa_nil))) pa_nil) he) (he := he) (hpl := hpl)) fun σ H Q ⟨g, sl, st, w, st', hs, ht, e, k⟩ => ?_
  obtain ⟨⟨x, st1⟩, h1, e⟩ := R.bind_inv e
  refine ⟨g, sl, st, x, st1, hs, ht, h1, fun g1 v1 H1 s1 t1 r1 => ⟨by show 2 ≤ sizeLine; decide, fun tp htp => ?_⟩⟩
  unfold isF at e
  split at e
  · rename_i t htg
    cases e
    have sn : Stp g1 H1 g1 (upd H1 tp (.tup [.ty u1.name, .ty u2.name])) := Stp.new htp
    have hk : PySem.W.kitAny X.K (.type t.name) ([u1, u2].map fun u => .type u.name) = some ([u1, u2].any (isT t)) := kitAny_tg t [u1, u2]
    have hq : Q (.bl ([u1, u2].any (isT t))) (upd H1 tp (.tup [.ty u1.name, .ty u2.name])) := k g1 _ _ (s1.trans sn) (t1.new htp) (rwBl _)
    have hty := tag_rep (K := X.K) (t1.new (o := .tup [.ty u1.name, .ty u2.name]) htp) (r1.mono sn) htg
    exact ⟨v1, tp, [.ty u1.name, .ty u2.name], .type t.name, [u1, u2].map fun u => .type u.name, [u1, u2].any (isT t), rfl, upd_same, .cons (.ty _) (.cons (.ty _) .nil), hty, hk, hq⟩
  · cases e

/-! ### subscripts -/
theorem atI_rep {H : Hp} {g : G} {ds : List D} {vs : List V} {i : Int} {d : D} (r : RepDs H g ds vs) (h : atI ds i = some d) : ∃ v, atI vs i = some v ∧ RepD H g d v := by
  unfold atI at h ⊢
  rw [← r.length]
  cases q : ixN ds.length i with
  | none => rw [q] at h; cases h
  | some j =>
    rw [q] at h
    exact r.get h
def ixF (a b : W) (st : Store) : R (W × Store) := match b with
  | .p (.int i) => match a with
    | .p (.str z) => if z.length ≤ 100000 then (match atI z.cps.toList i with
      | some c => .ok (.p (.str ⟨#[c]⟩), st)
      | none => .stuck) else .stuck
    | a => match seqW st a with
      | some ds => match atI ds i with
        | some d => .ok (.p d, st)
        | none => .stuck
      | none => .stuck
  | _ => .stuck
theorem o_ix : IxR X (r2M X.K ixF) := by
  refine IxR.imp ix_seq fun x y H Q ⟨g, st, a, b, w, st', ra, rb, S, e, k⟩ => ?_
  unfold ixF at e
  split at e
  · rename_i i
    have eb := rwInt_inv rb
    split at e
    · rename_i z
      split at e
      · rename_i hz
        split at e
        · rename_i c hc
          cases e
          exact .inr (.inr ⟨z, i, c, rwStr_inv ra, eb, Nat.le_trans hz (by decide), hc, k g _ H (Stp.refl g H) S (rwStr _)⟩)
        · cases e
      · cases e
    · split at e
      · rename_i ds hd
        split at e
        · rename_i d hi
          cases e
          obtain ⟨p, vs, rfl, hp, hr⟩ := seqW_rep S ra hd
          obtain ⟨v, h1, h2⟩ := atI_rep hr hi
          rcases hp with hp | hp
          · exact .inl ⟨p, vs, i, v, rfl, eb, hp, h1, k g v H (Stp.refl g H) S h2⟩
          · exact .inr (.inl ⟨p, vs, i, v, rfl, eb, hp, h1, k g v H (Stp.refl g H) S h2⟩)
        · cases e
      · cases e
  · cases e
theorem m_ix {e1 e2 : Expr} {ma mb : ME} {pos : Pos} (ha : PEm X e1 ma) (hb : PEm X e2 mb) (hs : PlainIx e2 := by intro _ _; rfl) : PEm X (.Subscript e1 e2 pos) (binM ixF ma mb) := by
  refine pe_w (pe_ix o_ix ha hb hs) fun σ H Q ⟨g, sl, st, w, st', hs, ht, e, k⟩ => ?_
  obtain ⟨⟨x, st1⟩, h1, e⟩ := R.bind_inv e
  obtain ⟨⟨y, st2⟩, h2, e⟩ := R.bind_inv e
  exact ⟨g, sl, st, x, st1, hs, ht, h1, fun g1 v1 H1 s1 t1 r1 => ⟨g1, sl, st1, y, st2, hs.mono s1, t1, h2, fun g2 v2 H2 s2 t2 r2 =>
    ⟨g2, st2, x, y, w, st', r1.mono s2, r2, t2, e, fun g3 v H3 s3 t3 r3 => k g3 v H3 (s1.trans (s2.trans s3)) t3 r3⟩⟩⟩
abbrev MO := Slots → Store → R (Option Int × Store)
def noO : MO := fun _ st => .ok (none, st)
def someO (m : ME) : MO := fun sl st => (m sl st).bind fun x => match x.1 with
  | .p (.int i) => .ok (some i, x.2)
  | _ => .stuck
def tO (K : PySem.W.Frag) (m : MO) : TO := fun σ H Q => ∃ g sl st w st', RepSl K H g sl σ ∧ RepSt H g st ∧ m sl st = .ok (w, st') ∧ ∀ g' H', Stp g H g' H' → RepSt H' g' st' → Q w H'
abbrev POm (X : Cx) (e : Option Expr) (m : MO) : Prop := PO X e (tO X.K m)
theorem po_w {e : Option Expr} {t t' : TO} (h : PO X e t) (w : ∀ σ H Q, t' σ H Q → t σ H Q) : PO X e t' := ⟨fun pins s σ H Q I q => h.run pins s σ H Q I (w σ H Q q)⟩
theorem o_none : POm X none noO := by
  refine po_w po_none fun σ H Q ⟨g, sl, st, w, st', hs, ht, e, k⟩ => ?_
  cases e
  exact k g H (Stp.refl g H) ht
theorem o_some {e : Expr} {m : ME} (h : PEm X e m) : POm X (some e) (someO m) := by
  refine po_w (po_some h) fun σ H Q ⟨g, sl, st, w, st', hs, ht, e, k⟩ => ?_
  obtain ⟨⟨x, st1⟩, h1, e⟩ := R.bind_inv e
  refine ⟨g, sl, st, x, st1, hs, ht, h1, fun g1 v1 H1 s1 t1 r1 => ?_⟩
  dsimp only at e
  split at e
  · cases e
    exact ⟨_, rwInt_inv r1, k g1 H1 s1 t1⟩
  · cases e
def cutD (ds : List D) (lo hi : Option Int) : List D := (ds.drop (HT.sIx ds.length 0 lo)).take (HT.sIx ds.length ds.length hi - HT.sIx ds.length 0 lo)
theorem cutD_rep {H : Hp} {g : G} {ds : List D} {vs : List V} (r : RepDs H g ds vs) (lo hi : Option Int) : RepDs H g (cutD ds lo hi) (cutV vs lo hi) := by
  unfold cutD cutV
  rw [← r.length]
  exact (r.drop _).take _
def cutF (a : W) (lo hi : Option Int) (st : Store) : R (W × Store) := match a with
  | .p (.tup ds) => .ok (.p (.tup (cutD ds lo hi)), st)
  | .p (.str z) => if z.length ≤ 100000 then .ok (.p (.str (cutS z lo hi)), st) else .stuck
  | a => match lstR st a with
    | some ds => .ok (.p (.lst (cutD ds lo hi)), st)
    | none => .stuck
def cutM (m : ME) (lo hi : MO) : ME := fun sl st => (m sl st).bind fun x => (lo sl x.2).bind fun y => (hi sl y.2).bind fun z => cutF x.1 y.1 z.1 z.2
theorem cutD_whole {ds : List D} {lo hi : Option Int} (h : HT.sIx ds.length 0 lo = 0 ∧ HT.sIx ds.length ds.length hi = ds.length) : cutD ds lo hi = ds := by
  unfold cutD
  rw [h.1, h.2]
  simp
theorem m_cut {e : Expr} {m : ME} {lo hi : Option Expr} {ml mh : MO} {p2 pos : Pos} (he : PEm X e m) (hl : POm X lo ml) (hu : POm X hi mh) : PEm X (.Subscript e (.Slice lo hi none p2) pos) (cutM m ml mh) := by
  refine pe_w (pe_slice (sl_list.or (sl_tupF.or sl_str)) he hl hu) fun σ H Q ⟨g, sl, st, w, st', hs, ht, e, k⟩ => ?_
  obtain ⟨⟨x, st1⟩, h1, e⟩ := R.bind_inv e
  obtain ⟨⟨l, st2⟩, h2, e⟩ := R.bind_inv e
  obtain ⟨⟨u, st3⟩, h3, e⟩ := R.bind_inv e
  refine ⟨g, sl, st, x, st1, hs, ht, h1, fun g1 v1 H1 s1 t1 r1 => ⟨g1, sl, st1, l, st2, hs.mono s1, t1, h2, fun g2 H2 s2 t2 => ⟨g2, sl, st2, u, st3, (hs.mono s1).mono s2, t2, h3, fun g3 H3 s3 t3 => ?_⟩⟩⟩
  have r3 := (r1.mono s2).mono s3
  have k' := fun g4 v H4 (s4 : Stp g3 H3 g4 H4) => k g4 v H4 (s1.trans (s2.trans (s3.trans s4)))
  dsimp only at e
  unfold cutF at e
  split at e
  · cases e
    obtain ⟨a, vs, rfl, hn, ha, hr⟩ := rwTup_inv r3
    refine Or.inr (Or.inl ⟨a, vs, rfl, ha.sqt, fun hw => ?_, fun _ => tup_p t3 (cutD_rep hr l u) k'⟩)
    rw [← hr.length] at hw
    rw [cutD_whole hw] at k'
    exact k' g3 _ H3 (Stp.refl g3 H3) t3 r3
  · split at e
    · rename_i z hz
      cases e
      exact Or.inr (Or.inr ⟨_, rwStr_inv r3, Nat.le_trans hz (by decide), k' g3 _ H3 (Stp.refl g3 H3) t3 (rwStr _)⟩)
    · cases e
  · split at e
    · rename_i ds hd
      cases e
      obtain ⟨a, vs, rfl, ha, hr⟩ := lstR_rep t3 r3 hd
      exact Or.inl ⟨a, vs, rfl, ha, lst_p (st' := st') t3 (cutD_rep hr l u) k'⟩
    · cases e
end
end Pm

/-! Core7: methods, item stores, name op= e, keyword calls, defs as the head tells them. -/
namespace Pm
open PySem PySem.Spec PyProof.Rows L2
section
variable {X : Cx} {o e : Expr} {es : List Expr} {apos cpos pos : Pos}
/-! ### list methods on a cell -/
def appM (mo me : ME) : ME := fun sl st => (mo sl st).bind fun x => match x.1 with
  | .loc n => match cellL x.2 n with
    | some _ => (me sl x.2).bind fun y => (frz y.1 y.2).bind fun d => match cellL d.2 n with
      | some ds => if ds.length ≤ 1000000 then .ok (.p .non, d.2.set n (some (.l (ds ++ [d.1])))) else .stuck
      | none => .stuck
    | none => .stuck
  | _ => .stuck
theorem loc_at {K : PySem.W.Frag} {H : Hp} {g : G} {st : Store} {n : Nat} {v : V} {ds : List D} (S : RepSt H g st) (r : RepW K H g (.loc n) v) (h : cellL st n = some ds) : ∃ a vs, v = .ref a ∧ g.al[n]? = some (some a) ∧ H a = some (.lst vs) ∧ RepDs H g ds vs := by
  obtain ⟨u, q1, q2⟩ := r
  obtain ⟨a, vs, h3, h4, h5⟩ := cellL_rep S h
  rw [q1] at h3
  cases h3
  exact ⟨a, vs, q2 a rfl, q1, h4, h5⟩
theorem m_app {mo me : ME} (ho : PEm X o mo) (ha : PEm X e me)
    (hbase : attributeBase o "append" X.env (eval o X.env) = eval o X.env := by rfl)
    (hfew : ((backTo cpos (starEach [e] X.env)).all (fun x => !x.1) && (backToKw cpos (keywordEach [] X.env)).all (fun x => x.1.isSome)
      && decide ([e].length + ([] : List Keyword).length + (if ([] : List Keyword).isEmpty then 0 else 1) < 30)) = true := by rfl)
    (hline : (apos.endLine == cpos.line) = true := by rfl) (hs : starEach [e] X.env = (false, eval e X.env) :: starEach [] X.env := by rfl) : PEm X (.Call (.Attribute o "append" apos) [e] [] cpos) (appM mo me) := by
  refine pe_w (pe_bm PySem.F.plainAttrs_list PySem.F.slot_list_append PySem.F.type_list_append mt_append ho (pa_cons ha pa_nil hs) hbase hfew hline hs rfl) fun σ H Q ⟨g, sl, st, w, st', hs, ht, e, k⟩ => ?_
  obtain ⟨⟨x, st1⟩, h1, e⟩ := R.bind_inv e
  refine ⟨g, sl, st, x, st1, hs, ht, h1, fun g1 v1 H1 s1 t1 r1 => ?_⟩
  dsimp only at e
  split at e
  · rename_i n
    split at e
    · rename_i ds0 hc0
      obtain ⟨⟨y, st2⟩, h2, e⟩ := R.bind_inv e
      obtain ⟨⟨d, st3⟩, h3, e⟩ := R.bind_inv e
      obtain ⟨a0, vs0, e0, _, h40, _⟩ := loc_at t1 r1 hc0
      subst e0
      refine ⟨.inl ⟨rfl, vs0, .inl (.inl h40)⟩, g1, sl, st1, y, st2, hs.mono s1, t1, h2, fun g2 v2 H2 s2 t2 r2 => ?_⟩
      obtain ⟨g3, s3, t3, r3⟩ := frz_rep t2 r2 h3
      dsimp only at e
      split at e
      · rename_i ds hc
        split at e
        · rename_i hz
          cases e
          obtain ⟨a, vs, ea, hal, h4, h5⟩ := loc_at t3 ((r1.mono s2).mono s3) hc
          cases ea
          refine ⟨a0, vs, v2, rfl, rfl, h4, by rw [← h5.length]; exact len_lt hz, ?_⟩
          exact k g3 .non _ (s1.trans (s2.trans (s3.trans (Stp.write hal)))) (t3.write hal (h5.append (.cons r3 .nil))) rwNon
        · cases e
      · cases e
    · cases e
  · cases e
/-- xs.pop() -/
def popM (mo : ME) : ME := fun sl st => (mo sl st).bind fun x => match x.1 with
  | .loc n => match cellL x.2 n with
    | some ds => match ds[ds.length - 1]? with
      | some d => .ok (.p d, x.2.set n (some (.l ds.dropLast)))
      | none => .stuck
    | none => .stuck
  | _ => .stuck
theorem m_pop {mo : ME} (ho : PEm X o mo) (hbase : attributeBase o "pop" X.env (eval o X.env) = eval o X.env := by rfl) (hline : (apos.endLine == cpos.line) = true := by rfl) : PEm X (.Call (.Attribute o "pop" apos) [] [] cpos) (popM mo) := by
  refine pe_w (pe_bm0 PySem.F.plainAttrs_list PySem.F.slot_list_pop PySem.F.type_list_pop mt_pop ho hbase hline) fun σ H Q ⟨g, sl, st, w, st', hs, ht, e, k⟩ => ?_
  obtain ⟨⟨x, st1⟩, h1, e⟩ := R.bind_inv e
  refine ⟨g, sl, st, x, st1, hs, ht, h1, fun g1 v1 H1 s1 t1 r1 => ?_⟩
  dsimp only at e
  split at e
  · rename_i n
    split at e
    · rename_i ds hc
      split at e
      · rename_i d hd
        cases e
        obtain ⟨a, vs, rfl, hal, h4, h5⟩ := loc_at t1 r1 hc
        obtain ⟨v, hv, rv⟩ := h5.get hd
        refine ⟨.inl ⟨rfl, vs, .inl (.inl h4)⟩, a, vs, v, rfl, rfl, h4, by rw [← h5.length]; exact hv, ?_⟩
        exact k g1 v _ (s1.trans (Stp.write hal)) (t1.write hal h5.dropLast) (rv.mono (Stp.write hal))
      · cases e
    · cases e
  · cases e
/-- xs.pop(i) -/
def popAtM (mo mi : ME) : ME := fun sl st => (mo sl st).bind fun x => match x.1 with
  | .loc n => match cellL x.2 n with
    | some _ => (mi sl x.2).bind fun y => match y.1 with
      | .p (.int i) => match cellL y.2 n with
        | some ds => match ixN ds.length i with
          | some k => match ds[k]? with
            | some d => if ds.length ≤ 1000000 then .ok (.p d, y.2.set n (some (.l (ds.eraseIdx k)))) else .stuck
            | none => .stuck
          | none => .stuck
        | none => .stuck
      | _ => .stuck
    | none => .stuck
  | _ => .stuck
theorem m_popAt {mo mi : ME} (ho : PEm X o mo) (ha : PEm X e mi)
    (hbase : attributeBase o "pop" X.env (eval o X.env) = eval o X.env := by rfl)
    (hfew : ((backTo cpos (starEach [e] X.env)).all (fun x => !x.1) && (backToKw cpos (keywordEach [] X.env)).all (fun x => x.1.isSome)
      && decide ([e].length + ([] : List Keyword).length + (if ([] : List Keyword).isEmpty then 0 else 1) < 30)) = true := by rfl)
    (hline : (apos.endLine == cpos.line) = true := by rfl) (hs : starEach [e] X.env = (false, eval e X.env) :: starEach [] X.env := by rfl) : PEm X (.Call (.Attribute o "pop" apos) [e] [] cpos) (popAtM mo mi) := by
  refine pe_w (pe_bm PySem.F.plainAttrs_list PySem.F.slot_list_pop PySem.F.type_list_pop mt_popAt ho (pa_cons ha pa_nil hs) hbase hfew hline hs rfl) fun σ H Q ⟨g, sl, st, w, st', hs, ht, e, k⟩ => ?_
  obtain ⟨⟨x, st1⟩, h1, e⟩ := R.bind_inv e
  refine ⟨g, sl, st, x, st1, hs, ht, h1, fun g1 v1 H1 s1 t1 r1 => ?_⟩
  dsimp only at e
  split at e
  · rename_i n
    split at e
    · rename_i ds0 hc0
      obtain ⟨⟨y, st2⟩, h2, e⟩ := R.bind_inv e
      obtain ⟨a0, vs0, e0, _, h40, _⟩ := loc_at t1 r1 hc0
      subst e0
      refine ⟨.inl ⟨rfl, vs0, .inl (.inl h40)⟩, g1, sl, st1, y, st2, hs.mono s1, t1, h2, fun g2 v2 H2 s2 t2 r2 => ?_⟩
      dsimp only at e
      split at e
      · rename_i i
        split at e
        · rename_i ds hc
          split at e
          · rename_i kk hk
            split at e
            · rename_i d hd
              split at e
              · rename_i hz
                cases e
                obtain ⟨a, vs, ea, hal, h4, h5⟩ := loc_at t2 (r1.mono s2) hc
                cases ea
                obtain ⟨v, hv, rv⟩ := h5.get hd
                obtain ⟨q1, q2, q3, q4⟩ := ixN_seq hk
                have hl := h5.length
                refine ⟨a0, vs, i, kk, v, rfl, by rw [rwInt_inv r2], h4, by omega, by omega, by rw [← hl]; exact q1, hv, ?_⟩
                exact k g2 v _ (s1.trans (s2.trans (Stp.write hal))) (t2.write hal (h5.erase kk)) (rv.mono (Stp.write hal))
              · cases e
            · cases e
          · cases e
        · cases e
      · cases e
    · cases e
  · cases e
/-- xs.extend(ys) -/
def extM (mo me : ME) : ME := fun sl st => (mo sl st).bind fun x => match x.1 with
  | .loc n => match cellL x.2 n with
    | some _ => (me sl x.2).bind fun y => match lstX y.2 y.1, cellL y.2 n with
      | some es, some ds => if ds.length + es.length ≤ 1000000 then .ok (.p .non, y.2.set n (some (.l (ds ++ es)))) else .stuck
      | _, _ => .stuck
    | none => .stuck
  | _ => .stuck
theorem m_ext {mo me : ME} (ho : PEm X o mo) (ha : PEm X e me)
    (hbase : attributeBase o "extend" X.env (eval o X.env) = eval o X.env := by rfl)
    (hfew : ((backTo cpos (starEach [e] X.env)).all (fun x => !x.1) && (backToKw cpos (keywordEach [] X.env)).all (fun x => x.1.isSome)
      && decide ([e].length + ([] : List Keyword).length + (if ([] : List Keyword).isEmpty then 0 else 1) < 30)) = true := by rfl)
    (hline : (apos.endLine == cpos.line) = true := by rfl) (hs : starEach [e] X.env = (false, eval e X.env) :: starEach [] X.env := by rfl) : PEm X (.Call (.Attribute o "extend" apos) [e] [] cpos) (extM mo me) := by
  refine pe_w (pe_bm PySem.F.plainAttrs_list PySem.F.slot_list_extend PySem.F.type_list_extend mt_extend ho (pa_cons ha pa_nil hs) hbase hfew hline hs rfl) fun σ H Q ⟨g, sl, st, w, st', hs, ht, e, k⟩ => ?_
  obtain ⟨⟨x, st1⟩, h1, e⟩ := R.bind_inv e
  refine ⟨g, sl, st, x, st1, hs, ht, h1, fun g1 v1 H1 s1 t1 r1 => ?_⟩
  dsimp only at e
  split at e
  · rename_i n
    split at e
    · rename_i ds0 hc0
      obtain ⟨⟨y, st2⟩, h2, e⟩ := R.bind_inv e
      obtain ⟨a0, vs0, e0, _, h40, _⟩ := loc_at t1 r1 hc0
      subst e0
      refine ⟨.inl ⟨rfl, vs0, .inl (.inl h40)⟩, g1, sl, st1, y, st2, hs.mono s1, t1, h2, fun g2 v2 H2 s2 t2 r2 => ?_⟩
      dsimp only at e
      split at e
      · rename_i es ds he hc
        split at e
        · rename_i hz
          cases e
          obtain ⟨a, vs, ea, hal, h4, h5⟩ := loc_at t2 (r1.mono s2) hc
          cases ea
          obtain ⟨b, us, rfl, hb, hr2⟩ := lstX_rep t2 r2 he
          refine ⟨a0, b, vs, us, rfl, rfl, h4, hb, by rw [← h5.length, ← hr2.length]; exact len_ok hz, ?_⟩
          exact k g2 .non _ (s1.trans (s2.trans (Stp.write hal))) (t2.write hal (h5.append hr2)) rwNon
        · cases e
      · cases e
    · cases e
  · cases e
/-- o[i] = e -/
def putS (mo mi me : ME) : MS := fun sl st => (me sl st).bind fun x => (mo sl x.2).bind fun y => (mi sl y.2).bind fun z => match y.1, z.1 with
  | .loc n, .p (.int i) => (frz x.1 z.2).bind fun d => match cellL d.2 n with
    | some ds => match ixN ds.length i with
      | some j => .ok (.nx, sl, d.2.set n (some (.l (ds.set j d.1))))
      | none => .stuck
    | none => .stuck
  | _, _ => .stuck
theorem s_put {i : Expr} {mo mi me : ME} {p2 : Pos} (he : PEm X e me) (ho : PEm X o mo) (hi : PEm X i mi) (hs : swapsWithSole [.Subscript o i p2] e pos.line X.env = pure false := by rfl) (hw : swappedStores [.Subscript o i p2] e X.env = pure none := by rfl)
    (h1 : (assignEach [.Subscript o i p2] X.env).map (·.2) = [assign (.Subscript o i p2) X.env] := by rfl) (ha : ∀ v, assign (.Subscript o i p2) X.env v = (do
      let ov ← holding [v] (eval o X.env)
      let iv ← holding [v, ov] (eval i X.env)
      standAt p2
      holding [v, ov, iv] (setItem ov iv v)
      release [v, ov, iv] []) := by intro _; rfl) : PSm X (.Assign [.Subscript o i p2] e pos) (putS mo mi me) := by
  refine ps_w (ps_asg he (pg_sub ho hi set_list ha) hs hw h1) fun D σ H ⟨g, sl, st, fl, sl', st', hs, ht, e, k⟩ => ?_
  obtain ⟨⟨x, st1⟩, h1, e⟩ := R.bind_inv e
  obtain ⟨⟨y, st2⟩, h2, e⟩ := R.bind_inv e
  obtain ⟨⟨z, st3⟩, h3, e⟩ := R.bind_inv e
  refine ⟨g, sl, st, x, st1, hs, ht, h1, fun g1 v1 H1 s1 t1 r1 => ⟨g1, sl, st1, y, st2, hs.mono s1, t1, h2, fun g2 v2 H2 s2 t2 r2 => ⟨g2, sl, st2, z, st3, (hs.mono s1).mono s2, t2, h3, fun g3 v3 H3 s3 t3 r3 => ?_⟩⟩⟩
  dsimp only at e
  split at e
  · rename_i n ii
    obtain ⟨⟨d, st4⟩, h4, e⟩ := R.bind_inv e
    dsimp only at e
    split at e
    · rename_i ds hc
      split at e
      · rename_i j hj
        cases e
        obtain ⟨g4, s4, t4, r4⟩ := frz_rep t3 ((r1.mono s2).mono s3) h4
        obtain ⟨a, vs, rfl, hal, h5, h6⟩ := loc_at t4 ((r2.mono s3).mono s4) hc
        refine ⟨a, vs, _, j, rfl, rwInt_inv r3, h5, by rw [← h6.length]; exact hj, ?_⟩
        have ss := s2.trans (s3.trans (s4.trans (Stp.write (o := .lst (vs.set j v1)) hal)))
        exact k g4 σ _ (s1.trans ss) (t4.write hal (RepDs.set r4 j h6)) ((hs.mono s1).mono ss)
      · cases e
    · cases e
  · cases e
/-- x op= e, ints -/
def augS (i : Nat) (f : W → W → Store → R (W × Store)) (m : ME) : MS := fun sl st => match sl[i]? with
  | some (some w) => (m sl st).bind fun y => (f w y.1 y.2).bind fun z => .ok (.nx, sl.set i (some z.1), z.2)
  | _ => .stuck
theorem s_aug {i : Nat} {x : Str} {op : Operator} {f : W → W → Store → R (W × Store)} {m : ME} {pos' : Pos} (hN : X.N.Nodup) (hi : X.N[i]? = some x) (hx : Loc X.env.scope x) (he : PEm X e m) (hop : OpR X (inplaceOp op) (r2M X.K f)) (hf : X.fn x = true ∨ X.env.scope.names.lookup x = some .local := by first | exact .inl rfl | exact .inr rfl | assumption) :
    PSm X (.AugAssign (.Name x pos') op e pos) (augS i f m) := by
  refine ps_w (ps_aug (ti := r2M X.K f) hN hi hx he (fun pins s σ H x y v u Q I r1 r2 h => hop pins s σ H x y v u Q I r1 r2 h) hf) fun D σ H ⟨g, sl, st, fl, sl', st', hs, ht, e, k⟩ => ?_
  unfold augS at e
  split at e
  · rename_i w hw
    obtain ⟨⟨y, st1⟩, h1, e⟩ := R.bind_inv e
    obtain ⟨⟨z, st2⟩, h2, e⟩ := R.bind_inv e
    cases e
    obtain ⟨v, q1, q2⟩ := hs.at_ i w hw
    refine ⟨v, q1, g, sl, st, y, st1, hs, ht, h1, fun g1 v1 H1 s1 t1 r1 => ⟨g1, st1, w, y, z, _, q2.mono s1, r1, t1, h2, fun g2 v2 H2 s2 t2 r2 => ?_⟩⟩
    exact k g2 _ H2 (s1.trans s2) t2 ((hs.mono (s1.trans s2)).set i r2)
  · cases e
def addIF (a b : W) (st : Store) : R (W × Store) := match a, b with
  | .p (.int i), .p (.int j) => .ok (.p (.int (i + j)), st)
  | _, _ => .stuck
theorem io_add : OpR X (inplaceOp .Add) (r2M X.K addIF) := opII (rI_of iop_add) (d := fun i j => .int (i + j)) (fun a b st w st' e => by
  unfold addIF at e
  split at e
  · cases e; exact ⟨_, _, rfl, rfl, trivial, rfl, rfl⟩
  · cases e) fun _ _ _ _ => repInt _
theorem io_sub : OpR X (inplaceOp .Sub) (r2M X.K subF) := opII (rI_of iop_sub) (d := fun i j => .int (i - j)) (fun a b st w st' e => by
  unfold subF at e
  split at e
  · cases e; exact ⟨_, _, rfl, rfl, trivial, rfl, rfl⟩
  · cases e) fun _ _ _ _ => repInt _
def mulIF (a b : W) (st : Store) : R (W × Store) := match a, b with
  | .p (.int i), .p (.int j) => if smallI i || smallI j then .ok (.p (.int (i * j)), st) else .stuck
  | _, _ => .stuck
theorem io_mul : OpR X (inplaceOp .Mult) (r2M X.K mulIF) := opII iop_mul (d := fun i j => .int (i * j)) (fun a b st w st' e => by
  unfold mulIF at e
  split at e
  · split at e
    · rename_i hz
      cases e
      refine ⟨_, _, rfl, rfl, ?_, rfl, rfl⟩
      rw [Bool.or_eq_true] at hz
      rcases hz with hz | hz
      · simp only [smallI, Bool.and_eq_true, decide_eq_true_eq] at hz
        exact .inl hz
      · simp only [smallI, Bool.and_eq_true, decide_eq_true_eq] at hz
        exact .inr hz
    · cases e
  · cases e) fun _ _ _ _ => repInt _
/-! ### a < b < c -/
def chainM (f f' : W → W → Store → R (W × Store)) (ma mb mc : ME) : ME := fun sl st => (ma sl st).bind fun x => (mb sl x.2).bind fun y => (f x.1 y.1 y.2).bind fun z => match z.1 with
  | .p (.bl true) => (mc sl z.2).bind fun u => f' y.1 u.1 u.2
  | .p (.bl false) => .ok (.p (.bl false), z.2)
  | _ => .stuck
theorem m_chain {a b c : Expr} {op op' : CmpOp} {f f' : W → W → Store → R (W × Store)} {ma mb mc : ME} (ho : OpR X (compareOp op) (r2M X.K f)) (ho' : OpR X (compareOp op') (r2M X.K f')) (ha : PEm X a ma) (hb : PEm X b mb) (hc : PEm X c mc)
    (hm : lastMarks [op, op'] [b, c] = false := by with_unfolding_all rfl) : PEm X (.Compare a [op, op'] [b, c] pos) (chainM f f' ma mb mc) := by
  refine pe_w (pe_chain ho ho' ha hb hc hm) fun σ H Q ⟨g, sl, st, w, st', hs, ht, e, k⟩ => ?_
  obtain ⟨⟨x, st1⟩, h1, e⟩ := R.bind_inv e
  obtain ⟨⟨y, st2⟩, h2, e⟩ := R.bind_inv e
  obtain ⟨⟨z, st3⟩, h3, e⟩ := R.bind_inv e
  refine ⟨g, sl, st, x, st1, hs, ht, h1, fun g1 v1 H1 s1 t1 r1 => ⟨g1, sl, st1, y, st2, hs.mono s1, t1, h2, fun g2 v2 H2 s2 t2 r2 => ⟨g2, st2, x, y, z, st3, r1.mono s2, r2, t2, h3, fun g3 v3 H3 s3 t3 r3 => ?_⟩⟩⟩
  dsimp only at e
  split at e
  · obtain ⟨⟨u, st4⟩, h4, e⟩ := R.bind_inv e
    refine ⟨true, rwBl_inv r3, iteT ⟨g3, sl, st3, u, st4, (hs.mono s1).mono (s2.trans s3), t3, h4, fun g4 v4 H4 s4 t4 r4 => ⟨g4, st4, y, u, w, st', (r2.mono s3).mono s4, r4, t4, e, fun g5 v5 H5 s5 t5 r5 => k g5 v5 H5 (s1.trans (s2.trans (s3.trans (s4.trans s5)))) t5 r5⟩⟩⟩
  · cases e
    exact ⟨false, rwBl_inv r3, iteF (k g3 _ H3 (s1.trans (s2.trans s3)) t3 (rwBl _))⟩
  · cases e
/-! ### calls with keywords -/
def pick {α : Type} (perm : List Nat) (l : List α) : List α := perm.filterMap (l[·]?)
structure KB (fd : FuncData) (ps ks : List Str) (n : Nat) (perm : List Nat) : Prop where
  to : ∀ (us ws : List Value), us.length = n → ws.length = ks.length → bindArgs fd ⟨us, ks.zip ws⟩ = pure (ps.zip (pick perm (us ++ ws)))
theorem RepWs.append {K : PySem.W.Frag} {H : Hp} {g : G} : ∀ {ws us : List W} {vs zs : List V}, RepWs K H g ws vs → RepWs K H g us zs → RepWs K H g (ws ++ us) (vs ++ zs)
  | _, _, _, _, .nil, h => h
  | _, _, _, _, .cons r t, h => .cons r (RepWs.append t h)
theorem RepWs.get {K : PySem.W.Frag} {H : Hp} {g : G} : ∀ {ws : List W} {vs : List V}, RepWs K H g ws vs → ∀ i : Nat, (∃ w v, ws[i]? = some w ∧ vs[i]? = some v ∧ RepW K H g w v) ∨ (ws[i]? = none ∧ vs[i]? = none)
  | _, _, .nil, i => .inr ⟨by simp, by simp⟩
  | _, _, .cons r t, 0 => .inl ⟨_, _, rfl, rfl, r⟩
  | _, _, .cons r t, i + 1 => by simpa using RepWs.get t i
theorem RepWs.pick {K : PySem.W.Frag} {H : Hp} {g : G} {ws : List W} {vs : List V} (r : RepWs K H g ws vs) : ∀ perm : List Nat, RepWs K H g (pick perm ws) (pick perm vs)
  | [] => .nil
  | i :: perm => by
    unfold Pm.pick
    rcases RepWs.get r i with ⟨w, v, h1, h2, h3⟩ | ⟨h1, h2⟩
    · rw [List.filterMap_cons, List.filterMap_cons, h1, h2]
      exact .cons h3 (RepWs.pick r perm)
    · rw [List.filterMap_cons, List.filterMap_cons, h1, h2]
      exact RepWs.pick r perm
theorem Vals.getP : ∀ {ws : List V} {vs : List Value}, Vals ws vs → ∀ i : Nat, (∃ w v, ws[i]? = some w ∧ vs[i]? = some v ∧ RelV w v) ∨ (ws[i]? = none ∧ vs[i]? = none)
  | _, _, .nil, i => .inr ⟨by simp, by simp⟩
  | _, _, .cons r t, 0 => .inl ⟨_, _, rfl, rfl, r⟩
  | _, _, .cons r t, i + 1 => by simpa using Vals.getP t i
theorem Vals.pickP {ws : List V} {vs : List Value} (r : Vals ws vs) : ∀ perm : List Nat, Vals (pick perm ws) (pick perm vs)
  | [] => .nil
  | i :: perm => by
    unfold Pm.pick
    rcases Vals.getP r i with ⟨w, v, h1, h2, h3⟩ | ⟨h1, h2⟩
    · rw [List.filterMap_cons, List.filterMap_cons, h1, h2]
      exact .cons h3 (Vals.pickP r perm)
    · rw [List.filterMap_cons, List.filterMap_cons, h1, h2]
      exact Vals.pickP r perm
theorem KB.kbn {K : PySem.W.Frag} {fd : FuncData} {ps ks : List Str} {n : Nat} {perm : List Nat} (h : KB fd ps ks n perm) : KBn K fd ps n ks (fun us ws => pick perm (us ++ ws)) (fun us ws => pick perm (us ++ ws)) :=
  ⟨fun s us ws _ h1 h2 => BindsTo.of_eq (h.to us ws h1 h2), fun r1 r2 => Vals.pickP (r1.append r2) perm⟩
def callKM (f : Fn) (perm : List Nat) (a b : MA) : ME := fun sl st => (a sl st).bind fun x => (b sl x.2).bind fun y => f (pick perm (x.1 ++ y.1)) y.2
abbrev PKm (X : Cx) (kws : List Keyword) (m : MA) : Prop := PK X kws (tA X.K m)
theorem pk_w {kws : List Keyword} {t t' : TA} (h : PK X kws t) (w : ∀ σ H Q, t' σ H Q → t σ H Q) : PK X kws t' := ⟨fun pos pins s σ H Q I q => h.run pos pins s σ H Q I (w σ H Q q)⟩
theorem k_nil : PKm X [] nilA := by
  refine pk_w pk_nil fun σ H Q ⟨g, sl, st, w, st', hs, ht, e, k⟩ => ?_
  cases e
  exact k g [] H (Stp.refl g H) ht .nil
theorem k_cons {kws : List Keyword} {nm : Option Str} {kpos : Pos} {m : ME} {r : MA} (ha : PEm X e m) (hr : PKm X kws r) : PKm X (⟨nm, e, kpos⟩ :: kws) (consA m r) := by
  refine pk_w (pk_cons ha hr) fun σ H Q ⟨g, sl, st, w, st', hs, ht, e, k⟩ => ?_
  obtain ⟨⟨x, st1⟩, h1, e⟩ := R.bind_inv e
  obtain ⟨⟨y, st2⟩, h2, e⟩ := R.bind_inv e
  cases e
  exact ⟨g, sl, st, x, st1, hs, ht, h1, fun g1 v1 H1 s1 t1 r1 => ⟨g1, sl, st1, y, st2, hs.mono s1, t1, h2, fun g2 v2 H2 s2 t2 r2 => k g2 _ H2 (s1.trans s2) t2 (.cons (r1.mono s2) r2)⟩⟩
theorem m_callK {k : Nat} {a : Addr} {fd : FuncData} {ps ks : List Str} {f : Fn} {n n1 : Nat} {perm : List Nat} {x : Str} {p : Pos} {kws : List Keyword} {m mk : MA} (F : FnOk X.prog X.w X.K X.mg X.base CX0 k a fd ps (spM X.K f n)) (hr : Room k X.A) (hg : Gl X x) (hm : X.mg x = some (.ref a)) (hk : PySem.W.keepIn X.K (.ref a) = true) (hb : KB fd ps ks n1 perm)
    (ha : PAm X (e :: es) m) (hkw : PKm X kws mk) (hl : LenA m n1) (hl2 : LenA mk ks.length) (hp : ∀ l : List V, l.length = n1 + ks.length → (pick perm l).length = n) (hall : (backToKw pos (keywordEach kws X.env)).all (·.1.isSome) = true := by rfl) (hks : (backToKw pos (keywordEach kws X.env)).filterMap (·.1) = ks := by rfl)
    (hdb : (x == ("__debug__" : Str)) = false := by decide) (he : starEach (e :: es) X.env = (false, eval e X.env) :: starEach es X.env := by rfl)
    (hpl : ((backTo pos (starEach (e :: es) X.env)).any (·.1) || (backToKw pos (keywordEach kws X.env)).any (·.1.isNone)) = false := by rfl) :
    PEm X (.Call (.Name x p) (e :: es) kws pos) (callKM f perm m mk) := by
  refine pe_w (pe_callN F hr hg hm hk hb.kbn pass0 ha hkw hall hks hdb he hpl) fun σ H Q ⟨g, sl, st, w, st', hs, ht, e, k⟩ => ?_
  obtain ⟨⟨x, st1⟩, h1, e⟩ := R.bind_inv e
  obtain ⟨⟨y, st2⟩, h2, e⟩ := R.bind_inv e
  refine ⟨g, sl, st, x, st1, hs, ht, h1, fun g1 v1 H1 s1 t1 r1 => ⟨g1, sl, st1, y, st2, hs.mono s1, t1, h2, fun g2 v2 H2 s2 t2 r2 => ?_⟩⟩
  have e1 : v1.length = n1 := by rw [← r1.len]; exact hl _ _ _ _ h1
  have e2 : v2.length = ks.length := by rw [← r2.len]; exact hl2 _ _ _ _ h2
  refine ⟨e1, e2, hp _ (by rw [List.length_append, e1, e2]), g2, st2, _, w, st', RepWs.pick (RepWs.append (RepWs.mono s2 r1) r2) perm, t2, e, fun g3 v3 H3 s3 t3 r3 => k g3 v3 H3 (s1.trans (s2.trans s3)) t3 r3⟩
/-- f(k = v, ..), nothing by position -/
theorem pe_callN0 {CX : CXT} {k : Nat} {f : Addr} {fd : FuncData} {ps ks : List Str} {sp : Sp} {E : XK} {x : Str} {p pos : Pos} {kws : List Keyword} {tk : TA} {g : List Value → List Value → List Value} {gV : List V → List V → List V}
    (F : FnOk X.prog X.w X.K X.mg X.base CX k f fd ps sp) (hr : Room k X.A) (hg : Gl X x) (hm : X.mg x = some (.ref f)) (hk : PySem.W.keepIn X.K (.ref f) = true) (hb : KBn X.K fd ps 0 ks g gV) (hx : Passes CX X E)
    (hkw : PK X kws tk) (hall : (backToKw pos (keywordEach kws X.env)).all (·.1.isSome) = true := by rfl) (hks : (backToKw pos (keywordEach kws X.env)).filterMap (·.1) = ks := by rfl)
    (hdb : (x == ("__debug__" : Str)) = false := by decide)
    (hpl : ((backTo pos (starEach [] X.env)).any (·.1) || (backToKw pos (keywordEach kws X.env)).any (·.1.isNone)) = false := by rfl) :
    PE X (.Call (.Name x p) [] kws pos) (fun σ H Q => tk σ H fun zs H2 => zs.length = ks.length ∧ sp (gV [] zs) H2 Q E) := by
  refine ⟨fun pins s σ H Q I h => ?_⟩
  refine wpAny_Call_Name_kw (ld_glob I hg hm ?_ hdb)
  refine PySem.W.callWith_KW0 (h₀ := X.base) I.ok.mod.kin hk hall (thn (hkw.run pos pins s σ H _ I h) fun ws s2 ⟨zs, H2, I2, rz, l2, q2⟩ => ⟨I2.kIn, ?_⟩) hpl
  rw [hks]
  exact run_fnN (us := []) (vs := []) F hr hb hx I2 .nil rz rfl l2 q2
theorem m_callK0 {k : Nat} {a : Addr} {fd : FuncData} {ps ks : List Str} {f : Fn} {n : Nat} {perm : List Nat} {x : Str} {p : Pos} {kws : List Keyword} {mk : MA} (F : FnOk X.prog X.w X.K X.mg X.base CX0 k a fd ps (spM X.K f n)) (hr : Room k X.A) (hg : Gl X x) (hm : X.mg x = some (.ref a)) (hk : PySem.W.keepIn X.K (.ref a) = true) (hb : KB fd ps ks 0 perm)
    (hkw : PKm X kws mk) (hl2 : LenA mk ks.length) (hp : ∀ l : List V, l.length = 0 + ks.length → (pick perm l).length = n) (hall : (backToKw pos (keywordEach kws X.env)).all (·.1.isSome) = true := by rfl) (hks : (backToKw pos (keywordEach kws X.env)).filterMap (·.1) = ks := by rfl)
    (hdb : (x == ("__debug__" : Str)) = false := by decide)
    (hpl : ((backTo pos (starEach [] X.env)).any (·.1) || (backToKw pos (keywordEach kws X.env)).any (·.1.isNone)) = false := by rfl) :
    PEm X (.Call (.Name x p) [] kws pos) (callKM f perm nilA mk) := by
  refine pe_w (pe_callN0 F hr hg hm hk hb.kbn pass0 hkw hall hks hdb hpl) fun σ H Q ⟨g, sl, st, w, st', hs, ht, e, k⟩ => ?_
  obtain ⟨⟨x, st1⟩, h1, e⟩ := R.bind_inv e
  cases h1
  obtain ⟨⟨y, st2⟩, h2, e⟩ := R.bind_inv e
  refine ⟨g, sl, st, y, st2, hs, ht, h2, fun g2 v2 H2 s2 t2 r2 => ?_⟩
  have e2 : v2.length = ks.length := by rw [← r2.len]; exact hl2 _ _ _ _ h2
  refine ⟨e2, hp _ (by simpa using e2), g2, st2, _, w, st', RepWs.pick r2 perm, t2, e, fun g3 v3 H3 s3 t3 r3 => k g3 v3 H3 (s2.trans s3) t3 r3⟩
end

/-! ### defs, as the head tells them -/
abbrev FnD (K : PySem.W.Frag) (x : Str) (st : Stmt) (f : Addr) (fd : FuncData) : Prop := FunD K x x (defArgs st) (defBody st) (defScope st) [] [] f fd
theorem FnD.kb {K : PySem.W.Frag} {x : Str} {st : Stmt} {f : Addr} {fd : FuncData} {ps ks : List Str} {n : Nat} {perm : List Nat} (F : FnD K x st f fd)
    (h : ∀ (kV doc pm : Value) (an : Option Addr) (cdv ct : Value) (us ws : List Value), us.length = n → ws.length = ks.length → bindArgs (PySem.W.fnOf x x (defArgs st) (defBody st) (defScope st) .none kV doc pm an cdv ct) ⟨us, ks.zip ws⟩ = pure (ps.zip (pick perm (us ++ ws)))) : KB fd ps ks n perm := by
  obtain ⟨oc, od, dV, kV, doc, pm, an, cdv, ct, osl, rfl, lk, hcd, hD, hK⟩ := F.ex
  rcases hD with ⟨_, rfl⟩ | ⟨e, _⟩
  · exact ⟨h kV doc pm an cdv ct⟩
  · exact absurd rfl e
section
variable {P : Program} {w : World} {K : PySem.W.Frag} {mg : Str → Option Value} {base : Heap}
theorem fn_defP {x : Str} {st : Stmt} {f : Addr} {fd : FuncData} {N ps : List Str} {k n : Nat} {body : MS} (F : FnD K x st f fd) (S : FnScope N ps (defScope st)) (hn : ps.length = n)
    (hb : ∀ (cdv : Value) (A : Around) (outer : List Env) (s : Shared) (H : Hp) (E : XK), Room k (A.deeper (envOfC x (defScope st) s.heap.objs.size f cdv)) → PSsm (cxOf CX0 P w K mg base N x (defScope st) f cdv A outer s H E).nox (defBody st) body) :
    FnOk P w K mg base CX0 (k + 1) f fd ps (spM K (defP N.length body) n) := by
  refine FunD.ok F S (fun vs H Q E h => by rw [hn]; exact h.1) (fun cdv A outer s H vs Q E hr h => ?_)
  obtain ⟨hl, g, st0, ws, wr, st', r, t, e, k⟩ := h
  refine ⟨_, PSs.nox (hb cdv A outer s H E hr), ?_⟩
  obtain ⟨⟨fl, sl1, st1⟩, h1, e⟩ := R.bind_inv e
  refine ⟨g, _, st0, fl, sl1, st1, start_rep N.length r, t, h1, fun g1 σ1 H1 s1 t1 S1 => ?_⟩
  cases fl with
  | nx =>
    cases e
    refine k (g1.cut g.al.length) .non H1 s1.cut ?_ rwNon
    rw [t.len]
    exact t1.cut _
  | bk => cases e
  | ct => cases e
  | rt w =>
    obtain ⟨⟨d, st2⟩, h2, e⟩ := R.bind_inv (show ((frz w st1).bind _) = _ from e)
    cases e
    intro v rv
    obtain ⟨g2, s2, t2, r2⟩ := frz_rep t1 rv h2
    refine k (g2.cut g.al.length) v H1 (s1.trans s2).cut ?_ (RepD.mono0 (Stp0.cut g2 H1 _) _ _ r2)
    rw [t.len]
    exact t2.cut _
theorem fn_defC {x : Str} {st : Stmt} {f : Addr} {fd : FuncData} {N ps : List Str} {k n : Nat} {body : MS} (F : FnD K x st f fd) (S : FnScope N ps (defScope st)) (hn : ps.length = n)
    (hb : ∀ (cdv : Value) (A : Around) (outer : List Env) (s : Shared) (H : Hp) (E : XK), Room k (A.deeper (envOfC x (defScope st) s.heap.objs.size f cdv)) → PSsm (cxOf CX0 P w K mg base N x (defScope st) f cdv A outer s H E).nox (defBody st) body) :
    FnOk P w K mg base CX0 (k + 1) f fd ps (spM K (defC N.length body) n) := by
  refine FunD.ok F S (fun vs H Q E h => by rw [hn]; exact h.1) (fun cdv A outer s H vs Q E hr h => ?_)
  obtain ⟨hl, g, st0, ws, wr, st', r, t, e, k⟩ := h
  refine ⟨_, PSs.nox (hb cdv A outer s H E hr), ?_⟩
  obtain ⟨⟨fl, sl1, st1⟩, h1, e⟩ := R.bind_inv e
  refine ⟨g, _, st0, fl, sl1, st1, start_rep N.length r, t, h1, fun g1 σ1 H1 s1 t1 S1 => ?_⟩
  cases fl with
  | nx => cases e; exact k g1 .non H1 s1 t1 rwNon
  | bk => cases e
  | ct => cases e
  | rt w => cases e; exact fun v rv => k g1 v H1 s1 t1 rv
/-- nothing is promised of runs that stop: the bottom of a recursion -/
def stuckFn : Fn := fun _ _ => .stuck
theorem fn_stuck {f : Addr} {fd : FuncData} {ps : List Str} {n k : Nat} (hn : ps.length = n) : FnOk P w K mg base CX0 k f fd ps (spM K stuckFn n) :=
  ⟨fun vs H Q E h => by rw [hn]; exact h.1, fun A outer s H args us vs Q E hr he hb hv h => by obtain ⟨_, _, _, _, _, _, _, _, e, _⟩ := h; cases e⟩
end
end Pm

/-! Core8: several names at once, chains as tests, calls by what the table of defs says. -/
namespace Pm
open PySem PySem.Spec PyProof.Rows L2
section
variable {X : Cx} {pos : Pos}
def setAll : List Nat → List W → Slots → Slots
  | i :: is, w :: ws, sl => setAll is ws (sl.set i (some w))
  | _, _, sl => sl
def parS (is : List Nat) (a : MA) : MS := fun sl st => (a sl st).bind fun x => if x.1.length = is.length then .ok (.nx, setAll is x.1 sl, x.2) else .stuck
theorem s_par2 {i j : Nat} {x y : Str} {a b : Expr} {m : MA} {px py pt : Pos} {kt k2 pt2} (hc : X.calm = true) (hN : X.N.Nodup) (hi : X.N[i]? = some x) (hj : X.N[j]? = some y) (hij : i ≠ j)
    (hx : X.env.scope.names.lookup x = some .local) (hy : X.env.scope.names.lookup y = some .local) (ha : PAm X [a, b] m)
    (hw : swappedStores [.Tuple [.Name x px, .Name y py] kt pt] (.Tuple [a, b] k2 pt2) X.env = pure (some [x, y]))
    (hs : swapsWithSole [.Tuple [.Name x px, .Name y py] kt pt] (.Tuple [a, b] k2 pt2) pos.line X.env = pure false := by rfl) :
    PSm X (.Assign [.Tuple [.Name x px, .Name y py] kt pt] (.Tuple [a, b] k2 pt2) pos) (parS [i, j] m) := by
  refine ps_w (ps_par hc hN hi hj hij hx hy ha hw hs) fun D σ H ⟨g, sl, st, fl, sl', st', hs, ht, e, k⟩ => ?_
  obtain ⟨⟨ws, st1⟩, h1, e⟩ := R.bind_inv e
  dsimp only at e
  split at e
  · rename_i hl
    cases e
    refine ⟨g, sl, st, ws, _, hs, ht, h1, fun g1 vs H1 s1 t1 r1 => ?_⟩
    match ws, hl with
    | [w1, w2], _ =>
      obtain ⟨v, z, rfl, r2, r3⟩ := ws2 r1
      exact ⟨v, z, rfl, k g1 _ H1 s1 t1 (((hs.mono s1).set i r2).set j r3)⟩
  · cases e
theorem ws3 {K : PySem.W.Frag} {H : Hp} {g : G} {w u t : W} {vs : List V} (r : RepWs K H g [w, u, t] vs) : ∃ v z y, vs = [v, z, y] ∧ RepW K H g w v ∧ RepW K H g u z ∧ RepW K H g t y := by
  cases r with
  | cons r t =>
    obtain ⟨v, z, rfl, r2, r3⟩ := ws2 t
    exact ⟨_, v, z, rfl, r, r2, r3⟩
theorem s_par3 {i j l : Nat} {x y z : Str} {a b c : Expr} {m : MA} {px py pz pt : Pos} {kt k2 pt2} (hc : X.calm = true) (hN : X.N.Nodup) (hi : X.N[i]? = some x) (hj : X.N[j]? = some y) (hl : X.N[l]? = some z) (hij : i ≠ j) (hil : i ≠ l) (hjl : j ≠ l)
    (hx : X.env.scope.names.lookup x = some .local) (hy : X.env.scope.names.lookup y = some .local) (hz : X.env.scope.names.lookup z = some .local) (ha : PAm X [a, b, c] m)
    (hw : swappedStores [.Tuple [.Name x px, .Name y py, .Name z pz] kt pt] (.Tuple [a, b, c] k2 pt2) X.env = pure (some [x, y, z]))
    (hs : swapsWithSole [.Tuple [.Name x px, .Name y py, .Name z pz] kt pt] (.Tuple [a, b, c] k2 pt2) pos.line X.env = pure false := by rfl) :
    PSm X (.Assign [.Tuple [.Name x px, .Name y py, .Name z pz] kt pt] (.Tuple [a, b, c] k2 pt2) pos) (parS [i, j, l] m) := by
  refine ps_w (ps_par3 hc hN hi hj hl hij hil hjl hx hy hz ha hw hs) fun D σ H ⟨g, sl, st, fl, sl', st', hs, ht, e, k⟩ => ?_
  obtain ⟨⟨ws, st1⟩, h1, e⟩ := R.bind_inv e
  dsimp only at e
  split at e
  · rename_i hl
    cases e
    refine ⟨g, sl, st, ws, _, hs, ht, h1, fun g1 vs H1 s1 t1 r1 => ?_⟩
    match ws, hl with
    | [w1, w2, w3], _ =>
      obtain ⟨v, z, y, rfl, r2, r3, r4⟩ := ws3 r1
      exact ⟨v, z, y, rfl, k g1 _ H1 s1 t1 ((((hs.mono s1).set i r2).set j r3).set l r4)⟩
  · cases e
/-- names = written values, through a tuple -/
def gNms (K : PySem.W.Frag) : List Nat → TGs
  | [] => gNil
  | i :: is => gCons (gName i) (gNms K is)
theorem gNms_ok {K : PySem.W.Frag} {H : Hp} {g : G} : ∀ (is : List Nat) {ws : List W} {vs : List V} {sl : Slots} {σ : L2.St} {Q : L2.St → Hp → Prop}, ws.length = is.length → RepWs K H g ws vs → RepSl K H g sl σ →
    (∀ σ', RepSl K H g (setAll is ws sl) σ' → Q σ' H) → gNms K is vs σ H Q
  | [], [], _, sl, σ, Q, _, r, S, q => by
    cases r
    exact ⟨rfl, q σ S⟩
  | i :: is, w :: ws, _, sl, σ, Q, hl, r, S, q => by
    cases r with
    | cons r1 r2 =>
      exact ⟨_, _, rfl, gNms_ok is (by simpa using hl) r2 (S.set i r1) q⟩
  | [], _ :: _, _, _, _, _, hl, _, _, _ => by simp at hl
  | _ :: _, [], _, _, _, _, hl, _, _, _ => by simp at hl
theorem n_nil : PGs X [] (gNms X.K []) := pgs_nil
theorem n_cons {e : Expr} {es : List Expr} {i : Nat} {is : List Nat} (h1 : PG X e (gName i)) (h2 : PGs X es (gNms X.K is))
    (hs : (assignEach (e :: es) X.env).map (·.2) = assign e X.env :: (assignEach es X.env).map (·.2) := by rfl) : PGs X (e :: es) (gNms X.K (i :: is)) := pgs_cons h1 h2 hs
theorem s_parT {es vs : List Expr} {is : List Nat} {m : MA} {n kt k2 : Nat} {pt pt2 : Pos} (hc : X.calm = true) (hg : PGs X es (gNms X.K is)) (ha : PAm X vs m) (hl : LenA m n) (hz : n ≤ 1000000)
    (hn : (assignEach es X.env).length = is.length := by rfl) (hst : (assignEach es X.env).findIdx? (·.1) = none := by rfl)
    (hs : swapsWithSole [.Tuple es kt pt] (.Tuple vs k2 pt2) pos.line X.env = pure false := by rfl) (hw : swappedStores [.Tuple es kt pt] (.Tuple vs k2 pt2) X.env = pure none := by rfl) (h1 : (assignEach [.Tuple es kt pt] X.env).map (·.2) = [assign (.Tuple es kt pt) X.env] := by rfl) :
    PSm X (.Assign [.Tuple es kt pt] (.Tuple vs k2 pt2) pos) (parS is m) := by
  refine ps_w (ps_asg (pe_tup ha) (pg_tup hc hg hn hst) hs hw h1) fun D σ H ⟨g, sl, st, fl, sl', st', hs, ht, e, k⟩ => ?_
  obtain ⟨⟨ws, st1⟩, h1, e⟩ := R.bind_inv e
  dsimp only at e
  split at e
  · rename_i hle
    cases e
    refine ⟨g, sl, st, ws, _, hs, ht, h1, fun g1 us H1 s1 t1 r1 => ⟨by rw [← r1.len, hl _ _ _ _ h1]; exact len_ok hz, fun p hp => ⟨p, us, rfl, .inl (.inl upd_same), by rw [← r1.len]; exact hle, ?_⟩⟩⟩
    have sn := Stp.new (g := g1) (o := .tup us) hp
    exact gNms_ok is hle (RepWs.mono sn r1) (hs.mono (s1.trans sn)) fun σ' S' => k g1 σ' _ (s1.trans sn) (t1.new hp) S'
  · cases e
theorem t_chain {a b c : Expr} {op op' : CmpOp} {f f' : W → W → Store → R (W × Store)} {ma mb mc : ME} (ho : OpR X (compareOp op) (r2M X.K f)) (ho' : OpR X (compareOp op') (r2M X.K f')) (ha : PEm X a ma) (hb : PEm X b mb) (hc : PEm X c mc)
    (hm : lastMarks [op, op'] [b, c] = false := by with_unfolding_all rfl) : PTm X (.Compare a [op, op'] [b, c] pos) (boolM (chainM f f' ma mb mc)) := by
  refine pt_w (pt_chain ho ho' ha hb hc hm) fun σ H Q ⟨g, sl, st, w, st', hs, ht, e, k⟩ => ?_
  have e := boolM_inv e
  obtain ⟨⟨x, st1⟩, h1, e⟩ := R.bind_inv e
  obtain ⟨⟨y, st2⟩, h2, e⟩ := R.bind_inv e
  obtain ⟨⟨z, st3⟩, h3, e⟩ := R.bind_inv e
  refine ⟨g, sl, st, x, st1, hs, ht, h1, fun g1 v1 H1 s1 t1 r1 => ⟨g1, sl, st1, y, st2, hs.mono s1, t1, h2, fun g2 v2 H2 s2 t2 r2 => ⟨g2, st2, x, y, z, st3, r1.mono s2, r2, t2, h3, fun g3 v3 H3 s3 t3 r3 => ?_⟩⟩⟩
  dsimp only at e
  split at e
  · obtain ⟨⟨u, st4⟩, h4, e⟩ := R.bind_inv e
    refine ⟨true, rwBl_inv r3, iteT ⟨g3, sl, st3, u, st4, (hs.mono s1).mono (s2.trans s3), t3, h4, fun g4 v4 H4 s4 t4 r4 => ⟨g4, st4, y, u, _, st', (r2.mono s3).mono s4, r4, t4, e, fun g5 v5 H5 s5 t5 r5 => ⟨w, rwBl_inv r5, k g5 H5 (s1.trans (s2.trans (s3.trans (s4.trans s5)))) t5⟩⟩⟩⟩
  · cases e
    exact ⟨false, rwBl_inv r3, iteF ⟨false, rfl, k g3 H3 (s1.trans (s2.trans s3)) t3⟩⟩
  · cases e
end
/-! ### a def of the table, told -/
def Fnk (P : Program) (w : World) (K : PySem.W.Frag) (mg : Str → Option Value) (base : Heap) (k : Nat) (x : Str) (st : Stmt) (ps : List Str) (f : Fn) (n : Nat) : Prop :=
  ∃ (a : Addr) (fd : FuncData), FnD K x st a fd ∧ mg x = some (.ref a) ∧ Binds K fd ps [] ∧ FnOk P w K mg base CX0 k a fd ps (spM K f n)
/-- where a def stands -/
def Has (K : PySem.W.Frag) (mg : Str → Option Value) (x : Str) (st : Stmt) (ps : List Str) : Prop := ∃ (a : Addr) (fd : FuncData), FnD K x st a fd ∧ mg x = some (.ref a) ∧ Binds K fd ps []
section
variable {P : Program} {w : World} {K : PySem.W.Frag} {mg : Str → Option Value} {base : Heap}
theorem Fnk.mono {j k n : Nat} {x : Str} {st : Stmt} {ps : List Str} {f : Fn} (h : Fnk P w K mg base j x st ps f n) (hk : j ≤ k) : Fnk P w K mg base k x st ps f n :=
  let ⟨a, fd, h1, h2, h3, h4⟩ := h
  ⟨a, fd, h1, h2, h3, h4.mono hk⟩
theorem Has.okP {x : Str} {st : Stmt} {N ps : List Str} {k n : Nat} {body : MS} (h : Has K mg x st ps) (S : FnScope N ps (defScope st)) (hn : ps.length = n)
    (hb : ∀ (f : Addr) (cdv : Value) (A : Around) (outer : List Env) (s : Shared) (H : Hp) (E : XK), Room k (A.deeper (envOfC x (defScope st) s.heap.objs.size f cdv)) → PSsm (cxOf CX0 P w K mg base N x (defScope st) f cdv A outer s H E).nox (defBody st) body) :
    Fnk P w K mg base (k + 1) x st ps (defP N.length body) n :=
  let ⟨a, fd, h1, h2, h3⟩ := h
  ⟨a, fd, h1, h2, h3, fn_defP h1 S hn (hb a)⟩
theorem Has.okC {x : Str} {st : Stmt} {N ps : List Str} {k n : Nat} {body : MS} (h : Has K mg x st ps) (S : FnScope N ps (defScope st)) (hn : ps.length = n)
    (hb : ∀ (f : Addr) (cdv : Value) (A : Around) (outer : List Env) (s : Shared) (H : Hp) (E : XK), Room k (A.deeper (envOfC x (defScope st) s.heap.objs.size f cdv)) → PSsm (cxOf CX0 P w K mg base N x (defScope st) f cdv A outer s H E).nox (defBody st) body) :
    Fnk P w K mg base (k + 1) x st ps (defC N.length body) n :=
  let ⟨a, fd, h1, h2, h3⟩ := h
  ⟨a, fd, h1, h2, h3, fn_defC h1 S hn (hb a)⟩
theorem Has.stuck {x : Str} {st : Stmt} {ps : List Str} {k n : Nat} (h : Has K mg x st ps) (hn : ps.length = n) : Fnk P w K mg base k x st ps stuckFn n :=
  let ⟨a, fd, h1, h2, h3⟩ := h
  ⟨a, fd, h1, h2, h3, fn_stuck hn⟩
end
section
variable {X : Cx} {e : Expr} {es : List Expr} {pos p : Pos} {k n : Nat} {x : Str} {sx : Stmt} {ps : List Str} {f : Fn} {m : MA}
theorem c_fn (F : Fnk X.prog X.w X.K X.mg X.base k x sx ps f n) (hr : Room k X.A) (hg : Gl X x) (ha : PAm X (e :: es) m) (hl : LenA m n)
    (hdb : (x == ("__debug__" : Str)) = false := by decide) (he : starEach (e :: es) X.env = (false, eval e X.env) :: starEach es X.env := by rfl) (hpl : (backTo pos (starEach es X.env)).any (·.1) = false := by rfl) :
    PEm X (.Call (.Name x p) (e :: es) [] pos) (callM f m) :=
  let ⟨_, _, h1, h2, h3, h4⟩ := F
  m_call h4 hr hg h2 h1.kp h3 ha hl hdb he hpl
theorem c_fnK {ks : List Str} {n1 : Nat} {perm : List Nat} {kws : List Keyword} {mk : MA} (F : Fnk X.prog X.w X.K X.mg X.base k x sx ps f n) (hr : Room k X.A) (hg : Gl X x)
    (hb : ∀ (kV doc pm : Value) (an : Option Addr) (cdv ct : Value) (us ws : List Value), us.length = n1 → ws.length = ks.length → bindArgs (PySem.W.fnOf x x (defArgs sx) (defBody sx) (defScope sx) .none kV doc pm an cdv ct) ⟨us, ks.zip ws⟩ = pure (ps.zip (pick perm (us ++ ws))))
    (ha : PAm X (e :: es) m) (hkw : PKm X kws mk) (hl : LenA m n1) (hl2 : LenA mk ks.length) (hp : ∀ l : List V, l.length = n1 + ks.length → (pick perm l).length = n) (hall : (backToKw pos (keywordEach kws X.env)).all (·.1.isSome) = true := by rfl) (hks : (backToKw pos (keywordEach kws X.env)).filterMap (·.1) = ks := by rfl)
    (hdb : (x == ("__debug__" : Str)) = false := by decide) (he : starEach (e :: es) X.env = (false, eval e X.env) :: starEach es X.env := by rfl)
    (hpl : ((backTo pos (starEach (e :: es) X.env)).any (·.1) || (backToKw pos (keywordEach kws X.env)).any (·.1.isNone)) = false := by rfl) :
    PEm X (.Call (.Name x p) (e :: es) kws pos) (callKM f perm m mk) :=
  let ⟨_, _, h1, h2, h3, h4⟩ := F
  m_callK h4 hr hg h2 h1.kp (FnD.kb h1 hb) ha hkw hl hl2 hp hall hks hdb he hpl
theorem c_fnK0 {ks : List Str} {perm : List Nat} {kws : List Keyword} {mk : MA} (F : Fnk X.prog X.w X.K X.mg X.base k x sx ps f n) (hr : Room k X.A) (hg : Gl X x)
    (hb : ∀ (kV doc pm : Value) (an : Option Addr) (cdv ct : Value) (us ws : List Value), us.length = 0 → ws.length = ks.length → bindArgs (PySem.W.fnOf x x (defArgs sx) (defBody sx) (defScope sx) .none kV doc pm an cdv ct) ⟨us, ks.zip ws⟩ = pure (ps.zip (pick perm (us ++ ws))))
    (hkw : PKm X kws mk) (hl2 : LenA mk ks.length) (hp : ∀ l : List V, l.length = 0 + ks.length → (pick perm l).length = n) (hall : (backToKw pos (keywordEach kws X.env)).all (·.1.isSome) = true := by rfl) (hks : (backToKw pos (keywordEach kws X.env)).filterMap (·.1) = ks := by rfl)
    (hdb : (x == ("__debug__" : Str)) = false := by decide)
    (hpl : ((backTo pos (starEach [] X.env)).any (·.1) || (backToKw pos (keywordEach kws X.env)).any (·.1.isNone)) = false := by rfl) :
    PEm X (.Call (.Name x p) [] kws pos) (callKM f perm nilA mk) :=
  let ⟨_, _, h1, h2, h3, h4⟩ := F
  m_callK0 h4 hr hg h2 h1.kp (FnD.kb h1 hb) hkw hl2 hp hall hks hdb hpl
end
end Pm
namespace Pm
open PySem PySem.Spec PyProof.Rows L2
/-! ### where the built-ins stand -/
theorem bt_abs : bootBuiltins "abs" = some (.builtin "abs") := by decide +kernel
theorem bt_len : bootBuiltins "len" = some (.builtin "len") := by decide +kernel
theorem bt_sum : bootBuiltins "sum" = some (.builtin "sum") := by decide +kernel
theorem bt_all : bootBuiltins "all" = some (.builtin "all") := by decide +kernel
theorem bt_any : bootBuiltins "any" = some (.builtin "any") := by decide +kernel
theorem bt_min : bootBuiltins "min" = some (.builtin "min") := by decide +kernel
theorem bt_max : bootBuiltins "max" = some (.builtin "max") := by decide +kernel
theorem bt_sorted : bootBuiltins "sorted" = some (.builtin "sorted") := by decide +kernel
theorem bt_int : bootBuiltins "int" = some (.type "int") := by decide +kernel
theorem bt_bool : bootBuiltins "bool" = some (.type "bool") := by decide +kernel
theorem bt_str : bootBuiltins "str" = some (.type "str") := by decide +kernel
theorem bt_list : bootBuiltins "list" = some (.type "list") := by decide +kernel
theorem bt_tuple : bootBuiltins "tuple" = some (.type "tuple") := by decide +kernel
theorem bt_set : bootBuiltins "set" = some (.type "set") := by decide +kernel
end Pm

/-! Core9: the law's call from its run; a def's place from the head's facts. -/
namespace Pm
open PySem PySem.Spec PyProof.Rows L2
def G.none : G := ⟨[], fun _ => False, fun _ h => by cases h⟩
theorem law_sp {K : PySem.W.Frag} {f : Fn} {ns : List Int} {H : Hp} {a : Addr} (hS : SqL K H a (ns.map V.int)) {st' : Store} (h : f [.scr ns] [] = .ok (.p (.bl true), st')) {E : XK} : spM K f 1 [.ref a] H (fun v _ => v = .bl true) E := by
  refine ⟨rfl, G.none, [], [.scr ns], _, st', .cons ?_ .nil, ⟨rfl, fun n c e => by simp at e, fun n a e => by simp [G.none] at e, fun n m a e => by simp [G.none] at e, fun a e => e.elim⟩, h, fun g' v H' _ _ r => rwBl_inv r⟩
  refine ⟨a, rfl, ?_⟩
  rcases hS with (h | ⟨o, h⟩) | h
  · exact .inl ⟨_, fun z => z, h, .inl rfl⟩
  · exact .inl ⟨_, fun z => z, h, .inr ⟨o, rfl⟩⟩
  · exact .inr fun H1 => .inr h
/-- a def of the top as a datum of the head -/
def dOf (st : Stmt) (x : Str) : He.DefD := ⟨(x, Option.none), x, x, defArgs st, defBody st, defScope st, [], []⟩
theorem has_of {fa : List He.Fa} {fn : List He.DefD} {K : PySem.W.Frag} {h : Heap} {mg : Str → Option Value} (X : K.In h) (Gn : h.Ns mainGlobals mg) (c : He.SaysD fa fn K) {x : Str} {st : Stmt} {ps : List Str} (i j : Nat) (hi : fn[i]? = some (dOf st x) := by rfl) (hj : fa[j]? = some (.glo x) := by rfl)
    (b : ∀ (kV doc pm : Value) (an : Option Addr) (cdv ct : Value) (us : List Value), us.length = ps.length → bindArgs (PySem.W.fnOf x x (defArgs st) (defBody st) (defScope st) .none kV doc pm an cdv ct) ⟨us, []⟩ = pure (ps.zip us)) : Has K mg x st ps := by
  obtain ⟨fd, F⟩ := c.def_ i (d := dOf st x) hi
  exact ⟨_, fd, F, He.glo_ok X Gn (c.fact j (f := .glo x) hj), FunD.bindsN F b⟩
end Pm

/-! Core10: constants of the module. -/
namespace Pm
open PySem PySem.Spec PyProof.Rows L2
theorem m_glob {X : Cx} {x : Str} {i : Int} {pos : Pos} (hg : Gl X x) (hm : ∃ t, X.mg x = some (.int i t)) (hd : (x == ("__debug__" : Str)) = false := by decide) : PEm X (.Name x pos) (constM (.int i)) := by
  obtain ⟨t, hm⟩ := hm
  exact m_const (v := .int i) (pe_glob hg hm ⟨t, rfl⟩ hd) fun _ _ => repInt i
/-! ### x in l, l.count(x), l.index(x): lists and tuples of data of any depth -/
section
variable {X : Cx}
def rInDT (K : PySem.W.Frag) : R2 := fun x y H Q => ∃ d ds, Dp K H x d ∧ Dp K H y (.tuple ds) ∧ SeqAt.shaped d = true ∧ SeqAt.shaped (.tuple ds) = true ∧ Q (.bl (ds.any fun z => PyData.eqv z d)) H
def rNotInDT (K : PySem.W.Frag) : R2 := fun x y H Q => ∃ d ds, Dp K H x d ∧ Dp K H y (.tuple ds) ∧ SeqAt.shaped d = true ∧ SeqAt.shaped (.tuple ds) = true ∧ Q (.bl (!ds.any fun z => PyData.eqv z d)) H
theorem room_in_shapedT {d : PyData} {ds : List PyData} {u c : Nat} (h : SeqAt.shaped d = true) (hu : u + 65 < c) : u + 1 + min (PyData.depthAll ds) d.depth < c := by
  have : d.depth ≤ 64 := by
    unfold SeqAt.shaped at h
    rw [Bool.and_eq_true, decide_eq_true_eq] at h
    exact h.2
  omega
theorem op_inDT (hu : X.A.units + 65 < cLine) : OpR X (compareOp .In) (rInDT X.K) := by
  intro pins s σ H x y v u Q I rx ry h
  obtain ⟨d, ds, hd, he, sd, se, q⟩ := h
  obtain ⟨as, r1⟩ := Dp.reads I d x v hd rx
  obtain ⟨bs, r2⟩ := Dp.reads I (.tuple ds) y u he ry
  exact SeqAt.in_tuple_reads r2 r1 (SeqAt.canLay_of_shaped se) (SeqAt.canLay_of_shaped sd) (room_in_shapedT sd hu) ⟨.bl _, H, I, rfl, q⟩
theorem op_notInDT (hu : X.A.units + 65 < cLine) : OpR X (compareOp .NotIn) (rNotInDT X.K) := by
  intro pins s σ H x y v u Q I rx ry h
  obtain ⟨d, ds, hd, he, sd, se, q⟩ := h
  obtain ⟨as, r1⟩ := Dp.reads I d x v hd rx
  obtain ⟨bs, r2⟩ := Dp.reads I (.tuple ds) y u he ry
  exact SeqAt.notIn_tuple_reads r2 r1 (SeqAt.canLay_of_shaped se) (SeqAt.canLay_of_shaped sd) (room_in_shapedT sd hu) ⟨.bl _, H, I, rfl, q⟩
/-- a list's or a tuple's items -/
def seqD : D → Option (List D)
  | .lst ds => some ds
  | .tup ds => some ds
  | _ => none
def inF (a b : W) (st : Store) : R (W × Store) := match plainW st a, plainW st b with
  | some d, some e => match seqD e with
    | some ds => if okD 60 d && okD 60 e then .ok (.p (.bl (ds.any fun z => eqD z d)), st) else .stuck
    | none => .stuck
  | _, _ => .stuck
def ninF (a b : W) (st : Store) : R (W × Store) := match plainW st a, plainW st b with
  | some d, some e => match seqD e with
    | some ds => if okD 60 d && okD 60 e then .ok (.p (.bl (!ds.any fun z => eqD z d)), st) else .stuck
    | none => .stuck
  | _, _ => .stuck
theorem any_py (ds : List D) (d : D) : (toPys ds).any (fun z => PyData.eqv z (toPy d)) = ds.any fun z => eqD z d := by
  induction ds with
  | nil => simp [toPys]
  | cons x xs ih => simp only [toPys, List.any_cons]; rw [ih, eqD_py]
theorem o_in (hu : X.A.units + 65 < cLine) : OpR X (compareOp .In) (r2M X.K inF) := by
  refine OpR.imp (OpR.or (op_inD hu) (op_inDT hu)) fun x y H Q ⟨g, st, a, b, w, st', ra, rb, S, e, k⟩ => ?_
  unfold inF at e
  split at e
  · rename_i d e' hd he
    split at e
    · rename_i ds hds
      split at e
      · rename_i hz
        cases e
        rw [Bool.and_eq_true] at hz
        have h1 := plainW_rep S ra hd
        have h2 := plainW_rep S rb he
        have s1 := okD_shaped hz.1
        have s2 := okD_shaped hz.2
        have q := k g _ H (Stp.refl g H) S (rwBl _)
        cases e' with
        | lst es => cases hds; simp only [toPy] at h2 s2; exact .inl ⟨_, _, h1, h2, s1, s2, by rw [any_py]; exact q⟩
        | tup es => cases hds; simp only [toPy] at h2 s2; exact .inr ⟨_, _, h1, h2, s1, s2, by rw [any_py]; exact q⟩
        | _ => cases hds
      · cases e
    · cases e
  · cases e
theorem o_nin (hu : X.A.units + 65 < cLine) : OpR X (compareOp .NotIn) (r2M X.K ninF) := by
  refine OpR.imp (OpR.or (op_notInD hu) (op_notInDT hu)) fun x y H Q ⟨g, st, a, b, w, st', ra, rb, S, e, k⟩ => ?_
  unfold ninF at e
  split at e
  · rename_i d e' hd he
    split at e
    · rename_i ds hds
      split at e
      · rename_i hz
        cases e
        rw [Bool.and_eq_true] at hz
        have h1 := plainW_rep S ra hd
        have h2 := plainW_rep S rb he
        have s1 := okD_shaped hz.1
        have s2 := okD_shaped hz.2
        have q := k g _ H (Stp.refl g H) S (rwBl _)
        cases e' with
        | lst es => cases hds; simp only [toPy] at h2 s2; exact .inl ⟨_, _, h1, h2, s1, s2, by rw [any_py]; exact q⟩
        | tup es => cases hds; simp only [toPy] at h2 s2; exact .inr ⟨_, _, h1, h2, s1, s2, by rw [any_py]; exact q⟩
        | _ => cases hds
      · cases e
    · cases e
  · cases e
end
end Pm

/-! Core11: x.count(y), x.index(y), x a list or a tuple. -/
namespace Pm
open PySem PySem.Spec PyProof.Rows L2
/-- a method of a list or of a tuple, by what the object is -/
def tBM2 (K : PySem.W.Frag) (rL rT : V → List V → Hp → VK → Prop) (to : TE) (t : TA) : TE := fun σ H Q => to σ H fun x H1 =>
  ((∃ p xs, x = .ref p ∧ SqL K H1 p xs) ∧ t σ H1 fun xs H2 => rL x xs H2 Q) ∨ ((∃ p xs, x = .ref p ∧ HTup H1 p xs) ∧ t σ H1 fun xs H2 => rT x xs H2 Q)
theorem pe_bm2 {X : Cx} {o e : Expr} {es : List Expr} {to : TE} {t : TA} {name : Str} {apos cpos : Pos} {idL idT : String} {rL rT : V → List V → Hp → VK → Prop} (slotL : Slot "list" name idL) (htyL : typeOf (.builtin idL) = pure (.type "method_descriptor")) (hL : MtR X idL rL)
    (slotT : Slot "tuple" name idT) (htyT : typeOf (.builtin idT) = pure (.type "method_descriptor")) (hT : MtR X idT rT) (ho : PE X o to) (ha : PA X (e :: es) t)
    (hbase : attributeBase o name X.env (eval o X.env) = eval o X.env := by rfl)
    (hfew : ((backTo cpos (starEach (e :: es) X.env)).all (fun x => !x.1) && (backToKw cpos (keywordEach [] X.env)).all (fun x => x.1.isSome)
      && decide ((e :: es).length + ([] : List Keyword).length + (if ([] : List Keyword).isEmpty then 0 else 1) < 30)) = true := by rfl)
    (hline : (apos.endLine == cpos.line) = true := by rfl) (hs : starEach (e :: es) X.env = (false, eval e X.env) :: starEach es X.env := by rfl) (hplain : (backTo cpos (starEach es X.env)).any (·.1) = false := by rfl) :
    PE X (.Call (.Attribute o name apos) (e :: es) [] cpos) (tBM2 X.K rL rT to t) := by
  refine ⟨fun pins s σ H Q I h => ?_⟩
  refine wpAny_Call_method_late hbase hfew hline rfl (thn (ho.run pins s σ H _ I h) fun v s1 ⟨x, H1, I1, r1, q1⟩ => ?_)
  rcases q1 with ⟨⟨p, xs, rfl, hq⟩, q1⟩ | ⟨⟨p, xs, rfl, hq⟩, q1⟩
  · obtain ⟨h1, h2⟩ := tyV_is (T := "list") I1 r1 (.inl ⟨rfl, xs, hq⟩)
    refine ⟨"list", idL, PySem.F.plainAttrs_list, slotL, htyL, h1, h2, ?_⟩
    have hA := ha.run cpos pins s1 σ H1 _ I1 q1
    rw [hs] at hA ⊢
    refine Calls.callWith_builtin (by show (false || (backTo cpos (starEach es X.env)).any (·.1)) = false; rw [hplain] <;> rfl) (Calls.evalArgs_plain ?_)
    exact thn hA fun us s2 ⟨vs, H2, I2, r2, q2⟩ => hL pins s2 σ H2 _ vs v us Q I2 r1 r2 q2
  · have r1' := r1
    cases r1'
    obtain ⟨its, _, pl, _⟩ := I1.tuple (hq.sqt (K := X.K))
    obtain ⟨ob, h0, hf⟩ := hq
    have hob := (show ObjOk X.prog X.w H1 s1.heap p (.frz ob (.tup xs)) from I1.hok p _ hf).1
    refine ⟨"tuple", idT, PySem.F.plainAttrs_tuple, slotT, htyT, ?_, ?_, ?_⟩
    · obtain ⟨o, e, c, _⟩ := pl
      exact ⟨o, e, c⟩
    · intro a e
      cases e
      exact ⟨ob, hob, h0⟩
    · have hA := ha.run cpos pins s1 σ H1 _ I1 q1
      rw [hs] at hA ⊢
      refine Calls.callWith_builtin (by show (false || (backTo cpos (starEach es X.env)).any (·.1)) = false; rw [hplain] <;> rfl) (Calls.evalArgs_plain ?_)
      exact thn hA fun us s2 ⟨vs, H2, I2, r2, q2⟩ => hT pins s2 σ H2 _ vs _ us Q I2 r1 r2 q2
section
variable {X : Cx}
def rCntL (K : PySem.W.Frag) : V → List V → Hp → VK → Prop := fun x xs H Q => ∃ (y : V) (d : PyData) (ds : List PyData), xs = [y] ∧ Dp K H x (.list ds) ∧ Dp K H y d ∧
  SeqAt.shaped (.list ds) = true ∧ SeqAt.shaped d = true ∧ Q (.int ((ds.countP fun z => PyData.eqv z d : Nat) : Int)) H
def rCntT (K : PySem.W.Frag) : V → List V → Hp → VK → Prop := fun x xs H Q => ∃ (y : V) (d : PyData) (ds : List PyData), xs = [y] ∧ Dp K H x (.tuple ds) ∧ Dp K H y d ∧
  SeqAt.shaped (.tuple ds) = true ∧ SeqAt.shaped d = true ∧ Q (.int ((ds.countP fun z => PyData.eqv z d : Nat) : Int)) H
theorem cnt_at {h : Heap} {ds : List PyData} {its : List Value} {as : List Addr} {d : PyData} (h4 : ReadsAll h its ds as) (hxs : PyData.canLayAll0 ds = true) : its.countP (fun y => PyData.eqv (SeqAt.readOf h y) d) = ds.countP fun y => PyData.eqv y d := by
  rw [← SeqAt.readsAll_map ds its as hxs h4, List.countP_map]
  rfl
theorem mt_cntL (hu : X.A.units + 65 < cLine) : MtR X "list.count" (rCntL X.K) := by
  intro pins s σ H x xs v us Q I rx rxs h
  obtain ⟨y, d, ds, rfl, hl, hy, sl, sd, q⟩ := h
  cases rxs with
  | cons ry rt =>
    rename_i uy ut
    cases rt
    obtain ⟨bs, r1⟩ := Dp.reads I d y uy hy ry
    have hxs : PyData.canLayAll0 ds = true := SeqAt.canLay_of_shaped sl
    have hroom : X.A.units + 1 + min (PyData.depthAll ds) d.depth < cLine := room_in_shaped sd hu
    cases hl with
    | lst hs ha =>
      cases rx
      obtain ⟨its, rv, ⟨⟨cls, dd, data, sls⟩, n, ho, hc, hdn, hdt⟩, hlen⟩ := I.list hs
      simp only at hc hdt
      subst hc hdt
      obtain ⟨as, h4⟩ := Dp.readsAll I ds _ its ha rv
      refine call_meets PySem.F.slot_list_count ⟨_, ho, rfl⟩ PySem.F.entry_list_count (PySem.F.args_list_count_2 _ _)
        (SeqAt.list_countAt _ its.toArray n dd sls uy (fun u => PyData.eqv (SeqAt.readOf s.heap u) d)) ⟨ho, SeqAt.items_eqAt (vs := its.toArray) (show ReadsAll s.heap its.toArray.toList ds as from h4) r1 hxs (SeqAt.canLay_of_shaped sd) hroom, ?_⟩
      rw [← cnt_at (d := d) h4 hxs] at q
      exact ⟨.int _, H, I.tok _, ⟨_, rfl⟩, q⟩
theorem mt_cntT (hu : X.A.units + 65 < cLine) : MtR X "tuple.count" (rCntT X.K) := by
  intro pins s σ H x xs v us Q I rx rxs h
  obtain ⟨y, d, ds, rfl, hl, hy, sl, sd, q⟩ := h
  cases rxs with
  | cons ry rt =>
    rename_i uy ut
    cases rt
    obtain ⟨bs, r1⟩ := Dp.reads I d y uy hy ry
    have hxs : PyData.canLayAll0 ds = true := SeqAt.canLay_of_shaped sl
    have hroom : X.A.units + 1 + min (PyData.depthAll ds) d.depth < cLine := room_in_shapedT sd hu
    cases hl with
    | tup hs ha =>
      cases rx
      obtain ⟨its, rv, ⟨⟨cls, dd, data, sls⟩, ho, hc, n, hdt⟩, hlen⟩ := I.tuple hs
      simp only at hc hdt
      subst hc hdt
      obtain ⟨as, h4⟩ := Dp.readsAll I ds _ its ha rv
      refine call_meets PySem.F.slot_tuple_count ⟨_, ho, rfl⟩ PySem.F.entry_tuple_count (PySem.F.args_tuple_count_2 _ _)
        (SeqAt.tuple_countAt _ its.toArray n dd sls uy (fun u => PyData.eqv (SeqAt.readOf s.heap u) d)) ⟨ho, SeqAt.items_eqAt (vs := its.toArray) (show ReadsAll s.heap its.toArray.toList ds as from h4) r1 hxs (SeqAt.canLay_of_shaped sd) hroom, ?_⟩
      rw [← cnt_at (d := d) h4 hxs] at q
      exact ⟨.int _, H, I.tok _, ⟨_, rfl⟩, q⟩
/-- t.index(x): the first place of an equal one -/
def rIdxT (K : PySem.W.Frag) : V → List V → Hp → VK → Prop := fun x xs H Q => ∃ (y : V) (d : PyData) (ds : List PyData) (j : Nat) (z : PyData), xs = [y] ∧ Dp K H x (.tuple ds) ∧ Dp K H y d ∧
  SeqAt.shaped (.tuple ds) = true ∧ SeqAt.shaped d = true ∧ ds[j]? = some z ∧ PyData.eqv z d = true ∧ (∀ (m : Nat) (z' : PyData), m < j → ds[m]? = some z' → PyData.eqv z' d = false) ∧ Q (.int (j : Nat)) H
theorem mt_idxT (hu : X.A.units + 65 < cLine) : MtR X "tuple.index" (rIdxT X.K) := by
  intro pins s σ H x xs v us Q I rx rxs h
  obtain ⟨y, d, ds, j, z, rfl, hl, hy, sl, sd, hz, hzj, hno, q⟩ := h
  cases rxs with
  | cons ry rt =>
    rename_i uy ut
    cases rt
    obtain ⟨bs, r1⟩ := Dp.reads I d y uy hy ry
    have hxs : PyData.canLayAll0 ds = true := SeqAt.canLay_of_shaped sl
    have hroom : X.A.units + 1 + min (PyData.depthAll ds) d.depth < cLine := room_in_shapedT sd hu
    cases hl with
    | tup hs ha =>
      cases rx
      obtain ⟨its, rv, ⟨⟨cls, dd, data, sls⟩, ho, hc, n, hdt⟩, hlen⟩ := I.tuple hs
      simp only at hc hdt
      subst hc hdt
      obtain ⟨as, h4⟩ := Dp.readsAll I ds _ its ha rv
      have hn : its.length = ds.length := SeqAt.ReadsAll.length ds its as h4
      have hmap : its.map (SeqAt.readOf s.heap) = ds := SeqAt.readsAll_map ds its as hxs h4
      obtain ⟨hjd, _⟩ := List.getElem?_eq_some_iff.mp hz
      have hjl : j < its.length := by omega
      have hj : j < its.toArray.size := by simpa using hjl
      have at_ : ∀ (m : Nat) (hm : m < its.toArray.size) (z' : PyData), ds[m]? = some z' → SeqAt.readOf s.heap its.toArray[m] = z' := by
        intro m hm z' hz'
        have hml : m < its.length := by simpa using hm
        rw [← hmap, List.getElem?_map, List.getElem?_eq_getElem hml] at hz'
        have e1 : SeqAt.readOf s.heap its[m] = z' := Option.some.inj (show some (SeqAt.readOf s.heap its[m]) = some z' from hz')
        simpa using e1
      refine call_meets PySem.F.slot_tuple_index ⟨_, ho, rfl⟩ PySem.F.entry_tuple_index (PySem.F.args_tuple_index_2 _ _)
        (TI.tuple_indexAt _ its.toArray n dd sls uy (fun u => PyData.eqv (SeqAt.readOf s.heap u) d) j hj ?_ ?_) ⟨ho, SeqAt.items_eqAt (vs := its.toArray) (show ReadsAll s.heap its.toArray.toList ds as from h4) r1 hxs (SeqAt.canLay_of_shaped sd) hroom, ?_⟩
      · show PyData.eqv (SeqAt.readOf s.heap its.toArray[j]) d = true
        rw [at_ j hj z hz]
        exact hzj
      · intro m hm hmj
        have hmd : m < ds.length := by omega
        have hz' : ds[m]? = some ds[m] := List.getElem?_eq_getElem hmd
        show PyData.eqv (SeqAt.readOf s.heap its.toArray[m]) d = false
        rw [at_ m hm _ hz']
        exact hno m _ hmj hz'
      · exact ⟨.int (j : Nat), H, I.tok _, ⟨_, rfl⟩, q⟩
/-! the runs -/
def seqOf (st : Store) (w : W) : Option (List D) := match plainW st w with
  | some (.lst ds) => some ds
  | some (.tup ds) => some ds
  | _ => none
def methM (f : W → W → Store → R (W × Store)) (ma mb : ME) : ME := fun sl st => (ma sl st).bind fun x => match seqOf x.2 x.1 with
  | some _ => (mb sl x.2).bind fun y => f x.1 y.1 y.2
  | none => .stuck
def cntF (a b : W) (st : Store) : R (W × Store) := match plainW st a, plainW st b with
  | some (.lst ds), some d => if okD 60 d && okD 60 (.lst ds) then .ok (.p (.int ((ds.countP fun z => eqD z d : Nat) : Int)), st) else .stuck
  | some (.tup ds), some d => if okD 60 d && okD 60 (.tup ds) then .ok (.p (.int ((ds.countP fun z => eqD z d : Nat) : Int)), st) else .stuck
  | _, _ => .stuck
def idxF (a b : W) (st : Store) : R (W × Store) := match plainW st a, plainW st b with
  | some (.lst ds), some d => if okD 60 d && okD 60 (.lst ds) then (match ds.findIdx? (fun z => eqD z d) with | some j => .ok (.p (.int (j : Nat)), st) | none => .stuck) else .stuck
  | some (.tup ds), some d => if okD 60 d && okD 60 (.tup ds) then (match ds.findIdx? (fun z => eqD z d) with | some j => .ok (.p (.int (j : Nat)), st) | none => .stuck) else .stuck
  | _, _ => .stuck
theorem seqOf_kind {K : PySem.W.Frag} {H : Hp} {g : G} {st : Store} {w : W} {v : V} {ds : List D} (S : RepSt H g st) (r : RepW K H g w v) (h : seqOf st w = some ds) :
    (∃ p xs, v = .ref p ∧ SqL K H p xs ∧ ∀ st' es, plainW st' w ≠ some (.tup es)) ∨ (∃ p xs, v = .ref p ∧ HTup H p xs ∧ ∀ st' es, plainW st' w ≠ some (.lst es)) := by
  unfold seqOf at h
  cases w with
  | scr n => cases h
  | loc n =>
    cases hc : cellL st n with
    | none => 
      have e : plainW st (.loc n) = none := by show (cellL st n).map D.lst = none; rw [hc]; rfl
      rw [e] at h; cases h
    | some es =>
      obtain ⟨u, q1, q2⟩ := r
      obtain ⟨a, vs, h3, h4, h5⟩ := cellL_rep S hc
      rw [q1] at h3
      cases h3
      refine .inl ⟨a, vs, q2 a rfl, .inl (.inl h4), fun st' es z => ?_⟩
      have z : (cellL st' n).map D.lst = some (.tup es) := z
      cases hc' : cellL st' n with
      | none => rw [hc'] at z; cases z
      | some _ => rw [hc'] at z; cases z
  | p d =>
    cases d with
    | lst es =>
      obtain ⟨a, vs, rfl, hn, ha, hr⟩ := rwLst_inv r
      exact .inl ⟨a, vs, rfl, .inl (.inl ha), fun st' es z => by cases z⟩
    | tup es =>
      obtain ⟨a, vs, rfl, hn, ha, hr⟩ := rwTup_inv r
      exact .inr ⟨a, vs, rfl, ha, fun st' es z => by cases z⟩
    | _ => cases h
theorem cnt_py (ds : List D) (d : D) : (toPys ds).countP (fun z => PyData.eqv z (toPy d)) = ds.countP fun z => eqD z d := by
  induction ds with
  | nil => simp [toPys]
  | cons x xs ih => simp only [toPys, List.countP_cons, eqD_py, ih]
theorem toPys_get : ∀ (ds : List D) (j : Nat), (toPys ds)[j]? = (ds[j]?).map toPy
  | [], j => by simp [toPys]
  | d :: ds, 0 => by simp [toPys]
  | d :: ds, j + 1 => by simp only [toPys, List.getElem?_cons_succ]; exact toPys_get ds j
theorem idx_py {ds : List D} {d : D} {j : Nat} (h : ds.findIdx? (fun z => eqD z d) = some j) : ∃ z, (toPys ds)[j]? = some z ∧ PyData.eqv z (toPy d) = true ∧ ∀ (m : Nat) (z' : PyData), m < j → (toPys ds)[m]? = some z' → PyData.eqv z' (toPy d) = false := by
  obtain ⟨h1, h2, h3⟩ := List.findIdx?_eq_some_iff_getElem.mp h
  refine ⟨toPy ds[j], by rw [toPys_get, List.getElem?_eq_getElem h1]; rfl, by rw [eqD_py]; exact h2, fun m z' hm hz => ?_⟩
  rw [toPys_get, List.getElem?_eq_getElem (by omega)] at hz
  cases hz
  have := h3 m hm
  rw [eqD_py]
  simpa using this
theorem m_count {o e : Expr} {mo me : ME} {apos cpos : Pos} (hu : X.A.units + 65 < cLine) (ho : PEm X o mo) (ha : PEm X e me)
    (hbase : attributeBase o "count" X.env (eval o X.env) = eval o X.env := by rfl)
    (hfew : ((backTo cpos (starEach [e] X.env)).all (fun x => !x.1) && (backToKw cpos (keywordEach [] X.env)).all (fun x => x.1.isSome)
      && decide ([e].length + ([] : List Keyword).length + (if ([] : List Keyword).isEmpty then 0 else 1) < 30)) = true := by rfl)
    (hline : (apos.endLine == cpos.line) = true := by rfl) (hs : starEach [e] X.env = (false, eval e X.env) :: starEach [] X.env := by rfl) : PEm X (.Call (.Attribute o "count" apos) [e] [] cpos) (methM cntF mo me) := by
  refine pe_w (pe_bm2 PySem.F.slot_list_count PySem.F.type_list_count (mt_cntL hu) PySem.F.slot_tuple_count PySem.F.type_tuple_count (mt_cntT hu) ho (pa_cons ha pa_nil hs) hbase hfew hline hs rfl) fun σ H Q ⟨g, sl, st, w, st', hs, ht, e, k⟩ => ?_
  obtain ⟨⟨x, st1⟩, h1, e⟩ := R.bind_inv e
  refine ⟨g, sl, st, x, st1, hs, ht, h1, fun g1 v1 H1 s1 t1 r1 => ?_⟩
  dsimp only at e
  split at e
  · rename_i es hes
    obtain ⟨⟨y, st2⟩, h2, e⟩ := R.bind_inv e
    rcases seqOf_kind t1 r1 hes with ⟨p, xs, rfl, hq, hn⟩ | ⟨p, xs, rfl, hq, hn⟩
    · refine .inl ⟨⟨p, xs, rfl, hq⟩, g1, sl, st1, y, st2, hs.mono s1, t1, h2, fun g2 v2 H2 s2 t2 r2 => ?_⟩
      dsimp only at e
      unfold cntF at e
      split at e
      · rename_i ds d hd he
        split at e
        · rename_i hz
          cases e
          rw [Bool.and_eq_true] at hz
          have q1 := plainW_rep t2 (r1.mono s2) hd
          have q2 := plainW_rep t2 r2 he
          have z2 := okD_shaped hz.2
          simp only [toPy] at q1 z2
          refine ⟨v2, toPy d, toPys ds, rfl, q1, q2, z2, okD_shaped hz.1, ?_⟩
          rw [cnt_py]
          exact k g2 _ H2 (s1.trans s2) t2 (rwInt _)
        · cases e
      · rename_i ds d hd he; exact absurd hd (hn _ _)
      · cases e
    · refine .inr ⟨⟨p, xs, rfl, hq⟩, g1, sl, st1, y, st2, hs.mono s1, t1, h2, fun g2 v2 H2 s2 t2 r2 => ?_⟩
      dsimp only at e
      unfold cntF at e
      split at e
      · rename_i ds d hd he; exact absurd hd (hn _ _)
      · rename_i ds d hd he
        split at e
        · rename_i hz
          cases e
          rw [Bool.and_eq_true] at hz
          have q1 := plainW_rep t2 (r1.mono s2) hd
          have q2 := plainW_rep t2 r2 he
          have z2 := okD_shaped hz.2
          simp only [toPy] at q1 z2
          refine ⟨v2, toPy d, toPys ds, rfl, q1, q2, z2, okD_shaped hz.1, ?_⟩
          rw [cnt_py]
          exact k g2 _ H2 (s1.trans s2) t2 (rwInt _)
        · cases e
      · cases e
  · cases e
theorem m_index {o e : Expr} {mo me : ME} {apos cpos : Pos} (hu : X.A.units + 65 < cLine) (ho : PEm X o mo) (ha : PEm X e me)
    (hbase : attributeBase o "index" X.env (eval o X.env) = eval o X.env := by rfl)
    (hfew : ((backTo cpos (starEach [e] X.env)).all (fun x => !x.1) && (backToKw cpos (keywordEach [] X.env)).all (fun x => x.1.isSome)
      && decide ([e].length + ([] : List Keyword).length + (if ([] : List Keyword).isEmpty then 0 else 1) < 30)) = true := by rfl)
    (hline : (apos.endLine == cpos.line) = true := by rfl) (hs : starEach [e] X.env = (false, eval e X.env) :: starEach [] X.env := by rfl) : PEm X (.Call (.Attribute o "index" apos) [e] [] cpos) (methM idxF mo me) := by
  refine pe_w (pe_bm2 PySem.F.slot_list_index PySem.F.type_list_index (mt_indexD hu) PySem.F.slot_tuple_index PySem.F.type_tuple_index (mt_idxT hu) ho (pa_cons ha pa_nil hs) hbase hfew hline hs rfl) fun σ H Q ⟨g, sl, st, w, st', hs, ht, e, k⟩ => ?_
  obtain ⟨⟨x, st1⟩, h1, e⟩ := R.bind_inv e
  refine ⟨g, sl, st, x, st1, hs, ht, h1, fun g1 v1 H1 s1 t1 r1 => ?_⟩
  dsimp only at e
  split at e
  · rename_i es hes
    obtain ⟨⟨y, st2⟩, h2, e⟩ := R.bind_inv e
    rcases seqOf_kind t1 r1 hes with ⟨p, xs, rfl, hq, hn⟩ | ⟨p, xs, rfl, hq, hn⟩
    · refine .inl ⟨⟨p, xs, rfl, hq⟩, g1, sl, st1, y, st2, hs.mono s1, t1, h2, fun g2 v2 H2 s2 t2 r2 => ?_⟩
      dsimp only at e
      unfold idxF at e
      split at e
      · rename_i ds d hd he
        split at e
        · rename_i hz
          split at e
          · rename_i j hj
            cases e
            rw [Bool.and_eq_true] at hz
            have q1 := plainW_rep t2 (r1.mono s2) hd
            have q2 := plainW_rep t2 r2 he
            have z2 := okD_shaped hz.2
            simp only [toPy] at q1 z2
            obtain ⟨z, i1, i2, i3⟩ := idx_py hj
            exact ⟨p, v2, toPy d, toPys ds, j, z, rfl, rfl, q1, q2, z2, okD_shaped hz.1, i1, i2, i3, k g2 _ H2 (s1.trans s2) t2 (rwInt _)⟩
          · cases e
        · cases e
      · rename_i ds d hd he; exact absurd hd (hn _ _)
      · cases e
    · refine .inr ⟨⟨p, xs, rfl, hq⟩, g1, sl, st1, y, st2, hs.mono s1, t1, h2, fun g2 v2 H2 s2 t2 r2 => ?_⟩
      dsimp only at e
      unfold idxF at e
      split at e
      · rename_i ds d hd he; exact absurd hd (hn _ _)
      · rename_i ds d hd he
        split at e
        · rename_i hz
          split at e
          · rename_i j hj
            cases e
            rw [Bool.and_eq_true] at hz
            have q1 := plainW_rep t2 (r1.mono s2) hd
            have q2 := plainW_rep t2 r2 he
            have z2 := okD_shaped hz.2
            simp only [toPy] at q1 z2
            obtain ⟨z, i1, i2, i3⟩ := idx_py hj
            exact ⟨v2, toPy d, toPys ds, j, z, rfl, q1, q2, z2, okD_shaped hz.1, i1, i2, i3, k g2 _ H2 (s1.trans s2) t2 (rwInt _)⟩
          · cases e
        · cases e
      · cases e
  · cases e
end
end Pm

/-! Core12: sorted, min and max of data; o[i] op= e; list(range(..)). -/
namespace Pm
open PySem PySem.Spec PyProof.Rows L2
open PySem.W (dataLt alike alikeAll keyToks keyToksAll AllAlike Sortable EachIs dataLe dataLt_int dataLt_str dataLt_bool dataLt_list dataLt_tuple dataLt_cons AlikeAll)
/-! ### order on plain data -/
mutual
def ltD : D → D → Bool
  | .int i, .int j => decide (i < j)
  | .str s, .str t => decide (s.cps.toList < t.cps.toList)
  | .tup xs, .tup ys => ltDs xs ys
  | .lst xs, .lst ys => ltDs xs ys
  | _, _ => false
def ltDs : List D → List D → Bool
  | [], [] => false
  | [], _ :: _ => true
  | _ :: _, [] => false
  | x :: xs, y :: ys => if eqD x y then ltDs xs ys else ltD x y
end
mutual
def alD : D → D → Bool
  | .int _, .int _ => true
  | .str _, .str _ => true
  | .tup xs, .tup ys => alDs xs ys
  | .lst xs, .lst ys => alDs xs ys
  | _, _ => false
def alDs : List D → List D → Bool
  | x :: xs, y :: ys => alD x y && alDs xs ys
  | [], _ => true
  | _ :: _, [] => true
end
mutual
theorem alD_py : ∀ (x y : D), alD x y = true → alike (toPy x) (toPy y) = true ∧ toPy x ≠ .none
  | .int _, .int _, _ => by simp [toPy, alike]
  | .str _, .str _, _ => by simp [toPy, alike]
  | .tup xs, .tup ys, h => by simp only [alD] at h; simp only [toPy, alike]; exact ⟨alDs_py xs ys h, fun e => by cases e⟩
  | .lst xs, .lst ys, h => by simp only [alD] at h; simp only [toPy, alike]; exact ⟨alDs_py xs ys h, fun e => by cases e⟩
  | .non, _, h | .bl _, _, h => by simp [alD] at h
  | .int _, .non, h | .int _, .bl _, h | .int _, .str _, h | .int _, .tup _, h | .int _, .lst _, h => by simp [alD] at h
  | .str _, .non, h | .str _, .bl _, h | .str _, .int _, h | .str _, .tup _, h | .str _, .lst _, h => by simp [alD] at h
  | .tup _, .non, h | .tup _, .bl _, h | .tup _, .int _, h | .tup _, .str _, h | .tup _, .lst _, h => by simp [alD] at h
  | .lst _, .non, h | .lst _, .bl _, h | .lst _, .int _, h | .lst _, .str _, h | .lst _, .tup _, h => by simp [alD] at h
theorem alDs_py : ∀ (xs ys : List D), alDs xs ys = true → alikeAll (toPys xs) (toPys ys) = true
  | x :: xs, y :: ys, h => by
    simp only [alDs, Bool.and_eq_true] at h
    simp only [toPys, alikeAll, Bool.and_eq_true]
    exact ⟨(alD_py x y h.1).1, alDs_py xs ys h.2⟩
  | [], ys, _ => by simp only [toPys, alikeAll]
  | _ :: _, [], _ => by simp only [toPys, alikeAll]
end
mutual
theorem ltD_py : ∀ (x y : D), alD x y = true → dataLt (toPy x) (toPy y) = ltD x y
  | .int i, .int j, _ => by simp only [toPy, ltD]; exact dataLt_int i j
  | .str i, .str j, _ => by simp only [toPy, ltD]; exact dataLt_str i j
  | .tup xs, .tup ys, h => by simp only [alD] at h; simp only [toPy, ltD]; exact (dataLt_tuple _ _).trans (ltDs_py xs ys h)
  | .lst xs, .lst ys, h => by simp only [alD] at h; simp only [toPy, ltD]; exact (dataLt_list _ _).trans (ltDs_py xs ys h)
  | .non, _, h | .bl _, _, h => by simp [alD] at h
  | .int _, .non, h | .int _, .bl _, h | .int _, .str _, h | .int _, .tup _, h | .int _, .lst _, h => by simp [alD] at h
  | .str _, .non, h | .str _, .bl _, h | .str _, .int _, h | .str _, .tup _, h | .str _, .lst _, h => by simp [alD] at h
  | .tup _, .non, h | .tup _, .bl _, h | .tup _, .int _, h | .tup _, .str _, h | .tup _, .lst _, h => by simp [alD] at h
  | .lst _, .non, h | .lst _, .bl _, h | .lst _, .int _, h | .lst _, .str _, h | .lst _, .tup _, h => by simp [alD] at h
theorem ltDs_py : ∀ (xs ys : List D), alDs xs ys = true → PyProof.Rows.lexLt itemOrd (keyToksAll (toPys xs)) (keyToksAll (toPys ys)) = ltDs xs ys
  | [], [], _ => by simp only [toPys, ltDs]; exact PyProof.Rows.lex_irrefl _
  | [], y :: ys, _ => by
    simp only [toPys, ltDs]
    rw [PySem.W.toks_all_cons]
    simp only [keyToksAll]
    rw [PyProof.Rows.lex_diff (O := itemOrd) (by simp)]
    rfl
  | x :: xs, [], _ => by
    simp only [toPys, ltDs]
    rw [PySem.W.toks_all_cons]
    simp only [keyToksAll]
    rw [PyProof.Rows.lex_diff (O := itemOrd) (by simp)]
    rfl
  | x :: xs, y :: ys, h => by
    simp only [alDs, Bool.and_eq_true] at h
    simp only [toPys, ltDs]
    rw [dataLt_cons (alD_py x y h.1).1, ltD_py x y h.1, ltDs_py xs ys h.2, eqD_py]
end
/-- data that can be compared with one another -/
def alls (ds : List D) : Bool := ds.all fun x => ds.all fun y => alD x y
/-- sorted: where a goes -/
def insD (a : D) : List D → List D
  | [] => [a]
  | b :: r => if ltD b a then b :: insD a r else a :: b :: r
def isortD : List D → List D
  | [] => []
  | a :: r => insD a (isortD r)
theorem insD_mem (a : D) : ∀ (l : List D) (x : D), x ∈ insD a l ↔ x = a ∨ x ∈ l
  | [], x => by simp [insD]
  | b :: r, x => by
    unfold insD
    split
    · rw [List.mem_cons, insD_mem a r x, List.mem_cons]
      constructor
      · rintro (h | h | h)
        · exact .inr (.inl h)
        · exact .inl h
        · exact .inr (.inr h)
      · rintro (h | h | h)
        · exact .inr (.inl h)
        · exact .inl h
        · exact .inr (.inr h)
    · simp
theorem isortD_mem : ∀ (l : List D) (x : D), x ∈ isortD l ↔ x ∈ l
  | [], x => by simp [isortD]
  | a :: r, x => by
    show x ∈ insD a (isortD r) ↔ _
    rw [insD_mem, isortD_mem r x, List.mem_cons]
theorem ins_split {le : D → D → Bool} {a : D} : ∀ {l1 l2 : List D}, (∀ b ∈ l1, ltD b a = !le a b) → (∀ b ∈ l2, ltD b a = !le a b) → (∀ b, b ∈ l1 → (!le a b) = true) → (∀ b, b ∈ l2 → le a b = true) → insD a (l1 ++ l2) = l1 ++ a :: l2
  | [], [], _, _, _, _ => rfl
  | [], b :: r, _, h2, _, h4 => by
    show (if ltD b a then _ else _) = _
    rw [h2 b List.mem_cons_self, h4 b List.mem_cons_self]
    rfl
  | b :: l1, l2, h1, h2, h3, h4 => by
    show (if ltD b a then b :: insD a (l1 ++ l2) else _) = _
    rw [h1 b List.mem_cons_self, h3 b List.mem_cons_self, if_pos rfl, ins_split (fun c hc => h1 c (List.mem_cons_of_mem _ hc)) h2 (fun c hc => h3 c (List.mem_cons_of_mem _ hc)) h4]
    rfl
theorem sort_eq {le : D → D → Bool} (trans : ∀ a b c, le a b = true → le b c = true → le a c = true) (total : ∀ a b, (le a b || le b a) = true) : ∀ (l : List D), (∀ x ∈ l, ∀ y ∈ l, ltD x y = !le y x) → l.mergeSort le = isortD l
  | [], _ => by simp [isortD]
  | a :: r, h => by
    obtain ⟨l1, l2, e1, e2, h3⟩ := List.mergeSort_cons trans total a r
    have ih := sort_eq trans total r fun x hx y hy => h x (List.mem_cons_of_mem _ hx) y (List.mem_cons_of_mem _ hy)
    have hs := List.pairwise_mergeSort trans total (a :: r)
    rw [e1] at hs
    have hs2 := (List.pairwise_cons.mp (List.pairwise_append.mp hs).2.1).1
    have hm : ∀ b, b ∈ l1 ++ l2 → b ∈ r := fun b hb => by rw [← e2] at hb; exact List.mem_mergeSort.mp hb
    rw [e1]
    show _ = insD a (isortD r)
    rw [← ih, e2]
    refine (ins_split (le := le) (fun b hb => ?_) (fun b hb => ?_) h3 fun b hb => hs2 b hb).symm
    · exact h b (List.mem_cons_of_mem _ (hm b (List.mem_append_left _ hb))) a List.mem_cons_self
    · exact h b (List.mem_cons_of_mem _ (hm b (List.mem_append_right _ hb))) a List.mem_cons_self
theorem toPys_map : ∀ ds : List D, toPys ds = ds.map toPy
  | [] => by simp [toPys]
  | d :: ds => by simp only [toPys, List.map_cons, toPys_map ds]
theorem alls_py {ds : List D} (h : alls ds = true) : AllAlike (ds.map toPy) ∧ ∀ d ∈ ds, toPy d ≠ .none := by
  have key : ∀ x ∈ ds, ∀ y ∈ ds, alD x y = true := fun x hx y hy => List.all_eq_true.mp (List.all_eq_true.mp h x hx) y hy
  refine ⟨fun d hd d' hd' => ?_, fun d hd => (alD_py d d (key d hd d hd)).2⟩
  obtain ⟨x, hx, rfl⟩ := List.mem_map.mp hd
  obtain ⟨y, hy, rfl⟩ := List.mem_map.mp hd'
  exact (alD_py x y (key x hx y hy)).1
def isTup1 : D → Bool
  | .tup (_ :: _) => true
  | _ => false
def noTup : D → Bool
  | .tup _ => false
  | _ => true
/-- what sorted takes -/
def sortOk (ds : List D) : Bool := alls ds && okDs 60 ds && (ds.all isTup1 || ds.all noTup) && decide (ds.length ≤ 1000000)
theorem sortOk_py {ds : List D} (h : sortOk ds = true) : AllAlike (ds.map toPy) ∧ Sortable (ds.map toPy) ∧ okDs 60 ds = true ∧ ds.length ≤ sizeLine ∧ ds.mergeSort (dataLe false toPy) = isortD ds := by
  simp only [sortOk, Bool.and_eq_true, decide_eq_true_eq] at h
  obtain ⟨⟨⟨h1, h2⟩, h3⟩, h4⟩ := h
  obtain ⟨ha, hn⟩ := alls_py h1
  refine ⟨ha, ?_, h2, len_ok h4, ?_⟩
  · rw [Bool.or_eq_true] at h3
    rcases h3 with h3 | h3
    · refine .inl fun d hd => ?_
      obtain ⟨x, hx, rfl⟩ := List.mem_map.mp hd
      have := List.all_eq_true.mp h3 x hx
      cases x with
      | tup xs =>
        cases xs with
        | nil => cases this
        | cons y ys => simp only [toPy, toPys]; exact ⟨_, _, rfl⟩
      | _ => cases this
    · refine .inr fun d hd => ?_
      obtain ⟨x, hx, rfl⟩ := List.mem_map.mp hd
      have := List.all_eq_true.mp h3 x hx
      refine ⟨hn x hx, fun xs e => ?_⟩
      cases x with
      | tup _ => cases this
      | _ => simp [toPy] at e
  · have T := PySem.W.sortLe_total (PyProof.Rows.listOrd itemOrd) false fun b => keyToks (toPy b)
    refine sort_eq (fun a b c => T.trans a b c) (fun a b => by rw [Bool.or_eq_true]; exact T.total a b) ds fun x hx y hy => ?_
    have key := List.all_eq_true.mp (List.all_eq_true.mp h1 x hx) y hy
    have e := ltD_py x y key
    have e2 : dataLe false toPy y x = !dataLt (toPy x) (toPy y) := rfl
    show ltD x y = !dataLe false toPy y x
    rw [e2, e, Bool.not_not]

theorem units65 {k : Nat} {A : Around} (r : Room k A) : A.units + 100 < cLine := by have := r.un; omega
theorem units65a {k : Nat} {A : Around} (r : Room k A) : A.units + 65 < cLine := by have := r.un; omega
theorem okDs_mem : ∀ {ds : List D} {n : Nat}, okDs n ds = true → ∀ d ∈ ds, okD n d = true
  | [], _, _, _, h => by cases h
  | x :: xs, n, h, d, hd => by
    simp only [okDs, Bool.and_eq_true] at h
    rcases List.mem_cons.mp hd with e | hd
    · rw [e]; exact h.1
    · exact okDs_mem h.2 d hd
section
variable {X : Cx}
/-- a value and the plain datum it stands for -/
def VD (H : Hp) (g : G) (v : Value) (d : D) : Prop := ∃ x : V, RelV x v ∧ RepD H g d x
theorem each_vd {H : Hp} {g : G} : ∀ {ds : List D} {xs : List V} {us : List Value}, RepDs H g ds xs → Vals xs us → EachIs (VD H g) us ds
  | [], xs, us, r, v => by
    rw [r.inv0] at v
    cases v
    exact .nil
  | d :: ds, xs, us, r, v => by
    obtain ⟨x, r0, rfl, h1, h2⟩ := r.inv
    cases v with
    | cons hv ht => exact .cons ⟨x, hv, h1⟩ (each_vd h2 ht)
theorem vd_each {H : Hp} {g : G} : ∀ {ds : List D} {us : List Value}, EachIs (VD H g) us ds → ∃ xs, RepDs H g ds xs ∧ Vals xs us
  | _, _, .nil => ⟨[], .nil, .nil⟩
  | _, _, .cons ⟨x, h1, h2⟩ t => by
    obtain ⟨xs, h3, h4⟩ := vd_each t
    exact ⟨x :: xs, .cons h2 h3, .cons h1 h4⟩
theorem each_reads {pins : List (Addr × Obj)} {σ : L2.St} {H : Hp} {s : Shared} {g : G} (I : Inv X pins σ H s) : ∀ {ds : List D} {us : List Value}, EachIs (VD H g) us ds → EachIs (fun v b => ∃ as, Reads s.heap v (toPy b) as) us ds
  | _, _, .nil => .nil
  | _, _, .cons ⟨x, h1, h2⟩ t => .cons (Dp.reads I (toPy _) x _ (toPy_rep _ x h2) h1) (each_reads I t)
def sortedF : Fn := fun ws st => match ws with
  | [w] => match lstR st w with
    | some ds => if sortOk ds then .ok (.p (.lst (isortD ds)), st) else .stuck
    | none => .stuck
  | _ => .stuck
theorem isortD_len (ds : List D) : (isortD ds).length = ds.length := by
  induction ds with
  | nil => rfl
  | cons a r ih =>
    have : ∀ l : List D, (insD a l).length = l.length + 1 := fun l => by
      induction l with
      | nil => rfl
      | cons b l ih2 => unfold insD; split <;> simp [ih2]
    show (insD a (isortD r)).length = _
    rw [this, ih]; rfl
theorem c_sorted {k : Nat} (hr : Room k X.A) : CallR X (.builtin "sorted") (cM X.K sortedF) := by
  intro pins s σ H vs us Q I r ⟨g, st, ws, w, st', rw', S, e, k⟩
  unfold sortedF at e
  split at e
  · split at e
    · rename_i w' ds hd
      split at e
      · rename_i hz
        cases e
        obtain ⟨v, rfl, r1⟩ := ws1 rw'
        obtain ⟨a, xs, rfl, ha, hr2⟩ := lstR_rep S r1 hd
        obtain ⟨its, rv, hl, hlen⟩ := I.list ha
        rw [Vals.ref1 r]
        obtain ⟨p1, p2, p3, p4, p5⟩ := sortOk_py hz
        have ev := each_vd hr2 rv
        refine PySem.W.sorted_data (enc := toPy) hl.isList ev (each_reads I ev) p1 p2 p4 (fun d hd => ?_) fun out ho hout => ?_
        · have h1 := (okD_py 60 d (okDs_mem p3 d hd)).2
          have h2 := units65 hr
          omega
        · rw [p5] at hout
          obtain ⟨ys, h1, h2⟩ := vd_each hout
          obtain ⟨ep, he'⟩ := PyProof.Rows.sortedAll_at s.heap its out.toArray
          have hn : H (s.heap.objs.size + 1) = none := I.hok.fresh (Nat.le_succ _)
          have hlen' : ys.length ≤ sizeLine := by
            rw [← h1.length, isortD_len]; exact p4
          refine ⟨.ref _, upd H (s.heap.objs.size + 1) (.lst ys), I.laid (t' := s.toks) (fun _ _ => PyProof.Rows.sortedAll_old) (Nat.le_succ _) ⟨hlen', out, ep, h2, he'⟩, rfl, ?_⟩
          exact lst_p (st' := st) S h1 k _ hn
      · cases e
    · cases e
  · cases e
/-! min, max of data -/
theorem argBest_le (bt : Nat → Nat → Bool) : ∀ k, argBest bt k ≤ k
  | 0 => Nat.le_refl _
  | k + 1 => by
    unfold argBest
    split
    · exact Nat.le_refl _
    · exact Nat.le_succ_of_le (argBest_le bt k)
theorem argBest_congr {b c : Nat → Nat → Bool} : ∀ {k : Nat}, (∀ i j, i ≤ k → j ≤ k → b i j = c i j) → argBest b k = argBest c k
  | 0, _ => rfl
  | k + 1, h => by
    have ih := argBest_congr (b := b) (c := c) (k := k) fun i j hi hj => h i j (by omega) (by omega)
    unfold argBest
    rw [ih, h (k + 1) _ (Nat.le_refl _) (Nat.le_succ_of_le (argBest_le c k))]
def minDs (x : D) (xs : List D) : D := xs.foldl (fun a y => if ltD y a then y else a) x
def maxDs (x : D) (xs : List D) : D := xs.foldl (fun a y => if ltD a y then y else a) x
theorem getD_map {ds : List D} {i : Nat} (h : i < ds.length) : (ds.map toPy).getD i .none = toPy (ds.getD i .non) := by
  rw [List.getD_eq_getElem?_getD, List.getD_eq_getElem?_getD, List.getElem?_map, List.getElem?_eq_getElem h]; rfl
theorem alD_get {ds : List D} (h : alls ds = true) {i j : Nat} (hi : i < ds.length) (hj : j < ds.length) : alD (ds.getD i .non) (ds.getD j .non) = true := by
  rw [List.getD_eq_getElem?_getD, List.getD_eq_getElem?_getD, List.getElem?_eq_getElem hi, List.getElem?_eq_getElem hj]
  exact List.all_eq_true.mp (List.all_eq_true.mp h _ (List.getElem_mem hi)) _ (List.getElem_mem hj)
def minDF : Fn := fun ws st => match ws with
  | [w] => match seqW st w with
    | some (x :: xs) => if alls (x :: xs) && okDs 60 (x :: xs) then .ok (.p (minDs x xs), st) else .stuck
    | _ => .stuck
  | _ => .stuck
def maxDF : Fn := fun ws st => match ws with
  | [w] => match seqW st w with
    | some (x :: xs) => if alls (x :: xs) && okDs 60 (x :: xs) then .ok (.p (maxDs x xs), st) else .stuck
    | _ => .stuck
  | _ => .stuck
/-- both: numbers first -/
def minAF : Fn := fun ws st => match minF ws st with
  | .ok r => .ok r
  | _ => minDF ws st
def maxAF : Fn := fun ws st => match maxF ws st with
  | .ok r => .ok r
  | _ => maxDF ws st
theorem c_minA (hc : X.calm = true) {kk : Nat} (hr : Room kk X.A) : CallR X (.builtin "min") (cM X.K minAF) := by
  intro pins s σ H vs us Q I r ⟨g, st, ws, w, st', rw', S, e, k⟩
  unfold minAF at e
  split at e
  · rename_i q hq
    cases e
    exact c_min hc pins s σ H vs us Q I r ⟨g, st, ws, w, st', rw', S, hq, k⟩
  · unfold minDF at e
    split at e
    · split at e
      · rename_i w' x xs hd
        split at e
        · rename_i hz
          cases e
          rw [Bool.and_eq_true] at hz
          obtain ⟨v, rfl, r1⟩ := ws1 rw'
          obtain ⟨a, ys, rfl, ha, hr2⟩ := seqW_rep S r1 hd
          obtain ⟨p1, p2⟩ := alls_py hz.1
          have hal : AlikeAll (toPys (x :: xs)) := by
            rw [toPys_map]
            exact ⟨p1, fun d hd => by obtain ⟨z, hz, rfl⟩ := List.mem_map.mp hd; exact p2 z hz⟩
          have hdep := (okDs_py 60 (x :: xs) hz.2).2
          have hu : X.A.units + 1 + PyData.depthAll (toPys (x :: xs)) < cLine := by
            have := units65 hr
            omega
          have fin : ∀ (its : List Value), Vals ys its → ∀ (v : Value) (s' : Shared), its.toArray[argBest (fun i j => dataLt ((toPys (x :: xs)).getD i .none) ((toPys (x :: xs)).getD j .none)) (its.toArray.size - 1)]? = some v → (∃ h' tk, s' = { s with heap := h', toks := tk } ∧ ∀ b o, s.heap.get? b = some o → h'.get? b = some o) → EP X pins σ Q v s' := fun its rv v s' hP ⟨h', tk, hs', hk'⟩ => by
            subst hs'
            have hn : its.length = xs.length + 1 := by rw [← rv.length, ← hr2.length]; rfl
            have hsz : its.toArray.size - 1 = xs.length := by rw [List.size_toArray, hn]; rfl
            rw [hsz] at hP
            have ec : argBest (fun i j => dataLt ((toPys (x :: xs)).getD i .none) ((toPys (x :: xs)).getD j .none)) xs.length = argBest (fun i j => ltD ((x :: xs).getD i .non) ((x :: xs).getD j .non)) xs.length := argBest_congr fun i j hi hj => by
              have hi' : i < (x :: xs).length := by rw [List.length_cons]; omega
              have hj' : j < (x :: xs).length := by rw [List.length_cons]; omega
              rw [toPys_map, getD_map hi', getD_map hj']
              exact ltD_py _ _ (alD_get hz.1 hi' hj')
            rw [ec] at hP
            have hf := (PySem.W.argBest_fold ltD D.non x xs xs.length (Nat.le_refl _)).2
            rw [List.take_length] at hf
            have hle := argBest_le (fun i j => ltD ((x :: xs).getD i .non) ((x :: xs).getD j .non)) xs.length
            have hget : (x :: xs)[argBest (fun i j => ltD ((x :: xs).getD i .non) ((x :: xs).getD j .non)) xs.length]? = some (minDs x xs) := by
              have hlt : argBest (fun i j => ltD ((x :: xs).getD i .non) ((x :: xs).getD j .non)) xs.length < (x :: xs).length := by rw [List.length_cons]; omega
              rw [List.getD_eq_getElem?_getD, List.getElem?_eq_getElem hlt] at hf
              rw [List.getElem?_eq_getElem hlt]
              exact congrArg some hf
            obtain ⟨y, h1, h2⟩ := hr2.get hget
            obtain ⟨u, h3, h4⟩ := rv.get h1
            rw [List.getElem?_toArray, h3] at hP
            cases hP
            exact ⟨y, H, I.kept hk', h4, k g y H (Stp.refl g H) S h2⟩
          rw [Vals.ref1 r]
          rcases ha with ha | ha
          · obtain ⟨its, rv, hl, hlen⟩ := I.list ha
            obtain ⟨as, hra⟩ := Dp.readsAll I (toPys (x :: xs)) ys its (toPys_rep _ ys hr2) rv
            have hn : its.toArray.size = xs.length + 1 := by rw [List.size_toArray, ← rv.length, ← hr2.length]; rfl
            refine PySem.call_min_walkH (PySem.W.iter_listW (A := X.A.in1) (I.ok.hd hc) hl.isList fun s₂ e W st hfp hw hk => ?_)
            refine ⟨_, _, _, _, _, _, _, s.heap, _, rfl, W, st, hfp, by omega, hw, hk, PySem.W.cmpIn_lt (A := X.A.in1) (vs := its.toArray) hra hal (by show X.A.units + 1 + _ < _; exact hu), fun v s' hP m => ?_⟩
            obtain ⟨h', tk, rfl, hk'⟩ := PySem.W.moved_old e rfl m
            exact fin its rv v _ hP ⟨h', tk, rfl, hk'⟩
          · obtain ⟨its, rv, hl, hlen⟩ := I.tuple ha
            obtain ⟨as, hra⟩ := Dp.readsAll I (toPys (x :: xs)) ys its (toPys_rep _ ys hr2) rv
            have hn : its.toArray.size = xs.length + 1 := by rw [List.size_toArray, ← rv.length, ← hr2.length]; rfl
            refine PySem.call_min_walkH (PySem.W.iter_tupleW (A := X.A.in1) (I.ok.hd hc) hl fun s₂ e W st hfp hw hk => ?_)
            refine ⟨_, _, _, _, _, _, _, s.heap, _, rfl, W, st, hfp, by omega, hw, hk, PySem.W.cmpIn_lt (A := X.A.in1) (vs := its.toArray) hra hal (by show X.A.units + 1 + _ < _; exact hu), fun v s' hP m => ?_⟩
            obtain ⟨h', tk, rfl, hk'⟩ := PySem.W.moved_old e rfl m
            exact fin its rv v _ hP ⟨h', tk, rfl, hk'⟩
        · cases e
      · cases e
    · cases e
theorem c_maxA (hc : X.calm = true) {kk : Nat} (hr : Room kk X.A) : CallR X (.builtin "max") (cM X.K maxAF) := by
  intro pins s σ H vs us Q I r ⟨g, st, ws, w, st', rw', S, e, k⟩
  unfold maxAF at e
  split at e
  · rename_i q hq
    cases e
    exact c_max hc pins s σ H vs us Q I r ⟨g, st, ws, w, st', rw', S, hq, k⟩
  · unfold maxDF at e
    split at e
    · split at e
      · rename_i w' x xs hd
        split at e
        · rename_i hz
          cases e
          rw [Bool.and_eq_true] at hz
          obtain ⟨v, rfl, r1⟩ := ws1 rw'
          obtain ⟨a, ys, rfl, ha, hr2⟩ := seqW_rep S r1 hd
          obtain ⟨p1, p2⟩ := alls_py hz.1
          have hal : AlikeAll (toPys (x :: xs)) := by
            rw [toPys_map]
            exact ⟨p1, fun d hd => by obtain ⟨z, hz, rfl⟩ := List.mem_map.mp hd; exact p2 z hz⟩
          have hdep := (okDs_py 60 (x :: xs) hz.2).2
          have hu : X.A.units + 1 + PyData.depthAll (toPys (x :: xs)) < cLine := by
            have := units65 hr
            omega
          have fin : ∀ (its : List Value), Vals ys its → ∀ (v : Value) (s' : Shared), its.toArray[argBest (fun i j => dataLt ((toPys (x :: xs)).getD j .none) ((toPys (x :: xs)).getD i .none)) (its.toArray.size - 1)]? = some v → (∃ h' tk, s' = { s with heap := h', toks := tk } ∧ ∀ b o, s.heap.get? b = some o → h'.get? b = some o) → EP X pins σ Q v s' := fun its rv v s' hP ⟨h', tk, hs', hk'⟩ => by
            subst hs'
            have hn : its.length = xs.length + 1 := by rw [← rv.length, ← hr2.length]; rfl
            have hsz : its.toArray.size - 1 = xs.length := by rw [List.size_toArray, hn]; rfl
            rw [hsz] at hP
            have ec : argBest (fun i j => dataLt ((toPys (x :: xs)).getD j .none) ((toPys (x :: xs)).getD i .none)) xs.length = argBest (fun i j => (fun u v => ltD v u) ((x :: xs).getD i .non) ((x :: xs).getD j .non)) xs.length := argBest_congr fun i j hi hj => by
              have hi' : i < (x :: xs).length := by rw [List.length_cons]; omega
              have hj' : j < (x :: xs).length := by rw [List.length_cons]; omega
              rw [toPys_map, getD_map hi', getD_map hj']
              exact ltD_py _ _ (alD_get hz.1 hj' hi')
            rw [ec] at hP
            have hf := (PySem.W.argBest_fold (fun u v => ltD v u) D.non x xs xs.length (Nat.le_refl _)).2
            rw [List.take_length] at hf
            have hle := argBest_le (fun i j => (fun u v => ltD v u) ((x :: xs).getD i .non) ((x :: xs).getD j .non)) xs.length
            have hget : (x :: xs)[argBest (fun i j => (fun u v => ltD v u) ((x :: xs).getD i .non) ((x :: xs).getD j .non)) xs.length]? = some (maxDs x xs) := by
              have hlt : argBest (fun i j => (fun u v => ltD v u) ((x :: xs).getD i .non) ((x :: xs).getD j .non)) xs.length < (x :: xs).length := by rw [List.length_cons]; omega
              rw [List.getD_eq_getElem?_getD, List.getElem?_eq_getElem hlt] at hf
              rw [List.getElem?_eq_getElem hlt]
              exact congrArg some hf
            obtain ⟨y, h1, h2⟩ := hr2.get hget
            obtain ⟨u, h3, h4⟩ := rv.get h1
            rw [List.getElem?_toArray, h3] at hP
            cases hP
            exact ⟨y, H, I.kept hk', h4, k g y H (Stp.refl g H) S h2⟩
          rw [Vals.ref1 r]
          rcases ha with ha | ha
          · obtain ⟨its, rv, hl, hlen⟩ := I.list ha
            obtain ⟨as, hra⟩ := Dp.readsAll I (toPys (x :: xs)) ys its (toPys_rep _ ys hr2) rv
            have hn : its.toArray.size = xs.length + 1 := by rw [List.size_toArray, ← rv.length, ← hr2.length]; rfl
            refine PySem.call_max_walkH (PySem.W.iter_listW (A := X.A.in1) (I.ok.hd hc) hl.isList fun s₂ e W st hfp hw hk => ?_)
            refine ⟨_, _, _, _, _, _, _, s.heap, _, rfl, W, st, hfp, by omega, hw, hk, PySem.W.cmpIn_gt (A := X.A.in1) (vs := its.toArray) hra hal (by show X.A.units + 1 + _ < _; exact hu), fun v s' hP m => ?_⟩
            obtain ⟨h', tk, rfl, hk'⟩ := PySem.W.moved_old e rfl m
            exact fin its rv v _ hP ⟨h', tk, rfl, hk'⟩
          · obtain ⟨its, rv, hl, hlen⟩ := I.tuple ha
            obtain ⟨as, hra⟩ := Dp.readsAll I (toPys (x :: xs)) ys its (toPys_rep _ ys hr2) rv
            have hn : its.toArray.size = xs.length + 1 := by rw [List.size_toArray, ← rv.length, ← hr2.length]; rfl
            refine PySem.call_max_walkH (PySem.W.iter_tupleW (A := X.A.in1) (I.ok.hd hc) hl fun s₂ e W st hfp hw hk => ?_)
            refine ⟨_, _, _, _, _, _, _, s.heap, _, rfl, W, st, hfp, by omega, hw, hk, PySem.W.cmpIn_gt (A := X.A.in1) (vs := its.toArray) hra hal (by show X.A.units + 1 + _ < _; exact hu), fun v s' hP m => ?_⟩
            obtain ⟨h', tk, rfl, hk'⟩ := PySem.W.moved_old e rfl m
            exact fin its rv v _ hP ⟨h', tk, rfl, hk'⟩
        · cases e
      · cases e
    · cases e
/-! o[i] op= e, o a list -/
theorem get_list : PGet X (rIxL X.K) := by
  intro pins s σ H x y v u Q I rx ry h
  obtain ⟨p, xs, i, z, rfl, rfl, hq, he, q⟩ := h
  cases rx
  obtain ⟨t, rfl⟩ := ry
  obtain ⟨its, r, pl, hz⟩ := I.list hq
  obtain ⟨j, h1, h2, h3, h4, h5⟩ := atI_get he
  obtain ⟨w, ew, rw'⟩ := r.get h2
  have hl := r.length
  have hn := line63
  have fin : EP X pins σ Q w s := ⟨z, H, I, rw', q⟩
  by_cases h0 : 0 ≤ i
  · have hj : i.toNat = j := by
      rw [seqIndex_of h0 h5] at h1
      exact Option.some.inj h1
    exact wpAny_getItem_list pl.isList h0 (by omega) (by rw [hj]; simpa using ew) fin
  · have hj : (i + (its.toArray.size : Int)).toNat = j := by
      rw [seqIndex_neg (by omega) (by omega)] at h1
      have := Option.some.inj h1
      rw [List.size_toArray, ← hl]; exact this
    exact wpAny_getItem_list_neg pl.isList (by omega) (by rw [List.size_toArray, ← hl]; omega) (by omega) (by rw [hj]; simpa using ew) fin
def augAtS (mo mi : ME) (f : W → W → Store → R (W × Store)) (me : ME) : MS := fun sl st => (mo sl st).bind fun y => (mi sl y.2).bind fun z => match y.1, z.1 with
  | .loc n, .p (.int i) => match cellL z.2 n with
    | some ds => match atI ds i with
      | some d => (me sl z.2).bind fun x => (f (.p d) x.1 x.2).bind fun u => (frz u.1 u.2).bind fun r => match cellL r.2 n with
        | some es => match ixN es.length i with
          | some j => .ok (.nx, sl, r.2.set n (some (.l (es.set j r.1))))
          | none => .stuck
        | none => .stuck
      | none => .stuck
    | none => .stuck
  | _, _ => .stuck
theorem s_augAt {o i e : Expr} {op : Operator} {f : W → W → Store → R (W × Store)} {mo mi me : ME} {p2 pos : Pos} (ho : PEm X o mo) (hi : PEm X i mi) (he : PEm X e me) (hop : OpR X (inplaceOp op) (r2M X.K f))
    (ha : ∀ ov iv new, augStore i ov iv new = (do holding [new, ov, iv] (setItem ov iv new); release [new, ov, iv] []; pure .next) := by intros; rfl) : PSm X (.AugAssign (.Subscript o i p2) op e pos) (augAtS mo mi f me) := by
  refine ps_w (ps_augS (tip := r2M X.K f) ho hi get_list he (fun pins s σ H x y v u Q I r1 r2 h => hop pins s σ H x y v u Q I r1 r2 h) set_list ha) fun D σ H ⟨g, sl, st, fl, sl', st', hs, ht, e, k⟩ => ?_
  obtain ⟨⟨y, st1⟩, h1, e⟩ := R.bind_inv e
  obtain ⟨⟨z, st2⟩, h2, e⟩ := R.bind_inv e
  refine ⟨g, sl, st, y, st1, hs, ht, h1, fun g1 v1 H1 s1 t1 r1 => ⟨g1, sl, st1, z, st2, hs.mono s1, t1, h2, fun g2 v2 H2 s2 t2 r2 => ?_⟩⟩
  dsimp only at e
  split at e
  · rename_i n ii
    split at e
    · rename_i ds hc
      split at e
      · rename_i d hd
        obtain ⟨⟨x, st3⟩, h3, e⟩ := R.bind_inv e
        obtain ⟨⟨u, st4⟩, h4, e⟩ := R.bind_inv e
        obtain ⟨⟨rr, st5⟩, h5, e⟩ := R.bind_inv e
        dsimp only at e
        split at e
        · rename_i es hc2
          split at e
          · rename_i j hj
            cases e
            obtain ⟨a, vs, rfl, hal, q5, q6⟩ := loc_at t2 (r1.mono s2) hc
            obtain ⟨x0, q7, q8⟩ := atI_rep q6 hd
            refine ⟨a, vs, _, x0, rfl, rwInt_inv r2, .inl (.inl q5), q7, g2, sl, st2, x, st3, (hs.mono s1).mono s2, t2, h3, fun g3 v3 H3 s3 t3 r3 => ?_⟩
            refine ⟨g3, st3, .p d, x, u, st4, (show RepW X.K H2 g2 (.p d) x0 from q8).mono s3, r3, t3, h4, fun g4 v4 H4 s4 t4 r4 => ?_⟩
            obtain ⟨g5, s5, t5, r5⟩ := frz_rep t4 r4 h5
            have r1' := (((r1.mono s2).mono s3).mono s4).mono s5
            obtain ⟨a', vs', ea, hal', q9, q10⟩ := loc_at t5 r1' hc2
            cases ea
            refine ⟨a, vs', _, j, rfl, rwInt_inv r2, q9, by rw [← q10.length]; exact hj, ?_⟩
            have ss := s2.trans (s3.trans (s4.trans (s5.trans (Stp.write (o := .lst (vs'.set j v4)) hal'))))
            exact k g5 σ _ (s1.trans ss) (t5.write hal' (RepDs.set r5 j q10)) ((hs.mono s1).mono ss)
          · cases e
        · cases e
      · cases e
    · cases e
  · cases e
/-! list(range(..)), tuple(range(..)) -/
theorem rng_rep {H : Hp} {g : G} (a b : Int) : RepDs H g (rngD a (b - a).toNat) (rgV a b) := by
  unfold rngD rgV
  generalize List.range (b - a).toNat = l
  induction l with
  | nil => exact .nil
  | cons i l ih => exact .cons (repInt _) ih
def rngOk (a b : Int) : Bool := decide (-4611686018427387904 ≤ a ∧ a < 4611686018427387904 ∧ -4611686018427387904 ≤ b ∧ b < 4611686018427387904 ∧ (b - a).toNat ≤ 16777216)
theorem rngOk_of {a b : Int} (h : rngOk a b = true) : RgOk a b := by
  have h := of_decide_eq_true h
  exact ⟨by have := h.1; omega, by have := h.2.1; omega, by have := h.2.2.1; omega, by have := h.2.2.2.1; omega, by have := h.2.2.2.2; omega⟩
def rgM1 (m : ME) : Slots → Store → R ((Int × Int) × Store) := fun sl st => (m sl st).bind fun x => match x.1 with
  | .p (.int j) => .ok ((0, j), x.2)
  | _ => .stuck
def rgM2 (ma mb : ME) : Slots → Store → R ((Int × Int) × Store) := fun sl st => (ma sl st).bind fun x => (mb sl x.2).bind fun y => match x.1, y.1 with
  | .p (.int i), .p (.int j) => .ok ((i, j), y.2)
  | _, _ => .stuck
/-- the run of range(..) as an argument -/
def tRg (K : PySem.W.Frag) (m : Slots → Store → R ((Int × Int) × Store)) : L2.St → Hp → (Int → Int → Hp → Prop) → Prop := fun σ H Q => ∃ g sl st a b st', RepSl K H g sl σ ∧ RepSt H g st ∧ m sl st = .ok ((a, b), st') ∧ ∀ g' H', Stp g H g' H' → RepSt H' g' st' → Q a b H'
abbrev PRm (X : Cx) (e : Expr) (m : Slots → Store → R ((Int × Int) × Store)) : Prop := PRg X e (tRg X.K m)
theorem r_1 {a : Expr} {m : ME} {p pos : Pos} (hg : Gl X "range") (hm : X.mg "range" = none) (ha : PEm X a m) (na : starEach [a] X.env = (false, eval a X.env) :: starEach [] X.env := by rfl) : PRm X (.Call (.Name "range" p) [a] [] pos) (rgM1 m) := by
  intro pins s σ H Q I ⟨g, sl, st, i, j, st', hs, ht, e, k⟩
  obtain ⟨⟨x, st1⟩, h1, e⟩ := R.bind_inv e
  refine prg_1 hg hm ha na pins s σ H Q I ⟨g, sl, st, x, st1, hs, ht, h1, fun g1 v1 H1 s1 t1 r1 => ?_⟩
  dsimp only at e
  split at e
  · cases e
    exact ⟨_, rwInt_inv r1, k g1 H1 s1 t1⟩
  · cases e
theorem r_2 {a b : Expr} {ma mb : ME} {p pos : Pos} (hg : Gl X "range") (hm : X.mg "range" = none) (ha : PEm X a ma) (hb : PEm X b mb) (na : starEach [a, b] X.env = (false, eval a X.env) :: starEach [b] X.env := by rfl)
    (nb : starEach [b] X.env = (false, eval b X.env) :: starEach [] X.env := by rfl) (hp : (backTo pos (starEach [b] X.env)).any (·.1) = false := by rfl) : PRm X (.Call (.Name "range" p) [a, b] [] pos) (rgM2 ma mb) := by
  intro pins s σ H Q I ⟨g, sl, st, i, j, st', hs, ht, e, k⟩
  obtain ⟨⟨x, st1⟩, h1, e⟩ := R.bind_inv e
  obtain ⟨⟨y, st2⟩, h2, e⟩ := R.bind_inv e
  refine prg_2 hg hm ha hb na nb hp pins s σ H Q I ⟨g, sl, st, x, st1, hs, ht, h1, fun g1 v1 H1 s1 t1 r1 => ⟨g1, sl, st1, y, st2, hs.mono s1, t1, h2, fun g2 v2 H2 s2 t2 r2 => ?_⟩⟩
  dsimp only at e
  split at e
  · cases e
    exact ⟨_, _, rwInt_inv r1, rwInt_inv r2, k g2 H2 (s1.trans s2) t2⟩
  · cases e
def lstRgM (m : Slots → Store → R ((Int × Int) × Store)) : ME := fun sl st => (m sl st).bind fun x => if rngOk x.1.1 x.1.2 then .ok (.p (.lst (rngD x.1.1 (x.1.2 - x.1.1).toNat)), x.2) else .stuck
def newRgM (m : Slots → Store → R ((Int × Int) × Store)) : ME := fun sl st => (m sl st).bind fun x => if rngOk x.1.1 x.1.2 then .ok (.loc x.2.length, x.2 ++ [some (.l (rngD x.1.1 (x.1.2 - x.1.1).toNat))]) else .stuck
def tupRgM (m : Slots → Store → R ((Int × Int) × Store)) : ME := fun sl st => (m sl st).bind fun x => if rngOk x.1.1 x.1.2 then .ok (.p (.tup (rngD x.1.1 (x.1.2 - x.1.1).toNat)), x.2) else .stuck
theorem m_lstRg {e : Expr} {m : Slots → Store → R ((Int × Int) × Store)} {p pos : Pos} (hc : X.calm = true) (hg : Gl X "list") (hm : X.mg "list" = none) (he : PRm X e m) (na : starEach [e] X.env = (false, eval e X.env) :: starEach [] X.env := by rfl) : PEm X (.Call (.Name "list" p) [e] [] pos) (lstRgM m) := by
  refine pe_w (pe_listRg hc hg hm he na) fun σ H Q ⟨g, sl, st, w, st', hs, ht, e, k⟩ => ?_
  obtain ⟨⟨⟨i, j⟩, st1⟩, h1, e⟩ := R.bind_inv e
  dsimp only at e
  split at e
  · rename_i hz
    cases e
    refine ⟨g, sl, st, i, j, _, hs, ht, h1, fun g1 H1 s1 t1 => ⟨rngOk_of hz, ?_⟩⟩
    exact lst_p (st' := st) t1 (rng_rep i j) fun g2 v2 H2 s2 t2 r2 => k g2 v2 H2 (s1.trans s2) t2 r2
  · cases e
theorem m_newRg {e : Expr} {m : Slots → Store → R ((Int × Int) × Store)} {p pos : Pos} (hc : X.calm = true) (hg : Gl X "list") (hm : X.mg "list" = none) (he : PRm X e m) (na : starEach [e] X.env = (false, eval e X.env) :: starEach [] X.env := by rfl) : PEm X (.Call (.Name "list" p) [e] [] pos) (newRgM m) := by
  refine pe_w (pe_listRg hc hg hm he na) fun σ H Q ⟨g, sl, st, w, st', hs, ht, e, k⟩ => ?_
  obtain ⟨⟨⟨i, j⟩, st1⟩, h1, e⟩ := R.bind_inv e
  dsimp only at e
  split at e
  · rename_i hz
    cases e
    refine ⟨g, sl, st, i, j, _, hs, ht, h1, fun g1 H1 s1 t1 => ⟨rngOk_of hz, fun q hq => ?_⟩⟩
    exact k (g1.cell q) _ _ (s1.trans (Stp.cell hq)) (t1.newCell hq (rng_rep i j)) (rep_cell t1)
  · cases e
theorem pe_tupRgF {e : Expr} {te : L2.St → Hp → (Int → Int → Hp → Prop) → Prop} {p pos : Pos} (hc : X.calm = true) (hg : Gl X "tuple") (hm : X.mg "tuple" = none) (he : PRg X e te) (na : starEach [e] X.env = (false, eval e X.env) :: starEach [] X.env := by rfl) :
    PE X (.Call (.Name "tuple" p) [e] [] pos) (fun σ H Q => te σ H fun a b H1 => RgOk a b ∧ NewT H1 Q (rgV a b)) := by
  refine ⟨fun pins s σ H Q I h => ?_⟩
  refine Call_ (ld_blt I hg hm boot_tuple (PyProof.Rows.callWith_type1 (args_cons (thn (he pins s σ H _ I h) fun x s1 ⟨r, a, b, t, u, v, H1, ex, hr, I1, ok, q⟩ => args_nil ?_) na) na))
  subst ex
  obtain ⟨b1, b2, b3, b4, b5⟩ := ok
  refine call_tuple_range (n := (b - a).toNat) (I1.ok.hd hc) hr (small_one b1 b2 b3 b4) (rangeSize_nat a b) b5 fun h' tk acc hk hi => ?_
  have I2 : Inv X pins σ H1 { s1 with heap := h', toks := tk } := I1.kept hk
  have := laidT I2 (its := acc.toList) (by rw [rgV_length, sizeLine_eq]; omega) (vals_rg hi) tk q
  rw [Array.toArray_toList] at this
  exact this
theorem m_tupRg {e : Expr} {m : Slots → Store → R ((Int × Int) × Store)} {p pos : Pos} (hc : X.calm = true) (hg : Gl X "tuple") (hm : X.mg "tuple" = none) (he : PRm X e m) (na : starEach [e] X.env = (false, eval e X.env) :: starEach [] X.env := by rfl) : PEm X (.Call (.Name "tuple" p) [e] [] pos) (tupRgM m) := by
  refine pe_w (pe_tupRgF hc hg hm he na) fun σ H Q ⟨g, sl, st, w, st', hs, ht, e, k⟩ => ?_
  obtain ⟨⟨⟨i, j⟩, st1⟩, h1, e⟩ := R.bind_inv e
  dsimp only at e
  split at e
  · rename_i hz
    cases e
    refine ⟨g, sl, st, i, j, _, hs, ht, h1, fun g1 H1 s1 t1 => ⟨rngOk_of hz, ?_⟩⟩
    exact tup_p t1 (rng_rep i j) fun g2 v2 H2 s2 t2 r2 => k g2 v2 H2 (s1.trans s2) t2 r2
  · cases e
end
end Pm

/-! Core13: list * int as a new list of its own, return without a value, range of three. -/
namespace Pm
open PySem PySem.Spec PyProof.Rows L2
section
variable {X : Cx}
def mulNF (a b : W) (st : Store) : R (W × Store) := match a, b with
  | .p (.lst ds), .p (.int k) => if k ≤ 1000000 ∧ -1000000 ≤ k ∧ ds.length * k.toNat ≤ 1000000 then .ok (.loc st.length, st ++ [some (.l (List.replicate k.toNat ds).flatten)]) else .stuck
  | _, _ => .stuck
theorem o_mulN : OpR X (binaryOp .Mult) (r2M X.K mulNF) := by
  refine OpR.imp op_rep fun x y H Q ⟨g, st, a, b, w, st', ra, rb, S, e, k⟩ => ?_
  unfold mulNF at e
  split at e
  · split at e
    · rename_i ds kk hz
      cases e
      obtain ⟨p, vs, rfl, hn, hp, hr⟩ := rwLst_inv ra
      exact ⟨p, kk, vs, rfl, rwInt_inv rb, hp, by omega, by omega, by rw [← hr.length]; exact len_ok hz.2.2, fun q hq => k (g.cell q) _ _ (Stp.cell hq) (S.newCell hq (hr.rep _)) (rep_cell S)⟩
    · cases e
  · cases e
theorem s_retN {pos : Pos} : PSm X (.Return none pos) (retS (constM .non)) := by
  refine ps_w ps_retN fun D σ H ⟨g, sl, st, fl, sl', st', hs, ht, e, k⟩ => ?_
  cases e
  exact k g σ H (Stp.refl g H) ht hs .non rwNon
/-- n numbers from lo by steps of c -/
def rng3D (lo c : Int) (n : Nat) : List D := (List.range n).map fun i => .int (lo + (i : Nat) * c)
def rngN (i j c : Int) : Nat := (if 0 < c then (j - i + c - 1) / c else (i - j - c - 1) / -c).toNat
def rng3I (m : MA) : MI := fun sl st => (m sl st).bind fun x => match x.1 with
  | [.p (.int i), .p (.int j), .p (.int c)] => if c ≠ 0 ∧ c.natAbs < 1073741824 ∧ Builtin.Range.small i j c = true ∧ 0 ≤ Builtin.Range.rangeSize i j c then .ok (rng3D i c (Builtin.Range.rangeSize i j c).toNat, x.2) else .stuck
  | _ => .stuck
theorem itOk_rng3 {g : G} {H : Hp} {lo c : Int} {n : Nat} : ItOk (Itc lo c n) g H (rng3D lo c n) false where
  go := fun i g2 H2 s hi => by
    show i < n
    simpa [rng3D] using hi
  stop := fun i g2 H2 s hi => by
    show n ≤ i
    simpa [rng3D] using hi
  yld := fun i g2 H2 st x H3 d s S hd hy => by
    obtain ⟨rfl, rfl⟩ := hy
    have e : d = .int (lo + (i : Nat) * c) := by
      unfold rng3D at hd
      rw [List.getElem?_map] at hd
      cases h : (List.range n)[i]? with
      | none => rw [h] at hd; cases hd
      | some j =>
        rw [h] at hd
        have hj : i = j := by
          obtain ⟨h1, h2⟩ := List.getElem?_eq_some_iff.mp h
          rw [List.getElem_range] at h2
          exact h2
        cases hd
        rw [hj]
    rw [e]
    exact ⟨Stp.refl _ _, S, .of (repInt _)⟩
theorem i_rng3 {tg a b c : Expr} {m : MA} {p pos : Pos} (hg : Gl X "range") (hm : X.mg "range" = none) (ha : PAm X [a, b, c] m)
    (hs : starEach [a, b, c] X.env = (false, eval a X.env) :: starEach [b, c] X.env := by rfl) (hpl : (backTo pos (starEach [b, c] X.env)).any (·.1) = false := by rfl) :
    PIm X tg (.Call (.Name "range" p) [a, b, c] [] pos) (rng3I m) := by
  refine pi_w (pi_range3 hg hm ha hs hpl) fun σ H _ ⟨g, sl, st, items, st', hs, ht, e, k⟩ => ?_
  obtain ⟨⟨x, st1⟩, h1, e⟩ := R.bind_inv e
  refine ⟨g, sl, st, x, st1, hs, ht, h1, fun g1 v1 H1 s1 t1 r1 => ?_⟩
  dsimp only at e
  split at e
  · split at e
    · rename_i i j c hj
      cases e
      cases r1 with
      | cons r rr =>
        cases rr with
        | cons r2 rr =>
          cases rr with
          | cons r3 rr =>
            cases rr
            rw [rwInt_inv r, rwInt_inv r2, rwInt_inv r3]
            exact ⟨_, _, _, (Builtin.Range.rangeSize i j c).toNat, rfl, ⟨hj.1, hj.2.1, hj.2.2.1, (Int.toNat_of_nonneg hj.2.2.2).symm⟩, k g1 H1 _ s1 t1 itOk_rng3⟩
    · cases e
  · cases e
end
end Pm

/-! Core14: runs that end in an exception: what ties them to the text; try. -/
namespace Pm
open PySem PySem.Spec PyProof.Rows L2
/-! ### what never raises -/
def R.calm {α : Type} : R α → R α
  | .ok a => .ok a
  | .exc _ _ => .stuck
  | .stuck => .stuck
theorem R.calm_ok {α : Type} {r : R α} {a : α} (h : r.calm = .ok a) : r = .ok a := by
  cases r with
  | ok b => exact h
  | exc c st => cases h
  | stuck => cases h
theorem R.calm_exc {α : Type} {r : R α} {c : Nat} {st : Store} (h : r.calm = .exc c st) : False := by
  cases r with
  | ok b => cases h
  | exc c st => cases h
  | stuck => cases h
theorem R.bind_exc {α β : Type} {m : R α} {f : α → R β} {c : Nat} {st : Store} (h : m.bind f = .exc c st) : m = .exc c st ∨ ∃ a, m = .ok a ∧ f a = .exc c st := by
  cases m with
  | ok a => exact .inr ⟨a, rfl, h⟩
  | exc c' st' => cases h; exact .inl rfl
  | stuck => cases h
def okM (m : ME) : ME := fun sl st => (m sl st).calm
def okT (m : MT) : MT := fun sl st => (m sl st).calm
def okA (m : MA) : MA := fun sl st => (m sl st).calm
def okI (m : MI) : MI := fun sl st => (m sl st).calm
def okS (m : MS) : MS := fun sl st => (m sl st).calm
/-- the classes, by number -/
def clsN : Nat → Str
  | 0 => "BadText"
  | 1 => "CanNot"
  | 2 => "ChainDesk"
  | 3 => "NothingDone"
  | 4 => "TooMany"
  | _ => "Unfit"
def clV (mg : Str → Option Value) (c : Nat) : Value := (mg (clsN c)).getD .none
/-! ### the readings -/
def tEe (K : PySem.W.Frag) (mg : Str → Option Value) (F : L2.St → XK) (m : ME) : TE := fun σ H _ => ∃ g sl st c st', RepSl K H g sl σ ∧ RepSt H g st ∧ m sl st = .exc c st' ∧ ∀ g' H', Stp g H g' H' → RepSt H' g' st' → F σ (clV mg c) none H'
def tAe (K : PySem.W.Frag) (mg : Str → Option Value) (F : L2.St → XK) (m : MA) : TA := fun σ H _ => ∃ g sl st c st', RepSl K H g sl σ ∧ RepSt H g st ∧ m sl st = .exc c st' ∧ ∀ g' H', Stp g H g' H' → RepSt H' g' st' → F σ (clV mg c) none H'
def tSe (K : PySem.W.Frag) (mg : Str → Option Value) (E : XK) (m : MS) : TS := fun _ σ H => ∃ g sl st c st', RepSl K H g sl σ ∧ RepSt H g st ∧ m sl st = .exc c st' ∧ ∀ g' H', Stp g H g' H' → RepSt H' g' st' → E (clV mg c) none H'
abbrev PEe (X : Cx) (F : L2.St → XK) (e : Expr) (m : ME) : Prop := PE X e (tEe X.K X.mg F m)
abbrev PAe (X : Cx) (F : L2.St → XK) (e : List Expr) (m : MA) : Prop := PA X e (tAe X.K X.mg F m)
abbrev PKe (X : Cx) (F : L2.St → XK) (e : List Keyword) (m : MA) : Prop := PK X e (tAe X.K X.mg F m)
abbrev PSe (X : Cx) (E : XK) (s : Stmt) (m : MS) : Prop := PS X s (tSe X.K X.mg E m)
abbrev PSse (X : Cx) (E : XK) (s : List Stmt) (m : MS) : Prop := PSs X s (tSe X.K X.mg E m)
/-- a def's promise, with its exceptions -/
def cX (K : PySem.W.Frag) (mg : Str → Option Value) (f : Fn) : List V → Hp → XK → Prop := fun vs H E => ∃ g st ws c st', RepWs K H g ws vs ∧ RepSt H g st ∧ f ws st = .exc c st' ∧ ∀ g' H', Stp g H g' H' → RepSt H' g' st' → E (clV mg c) none H'
def spX (K : PySem.W.Frag) (mg : Str → Option Value) (f : Fn) (n : Nat) : Sp := fun vs H Q E => vs.length = n ∧ (cM K f vs H Q ∨ cX K mg f vs H E)
def FnkX (P : Program) (w : World) (K : PySem.W.Frag) (mg : Str → Option Value) (base : Heap) (k : Nat) (x : Str) (st : Stmt) (ps : List Str) (f : Fn) (n : Nat) : Prop :=
  ∃ (a : Addr) (fd : FuncData), FnD K x st a fd ∧ mg x = some (.ref a) ∧ Binds K fd ps [] ∧ FnOk P w K mg base (L2N.CX P w) k a fd ps (spX K mg f n)
section
variable {P : Program} {w : World} {K : PySem.W.Frag} {mg : Str → Option Value} {base : Heap}
theorem FnkX.mono {j k n : Nat} {x : Str} {st : Stmt} {ps : List Str} {f : Fn} (h : FnkX P w K mg base j x st ps f n) (hk : j ≤ k) : FnkX P w K mg base k x st ps f n :=
  let ⟨a, fd, h1, h2, h3, h4⟩ := h
  ⟨a, fd, h1, h2, h3, h4.mono hk⟩
/-- what it does where it does not raise -/
theorem FnkX.fnk {k n : Nat} {x : Str} {st : Stmt} {ps : List Str} {f : Fn} (h : FnkX P w K mg base k x st ps f n) (hn : ps.length = n) : Fnk P w K mg base k x st ps f n := by
  obtain ⟨a, fd, h1, h2, h3, h4⟩ := h
  refine ⟨a, fd, h1, h2, h3, ⟨fun vs H Q E q => by rw [hn]; exact q.1, fun A outer s H args us vs Q E hr e0 hb hv hs => ?_⟩⟩
  refine codeAny_mono (h4.run A outer s H args us vs Q (fun _ _ _ => False) hr e0 hb hv ⟨hs.1, .inl hs.2⟩) fun r s' hq => ?_
  cases r with
  | ok fl => cases fl <;> exact hq
  | error e =>
    obtain ⟨_, _, _, _, _, _, _, _, _, _, _, _, z⟩ := hq
    exact z
end
section
variable {X : Cx} {e e1 e2 : Expr} {es : List Expr} {pos p : Pos} {m : ME} {ma mb : ME} {r : MA} {F : L2.St → XK} {E : XK} {s : Stmt} {ss : List Stmt} {a b : MS}
theorem m_ok (h : PEm X e m) : PEm X e (okM m) := pe_w h fun σ H Q ⟨g, sl, st, w, st', hs, ht, e, k⟩ => ⟨g, sl, st, w, st', hs, ht, R.calm_ok e, k⟩
theorem t_ok {m : MT} (h : PTm X e m) : PTm X e (okT m) := pt_w h fun σ H Q ⟨g, sl, st, w, st', hs, ht, e, k⟩ => ⟨g, sl, st, w, st', hs, ht, R.calm_ok e, k⟩
theorem a_ok (h : PAm X es r) : PAm X es (okA r) := pa_w h fun σ H Q ⟨g, sl, st, w, st', hs, ht, e, k⟩ => ⟨g, sl, st, w, st', hs, ht, R.calm_ok e, k⟩
theorem k_ok {kws : List Keyword} (h : PKm X kws r) : PKm X kws (okA r) := pk_w h fun σ H Q ⟨g, sl, st, w, st', hs, ht, e, k⟩ => ⟨g, sl, st, w, st', hs, ht, R.calm_ok e, k⟩
theorem s_ok (h : PSm X s a) : PSm X s (okS a) := ps_w h fun D σ H ⟨g, sl, st, fl, sl', st', hs, ht, e, k⟩ => ⟨g, sl, st, fl, sl', st', hs, ht, R.calm_ok e, k⟩
theorem x_ok : PEe X F e (okM m) := ⟨fun _ _ _ _ _ _ ⟨_, _, _, _, _, _, _, h, _⟩ => (R.calm_exc h).elim⟩
theorem xa_ok : PAe X F es (okA r) := ⟨fun _ _ _ _ _ _ _ ⟨_, _, _, _, _, _, _, h, _⟩ => (R.calm_exc h).elim⟩
theorem xk_ok {kws : List Keyword} : PKe X F kws (okA r) := ⟨fun _ _ _ _ _ _ _ ⟨_, _, _, _, _, _, _, h, _⟩ => (R.calm_exc h).elim⟩
theorem xs_ok : PSe X E s (okS a) := ⟨fun _ _ _ _ _ _ ⟨_, _, _, _, _, _, _, h, _⟩ => (R.calm_exc h).elim⟩
theorem xs_skip : PSse X E [] skipS := ⟨fun _ _ _ _ _ _ ⟨_, _, _, _, _, _, _, h, _⟩ => nomatch h⟩
theorem xa_nil : PAe X F [] nilA := ⟨fun _ _ _ _ _ _ _ ⟨_, _, _, _, _, _, _, h, _⟩ => nomatch h⟩
theorem xk_nil : PKe X F [] nilA := ⟨fun _ _ _ _ _ _ _ ⟨_, _, _, _, _, _, _, h, _⟩ => nomatch h⟩
theorem lenA_ok {n : Nat} (h : LenA r n) : LenA (okA r) n := fun sl st w st' e => h sl st w st' (R.calm_ok e)
/-! either way -/
theorem pe_or {t u : TE} (h1 : PE X e t) (h2 : PE X e u) : PE X e (fun σ H Q => t σ H Q ∨ u σ H Q) := ⟨fun pins s σ H Q I q => q.elim (h1.run pins s σ H Q I) (h2.run pins s σ H Q I)⟩
theorem pa_or {t u : TA} (h1 : PA X es t) (h2 : PA X es u) : PA X es (fun σ H Q => t σ H Q ∨ u σ H Q) := ⟨fun pos pins s σ H Q I q => q.elim (h1.run pos pins s σ H Q I) (h2.run pos pins s σ H Q I)⟩
theorem pk_or {kws : List Keyword} {t u : TA} (h1 : PK X kws t) (h2 : PK X kws u) : PK X kws (fun σ H Q => t σ H Q ∨ u σ H Q) := ⟨fun pos pins s σ H Q I q => q.elim (h1.run pos pins s σ H Q I) (h2.run pos pins s σ H Q I)⟩
theorem ps_or {t u : TS} (h1 : PS X s t) (h2 : PS X s u) : PS X s (fun D σ H => t D σ H ∨ u D σ H) := ⟨fun pins s σ H D I q => q.elim (h1.run pins s σ H D I) (h2.run pins s σ H D I)⟩
theorem pss_or {t u : TS} (h1 : PSs X ss t) (h2 : PSs X ss u) : PSs X ss (fun D σ H => t D σ H ∨ u D σ H) := ⟨fun pins s σ H D I q => q.elim (h1.run pins s σ H D I) (h2.run pins s σ H D I)⟩
/-! ### statements -/
theorem xs_cons (h1 : PSm X s a) (x1 : PSe X E s a) (x2 : PSse X E ss b) : PSse X E (s :: ss) (seqS a b) := by
  refine pss_w (pss_cons (ps_or h1 x1) x2) fun D σ H ⟨g, sl, st, c, st', hs, ht, e, k⟩ => ?_
  rcases R.bind_exc e with e | ⟨⟨f1, sl1, st1⟩, e1, e2⟩
  · exact .inr ⟨g, sl, st, c, st', hs, ht, e, k⟩
  · refine .inl ⟨g, sl, st, f1, sl1, st1, hs, ht, e1, fun g1 σ1 H1 s1 t1 r1 => ?_⟩
    cases f1 with
    | nx => exact ⟨g1, sl1, st1, c, st', r1, t1, e2, fun g2 H2 s2 t2 => k g2 H2 (s1.trans s2) t2⟩
    | bk => cases e2
    | ct => cases e2
    | rt w => cases e2
theorem xs_one (x1 : PSe X E s a) : PSse X E [s] a := by
  refine pss_w (pss_cons x1 (u := fun _ _ _ => False) ⟨fun _ _ _ _ _ _ h => h.elim⟩) fun D σ H h => h
theorem xs_if {c : Expr} {p q : List Stmt} {tc : MT} (hc : PTm X c tc) (ha : PSse X E p a) (hb : PSse X E q b) : PSe X E (.If c p q pos) (ifS (okT tc) a b) := by
  refine ps_w (ps_if (t_ok hc) ha hb) fun D σ H ⟨g, sl, st, c, st', hs, ht, e, k⟩ => ?_
  rcases R.bind_exc e with e | ⟨⟨x, st1⟩, h1, e⟩
  · exact (R.calm_exc e).elim
  · refine ⟨g, sl, st, x, st1, hs, ht, h1, fun g1 H1 s1 t1 => ?_⟩
    cases x with
    | true => exact ⟨g1, sl, st1, c, st', hs.mono s1, t1, e, fun g2 H2 s2 t2 => k g2 H2 (s1.trans s2) t2⟩
    | false => exact ⟨g1, sl, st1, c, st', hs.mono s1, t1, e, fun g2 H2 s2 t2 => k g2 H2 (s1.trans s2) t2⟩
abbrev Fi (E : XK) : L2.St → XK := fun _ => E
theorem xs_ret (h : PEe X (Fi E) e m) : PSe X E (.Return (some e) pos) (retS m) := by
  refine ps_w (ps_ret h) fun D σ H ⟨g, sl, st, c, st', hs, ht, e, k⟩ => ?_
  rcases R.bind_exc e with e | ⟨_, _, e⟩
  · exact ⟨g, sl, st, c, st', hs, ht, e, k⟩
  · cases e
theorem xs_drop (h : PEe X (Fi E) e m) (hw : swapsWith e none pos.line X.env = pure false := by rfl) : PSe X E (.Expr e pos) (dropS m) := by
  refine ps_w (ps_expr h hw) fun D σ H ⟨g, sl, st, c, st', hs, ht, e, k⟩ => ?_
  rcases R.bind_exc e with e | ⟨_, _, e⟩
  · exact ⟨g, sl, st, c, st', hs, ht, e, k⟩
  · cases e
theorem xs_set {i : Nat} {x : Str} {pos' : Pos} (hN : X.N.Nodup) (hi : X.N[i]? = some x) (hx : Loc X.env.scope x) (h : PEe X (Fi E) e m) (hw : swapsWith e (some (.Name x pos')) pos.line X.env = pure false := by rfl) (hf : X.fn x = true ∨ X.env.scope.names.lookup x = some .local := by first | exact .inl rfl | exact .inr rfl | assumption) :
    PSe X E (.Assign [.Name x pos'] e pos) (setS i m) := by
  refine ps_w (ps_set hN hi hx h hw hf) fun D σ H ⟨g, sl, st, c, st', hs, ht, e, k⟩ => ?_
  rcases R.bind_exc e with e | ⟨_, _, e⟩
  · exact ⟨g, sl, st, c, st', hs, ht, e, k⟩
  · cases e
/-- a tuple target behind a value that is no error: no error -/
theorem Tgt.put_calm : (∀ (t : Tgt) (w : W) (sl : Slots) (c : Nat) (st : Store), t.put w sl ≠ .exc c st) ∧ ∀ (ts : List Tgt) (ds : List D) (sl : Slots) (c : Nat) (st : Store), Tgt.puts ts ds sl ≠ .exc c st := by
  have key : ∀ n : Nat, (∀ (t : Tgt) (w : W) (sl : Slots) (c : Nat) (st : Store), sizeOf t ≤ n → t.put w sl ≠ .exc c st) ∧ ∀ (ts : List Tgt) (ds : List D) (sl : Slots) (c : Nat) (st : Store), sizeOf ts ≤ n → Tgt.puts ts ds sl ≠ .exc c st := by
    intro n
    induction n with
    | zero => exact ⟨fun t w sl c st h => by cases t <;> simp at h, fun ts ds sl c st h => by cases ts <;> simp at h⟩
    | succ n ih =>
      refine ⟨fun t w sl c st h => ?_, fun ts ds sl c st h => ?_⟩
      · cases t with
        | nm i => simp [Tgt.put]
        | tp ts =>
          cases w with
          | p d =>
            cases d with
            | tup ds =>
              simp only [Tgt.put]
              split
              · exact ih.2 ts ds sl c st (by simp at h; omega)
              · simp
            | _ => simp [Tgt.put]
          | _ => simp [Tgt.put]
      · cases ts with
        | nil => simp [Tgt.puts]
        | cons t ts =>
          cases ds with
          | nil => simp [Tgt.puts]
          | cons d ds =>
            simp only [Tgt.puts]
            intro z
            simp at h
            rcases R.bind_exc z with z | ⟨sl1, _, z⟩
            · exact ih.1 t _ sl c st (by omega) z
            · exact ih.2 ts ds sl1 c st (by omega) z
  exact ⟨fun t w sl c st => (key (sizeOf t)).1 t w sl c st (Nat.le_refl _), fun ts ds sl c st => (key (sizeOf ts)).2 ts ds sl c st (Nat.le_refl _)⟩
theorem xs_asg {tg : Expr} {t : Tgt} {gt : TG} (h : PEe X (Fi E) e m) (hg : PG X tg gt) (hs : swapsWithSole [tg] e pos.line X.env = pure false := by rfl) (hw : swappedStores [tg] e X.env = pure none := by rfl) (h1 : (assignEach [tg] X.env).map (·.2) = [assign tg X.env] := by rfl) :
    PSe X E (.Assign [tg] e pos) (asgS t m) := by
  refine ps_w (ps_asg h hg hs hw h1) fun D σ H ⟨g, sl, st, c, st', hs, ht, e, k⟩ => ?_
  rcases R.bind_exc e with e | ⟨_, _, e⟩
  · exact ⟨g, sl, st, c, st', hs, ht, e, k⟩
  · rcases R.bind_exc e with e | ⟨_, _, e⟩
    · exact (Tgt.put_calm.1 _ _ _ _ _ e).elim
    · cases e
/-! ### rows of arguments -/
theorem xa_cons {r : MA} (h1 : PEm X e m) (x1 : PEe X F e m) (x2 : PAe X F es r) (hs : starEach (e :: es) X.env = (false, eval e X.env) :: starEach es X.env := by rfl) : PAe X F (e :: es) (consA m r) := by
  refine pa_w (pa_cons (pe_or h1 x1) x2 hs) fun σ H Q ⟨g, sl, st, c, st', hs, ht, e, k⟩ => ?_
  rcases R.bind_exc e with e | ⟨⟨x, st1⟩, h1, e⟩
  · exact .inr ⟨g, sl, st, c, st', hs, ht, e, k⟩
  · refine .inl ⟨g, sl, st, x, st1, hs, ht, h1, fun g1 v1 H1 s1 t1 r1 => ?_⟩
    rcases R.bind_exc e with e | ⟨_, _, e⟩
    · exact ⟨g1, sl, st1, c, st', hs.mono s1, t1, e, fun g2 H2 s2 t2 => k g2 H2 (s1.trans s2) t2⟩
    · cases e
theorem xk_cons {kws : List Keyword} {nm : Option Str} {kpos : Pos} {r : MA} (h1 : PEm X e m) (x1 : PEe X F e m) (x2 : PKe X F kws r) : PKe X F (⟨nm, e, kpos⟩ :: kws) (consA m r) := by
  refine pk_w (pk_cons (pe_or h1 x1) x2) fun σ H Q ⟨g, sl, st, c, st', hs, ht, e, k⟩ => ?_
  rcases R.bind_exc e with e | ⟨⟨x, st1⟩, h1, e⟩
  · exact .inr ⟨g, sl, st, c, st', hs, ht, e, k⟩
  · refine .inl ⟨g, sl, st, x, st1, hs, ht, h1, fun g1 v1 H1 s1 t1 r1 => ?_⟩
    rcases R.bind_exc e with e | ⟨_, _, e⟩
    · exact ⟨g1, sl, st1, c, st', hs.mono s1, t1, e, fun g2 H2 s2 t2 => k g2 H2 (s1.trans s2) t2⟩
    · cases e
end
end Pm

/-! Core15: calls, raise, defs that end in an exception; try. -/
namespace Pm
open PySem PySem.Spec PyProof.Rows L2
section
variable {X : Cx} {e e1 e2 : Expr} {es : List Expr} {pos p : Pos} {m : ME} {ma mb : ME} {r : MA} {F : L2.St → XK} {E : XK} {s : Stmt} {ss : List Stmt} {a b : MS}
abbrev WF (F : L2.St → XK) : WX := fun cls d σ H => F σ cls d H
theorem x_call {k : Nat} {a : Addr} {fd : FuncData} {ps : List Str} {f : Fn} {n : Nat} {x : Str} {p : Pos} {m : MA} (tk : L2N.Takes X (WF F)) (G : FnOk X.prog X.w X.K X.mg X.base (L2N.CX X.prog X.w) k a fd ps (spX X.K X.mg f n)) (hr : Room k X.A) (hg : Gl X x) (hm : X.mg x = some (.ref a)) (hk : PySem.W.keepIn X.K (.ref a) = true) (hb : Binds X.K fd ps [])
    (ha : PAm X (e :: es) m) (xa : PAe X F (e :: es) m) (hl : LenA m n) (hdb : (x == ("__debug__" : Str)) = false := by decide) (he : starEach (e :: es) X.env = (false, eval e X.env) :: starEach es X.env := by rfl) (hpl : (backTo pos (starEach es X.env)).any (·.1) = false := by rfl) :
    PEe X F (.Call (.Name x p) (e :: es) [] pos) (callM f m) := by
  refine pe_w (pe_callS G hr hg hm hk hb (L2N.passAt tk) (pa_or ha xa) hdb he hpl) fun σ H Q ⟨g, sl, st, c, st', hs, ht, e, k⟩ => ?_
  rcases R.bind_exc e with e | ⟨⟨x, st1⟩, h1, e⟩
  · exact .inr ⟨g, sl, st, c, st', hs, ht, e, k⟩
  · refine .inl ⟨g, sl, st, x, st1, hs, ht, h1, fun g1 v1 H1 s1 t1 r1 => ?_⟩
    exact ⟨by rw [← r1.len]; exact hl _ _ _ _ h1, .inr ⟨g1, st1, x, c, st', r1, t1, e, fun g2 H2 s2 t2 => k g2 H2 (s1.trans s2) t2⟩⟩
/-- with keywords -/
theorem run_fnNS {CX : CXT} {k n : Nat} {f : Addr} {fd : FuncData} {ps ks : List Str} {sp : Sp} {Es : L2.St → XK} {g : List Value → List Value → List Value} {gV : List V → List V → List V} {pins : List (Addr × Obj)} {σ : L2.St} {H : Hp} {s : Shared} {Q : VK} {us ws : List Value} {vs zs : List V}
    (G : FnOk X.prog X.w X.K X.mg X.base CX k f fd ps sp) (hr : Room k X.A) (hb : KBn X.K fd ps n ks g gV) (hx : PassesAt CX X σ (Es σ))
    (I : Inv X pins σ H s) (r : Vals vs us) (rz : Vals zs ws) (l1 : vs.length = n) (l2 : zs.length = ks.length) (h : sp (gV vs zs) H Q (Es σ)) : wpAny (model X.prog X.w) X.A (call (.ref f) us (ks.zip ws)) (EP X pins σ Q) X.xe s := by
  obtain ⟨h1, h2⟩ := hb
  have b := h1 s us ws I.kIn (by rw [← r.length]; exact l1) (by rw [← rz.length]; exact l2)
  refine wpAny_call (codeAny_mono (G.run X.A X.stack s H ⟨us, ks.zip ws⟩ _ (gV vs zs) Q (Es σ) hr I.env0 b (h2 r rz) h) fun r s' hq => ?_)
  cases r with
  | error e => exact hx pins H s e s' I hq
  | ok fl =>
    cases fl with
    | ret u => exact I.after hq
    | next => exact False.elim hq
    | brk => exact False.elim hq
    | cont => exact False.elim hq
theorem x_callK0 {k : Nat} {a : Addr} {fd : FuncData} {ps ks : List Str} {f : Fn} {n : Nat} {perm : List Nat} {x : Str} {p : Pos} {kws : List Keyword} {mk : MA} (tk : L2N.Takes X (WF F)) (G : FnOk X.prog X.w X.K X.mg X.base (L2N.CX X.prog X.w) k a fd ps (spX X.K X.mg f n)) (hr : Room k X.A) (hg : Gl X x) (hm : X.mg x = some (.ref a)) (hk : PySem.W.keepIn X.K (.ref a) = true) (hb : KB fd ps ks 0 perm)
    (hkw : PKm X kws mk) (xk : PKe X F kws mk) (hl2 : LenA mk ks.length) (hp : ∀ l : List V, l.length = 0 + ks.length → (pick perm l).length = n) (hall : (backToKw pos (keywordEach kws X.env)).all (·.1.isSome) = true := by rfl) (hks : (backToKw pos (keywordEach kws X.env)).filterMap (·.1) = ks := by rfl)
    (hdb : (x == ("__debug__" : Str)) = false := by decide)
    (hpl : ((backTo pos (starEach [] X.env)).any (·.1) || (backToKw pos (keywordEach kws X.env)).any (·.1.isNone)) = false := by rfl) :
    PEe X F (.Call (.Name x p) [] kws pos) (callKM f perm nilA mk) := by
  refine ⟨fun pins s σ H Q I ⟨g, sl, st, c, st', hs, ht, e, kk⟩ => ?_⟩
  refine wpAny_Call_Name_kw (ld_glob I hg hm ?_ hdb)
  refine PySem.W.callWith_KW0 (h₀ := X.base) I.ok.mod.kin hk hall (thn ((pk_or hkw xk).run pos pins s σ H (fun zs H2 => zs.length = ks.length ∧ spX X.K X.mg f n (pick perm ([] ++ zs)) H2 Q (F σ)) I ?_) fun ws s2 ⟨zs, H2, I2, rz, l2, q2⟩ => ⟨I2.kIn, ?_⟩) hpl
  · rcases R.bind_exc e with e | ⟨⟨x, st1⟩, h1, e⟩
    · cases e
    · cases h1
      rcases R.bind_exc e with e | ⟨⟨y, st2⟩, h2, e⟩
      · exact .inr ⟨g, sl, st, c, st', hs, ht, e, kk⟩
      · refine .inl ⟨g, sl, st, y, st2, hs, ht, h2, fun g2 v2 H2 s2 t2 r2 => ?_⟩
        have e2 : v2.length = ks.length := by rw [← r2.len]; exact hl2 _ _ _ _ h2
        exact ⟨e2, hp _ (by simpa using e2), .inr ⟨g2, st2, _, c, st', RepWs.pick r2 perm, t2, e, fun g3 H3 s3 t3 => kk g3 H3 (s2.trans s3) t3⟩⟩
  · rw [hks]
    exact run_fnNS (us := []) (vs := []) (Es := F) G hr hb.kbn (L2N.passAt tk σ) I2 .nil rz rfl l2 q2
theorem cx_fn {k n : Nat} {x : Str} {sx : Stmt} {ps : List Str} {f : Fn} {m : MA} (tk : L2N.Takes X (WF F)) (G : FnkX X.prog X.w X.K X.mg X.base k x sx ps f n) (hr : Room k X.A) (hg : Gl X x) (ha : PAm X (e :: es) m) (xa : PAe X F (e :: es) m) (hl : LenA m n)
    (hdb : (x == ("__debug__" : Str)) = false := by decide) (he : starEach (e :: es) X.env = (false, eval e X.env) :: starEach es X.env := by rfl) (hpl : (backTo pos (starEach es X.env)).any (·.1) = false := by rfl) :
    PEe X F (.Call (.Name x p) (e :: es) [] pos) (callM f m) :=
  let ⟨_, _, h1, h2, h3, h4⟩ := G
  x_call tk h4 hr hg h2 h1.kp h3 ha xa hl hdb he hpl
theorem cx_fnK0 {k n : Nat} {x : Str} {sx : Stmt} {ps ks : List Str} {f : Fn} {perm : List Nat} {kws : List Keyword} {mk : MA} (tk : L2N.Takes X (WF F)) (G : FnkX X.prog X.w X.K X.mg X.base k x sx ps f n) (hr : Room k X.A) (hg : Gl X x)
    (hb : ∀ (kV doc pm : Value) (an : Option Addr) (cdv ct : Value) (us ws : List Value), us.length = 0 → ws.length = ks.length → bindArgs (PySem.W.fnOf x x (defArgs sx) (defBody sx) (defScope sx) .none kV doc pm an cdv ct) ⟨us, ks.zip ws⟩ = pure (ps.zip (pick perm (us ++ ws))))
    (hkw : PKm X kws mk) (xk : PKe X F kws mk) (hl2 : LenA mk ks.length) (hp : ∀ l : List V, l.length = 0 + ks.length → (pick perm l).length = n) (hall : (backToKw pos (keywordEach kws X.env)).all (·.1.isSome) = true := by rfl) (hks : (backToKw pos (keywordEach kws X.env)).filterMap (·.1) = ks := by rfl)
    (hdb : (x == ("__debug__" : Str)) = false := by decide)
    (hpl : ((backTo pos (starEach [] X.env)).any (·.1) || (backToKw pos (keywordEach kws X.env)).any (·.1.isNone)) = false := by rfl) :
    PEe X F (.Call (.Name x p) [] kws pos) (callKM f perm nilA mk) :=
  let ⟨_, _, h1, h2, h3, h4⟩ := G
  x_callK0 tk h4 hr hg h2 h1.kp (FnD.kb h1 hb) hkw xk hl2 hp hall hks hdb hpl
/-! ### raise -/
/-- an error class of the program's own, below ValueError -/
structure ExF (K : PySem.W.Frag) (mg : Str → Option Value) (c : Nat) : Prop where
  ex : ∃ C : Addr, mg (clsN c) = some (.ref C) ∧ PySem.W.excIn K C He.veBase "ValueError.__new__" = true ∧ PySem.W.keepIn K (.ref C) = true ∧ PySem.W.subIn K (.ref C) (.type "BaseException") = some true ∧ PySem.W.typeIn K (.ref C) = some (.type "type")
theorem pmk0 {C : Addr} {bmB : List Value} {B newId initId : String} {x : Str} {p pos : Pos} (G : ExcBaseFacts B newId initId bmB) (q : PySem.W.excIn X.K C bmB newId = true) (gC : X.mg x = some (.ref C)) (kC : PySem.W.keepIn X.K (.ref C) = true) (r : Raises X (.ref C)) (hg : Gl X x)
    (hdb : (x == ("__debug__" : Str)) = false := by decide) : L2N.PMk X (.Call (.Name x p) [] [] pos) (fun _ H Q => Q (.ref C) none H) := by
  intro pins s σ H Q I h
  refine wpAny_Call_Name_kw (ld_glob I hg gC ?_ hdb)
  refine PySem.W.callWith_K0 I.kIn kC ?_
  show wpAny _ _ (call (.ref C) []) _ _ _
  obtain ⟨bm, N, nm, qn, bs, hdct, sn, sub, ab, col, dd, k0, k1, k2, k3, k5, mN, hC, hN, hni, T⟩ := exc_obj I.kIn q
  refine wpAny_call_exc_subT G T hC hN hni (fun h' e hm => ?_) (by show 0 ≤ sizeLine; omega)
  exact L2N.mk_of I hm r h (I.hok.gone hm.new)
theorem xs_raise {c : Nat} {x : Str} {p pos pos' : Pos} (hc : X.calm = true) (tk : L2N.Takes X (WF (Fi E))) (G : ExF X.K X.mg c) (hx : clsN c = x) (hg : Gl X x) (hdb : (x == ("__debug__" : Str)) = false := by decide) : PSe X E (.Raise (some (.Call (.Name x p) [] [] pos)) none pos') (raiseS c) := by
  obtain ⟨C, g1, g2, g3, g4, g5⟩ := G.ex
  have gx : X.mg x = some (.ref C) := by rw [← hx]; exact g1
  refine ps_w (L2N.ps_raise hc tk (pmk0 PySem.F.excBase_ValueError g2 gx g3 (raises_own g4 g5) hg hdb)) fun D σ H ⟨g, sl, st, c', st', hs, ht, e, k⟩ => ?_
  cases e
  have := k g H (Stp.refl g H) ht
  have e : clV X.mg c = .ref C := by unfold clV; rw [g1]; rfl
  rw [e] at this
  exact this
end
/-! ### defs -/
section
variable {P : Program} {w : World} {K : PySem.W.Frag} {mg : Str → Option Value} {base : Heap}
theorem takesD {N : List Str} {qual : Str} {sc : Scope} {f : Addr} {cdv : Value} {A : Around} {outer : List Env} {s : Shared} {H : Hp} {E : XK} : L2N.Takes (cxOf (L2N.CX P w) P w K mg base N qual sc f cdv A outer s H E) (WF (Fi E)) :=
  L2N.takes_of rfl rfl rfl rfl
theorem Has.okX {x : Str} {st : Stmt} {N ps : List Str} {k n : Nat} {body : MS} (h : Has K mg x st ps) (S : FnScope N ps (defScope st)) (hn : ps.length = n)
    (hb : ∀ (f : Addr) (cdv : Value) (A : Around) (outer : List Env) (s : Shared) (H : Hp) (E : XK), Room k (A.deeper (envOfC x (defScope st) s.heap.objs.size f cdv)) → PSsm (cxOf (L2N.CX P w) P w K mg base N x (defScope st) f cdv A outer s H E) (defBody st) body)
    (xb : ∀ (f : Addr) (cdv : Value) (A : Around) (outer : List Env) (s : Shared) (H : Hp) (E : XK), Room k (A.deeper (envOfC x (defScope st) s.heap.objs.size f cdv)) → PSse (cxOf (L2N.CX P w) P w K mg base N x (defScope st) f cdv A outer s H E) E (defBody st) body) :
    FnkX P w K mg base (k + 1) x st ps (defP N.length body) n := by
  obtain ⟨a, fd, h1, h2, h3⟩ := h
  refine ⟨a, fd, h1, h2, h3, ?_⟩
  obtain ⟨oc, od, dV, kV, doc, pm, an, cdv, ct, osl, rfl, lk, hcd, hD, hK⟩ := h1.ex
  refine fn_of lk hcd S (fun vs H Q E q => by rw [hn]; exact q.1) fun A outer s H vs Q E hr hsp => ?_
  refine ⟨_, pss_or (hb a cdv A outer s H E hr) (xb a cdv A outer s H E hr), ?_⟩
  obtain ⟨hl, ⟨g, st0, ws, wr, st', r, t, e, k⟩ | ⟨g, st0, ws, c, st', r, t, e, k⟩⟩ := hsp
  · obtain ⟨⟨fl, sl1, st1⟩, h1, e⟩ := R.bind_inv e
    refine .inl ⟨g, _, st0, fl, sl1, st1, start_rep N.length r, t, h1, fun g1 σ1 H1 s1 t1 S1 => ?_⟩
    cases fl with
    | nx =>
      cases e
      refine k (g1.cut g.al.length) .non H1 s1.cut ?_ rwNon
      rw [t.len]
      exact t1.cut _
    | bk => cases e
    | ct => cases e
    | rt w =>
      obtain ⟨⟨d, st2⟩, h2, e⟩ := R.bind_inv (show ((frz w st1).bind _) = _ from e)
      cases e
      intro v rv
      obtain ⟨g2, s2, t2, r2⟩ := frz_rep t1 rv h2
      refine k (g2.cut g.al.length) v H1 (s1.trans s2).cut ?_ (RepD.mono0 (Stp0.cut g2 H1 _) _ _ r2)
      rw [t.len]
      exact t2.cut _
  · rcases R.bind_exc e with e | ⟨⟨fl, sl1, st1⟩, h1, e⟩
    · exact .inr ⟨g, _, st0, c, st', start_rep N.length r, t, e, fun g1 H1 s1 t1 => k g1 H1 s1 t1⟩
    · cases fl with
      | nx => cases e
      | bk => cases e
      | ct => cases e
      | rt w =>
        rcases R.bind_exc (show ((frz w st1).bind _) = _ from e) with e | ⟨_, _, e⟩
        · cases w with
          | p d => cases e
          | scr ns => cases e
          | loc n => unfold frz at e; cases hc : cellL st1 n <;> simp [hc] at e
        · cases e
end
/-! ### try -/
/-- x = f(..), or f(..) alone, in a try; the clause's suite with the error's name unset -/
def tryS (c i : Nat) (body h : MS) : MS := fun sl st => match body sl st with
  | .exc c' st' => if c' = c ∧ i < sl.length then (h (sl.set i none) (st'.take st.length)).bind fun x => .ok (x.1, x.2.1.set i none, x.2.2) else .stuck
  | r => r
section
variable {X : Cx} {s : Stmt} {ss : List Stmt} {b h : MS}
/-- a suite's reading: the error stands at a, in slot i -/
def tSu (K : PySem.W.Frag) (i : Nat) (a : Addr) (m : MS) : TS := fun D σ H => σ[i]? = some (some (.ref a)) ∧ tS K m D σ H
/-- a statement's reading by the state: what it wants at an exception may lean on the slots -/
def tSF (K : PySem.W.Frag) (mg : Str → Option Value) (F : L2.St → XK) (m : MS) : TS := fun _ σ H => ∃ g sl st c st', RepSl K H g sl σ ∧ RepSt H g st ∧ m sl st = .exc c st' ∧ ∀ g' H', Stp g H g' H' → RepSt H' g' st' → F σ (clV mg c) none H'
theorem xf_drop {F : L2.St → XK} {e : Expr} {m : ME} {pos : Pos} (h : PEe X F e m) (hw : swapsWith e none pos.line X.env = pure false := by rfl) : PS X (.Expr e pos) (tSF X.K X.mg F (dropS m)) := by
  refine ps_w (ps_expr h hw) fun D σ H ⟨g, sl, st, c, st', hs, ht, e, k⟩ => ?_
  rcases R.bind_exc e with e | ⟨_, _, e⟩
  · exact ⟨g, sl, st, c, st', hs, ht, e, k⟩
  · cases e
theorem xf_set {F : L2.St → XK} {e : Expr} {m : ME} {pos : Pos} {i : Nat} {x : Str} {pos' : Pos} (hN : X.N.Nodup) (hi : X.N[i]? = some x) (hx : Loc X.env.scope x) (h : PEe X F e m) (hw : swapsWith e (some (.Name x pos')) pos.line X.env = pure false := by rfl) (hf : X.fn x = true ∨ X.env.scope.names.lookup x = some .local := by first | exact .inl rfl | exact .inr rfl | assumption) :
    PS X (.Assign [.Name x pos'] e pos) (tSF X.K X.mg F (setS i m)) := by
  refine ps_w (ps_set hN hi hx h hw hf) fun D σ H ⟨g, sl, st, c, st', hs, ht, e, k⟩ => ?_
  rcases R.bind_exc e with e | ⟨_, _, e⟩
  · exact ⟨g, sl, st, c, st', hs, ht, e, k⟩
  · cases e
theorem RepSl.out {K : PySem.W.Frag} {g : G} {H : Hp} {sl : Slots} {σ : L2.St} (h : RepSl K H g sl σ) (i : Nat) (o : Option V) : RepSl K H g (sl.set i none) (σ.set i o) := by
  refine ⟨by simp [h.len], fun j u e => ?_⟩
  by_cases hj : i = j
  · subst hj
    have hi : i < sl.length := by
      by_cases hi : i < sl.length
      · exact hi
      · rw [List.getElem?_eq_none (by simpa using hi)] at e; cases e
    rw [List.getElem?_set_self hi] at e
    cases e
  · rw [List.getElem?_set_ne hj] at e ⊢
    exact h.at_ j u e
theorem s_try {x n : Str} {c i : Nat} {suite : List Stmt} {b₀ : Stmt} {np pos pos' : Pos} (hs : X.stack = X.env :: X.outer) (hf : X.env.frame = some X.env.locals) (hN : X.N.Nodup) (hi : X.N[i]? = some n) (hln : X.env.kindOf n = some .local) (hx : clsN c = x) (hg : Gl X x) (hdb : (x == ("__debug__" : Str)) = false)
    (hC : ∃ C : Addr, X.mg x = some (.ref C) ∧ PySem.W.exmOne X.K (.ref C) (.ref C) = some true)
    (hb : ∀ (W : WX) (pn : List (Addr × Obj)) (xe : Value → Shared → Prop), L2N.Takes (X.tr pn xe) W → PSm (X.tr pn xe) s b ∧ PS (X.tr pn xe) s (tSF X.K X.mg (fun σ cls d H => W cls d σ H) b))
    (hsu : ∀ (a : Addr) (oe : Obj) (C : Addr) (pn : List (Addr × Obj)), X.mg x = some (.ref C) → L2N.Zn (.ref C) none oe → (∃ vs, oe.data = .fields vs) → PSs (X.suite a ((a, oe) :: pn)) (b₀ :: suite) (tSu X.K i a h)) :
    PSm X (.Try [s] [.ExceptHandler (some (.Name x np)) (some n) (b₀ :: suite) pos'] [] [] pos) (tryS c i b h) := by
  obtain ⟨C, hC1, hC2⟩ := hC
  have key := L2N.ps_try_as (X := X) (x := x) (n := n) (c := .ref C) (i := i) (body := [s]) (suite := suite) (b₀ := b₀) (np := np) (pos := pos) (pos' := pos') (Wout := fun _ _ _ _ => False)
    (tb := fun W D σ H => tS X.K b D σ H ∨ tSF X.K X.mg (fun σ cls d H => W cls d σ H) b D σ H) (ts := fun a cls d D σ H => cls = .ref C ∧ d = none ∧ tSu X.K i a h D σ H)
    hs hf hN hi hln ⟨hg, hdb, .inl hC1⟩ (fun u s' ⟨_, _, _, _, _, _, _, _, _, _, _, _, _, _, _, _, z⟩ => z.elim)
    (fun W pn xe tk _ => pss_one (ps_or (hb W pn xe tk).1 (hb W pn xe tk).2))
    (fun a oe cls d pn hz hd => ⟨fun pins s σ H D I ⟨e1, e2, q⟩ => by
      subst e1 e2
      exact (hsu a oe C pn hC1 hz hd).run pins s σ H D I q⟩)
  refine ps_w key fun D σ H ⟨g, sl, st, fl, sl', st', hsl, ht, e, k⟩ => ?_
  unfold tryS at e
  cases hr : b sl st with
  | ok r =>
    rw [hr] at e
    cases e
    exact .inl ⟨g, sl, st, fl, sl', st', hsl, ht, hr, k⟩
  | stuck => rw [hr] at e; cases e
  | exc c' st1 =>
    rw [hr] at e
    dsimp only at e
    split at e
    · rename_i hc
      obtain ⟨hc, hil⟩ := hc
      subst hc
      refine .inr ⟨g, sl, st, c', st1, hsl, ht, hr, fun g' H' s1 t1 => ?_⟩
      obtain ⟨⟨f2, sl2, st2⟩, h2, e⟩ := R.bind_inv e
      cases e
      have eC : clV X.mg c' = .ref C := by unfold clV; rw [hx, hC1]; rfl
      rw [eC]
      refine ⟨true, hC2, fun _ a ha => ⟨rfl, rfl, ?_, g'.cut g.al.length, sl.set i none, st1.take st.length, f2, sl2, _, ?_, ?_, h2, fun g2 σ2 H2 s2 t2 r2 => ?_⟩, fun z => nomatch z⟩
      · exact List.getElem?_set_self (by rw [← hsl.len]; exact hil)
      · exact (hsl.mono s1.cut).out i _
      · rw [ht.len]; exact t1.cut _
      · have := k g2 (σ2.set i none) H2 (s1.cut.trans s2) t2 (r2.unset i)
        cases f2 with
        | nx => exact this
        | bk => exact this
        | ct => exact this
        | rt w => exact this
    · cases e
/-! ### a clause's suite -/
/-- an expression's reading where the error stands at a, in slot i -/
abbrev PEi (X : Cx) (i : Nat) (a : Addr) (e : Expr) (m : ME) : Prop := PE X e (fun σ H Q => σ[i]? = some (some (.ref a)) ∧ tM X.K m σ H Q)
theorem i_lift {i : Nat} {a : Addr} {e : Expr} {m : ME} (h : PEm X e m) : PEi X i a e m := pe_w h fun σ H Q q => q.2
theorem i_bin {i : Nat} {a : Addr} {e1 e2 : Expr} {op : Operator} {pos : Pos} {f : W → W → Store → R (W × Store)} {ma mb : ME} (ho : OpR X (binaryOp op) (r2M X.K f)) (ha : PEi X i a e1 ma) (hb : PEi X i a e2 mb) : PEi X i a (.BinOp e1 op e2 pos) (binM f ma mb) := by
  refine pe_w (pe_op ho ha hb) fun σ H Q ⟨hi, g, sl, st, w, st', hs, ht, e, k⟩ => ?_
  obtain ⟨⟨x, st1⟩, h1, e⟩ := R.bind_inv e
  obtain ⟨⟨y, st2⟩, h2, e⟩ := R.bind_inv e
  exact ⟨hi, g, sl, st, x, st1, hs, ht, h1, fun g1 v1 H1 s1 t1 r1 => ⟨hi, g1, sl, st1, y, st2, hs.mono s1, t1, h2, fun g2 v2 H2 s2 t2 r2 =>
    ⟨g2, st2, x, y, w, st', r1.mono s2, r2, t2, e, fun g3 v H3 s3 t3 r3 => k g3 v H3 (s1.trans (s2.trans s3)) t3 r3⟩⟩⟩
theorem i_callTy {i : Nat} {a : Addr} {e : Expr} {pos : Pos} {x : Str} {p : Pos} {T : String} {f : Fn} {m : ME} (hc : CallR X (.type T) (cM X.K f)) (hg : Gl X x) (hm : X.mg x = none) (hv : bootBuiltins x = some (.type T)) (ha : PEi X i a e m) (hn : x ≠ "__name__" := by decide) (hdb : (x == ("__debug__" : Str)) = false := by decide)
    (he : starEach [e] X.env = (false, eval e X.env) :: starEach [] X.env := by rfl) (hpl : (backTo pos (starEach [] X.env)).any (·.1) = false := by rfl) : PEi X i a (.Call (.Name x p) [e] [] pos) (callM f (consA m nilA)) := by
  refine pe_w (pe_callTy hc hg hm hv (pa_cons ha pa_nil he) hn hdb he hpl) fun σ H Q ⟨hi, g, sl, st, w, st', hs, ht, e, k⟩ => ?_
  obtain ⟨⟨ws, st1⟩, h1, e⟩ := R.bind_inv e
  obtain ⟨⟨y, st2⟩, h2, h1⟩ := R.bind_inv h1
  obtain ⟨⟨z, st3⟩, h3, h1⟩ := R.bind_inv h1
  cases h3
  cases h1
  refine ⟨hi, g, sl, st, y, st2, hs, ht, h2, fun g1 v1 H1 s1 t1 r1 => ?_⟩
  exact ⟨g1, st2, [y], w, st', .cons r1 .nil, t1, e, fun g2 v2 H2 s2 t2 r2 => k g2 v2 H2 (s1.trans s2) t2 r2⟩
theorem i_is {X : Cx} {i : Nat} {a C : Addr} {oe : Obj} {pn : List (Addr × Obj)} {n : Str} {p p1 p2 pos : Pos} (G : ExcC X.K C) (hk : PySem.W.kitOne X.K (.ref C) (.type "ValueError") = some true) (hz : L2N.Zn (.ref C) none oe) (hf : ∃ vs, oe.data = .fields vs)
    (hi : X.N[i]? = some n) (hv : Vis X.env.scope n) (hnd : (n == ("__debug__" : Str)) = false) (hnc : (n == ("__classdict__" : Str)) = false) (hg : Gl X "isinstance") (hm : X.mg "isinstance" = none) (hg2 : Gl X "ValueError") (hm2 : X.mg "ValueError" = none)
    (he : starEach [.Name n p1, .Name "ValueError" p2] X.env = (false, eval (.Name n p1) X.env) :: starEach [.Name "ValueError" p2] X.env := by rfl) (hpl : (backTo pos (starEach [.Name "ValueError" p2] X.env)).any (·.1) = false := by rfl) :
    PEi (X.suite a ((a, oe) :: pn)) i a (.Call (.Name "isinstance" p) [.Name n p1, .Name "ValueError" p2] [] pos) (constM (.bl true)) := by
  have bv : bootBuiltins "ValueError" = some (.type "ValueError") := by decide +kernel
  refine pe_w (pe_callB (X := X.suite a ((a, oe) :: pn)) (call_isE (X := X) G hz.zc hf) hg hm PyProof.Rows.boot_isinstance (pa_cons (pe_var (i := i) (X := X.suite a ((a, oe) :: pn)) hi hv hnd hnc) (pa_cons (pe_bltn (v := .ty "ValueError") hg2 hm2 bv rfl (by decide) (by decide)) pa_nil) he) (he := he) (hpl := hpl)) fun σ H Q ⟨q, g, sl, st, w, st', hs, ht, e, k⟩ => ?_
  cases e
  exact ⟨.ref a, q, .ty "ValueError", .type "ValueError", true, rfl, fun u r => r, hk, k g _ H (Stp.refl g H) ht (rwBl true)⟩
theorem su_set {i j : Nat} {a : Addr} {e : Expr} {m : ME} {x : Str} {pos pos' : Pos} (hN : X.N.Nodup) (hj : X.N[j]? = some x) (hx : Loc X.env.scope x) (h : PEi X i a e m) (hw : swapsWith e (some (.Name x pos')) pos.line X.env = pure false := by rfl) (hf : X.fn x = true ∨ X.env.scope.names.lookup x = some .local := by first | exact .inl rfl | exact .inr rfl | assumption) :
    PSs X [.Assign [.Name x pos'] e pos] (tSu X.K i a (setS j m)) := by
  refine pss_w (pss_one (ps_set hN hj hx h hw hf)) fun D σ H ⟨q, g, sl, st, fl, sl', st', hs, ht, e, k⟩ => ?_
  obtain ⟨⟨x, st1⟩, h1, e⟩ := R.bind_inv e
  cases e
  exact ⟨q, g, sl, st, x, st1, hs, ht, h1, fun g1 v1 H1 s1 t1 r1 => k g1 _ H1 s1 t1 ((hs.mono s1).set j r1)⟩
end
/-- what must be known of an error class that is caught -/
structure ExG (K : PySem.W.Frag) (mg : Str → Option Value) (c : Nat) : Prop where
  ex : ∃ C : Addr, mg (clsN c) = some (.ref C) ∧ PySem.W.exmOne K (.ref C) (.ref C) = some true ∧ ExcC K C ∧ PySem.W.kitOne K (.ref C) (.type "ValueError") = some true
theorem ExG.c {K : PySem.W.Frag} {mg : Str → Option Value} {c : Nat} (h : ExG K mg c) {x : Str} (hx : clsN c = x) : ∃ C : Addr, mg x = some (.ref C) ∧ PySem.W.exmOne K (.ref C) (.ref C) = some true := by
  obtain ⟨C, h1, h2, _⟩ := h.ex
  exact ⟨C, by rw [← hx]; exact h1, h2⟩
theorem ExG.g {K : PySem.W.Frag} {mg : Str → Option Value} {c : Nat} {x : Str} {C : Addr} (h : ExG K mg c) (hx : clsN c = x) (hC : mg x = some (.ref C)) : ExcC K C ∧ PySem.W.kitOne K (.ref C) (.type "ValueError") = some true := by
  obtain ⟨C', h1, _, h3, h4⟩ := h.ex
  rw [hx, hC] at h1
  cases h1
  exact ⟨h3, h4⟩
/-- the class x, as the head sees it -/
def exgB (x : Str) (K : PySem.W.Frag) : Bool :=
  let C := He.ga K x
  decide (PySem.W.exmOne K (.ref C) (.ref C) = some true) && (decide (PySem.W.kitOne K (.ref C) (.type "ValueError") = some true) && (decide (PySem.W.findIn K (.ref C) "__getattribute__" = some (some (.builtin "BaseException.__getattribute__"))) &&
  (decide (PySem.W.findIn K (.ref C) "__getattr__" = some none) && (decide (PySem.W.subIn K (.ref C) (.type "BaseException") = some true) && (PySem.W.hasDictIn K C && (decide (PySem.W.findIn K (.ref C) "__class__" = some (some (.builtin "object.__class__"))) &&
  (decide (PySem.W.specialIn K (.builtin "object.__class__") "__get__" = some (some (.builtin "getset_descriptor.__get__"))) && (decide (PySem.W.takesIn K (.builtin "object.__class__") = some true) && decide (PySem.W.mroIn K C (.type "object") = some true)))))))))
theorem exg_ok {x : Str} {K : PySem.W.Frag} {h : Heap} {mg : Str → Option Value} {c : Nat} (X : K.In h) (Gn : h.Ns mainGlobals mg) (hx : clsN c = x) (hg : (He.Fa.glo x).ok K = true) (hb : exgB x K = true) : ExG K mg c := by
  unfold exgB at hb
  simp only [Bool.and_eq_true, decide_eq_true_eq] at hb
  obtain ⟨h1, h2, h3, h4, h5, h6, h7, h8, h9, h10⟩ := hb
  exact ⟨⟨He.ga K x, by rw [hx]; exact He.glo_ok X Gn hg, h1, ⟨h3, h4, h5, h6, h7, h8, h9, h10⟩, h2⟩⟩
theorem exf_ok {x : Str} {K : PySem.W.Frag} {h : Heap} {mg : Str → Option Value} {c : Nat} (X : K.In h) (Gn : h.Ns mainGlobals mg) (hx : clsN c = x) (hg : (He.Fa.glo x).ok K = true) (he : (He.Fa.exc x).ok K = true) : ExF K mg c := by
  obtain ⟨h1, h2, h3, h4⟩ := He.exc_ok he
  exact ⟨⟨He.ga K x, by rw [hx]; exact He.glo_ok X Gn hg, h1, h2, h3, h4⟩⟩
/-! ### a hook with a Bool more -/
def obsE (n : Nat) (fa : List He.Fa) (fn : List He.DefD) (ex : List (PySem.W.Frag → Bool)) (g : Addr → Option Obj) : He.AlD × Bool := (He.obsD fa fn (He.frG g (He.asD g n)), ex.all fun b => b (He.frG g (He.asD g n)))
def SaysE (fa : List He.Fa) (fn : List He.DefD) (ex : List (PySem.W.Frag → Bool)) (K : PySem.W.Frag) : Prop := He.SaysD fa fn K ∧ (ex.all fun b => b K) = true
def hookE (n : Nat) (fa : List He.Fa) (fn : List He.DefD) (ex : List (PySem.W.Frag → Bool)) : PySem.W.Hook where
  α := He.AlD × Bool
  obs := fun s => obsE n fa fn ex s.heap.get?
  val := fun _ => (He.valD fn, true)
  says := fun _ h => ∃ K : PySem.W.Frag, K.In h ∧ SaysE fa fn ex K
  of := fun _ _ e => ⟨_, He.frG_in, (Prod.mk.inj e).1, (Prod.mk.inj e).2⟩
  keeps := fun _ _ _ ⟨K, hK, c⟩ k => ⟨K, PySem.W.Frag.In.keeps hK k, c⟩
theorem obsE_eq {n : Nat} {fa : List He.Fa} {fn : List He.DefD} {ex : List (PySem.W.Frag → Bool)} {g : Addr → Option Obj} {s : Shared} (h : ∀ a, g a = s.heap.get? a) : obsE n fa fn ex g = (hookE n fa fn ex).obs s := by
  have e : g = s.heap.get? := funext h
  rw [e] <;> rfl
theorem SaysE.at_ {fa : List He.Fa} {fn : List He.DefD} {ex : List (PySem.W.Frag → Bool)} {K : PySem.W.Frag} (c : SaysE fa fn ex K) (i : Nat) {b : PySem.W.Frag → Bool} (h : ex[i]? = some b := by rfl) : b K = true :=
  List.all_eq_true.mp c.2 b (List.mem_of_getElem? h)
end Pm

/-! Core16: is of True, False, None. -/
namespace Pm
open PySem PySem.Spec PyProof.Rows L2
/-- is True, is False: of a bool or None -/
def isBF (a b : W) (st : Store) : R (W × Store) := match a, b with
  | .p (.bl x), .p (.bl y) => .ok (.p (.bl (decide (x = y))), st)
  | .p .non, .p (.bl _) => .ok (.p (.bl false), st)
  | _, _ => .stuck
def isntBF (a b : W) (st : Store) : R (W × Store) := match a, b with
  | .p (.bl x), .p (.bl y) => .ok (.p (.bl (!decide (x = y))), st)
  | .p .non, .p (.bl _) => .ok (.p (.bl true), st)
  | _, _ => .stuck
section
variable {X : Cx}
theorem op_isNB : OpR X (compareOp .Is) (fun x y H Q => ∃ b : Bool, x = .non ∧ y = .bl b ∧ Q (.bl false) H) := by
  intro pins s σ H x y v u Q I rx ry h
  obtain ⟨b, rfl, rfl, q⟩ := h
  cases (show v = Value.none from rx)
  cases (show u = Value.bool b from ry)
  exact wpAny_is_other rfl (fun z => nomatch z) ⟨.bl false, H, I, rfl, q⟩
theorem op_isntNB : OpR X (compareOp .IsNot) (fun x y H Q => ∃ b : Bool, x = .non ∧ y = .bl b ∧ Q (.bl true) H) := by
  intro pins s σ H x y v u Q I rx ry h
  obtain ⟨b, rfl, rfl, q⟩ := h
  cases (show v = Value.none from rx)
  cases (show u = Value.bool b from ry)
  exact wpAny_isNot_other rfl (fun z => nomatch z) ⟨.bl true, H, I, rfl, q⟩
theorem o_isB : OpR X (compareOp .Is) (r2M X.K isBF) := by
  intro pins s σ H x y v u Q I rx ry ⟨g, st, a, b, w, st', ra, rb, S, e, k⟩
  unfold isBF at e
  split at e
  · rename_i c d
    cases e
    exact op_isBl pins s σ H x y v u Q I rx ry ⟨c, d, rwBl_inv ra, rwBl_inv rb, k g _ H (Stp.refl g H) S (rwBl _)⟩
  · cases e
    exact op_isNB pins s σ H x y v u Q I rx ry ⟨_, rwNon_inv ra, rwBl_inv rb, k g _ H (Stp.refl g H) S (rwBl _)⟩
  · cases e
theorem o_isntB : OpR X (compareOp .IsNot) (r2M X.K isntBF) := by
  intro pins s σ H x y v u Q I rx ry ⟨g, st, a, b, w, st', ra, rb, S, e, k⟩
  unfold isntBF at e
  split at e
  · rename_i c d
    cases e
    exact op_notBl pins s σ H x y v u Q I rx ry ⟨c, d, rwBl_inv ra, rwBl_inv rb, k g _ H (Stp.refl g H) S (rwBl _)⟩
  · cases e
    exact op_isntNB pins s σ H x y v u Q I rx ry ⟨_, rwNon_inv ra, rwBl_inv rb, k g _ H (Stp.refl g H) S (rwBl _)⟩
  · cases e
end
end Pm

/-! Core17: sorted of a list of one item. -/
namespace Pm
open PySem PySem.Spec PyProof.Rows L2
open PySem.W (dataLt alike alikeAll keyToks keyToksAll AllAlike Sortable EachIs dataLe AlikeAll)

/-- one value, whatever its kind -/
theorem sortsAt_one {prog : Program} {w : World} {A : Around} {s : Shared} {v : Value} {d : PyData} {as : List Addr} (r : Reads s.heap v d as) (hal : alike d d = true) (hn : d ≠ .none) (hu : A.units + d.depth < cLine) : PySem.W.SortsAt prog w A s (PySem.W.dataKind s.heap [d]) [v] := by
  have ha : AllAlike [d] := fun x hx y hy => by
    rw [List.mem_singleton.mp hx, List.mem_singleton.mp hy]; exact hal
  refine ⟨fun u hu => ?_, general', ?_, fun h2 => absurd h2 (by simp)⟩
  · rw [List.mem_singleton.mp hu]
    exact ⟨_, PySem.W.dataKind_some ha (List.mem_singleton.mpr rfl) r⟩
  · intro E x y a b Q hx hy hq
    obtain ⟨d1, as1, hd1, r1, rfl⟩ := PySem.W.dataKind_inv hx
    obtain ⟨d2, as2, hd2, r2, rfl⟩ := PySem.W.dataKind_inv hy
    rw [List.mem_singleton.mp hd1] at r1 hq
    rw [List.mem_singleton.mp hd2] at r2 hq
    exact PySem.W.oneLt_alike (f := false) (fun z => by cases z) r1 r2 hal hn (by rw [Nat.min_self]; exact hu) hq
def oneOk (d : D) : Bool := okD 60 d && alD d d
def sortedG : Fn := fun ws st => match ws with
  | [w] => match lstR st w with
    | some [d] => if oneOk d then .ok (.p (.lst [d]), st) else sortedF ws st
    | _ => sortedF ws st
  | _ => sortedF ws st
section
variable {X : Cx}
theorem c_sortedG {k : Nat} (hr : Room k X.A) : CallR X (.builtin "sorted") (cM X.K sortedG) := by
  intro pins s σ H vs us Q I r ⟨g, st, ws, w, st', rw', S, e, k⟩
  unfold sortedG at e
  split at e
  · split at e
    · rename_i w' d hd
      split at e
      · rename_i hz
        cases e
        rw [oneOk, Bool.and_eq_true] at hz
        obtain ⟨v, rfl, r1⟩ := ws1 rw'
        obtain ⟨a, xs, rfl, ha, hr2⟩ := lstR_rep S r1 hd
        obtain ⟨its, rv, hl, hlen⟩ := I.list ha
        rw [Vals.ref1 r]
        have hpy := alD_py d d hz.2
        have ev := each_vd hr2 rv
        have er := each_reads I ev
        have hal : PySem.W.AllAlike ([d].map toPy) := fun x hx y hy => by
          rw [List.map_singleton] at hx hy
          rw [List.mem_singleton.mp hx, List.mem_singleton.mp hy]; exact hpy.1
        have h1 := (okD_py 60 d hz.1).2
        have h2 := units65 hr
        have er' : EachIs (fun v b => ∃ as, Reads (PySem.W.sortingHeap (PySem.W.copyHeap s.heap its) (s.heap.objs.size + 1) its) v (toPy b) as) its [d] := er.mono fun _ _ ⟨as, r⟩ => ⟨as, PyProof.Rows.Reads.keeps (fun _ _ => PySem.W.sorting_copy_old) r⟩
        cases its with
        | nil => cases er'
        | cons v0 vr =>
          cases er' with
          | cons e1 e2 =>
            cases e2
            obtain ⟨as, rd⟩ := e1
            refine PySem.W.sorted_vals hl.isList (sortsAt_one (s := { s with heap := PySem.W.sortingHeap (PySem.W.copyHeap s.heap [v0]) (s.heap.objs.size + 1) [v0] }) rd hpy.1 hpy.2 (by show X.A.units + 1 + 1 + _ < _; omega)) (by show 1 ≤ _; decide) ?_
            have hout := PySem.W.sortVals_data (bs := [d]) (enc := toPy) false ev (EachIs.cons ⟨as, rd⟩ EachIs.nil) hal
            have hl1 : (PySem.W.sortVals (PySem.W.dataKind (PySem.W.sortingHeap (PySem.W.copyHeap s.heap [v0]) (s.heap.objs.size + 1) [v0]) ([d].map toPy)) false [v0] [v0]).length = 1 := PySem.W.sortVals_length false rfl
            rw [show [d].mergeSort (PySem.W.dataLe false toPy) = [d] by simp] at hout
            obtain ⟨ys, h1, h2⟩ := vd_each hout
            obtain ⟨ep, he'⟩ := PyProof.Rows.sortedAll_at s.heap [v0] (PySem.W.sortVals (PySem.W.dataKind (PySem.W.sortingHeap (PySem.W.copyHeap s.heap [v0]) (s.heap.objs.size + 1) [v0]) ([d].map toPy)) false [v0] [v0]).toArray
            have hn : H (s.heap.objs.size + 1) = none := I.hok.fresh (Nat.le_succ _)
            have hlen' : ys.length ≤ sizeLine := by
              rw [← h1.length]; show 1 ≤ _; decide
            refine ⟨.ref _, upd H (s.heap.objs.size + 1) (.lst ys), I.laid (t' := s.toks) (fun _ _ => PyProof.Rows.sortedAll_old) (Nat.le_succ _) ⟨hlen', _, ep, h2, he'⟩, rfl, ?_⟩
            exact lst_p (st' := st) S h1 k _ hn
      · exact c_sorted hr pins s σ H vs us Q I r ⟨g, st, _, w, st', rw', S, e, k⟩
    · exact c_sorted hr pins s σ H vs us Q I r ⟨g, st, _, w, st', rw', S, e, k⟩
  · exact c_sorted hr pins s σ H vs us Q I r ⟨g, st, _, w, st', rw', S, e, k⟩
end
end Pm

/-! Sym: runs read step by step: each run where it stands applied. -/
namespace Pm
open PySem PySem.Spec PyProof.Rows L2
/-- a bind whose second part stays shut to simp (its congruence holds it fixed, since the mark hangs on it) -/
inductive Mark {α β : Type} (f : α → β) : Type where | mk
def R.bd {α β : Type} (m : R α) (f : α → R β) (_t : Mark f := .mk) : R β := match m with
  | .ok a => f a
  | .exc c st => .exc c st
  | .stuck => .stuck
theorem R.bd_ok {α β : Type} {a : α} {f : α → R β} {t : Mark f} : R.bd (.ok a) f t = f a := rfl
section
variable {sl : Slots} {st : Store} {m ma mb mc mo mi me : ME} {a b c : MT} {r : MA} {s s2 : MS} {it : MI} {i n : Nat} {t : Tgt} {f : Fn} {g : W → W → Store → R (W × Store)} {u : W → Store → R (W × Store)}
theorem varM_ap : varM i sl st = match sl[i]? with | some (some w) => .ok (w, st) | _ => .stuck := rfl
theorem constM_ap {d : D} : constM d sl st = .ok (.p d, st) := rfl
theorem binM_ap : binM g ma mb sl st = (ma sl st).bd fun x => (mb sl x.2).bd fun y => g x.1 y.1 y.2 := rfl
theorem unM_ap : unM u ma sl st = (ma sl st).bd fun x => u x.1 x.2 := rfl
theorem nilA_ap : nilA sl st = .ok ([], st) := rfl
theorem consA_ap : consA m r sl st = (m sl st).bd fun x => (r sl x.2).bd fun y => .ok (x.1 :: y.1, y.2) := rfl
theorem callM_ap : callM f r sl st = (r sl st).bd fun x => f x.1 x.2 := rfl
theorem callKM_ap {p : List Nat} {k : MA} : callKM f p r k sl st = (r sl st).bd fun x => (k sl x.2).bd fun y => f (pick p (x.1 ++ y.1)) y.2 := rfl
theorem ifM_ap : ifM a ma mb sl st = (a sl st).bd fun x => match x.1 with | true => ma sl x.2 | false => mb sl x.2 := rfl
theorem truthM_ap : truthM m sl st = (m sl st).bd fun x => (truW x.2 x.1).bd fun b => .ok (b, x.2) := rfl
theorem boolM_ap : boolM m sl st = (m sl st).bd fun x => match x.1 with | .p (.bl b) => .ok (b, x.2) | _ => .stuck := rfl
theorem andT_ap : andT a b sl st = (a sl st).bd fun x => match x.1 with | true => b sl x.2 | false => .ok (false, x.2) := rfl
theorem orT_ap : orT a b sl st = (a sl st).bd fun x => match x.1 with | true => .ok (true, x.2) | false => b sl x.2 := rfl
theorem notT_ap : notT a sl st = (a sl st).bd fun x => .ok (!x.1, x.2) := rfl
theorem andM_ap : andM ma mb sl st = (ma sl st).bd fun x => (truW x.2 x.1).bd fun c => match c with | true => mb sl x.2 | false => .ok x := rfl
theorem orM_ap : orM ma mb sl st = (ma sl st).bd fun x => (truW x.2 x.1).bd fun c => match c with | true => .ok x | false => mb sl x.2 := rfl
theorem notM_ap : notM ma sl st = (ma sl st).bd fun x => (truW x.2 x.1).bd fun c => .ok (.p (.bl (!c)), x.2) := rfl
theorem tupM_ap : tupM r sl st = (r sl st).bd fun x => (frzs x.1 x.2).bd fun y => .ok (.p (.tup y.1), y.2) := rfl
theorem lstM_ap : lstM r sl st = (r sl st).bd fun x => (frzs x.1 x.2).bd fun y => .ok (.p (.lst y.1), y.2) := rfl
theorem newM_ap : newM r sl st = (r sl st).bd fun x => (frzs x.1 x.2).bd fun y => .ok (.loc y.2.length, y.2 ++ [some (.l y.1)]) := rfl
theorem frzM_ap : frzM m sl st = (m sl st).bd fun x => (frz x.1 x.2).bd fun y => .ok (.p y.1, y.2) := rfl
theorem frz_p {d : D} : frz (.p d) st = .ok (d, st) := rfl
theorem frzs_nil : frzs [] st = .ok ([], st) := rfl
theorem frzs_cons {w : W} {ws : List W} : frzs (w :: ws) st = (frz w st).bd fun x => (frzs ws x.2).bd fun y => .ok (x.1 :: y.1, y.2) := rfl
theorem skipS_ap : skipS sl st = .ok (.nx, sl, st) := rfl
theorem seqS_ap : seqS s s2 sl st = (s sl st).bd fun x => match x.1 with | .nx => s2 x.2.1 x.2.2 | _ => .ok x := rfl
theorem retS_ap : retS m sl st = (m sl st).bd fun x => .ok (.rt x.1, sl, x.2) := rfl
theorem breakS_ap : breakS sl st = .ok (.bk, sl, st) := rfl
theorem contS_ap : contS sl st = .ok (.ct, sl, st) := rfl
theorem dropS_ap : dropS m sl st = (m sl st).bd fun x => .ok (.nx, sl, x.2) := rfl
theorem ifS_ap : ifS a s s2 sl st = (a sl st).bd fun x => match x.1 with | true => s sl x.2 | false => s2 sl x.2 := rfl
theorem setS_ap : setS i m sl st = (m sl st).bd fun x => .ok (.nx, sl.set i (some x.1), x.2) := rfl
theorem asgS_ap : asgS t m sl st = (m sl st).bd fun x => (t.put x.1 sl).bd fun sl1 => .ok (.nx, sl1, x.2) := rfl
theorem parS_ap {is : List Nat} : parS is r sl st = (r sl st).bd fun x => if x.1.length = is.length then .ok (.nx, setAll is x.1 sl, x.2) else .stuck := rfl
theorem forS_ap : forS t it s sl st = (it sl st).bd fun x => forGo t s x.1 sl x.2 := rfl
theorem seqI_ap : seqI m sl st = (m sl st).bd fun x => (itemsOf x.1).bd fun ds => .ok (ds, x.2) := rfl
theorem lstOfI_ap : lstOfI it sl st = (it sl st).bd fun x => .ok (.p (.lst x.1), x.2) := rfl
theorem newOfI_ap : newOfI it sl st = (it sl st).bd fun x => .ok (.loc x.2.length, x.2 ++ [some (.l x.1)]) := rfl
theorem lcI_ap {vs : List Nat} : lcI vs t it a m sl st = (it sl st).bd fun x => if x.1.length ≤ 1000000 then lcGo (wipeSl sl vs) t a m x.1 [] x.2 else .stuck := rfl
theorem cutM_ap {lo hi : MO} : cutM m lo hi sl st = (m sl st).bd fun x => (lo sl x.2).bd fun y => (hi sl y.2).bd fun z => cutF x.1 y.1 z.1 z.2 := rfl
theorem noO_ap : noO sl st = .ok (none, st) := rfl
theorem someO_ap : someO m sl st = (m sl st).bd fun x => match x.1 with | .p (.int i) => .ok (some i, x.2) | _ => .stuck := rfl
theorem enumI_ap : enumI r sl st = (r sl st).bd fun x => match x.1 with | [.p (.lst ds)] => .ok (enumFrom 0 ds, x.2) | [.p (.tup ds)] => .ok (enumFrom 0 ds, x.2) | _ => .stuck := rfl
theorem rng1I_ap : rng1I r sl st = (r sl st).bd fun x => match x.1 with | [.p (.int j)] => if -(2 ^ 62) ≤ j ∧ j < 2 ^ 62 then .ok (rngD 0 j.toNat, x.2) else .stuck | _ => .stuck := rfl
theorem rng2I_ap : rng2I r sl st = (r sl st).bd fun x => match x.1 with | [.p (.int i), .p (.int j)] => if -(2 ^ 62) ≤ i ∧ i < 2 ^ 62 ∧ -(2 ^ 62) ≤ j ∧ j < 2 ^ 62 then .ok (rngD i (j - i).toNat, x.2) else .stuck | _ => .stuck := rfl
theorem zipI_ap : zipI r sl st = (r sl st).bd fun x => match x.1 with | [.p (.lst ds), .p (.lst es)] => .ok (zipD ds es, x.2) | [.p (.tup ds), .p (.tup es)] => .ok (zipD ds es, x.2) | _ => .stuck := rfl
theorem appM_ap : appM mo me sl st = (mo sl st).bd fun x => match x.1 with
  | .loc n => match cellL x.2 n with
    | some _ => (me sl x.2).bd fun y => (frz y.1 y.2).bd fun d => match cellL d.2 n with
      | some ds => if ds.length ≤ 1000000 then .ok (.p .non, d.2.set n (some (.l (ds ++ [d.1])))) else .stuck
      | none => .stuck
    | none => .stuck
  | _ => .stuck := rfl
theorem popM_ap : popM mo sl st = (mo sl st).bd fun x => match x.1 with
  | .loc n => match cellL x.2 n with
    | some ds => match ds[ds.length - 1]? with
      | some d => .ok (.p d, x.2.set n (some (.l ds.dropLast)))
      | none => .stuck
    | none => .stuck
  | _ => .stuck := rfl
theorem putS_ap : putS mo mi me sl st = (me sl st).bd fun x => (mo sl x.2).bd fun y => (mi sl y.2).bd fun z => match y.1, z.1 with
  | .loc n, .p (.int i) => (frz x.1 z.2).bd fun d => match cellL d.2 n with
    | some ds => match ixN ds.length i with
      | some j => .ok (.nx, sl, d.2.set n (some (.l (ds.set j d.1))))
      | none => .stuck
    | none => .stuck
  | _, _ => .stuck := rfl
theorem chainM_ap {g2 : W → W → Store → R (W × Store)} : chainM g g2 ma mb mc sl st = (ma sl st).bd fun x => (mb sl x.2).bd fun y => (g x.1 y.1 y.2).bd fun z => match z.1 with
  | .p (.bl true) => (mc sl z.2).bd fun u => g2 y.1 u.1 u.2
  | .p (.bl false) => .ok (.p (.bl false), z.2)
  | _ => .stuck := rfl
theorem augS_ap : augS i g m sl st = match sl[i]? with
  | some (some w) => (m sl st).bd fun y => (g w y.1 y.2).bd fun z => .ok (.nx, sl.set i (some z.1), z.2)
  | _ => .stuck := rfl
theorem forGo_nil : forGo t s [] sl st = .ok (.nx, sl, st) := rfl
theorem forGo_cons {d : D} {ds : List D} : forGo t s (d :: ds) sl st = (t.put (.p d) sl).bd fun sl1 => (s sl1 st).bd fun x => match x.1 with
    | .nx => forGo t s ds x.2.1 x.2.2
    | .ct => forGo t s ds x.2.1 x.2.2
    | .bk => .ok (.nx, x.2.1, x.2.2)
    | .rt w => .ok (.rt w, x.2.1, x.2.2) := rfl
theorem lcGo_nil {acc : List D} : lcGo sl t a m [] acc st = .ok (acc.reverse, st) := rfl
theorem lcGo_cons {d : D} {ds acc : List D} : lcGo sl t a m (d :: ds) acc st = (t.put (.p d) sl).bd fun sl1 => (a sl1 st).bd fun b => match b.1 with
    | false => lcGo sl t a m ds acc b.2
    | true => (m sl1 b.2).bd fun x => (frz x.1 x.2).bd fun y => lcGo sl t a m ds (y.1 :: acc) y.2 := rfl
theorem yesT_ap : yesT sl st = .ok (true, st) := rfl
theorem put_nm {w : W} : (Tgt.nm i).put w sl = .ok (sl.set i (some w)) := by simp only [Tgt.put]
theorem put_tp {ts : List Tgt} {ds : List D} : (Tgt.tp ts).put (.p (.tup ds)) sl = if ds.length = ts.length then Tgt.puts ts ds sl else .stuck := by simp only [Tgt.put]
theorem puts_nil {ds : List D} : Tgt.puts [] ds sl = .ok sl := by simp only [Tgt.puts]
theorem puts_cons {ts : List Tgt} {d : D} {ds : List D} : Tgt.puts (t :: ts) (d :: ds) sl = (Tgt.put t (.p d) sl).bd fun sl1 => Tgt.puts ts ds sl1 := by simp only [Tgt.puts]; rfl
theorem while_succ : whileS a s (n + 1) sl st = (a sl st).bd fun x => match x.1 with
    | false => .ok (.nx, sl, x.2)
    | true => (s sl x.2).bd fun y => match y.1 with
      | .nx => whileS a s n y.2.1 y.2.2
      | .ct => whileS a s n y.2.1 y.2.2
      | .bk => .ok (.nx, y.2.1, y.2.2)
      | .rt w => .ok (.rt w, y.2.1, y.2.2) := rfl
theorem defP_ap {N : Nat} {ws : List W} : defP N s ws st = (s (ws.map some ++ List.replicate (N - ws.length) none) st).bd fun x => match x.1 with
  | .rt w => (frz w x.2.2).bd fun y => .ok (.p y.1, y.2.take st.length)
  | .nx => .ok (.p .non, x.2.2.take st.length)
  | _ => .stuck := rfl
theorem defC_ap {N : Nat} {ws : List W} : defC N s ws st = (s (ws.map some ++ List.replicate (N - ws.length) none) st).bd fun x => match x.1 with
  | .rt w => .ok (w, x.2.2)
  | .nx => .ok (.p .non, x.2.2)
  | _ => .stuck := rfl
/-! operators on ints -/
variable {x y : Int}
theorem add_ii : addF (.p (.int x)) (.p (.int y)) st = .ok (.p (.int (x + y)), st) := rfl
theorem addI_ii : addIF (.p (.int x)) (.p (.int y)) st = .ok (.p (.int (x + y)), st) := rfl
theorem sub_ii : subF (.p (.int x)) (.p (.int y)) st = .ok (.p (.int (x - y)), st) := rfl
theorem mul_ii : mulF (.p (.int x)) (.p (.int y)) st = if (smallI x || smallI y || (big x && big y)) = true then .ok (.p (.int (x * y)), st) else .stuck := rfl
theorem mod_ii : modF (.p (.int x)) (.p (.int y)) st = if 0 < y then .ok (.p (.int (x % y)), st) else .stuck := rfl
theorem div_ii : divF (.p (.int x)) (.p (.int y)) st = if 0 < y ∧ y.natAbs.log2 < 9000 then .ok (.p (.int (x / y)), st) else .stuck := rfl
theorem neg_i : negF (.p (.int x)) st = .ok (.p (.int (-x)), st) := rfl
theorem lt_ii : ltF (.p (.int x)) (.p (.int y)) st = .ok (.p (.bl (decide (x < y))), st) := rfl
theorem le_ii : leF (.p (.int x)) (.p (.int y)) st = .ok (.p (.bl (decide (x ≤ y))), st) := rfl
theorem gt_ii : gtF (.p (.int x)) (.p (.int y)) st = .ok (.p (.bl (decide (y < x))), st) := rfl
theorem ge_ii : geF (.p (.int x)) (.p (.int y)) st = .ok (.p (.bl (decide (y ≤ x))), st) := rfl
theorem eq_ii : eqF (.p (.int x)) (.p (.int y)) st = .ok (.p (.bl (x == y)), st) := rfl
theorem ne_ii : neF (.p (.int x)) (.p (.int y)) st = .ok (.p (.bl (!(x == y))), st) := rfl
theorem int_i : intF [.p (.int x)] st = .ok (.p (.int x), st) := rfl
theorem abs_i : absF [.p (.int x)] st = .ok (.p (.int (if x < 0 then -x else x)), st) := rfl
theorem bl_tru {b : Bool} : truW st (.p (.bl b)) = .ok b := rfl
theorem len_tup {ds : List D} : lenF [.p (.tup ds)] st = .ok (.p (.int ds.length), st) := rfl
theorem len_lst {ds : List D} : lenF [.p (.lst ds)] st = .ok (.p (.int ds.length), st) := rfl
theorem tuple_lst {ds : List D} : tupleF [.p (.lst ds)] st = .ok (.p (.tup ds), st) := rfl
theorem tuple_tup {ds : List D} : tupleF [.p (.tup ds)] st = .ok (.p (.tup ds), st) := rfl
theorem rev_tup {ds : List D} : revF (.p (.tup ds)) st = .ok (.p (.tup ds.reverse), st) := rfl
theorem rev_lst {ds : List D} : revF (.p (.lst ds)) st = .ok (.p (.lst ds.reverse), st) := rfl
theorem items_lst {ds : List D} : itemsOf (.p (.lst ds)) = .ok ds := rfl
theorem items_tup {ds : List D} : itemsOf (.p (.tup ds)) = .ok ds := rfl
theorem ix_tup' {ds : List D} : ixF (.p (.tup ds)) (.p (.int x)) st = match atI ds x with | some d => .ok (.p d, st) | none => .stuck := rfl
theorem ix_lst' {ds : List D} : ixF (.p (.lst ds)) (.p (.int x)) st = match atI ds x with | some d => .ok (.p d, st) | none => .stuck := rfl
theorem ix_loc {k : Nat} : ixF (.loc k) (.p (.int x)) st = match cellL st k with | some ds => (match atI ds x with | some d => .ok (.p d, st) | none => .stuck) | none => .stuck := rfl
theorem cut_tup {ds : List D} {lo hi : Option Int} : cutF (.p (.tup ds)) lo hi st = .ok (.p (.tup (cutD ds lo hi)), st) := rfl
theorem cut_lst {ds : List D} {lo hi : Option Int} : cutF (.p (.lst ds)) lo hi st = .ok (.p (.lst (cutD ds lo hi)), st) := rfl
theorem is_p {us : List Tg} {d : D} : isF us (.p d) st = .ok (.p (.bl (us.any (isT (tagD d)))), st) := rfl
end
section
variable {x y z : D} {l : List D}
theorem at_0 : atI (x :: l) (0 : Int) = some x := by
  unfold atI ixN
  rw [if_pos (by decide), if_pos (by rw [List.length_cons]; omega)]
  rfl
theorem at_1 : atI (x :: y :: l) (1 : Int) = some y := by
  unfold atI ixN
  rw [if_pos (by decide), if_pos (by rw [List.length_cons, List.length_cons]; omega)]
  rfl
theorem at_2 : atI (x :: y :: z :: l) (2 : Int) = some z := by
  unfold atI ixN
  rw [if_pos (by decide), if_pos (by rw [List.length_cons, List.length_cons, List.length_cons]; omega)]
  rfl
theorem take_set {st : Store} {n : Nat} {c : Option Cell} : (st.set n c).take st.length = st.set n c := List.take_of_length_le (by simp)
theorem ixN3_0 : ixN 3 (0 : Int) = some 0 := rfl
theorem ixN3_2 : ixN 3 (2 : Int) = some 2 := rfl
end
/-! stores with one more cell -/
section
variable {st : Store} {ds es : List D} {c c2 : Option Cell}
theorem cell_app : cellL (st ++ [some (.l ds)]) st.length = some ds := by
  unfold cellL
  rw [List.getElem?_append_right (Nat.le_refl _), Nat.sub_self]
  rfl
theorem set_app : (st ++ [c]).set st.length c2 = st ++ [c2] := by
  rw [List.set_append_right _ _ (Nat.le_refl _), Nat.sub_self]
  rfl
theorem take_app {l : Store} : (st ++ l).take st.length = st := List.take_left
theorem frz_loc {k : Nat} : frz (.loc k) st = match cellL st k with | some ds => .ok (.lst ds, st.set k none) | none => .stuck := rfl
theorem loc_tru {k : Nat} : truW st (.loc k) = match cellL st k with | some ds => .ok (!ds.isEmpty) | none => .stuck := rfl
theorem lst_tru : truW st (.p (.lst ds)) = .ok (!ds.isEmpty) := rfl
theorem tup_tru : truW st (.p (.tup ds)) = .ok (!ds.isEmpty) := rfl
theorem len_loc {k : Nat} : lenF [.loc k] st = match cellL st k with | some ds => .ok (.p (.int ds.length), st) | none => .stuck := by
  show (match lstR st (.loc k) with | some ds => _ | none => _) = _
  show (match cellL st k with | some ds => _ | none => _) = _
  rfl
theorem tuple_loc {k : Nat} : tupleF [.loc k] st = match cellL st k with | some ds => .ok (.p (.tup ds), st) | none => .stuck := rfl
theorem listN_lst : listNF [.p (.lst ds)] st = .ok (.loc st.length, st ++ [some (.l ds)]) := rfl
theorem list_lst : listF [.p (.lst ds)] st = .ok (.p (.lst ds), st) := rfl
theorem cut_scr {ns : List Int} {lo hi : Option Int} : cutF (.scr ns) lo hi st = .ok (.p (.lst (cutD (ns.map D.int) lo hi)), st) := rfl
theorem boolsOf_map : ∀ bs : List Bool, boolsOf (bs.map D.bl) = some bs
  | [] => rfl
  | b :: bs => by
    show (match boolsOf (bs.map D.bl) with | some l => some (b :: l) | none => none) = _
    rw [boolsOf_map bs]
theorem intsOf_map : ∀ bs : List Int, intsOf (bs.map D.int) = some bs
  | [] => rfl
  | b :: bs => by
    show (match intsOf (bs.map D.int) with | some l => some (b :: l) | none => none) = _
    rw [intsOf_map bs]
theorem all_bls (bs : List Bool) : allF [.p (.lst (bs.map D.bl))] st = .ok (.p (.bl (bs.all id)), st) := by
  show (match boolsL st (.p (.lst (bs.map D.bl))) with | some ns => _ | none => _) = _
  show (match boolsOf (bs.map D.bl) with | some ns => _ | none => _) = _
  rw [boolsOf_map]
theorem sum_ints (ns : List Int) : sumF [.p (.lst (ns.map D.int))] st = .ok (.p (.int ns.sum), st) := by
  show (match intsS st (.p (.lst (ns.map D.int))) with | some ns => _ | none => _) = _
  show (match intsOf (ns.map D.int) with | some ns => _ | none => _) = _
  rw [intsOf_map]
theorem pick_nil {α : Type} {l : List α} : pick [] l = [] := rfl
theorem pick_cons {α : Type} {p : Nat} {ps : List Nat} {l : List α} : pick (p :: ps) l = match l[p]? with | some x => x :: pick ps l | none => pick ps l := by
  unfold pick
  rw [List.filterMap_cons]
  cases l[p]? <;> rfl
theorem enum_nil {n : Nat} : enumFrom n [] = [] := rfl
theorem sum_tints (ns : List Int) : sumF [.p (.tup (ns.map D.int))] st = .ok (.p (.int ns.sum), st) := by
  show (match intsS st (.p (.tup (ns.map D.int))) with | some ns => _ | none => _) = _
  show (match intsOf (ns.map D.int) with | some ns => _ | none => _) = _
  rw [intsOf_map]
theorem isNon_non : isNonF (.p .non) (.p .non) st = .ok (.p (.bl true), st) := rfl
theorem isNon_int {a : Int} : isNonF (.p (.int a)) (.p .non) st = .ok (.p (.bl false), st) := rfl
theorem isNon_bl {a : Bool} : isNonF (.p (.bl a)) (.p .non) st = .ok (.p (.bl false), st) := rfl
theorem isNon_str {a : Str} : isNonF (.p (.str a)) (.p .non) st = .ok (.p (.bl false), st) := rfl
theorem isNon_tup : isNonF (.p (.tup ds)) (.p .non) st = .ok (.p (.bl false), st) := rfl
theorem isNon_lst : isNonF (.p (.lst ds)) (.p .non) st = .ok (.p (.bl false), st) := rfl
theorem eq_bb {a b : Bool} : eqF (.p (.bl a)) (.p (.bl b)) st = .ok (.p (.bl (a == b)), st) := by
  unfold eqF; show (if (okD 60 (.bl a) && okD 60 (.bl b)) = true then _ else _) = _
  rw [show okD 60 (.bl a) = true by simp [okD], show okD 60 (.bl b) = true by simp [okD]]; simp [eqD]
theorem ne_bb {a b : Bool} : neF (.p (.bl a)) (.p (.bl b)) st = .ok (.p (.bl (!(a == b))), st) := by
  unfold neF; show (if (okD 60 (.bl a) && okD 60 (.bl b)) = true then _ else _) = _
  rw [show okD 60 (.bl a) = true by simp [okD], show okD 60 (.bl b) = true by simp [okD]]; simp [eqD]
theorem eq_pp {a b : D} (ha : okD 60 a = true) (hb : okD 60 b = true) : eqF (.p a) (.p b) st = .ok (.p (.bl (eqD a b)), st) := by
  unfold eqF; show (if (okD 60 a && okD 60 b) = true then _ else _) = _
  rw [ha, hb]; rfl
theorem ne_pp {a b : D} (ha : okD 60 a = true) (hb : okD 60 b = true) : neF (.p a) (.p b) st = .ok (.p (.bl (!eqD a b)), st) := by
  unfold neF; show (if (okD 60 a && okD 60 b) = true then _ else _) = _
  rw [ha, hb]; rfl
theorem okD_int {n : Nat} {a : Int} : okD n (.int a) = true := by cases n <;> simp [okD]
theorem okDs_ints {n : Nat} : ∀ xs : List Int, okDs n (xs.map D.int) = true
  | [] => by simp [okDs]
  | x :: xs => by rw [List.map_cons]; simp only [okDs, okD_int, okDs_ints xs]; rfl
theorem okD_tints {n : Nat} (xs : List Int) : okD (n + 1) (.tup (xs.map D.int)) = true := by simp only [okD, okDs_ints]
theorem eqDs_nil {xs : List Int} : eqDs (xs.map D.int) [] = xs.isEmpty := by cases xs <;> simp [eqDs]
theorem eq_nilI {xs : List Int} : eqF (.p (.tup (xs.map D.int))) (.p (.tup [])) st = .ok (.p (.bl xs.isEmpty), st) := by
  rw [eq_pp (okD_tints xs) (by simp [okD, okDs])]; simp only [eqD, eqDs_nil]
theorem ne_nilI {xs : List Int} : neF (.p (.tup (xs.map D.int))) (.p (.tup [])) st = .ok (.p (.bl (!xs.isEmpty)), st) := by
  rw [ne_pp (okD_tints xs) (by simp [okD, okDs])]; simp only [eqD, eqDs_nil]
/-- a comprehension whose element leaves the store as it is -/
theorem lc_map {sl0 : Slots} {t : Tgt} {elt : ME} {F : D → D} : ∀ (ds acc : List D), (∀ x ∈ ds, ∃ sl1, t.put (.p x) sl0 = .ok sl1 ∧ elt sl1 st = .ok (.p (F x), st)) → lcGo sl0 t yesT elt ds acc st = .ok (acc.reverse ++ ds.map F, st)
  | [], acc, _ => by simp [lcGo_nil]
  | d :: ds, acc, h => by
    obtain ⟨sl1, h1, h2⟩ := h d List.mem_cons_self
    rw [lcGo_cons, h1]
    simp only [R.bd_ok, yesT_ap, h2, frz_p]
    rw [lc_map ds (F d :: acc) fun x hx => h x (List.mem_cons_of_mem _ hx)]
    simp
end
/-- plain data of a depth -/
def Fin : Nat → D → Prop
  | _, .non => True
  | _, .bl _ => True
  | _, .int _ => True
  | _, .str s => PyData.strOk s = true
  | n + 1, .tup ds => ds.length ≤ 1000000 ∧ ∀ x ∈ ds, Fin n x
  | n + 1, .lst ds => ds.length ≤ 1000000 ∧ ∀ x ∈ ds, Fin n x
  | 0, .tup _ => False
  | 0, .lst _ => False
theorem eqD_refl_int (x : Int) : eqD (.int x) (.int x) = true := by simp [eqD]
mutual
theorem eqD_refl : ∀ d : D, eqD d d = true
  | .non => by simp [eqD]
  | .bl b => by simp [eqD]
  | .int b => by simp [eqD]
  | .str b => by simp [eqD]
  | .tup ds => by simp only [eqD]; exact eqDs_refl ds
  | .lst ds => by simp only [eqD]; exact eqDs_refl ds
theorem eqDs_refl : ∀ ds : List D, eqDs ds ds = true
  | [] => by simp [eqDs]
  | d :: ds => by simp only [eqDs, eqD_refl d, eqDs_refl ds]; rfl
end
theorem cutD_map (ns : List Int) (lo hi : Option Int) : cutD (ns.map D.int) lo hi = ((ns.drop (HT.sIx ns.length 0 lo)).take (HT.sIx ns.length ns.length hi - HT.sIx ns.length 0 lo)).map D.int := by
  unfold cutD
  rw [List.length_map, List.map_take, List.map_drop]
end Pm

namespace K66
open PySem PySem.Spec PyProof.Rows L2 Pm
abbrev pw : Program := PySem.Challenge.pw_pearlchains_k66_main_best_from_above
def topS (i : Nat) : Stmt := PySem.Challenge.pw_pearlchains_k66_main_best_from_above.main.body.getD i (.Pass ⟨0, 0, 0, 0⟩)
abbrev s_is_number : Stmt := topS 4
abbrev s_is_long : Stmt := topS 5
abbrev s_tupled : Stmt := topS 6
abbrev s_are_numbers : Stmt := topS 7
abbrev s_are_from : Stmt := topS 8
abbrev s_is_row_of : Stmt := topS 9
abbrev s_sure_row : Stmt := topS 12
abbrev s_common : Stmt := topS 13
abbrev s_is_fraction : Stmt := topS 14
abbrev s_sure_fraction : Stmt := topS 15
abbrev s_worth_in : Stmt := topS 16
abbrev s_worth : Stmt := topS 17
abbrev s_chain_in : Stmt := topS 18
abbrev s_sure_short : Stmt := topS 19
abbrev s_chain_of : Stmt := topS 20
abbrev s_tops_in : Stmt := topS 21
abbrev s_tops : Stmt := topS 22
abbrev s_makers_in : Stmt := topS 25
abbrev s_makers : Stmt := topS 26
abbrev s_mate_of_fraction : Stmt := topS 28
abbrev s__law_box : Stmt := topS 30
abbrev s__law_take : Stmt := topS 31
abbrev s__law_cells : Stmt := topS 32
abbrev s__law_same : Stmt := topS 33
abbrev s__law_gcd : Stmt := topS 34
abbrev s__law_fraction : Stmt := topS 35
abbrev s__law_right : Stmt := topS 36
abbrev s_law : Stmt := topS 37
/-! ### the runs -/
def b_is_number : MS := (retS (andM (unM (isF [.int]) (varM 0)) (notM (unM (isF [.bool]) (varM 0)))))
def m_is_number : Fn := defP 1 b_is_number
def b_is_long : MS := (retS (andM (unM (isF [.tup]) (varM 0)) (binM eqF (callM lenF (consA (varM 0) nilA)) (varM 1))))
def m_is_long : Fn := defP 2 b_is_long
def b_tupled (m_tupled_n : Fn) : MS := (retS (ifM (truthM (unM (isF [.lst, .tup]) (varM 0))) (callM tupleF (consA (lstOfI (lcI [1] (.nm 1) (seqI (varM 0)) yesT (callM (m_tupled_n) (consA (varM 1) nilA)))) nilA)) (varM 0)))
def m_tupled : Nat → Fn
  | 0 => stuckFn
  | n + 1 => defP 2 (b_tupled (m_tupled n))
def b_are_numbers : MS := (retS (andM (unM (isF [.tup]) (varM 0)) (callM allF (consA (lstOfI (lcI [1] (.nm 1) (seqI (varM 0)) yesT (callM m_is_number (consA (varM 1) nilA)))) nilA))))
def m_are_numbers : Fn := defP 2 b_are_numbers
def b_are_from : MS := (retS (andM (callM m_are_numbers (consA (varM 0) nilA)) (callM allF (consA (lstOfI (lcI [2] (.nm 2) (seqI (varM 0)) yesT (binM geF (varM 2) (varM 1)))) nilA))))
def m_are_from : Fn := defP 3 b_are_from
def b_is_row_of : MS := (seqS (ifS (boolM (binM isNonF (varM 2) (constM .non))) (retS (andM (callM m_is_long (consA (varM 0) (consA (varM 1) nilA))) (callM m_are_numbers (consA (varM 0) nilA)))) skipS)
    (retS (andM (callM m_is_long (consA (varM 0) (consA (varM 1) nilA))) (callM m_are_from (consA (varM 0) (consA (varM 2) nilA))))))
def m_is_row_of : Fn := defP 3 b_is_row_of
def b_sure_row : MS := (seqS (setS 1 (callM (m_tupled 8) (consA (varM 0) nilA)))
    (seqS (ifS (notT (truthM (callM m_are_numbers (consA (varM 1) nilA)))) (raiseS 5) skipS)
    (retS (varM 1))))
def m_sure_row : Fn := defP 2 b_sure_row
abbrev f_common_1 : MS := (parS [2, 3] (consA (varM 3) (consA (binM modF (varM 2) (varM 3)) nilA)))
def b_common : MS := (seqS (parS [2, 3] (consA (callM absF (consA (varM 0) nilA)) (consA (callM absF (consA (varM 1) nilA)) nilA)))
    (seqS (whileS (boolM (binM neF (varM 3) (constM (.int 0)))) f_common_1 1000000)
    (retS (varM 2))))
def m_common : Fn := defP 4 b_common
def b_is_fraction : MS := (seqS (ifS (orT (notT (truthM (callM m_is_row_of (consA (varM 0) (consA (constM (.int 2)) (consA (constM (.int 0)) nilA)))))) (notT (boolM (binM ltF (binM ixF (varM 0) (constM (.int 1))) (binM ixF (varM 0) (constM (.int 0))))))) (retS (constM (.bl false))) skipS)
    (retS (binM eqF (callM m_common (consA (binM ixF (varM 0) (constM (.int 0))) (consA (binM ixF (varM 0) (constM (.int 1))) nilA))) (constM (.int 1)))))
def m_is_fraction : Fn := defP 1 b_is_fraction
def b_sure_fraction : MS := (seqS (setS 1 (callM (m_tupled 8) (consA (varM 0) nilA)))
    (seqS (ifS (notT (truthM (callM m_is_fraction (consA (varM 1) nilA)))) (raiseS 5) skipS)
    (retS (varM 1))))
def m_sure_fraction : Fn := defP 2 b_sure_fraction
abbrev f_worth_in_1 : MS := (parS [1, 2] (consA (binM subF (binM mulF (varM 3) (varM 1)) (varM 2)) (consA (varM 1) nilA)))
def b_worth_in : MS := (seqS (parS [1, 2] (consA (constM (.int 1)) (consA (constM (.int 0)) nilA)))
    (seqS (forS (.nm 3) (seqI (unM revF (varM 0))) f_worth_in_1)
    (retS (tupM (consA (varM 1) (consA (varM 2) nilA))))))
def m_worth_in : Fn := defP 4 b_worth_in
def b_worth : MS := (retS (callM m_worth_in (consA (callM m_sure_row (consA (varM 0) nilA)) nilA)))
def m_worth : Fn := defP 1 b_worth
abbrev f_chain_in_1 : MS := (seqS (setS 3 (unM negF (binM divF (unM negF (varM 0)) (varM 1))))
    (seqS (dropS (appM (varM 2) (varM 3)))
    (parS [0, 1] (consA (varM 1) (consA (binM subF (binM mulF (varM 3) (varM 1)) (varM 0)) nilA)))))
def b_chain_in : MS := (seqS (setS 2 (newM nilA))
    (seqS (whileS (andT (boolM (binM neF (varM 1) (constM (.int 0)))) (boolM (binM leF (callM lenF (consA (varM 2) nilA)) (constM (.int 2000))))) f_chain_in_1 1000000)
    (retS (callM tupleF (consA (varM 2) nilA)))))
def m_chain_in : Fn := defP 4 b_chain_in
def b_sure_short : MS := (seqS (setS 2 (callM m_chain_in (consA (varM 0) (consA (varM 1) nilA))))
    (seqS (ifS (boolM (binM gtF (callM lenF (consA (varM 2) nilA)) (constM (.int 2000)))) (raiseS 4) skipS)
    (retS (varM 2))))
def m_sure_short : Fn := defP 3 b_sure_short
def b_chain_of : MS := (seqS (asgS (.tp [(.nm 1), (.nm 2)]) (callM m_sure_fraction (consA (varM 0) nilA)))
    (retS (callM m_sure_short (consA (varM 1) (consA (varM 2) nilA)))))
def m_chain_of : Fn := defP 3 b_chain_of
abbrev f_tops_in_1 : MS := (seqS (dropS (appM (varM 1) (binM subF (binM mulF (varM 3) (binM ixF (varM 1) (unM negF (constM (.int 1))))) (varM 2))))
    (setS 2 (binM ixF (varM 1) (unM negF (constM (.int 2))))))
def b_tops_in : MS := (seqS (parS [1, 2] (consA (newM (consA (constM (.int 1)) nilA)) (consA (constM (.int 0)) nilA)))
    (seqS (forS (.nm 3) (seqI (varM 0)) f_tops_in_1)
    (retS (varM 1))))
def m_tops_in : Fn := defP 4 b_tops_in
def b_tops : MS := (retS (callM tupleF (consA (callM m_tops_in (consA (callM m_sure_row (consA (varM 0) nilA)) nilA)) nilA)))
def m_tops : Fn := defP 1 b_tops
abbrev f_makers_in_1 : MS := (seqS (dropS (appM (varM 2) (varM 4)))
    (seqS (ifS (boolM (binM geF (callM lenF (consA (varM 2) nilA)) (constM (.int 2000)))) (raiseS 4) skipS)
    (seqS (setS 5 (unM negF (binM divF (unM negF (binM ixF (varM 3) (constM (.int 0)))) (binM ixF (varM 4) (constM (.int 0))))))
    (parS [3, 4] (consA (varM 4) (consA (tupM (consA (binM subF (binM mulF (varM 5) (binM ixF (varM 4) (constM (.int 0)))) (binM ixF (varM 3) (constM (.int 0)))) (consA (binM subF (binM mulF (varM 5) (binM ixF (varM 4) (constM (.int 1)))) (binM ixF (varM 3) (constM (.int 1)))) nilA))) nilA))))))
def b_makers_in : MS := (seqS (setS 2 (newM (consA (tupM (consA (varM 0) (consA (constM (.int 0)) nilA))) nilA)))
    (seqS (ifS (boolM (binM eqF (varM 0) (constM (.int 1)))) (retS (binM addF (varM 2) (lstM (consA (tupM (consA (constM (.int 0)) (consA (constM (.int 1)) nilA))) nilA)))) skipS)
    (seqS (parS [3, 4] (consA (tupM (consA (varM 0) (consA (constM (.int 0)) nilA))) (consA (tupM (consA (binM subF (varM 0) (varM 1)) (consA (constM (.int 1)) nilA))) nilA)))
    (seqS (whileS (boolM (binM gtF (binM ixF (varM 4) (constM (.int 0))) (constM (.int 0)))) f_makers_in_1 1000000)
    (retS (binM addF (varM 2) (lstM (consA (varM 4) nilA))))))))
def m_makers_in : Fn := defP 6 b_makers_in
def b_makers : MS := (seqS (asgS (.tp [(.nm 1), (.nm 2)]) (callM m_sure_fraction (consA (varM 0) nilA)))
    (retS (callM m_makers_in (consA (varM 1) (consA (varM 2) nilA)))))
def m_makers : Fn := defP 3 b_makers
def b_mate_of_fraction : MS := (seqS (asgS (.tp [(.nm 1), (.nm 2)]) (callM m_sure_fraction (consA (varM 0) nilA)))
    (retS (ifM (boolM (binM gtF (varM 1) (constM (.int 1)))) (tupM (consA (varM 1) (consA (binM subF (varM 1) (varM 2)) nilA))) (tupM (consA (constM (.int 1)) (consA (constM (.int 0)) nilA))))))
def m_mate_of_fraction : Fn := defP 3 b_mate_of_fraction
def b__law_box : MS := (seqS (setS 2 (ifM (boolM (binM ltF (varM 1) (callM lenF (consA (varM 0) nilA)))) (binM ixF (varM 0) (varM 1)) (constM (.int 0))))
    (retS (newM (consA (binM mulF (callM absF (consA (varM 2) nilA)) (callM intF (consA (binM geF (callM absF (consA (varM 2) nilA)) (binM powF (constM (.int 10)) (constM (.int 18)))) nilA))) (consA (binM addF (binM addF (binM modF (callM intF (consA (varM 2) nilA)) (constM (.int 2305843009213693951))) (binM mulF (constM (.int 39373)) (varM 1))) (constM (.int 9212066))) (consA (constM (.int 0)) nilA))))))
def m__law_box : Fn := defC 3 b__law_box
def b__law_take : MS := (seqS (ifS (boolM (binM gtF (binM ixF (varM 0) (constM (.int 0))) (constM (.int 0)))) (seqS (setS 2 (binM modF (callM intF (consA (binM ixF (varM 0) (constM (.int 0))) nilA)) (varM 1)))
    (seqS (putS (varM 0) (constM (.int 0)) (binM divF (binM ixF (varM 0) (constM (.int 0))) (varM 1)))
    (retS (varM 2)))) skipS)
    (seqS (putS (varM 0) (constM (.int 2)) (binM addF (binM ixF (varM 0) (constM (.int 2))) (constM (.int 1))))
    (seqS (setS 3 (binM modF (callM intF (consA (binM mulF (binM addF (binM ixF (varM 0) (constM (.int 1))) (binM mulF (constM (.int 48271)) (binM ixF (varM 0) (constM (.int 2))))) (binM addF (constM (.int 39373)) (binM ixF (varM 0) (constM (.int 2))))) nilA)) (constM (.int 2147483647))))
    (seqS (setS 4 (binM addF (binM modF (callM intF (consA (varM 3) nilA)) (constM (.int 40009))) (constM (.int 7))))
    (seqS (setS 5 (binM modF (callM intF (consA (binM mulF (binM addF (binM addF (varM 3) (binM ixF (varM 0) (constM (.int 2)))) (binM divF (binM ixF (varM 0) (constM (.int 1))) (constM (.int 1000003)))) (varM 4)) nilA)) (constM (.int 2147483629))))
    (retS (binM modF (callM intF (consA (binM divF (binM modF (callM intF (consA (binM addF (binM mulF (varM 5) (constM (.int 48271))) (varM 3)) nilA)) (constM (.int 2147483587))) (constM (.int 64))) nilA)) (varM 1))))))))
def m__law_take : Fn := defP 6 b__law_take
abbrev f__law_cells_1 : MS := (seqS (setS 5 (binM modF (callM intF (consA (varM 3) nilA)) (varM 1)))
    (putS (varM 2) (varM 5) (binM addF (binM ixF (varM 2) (varM 5)) (binM mulF (varM 4) (binM addF (varM 3) (constM (.int 2)))))))
def b__law_cells : MS := (seqS (setS 2 (orM (callM listNF (consA (cutM (varM 0) noO (someO (varM 1))) nilA)) (newM (consA (constM (.int 0)) nilA))))
    (seqS (forS (.tp [(.nm 3), (.nm 4)]) (enumI (consA (cutM (varM 0) (someO (varM 1)) (someO (constM (.int 63)))) nilA)) f__law_cells_1)
    (retS (varM 2))))
def m__law_cells : Fn := defP 6 b__law_cells
def b__law_same (m__law_same_n : Fn) : MS := (seqS (ifS (truthM (unM (isF [.lst, .tup]) (varM 1))) (seqS (ifS (orT (boolM (binM neF (unM (isF [.lst]) (varM 0)) (unM (isF [.lst]) (varM 1)))) (boolM (binM neF (unM (isF [.tup]) (varM 0)) (unM (isF [.tup]) (varM 1))))) (retS (constM (.bl false))) skipS)
    (retS (andM (binM eqF (callM lenF (consA (varM 0) nilA)) (callM lenF (consA (varM 1) nilA))) (callM allF (consA (lstOfI (lcI [2, 3] (.tp [(.nm 2), (.nm 3)]) (zipI (consA (varM 0) (consA (varM 1) nilA))) yesT (callM (m__law_same_n) (consA (varM 2) (consA (varM 3) nilA))))) nilA))))) skipS)
    (seqS (ifS (boolM (binM isNonF (varM 1) (constM .non))) (retS (binM isNonF (varM 0) (constM .non))) skipS)
    (seqS (ifS (truthM (unM (isF [.bool, .str]) (varM 1))) (retS (andM (binM eqF (unM (isF [.bool]) (varM 0)) (unM (isF [.bool]) (varM 1))) (andM (binM eqF (unM (isF [.str]) (varM 0)) (unM (isF [.str]) (varM 1))) (binM eqF (varM 0) (varM 1))))) skipS)
    (retS (andM (unM (isF [.int]) (varM 0)) (andM (notM (unM (isF [.bool]) (varM 0))) (binM eqF (varM 0) (varM 1))))))))
def m__law_same : Nat → Fn
  | 0 => stuckFn
  | n + 1 => defP 4 (b__law_same (m__law_same n))
abbrev f__law_gcd_1 : MS := (seqS (ifS (boolM (binM eqF (varM 1) (constM (.int 0)))) breakS skipS)
    (parS [0, 1] (consA (varM 1) (consA (binM modF (callM intF (consA (varM 0) nilA)) (varM 1)) nilA))))
def b__law_gcd : MS := (seqS (parS [0, 1] (consA (callM absF (consA (varM 0) nilA)) (consA (callM absF (consA (varM 1) nilA)) nilA)))
    (seqS (forS (.nm 2) (rng1I (consA (constM (.int 9000)) nilA)) f__law_gcd_1)
    (retS (varM 0))))
def m__law_gcd : Fn := defP 3 b__law_gcd
def b__law_fraction : MS := (seqS (setS 2 (ifM (boolM (binM ltF (varM 1) (binM powF (constM (.int 10)) (constM (.int 8))))) (binM addF (constM (.int 2)) (callM m__law_take (consA (varM 0) (consA (varM 1) nilA)))) (binM addF (binM addF (constM (.int 2)) (binM mulF (callM m__law_take (consA (varM 0) (consA (binM powF (constM (.int 10)) (constM (.int 8))) nilA))) (binM divF (varM 1) (binM powF (constM (.int 10)) (constM (.int 8)))))) (callM m__law_take (consA (varM 0) (consA (binM powF (constM (.int 10)) (constM (.int 8))) nilA))))))
    (seqS (setS 3 (ifM (boolM (binM ltF (varM 2) (binM powF (constM (.int 10)) (constM (.int 8))))) (binM addF (constM (.int 1)) (callM m__law_take (consA (varM 0) (consA (binM subF (varM 2) (constM (.int 1))) nilA)))) (binM addF (constM (.int 1)) (binM modF (callM intF (consA (binM addF (binM mulF (callM m__law_take (consA (varM 0) (consA (binM powF (constM (.int 10)) (constM (.int 8))) nilA))) (binM powF (constM (.int 10)) (constM (.int 30)))) (callM m__law_take (consA (varM 0) (consA (binM powF (constM (.int 10)) (constM (.int 8))) nilA)))) nilA)) (binM subF (varM 2) (constM (.int 1)))))))
    (seqS (setS 4 (callM m__law_gcd (consA (varM 2) (consA (varM 3) nilA))))
    (retS (ifM (boolM (binM gtF (binM divF (varM 2) (varM 4)) (constM (.int 1)))) (tupM (consA (binM divF (varM 2) (varM 4)) (consA (binM divF (varM 3) (varM 4)) nilA))) (tupM (consA (varM 2) (consA (constM (.int 1)) nilA))))))))
def m__law_fraction : Fn := defP 5 b__law_fraction
abbrev f__law_right_1 : MS := (ifS (orT (boolM (binM neF (binM subF (binM mulF (binM ixF (varM 8) (constM (.int 0))) (binM ixF (varM 9) (constM (.int 1)))) (binM mulF (binM ixF (varM 9) (constM (.int 0))) (binM ixF (varM 8) (constM (.int 1))))) (constM (.int 1)))) (boolM (binM geF (binM ixF (varM 8) (constM (.int 1))) (binM ixF (varM 9) (constM (.int 1)))))) (retS (constM (.bl false))) skipS)
abbrev f__law_right_2 : MS := (seqS (setS 13 (binM divF (binM subF (binM addF (binM mulF (varM 2) (varM 12)) (varM 3)) (constM (.int 1))) (varM 3)))
    (ifS (orT (boolM (binM isNonF (varM 11) (constM .non))) (boolM (binM ltF (binM mulF (varM 13) (binM ixF (varM 11) (constM (.int 1)))) (binM mulF (binM ixF (varM 11) (constM (.int 0))) (varM 12))))) (setS 11 (tupM (consA (varM 13) (consA (varM 12) nilA)))) skipS))
abbrev f__law_right_3 : MS := (seqS (setS 11 (constM .non))
    (seqS (forS (.nm 12) (rng2I (consA (constM (.int 1)) (consA (binM addF (varM 10) (constM (.int 1))) nilA))) f__law_right_2)
    (seqS (setS 14 (binM ixF (lstOfI (lcI [7] (.nm 7) (seqI (varM 5)) (boolM (binM leF (binM ixF (varM 7) (constM (.int 1))) (varM 10))) (varM 7))) (unM negF (constM (.int 1)))))
    (ifS (boolM (binM neF (varM 14) (varM 11))) (retS (constM (.bl false))) skipS))))
abbrev f__law_right_4 : MS := (seqS (asgS (.tp [(.nm 2), (.nm 3)]) (callM m__law_fraction (consA (varM 0) (consA (constM (.int 200)) nilA))))
    (seqS (ifS (boolM (binM eqF (varM 2) (constM (.int 1)))) contS skipS)
    (seqS (setS 4 (callM m_chain_of (consA (tupM (consA (varM 2) (consA (varM 3) nilA))) nilA)))
    (seqS (setS 5 (lstOfI (lcI [6] (.nm 6) (rng2I (consA (constM (.int 1)) (consA (binM addF (callM lenF (consA (varM 4) nilA)) (constM (.int 1))) nilA))) yesT (callM m_worth (consA (cutM (varM 4) noO (someO (varM 6))) nilA)))))
    (seqS (ifS (notT (truthM (callM (m__law_same 8) (consA (lstM (consA (binM ixF (varM 5) (unM negF (constM (.int 1)))) (consA (callM tupleF (consA (binM addF (lstM (consA (constM (.int 1)) nilA)) (lstOfI (lcI [7] (.nm 7) (seqI (varM 5)) yesT (binM ixF (varM 7) (constM (.int 0)))))) nilA)) nilA))) (consA (lstM (consA (tupM (consA (varM 2) (consA (varM 3) nilA))) (consA (callM m_tops (consA (varM 4) nilA)) nilA))) nilA))))) (retS (constM (.bl false))) skipS)
    (seqS (forS (.tp [(.nm 8), (.nm 9)]) (zipI (consA (varM 5) (consA (cutM (varM 5) (someO (constM (.int 1))) noO) nilA))) f__law_right_1)
    (seqS (forS (.nm 10) (rng2I (consA (constM (.int 1)) (consA (binM addF (varM 3) (constM (.int 1))) nilA))) f__law_right_3)
    (seqS (setS 15 (callM m_makers (consA (callM m_mate_of_fraction (consA (tupM (consA (varM 2) (consA (varM 3) nilA))) nilA)) nilA)))
    (ifS (boolM (binM neF (callM lenF (consA (varM 15) nilA)) (binM addF (callM lenF (consA (varM 4) nilA)) (constM (.int 2))))) (retS (constM (.bl false))) skipS)))))))))
def b__law_right : MS := (seqS (forS (.nm 1) (rng1I (consA (constM (.int 2)) nilA)) f__law_right_4)
    (retS (constM (.bl true))))
def m__law_right : Fn := defP 16 b__law_right
def b_law : MS := (seqS (setS 1 (callM m__law_cells (consA (varM 0) (consA (constM (.int 2)) nilA))))
    (retS (callM allF (consA (lstOfI (lcI [2] (.nm 2) (rng1I (consA (callM lenF (consA (varM 1) nilA)) nilA)) yesT (callM m__law_right (consA (callM m__law_box (consA (varM 1) (consA (varM 2) nilA))) nilA)))) nilA))))
def m_law : Fn := defP 3 b_law
local macro_rules | `(tactic| walk_at "ev") => `(tactic| simp -implicitDefEqProofs -dsimp only [varM_ap, constM_ap, binM_ap, unM_ap, nilA_ap, consA_ap, callM_ap, callKM_ap, ifM_ap, truthM_ap, boolM_ap, andT_ap, orT_ap, notT_ap, andM_ap, orM_ap, notM_ap, tupM_ap, lstM_ap, newM_ap, frzM_ap, frz_p, frzs_nil, frzs_cons,
  skipS_ap, seqS_ap, retS_ap, breakS_ap, contS_ap, dropS_ap, ifS_ap, setS_ap, asgS_ap, parS_ap, forS_ap, seqI_ap, lstOfI_ap, newOfI_ap, lcI_ap, cutM_ap, noO_ap, someO_ap, enumI_ap, rng1I_ap, rng2I_ap, zipI_ap, appM_ap, popM_ap, putS_ap, chainM_ap, augS_ap, yesT_ap, put_nm, put_tp, puts_nil, puts_cons,
  defP_ap, defC_ap, add_ii, addI_ii, sub_ii, mod_ii, div_ii, neg_i, lt_ii, le_ii, gt_ii, ge_ii, eq_ii, ne_ii, int_i, abs_i, bl_tru, len_tup, len_lst, tuple_lst, tuple_tup, rev_tup, rev_lst, items_lst, items_tup, ix_tup', ix_lst', ix_loc, cut_tup, cut_lst, is_p,
  R.bd_ok, pick_nil, pick_cons, Int.cast_ofNat_Int, Int.reduceLT, Int.reduceLE, List.isEmpty_nil, List.isEmpty_cons, enum_nil, forGo_nil, isNon_non, isNon_int, isNon_bl, isNon_str, isNon_tup, isNon_lst, eq_bb, ne_bb, eq_nilI, ne_nilI, beq_self_eq_true, tagD, isT, List.any_cons, List.any_nil, List.map_cons, List.map_nil, List.length_cons, List.length_nil, List.replicate, List.cons_append, List.nil_append, List.append_nil, List.reverse_nil, List.getElem?_cons_zero, List.getElem?_cons_succ, List.set_cons_zero, List.set_cons_succ, List.take_length, take_set, cell_app, set_app, take_app, frz_loc, loc_tru, lst_tru, tup_tru, len_loc, tuple_loc, listN_lst, list_lst, cut_scr, all_bls, sum_ints, sum_tints, mul_ii, setAll, wipeSl, Nat.zero_add, Nat.reduceAdd, Nat.reduceSub, if_true, if_false, Bool.not_true, Bool.not_false, at_0, at_1, at_2, ixN3_0, ixN3_2, decide_true, decide_false, Option.some.injEq, true_and, and_true, and_self, Bool.true_or, Bool.false_or, Bool.or_true, Bool.or_false, Bool.true_and, Bool.and_true, Bool.false_and, Bool.and_false, *])

/-! ## what holds in all laws -/
/-- the source of draws in a cell; c bounds how many draws were made -/
def Tin (st : Store) (n : Nat) (C : Int) : Prop := ∃ a b c : Int, cellL st n = some [.int a, .int b, .int c] ∧ 0 ≤ b ∧ b < 4611686018427387904 ∧ 0 ≤ c ∧ c ≤ C
theorem cell_set {st : Store} {n : Nat} {ds es : List D} (h : cellL st n = some ds) : cellL (st.set n (some (.l es))) n = some es := by
  have h := cellL_inv h
  have hl : n < st.length := (List.getElem?_eq_some_iff.mp h).1
  unfold cellL
  rw [List.getElem?_set_self hl]
theorem small_of {x : Int} (h1 : -18446744073709551616 < x) (h2 : x < 18446744073709551616) : smallI x = true := by
  unfold smallI
  rw [decide_eq_true (show -(2 ^ 64) < x by omega), decide_eq_true (show x < 2 ^ 64 by omega)]
  rfl
theorem mul_l {x y : Int} {st : Store} (h1 : -18446744073709551616 < x) (h2 : x < 18446744073709551616) : mulF (.p (.int x)) (.p (.int y)) st = .ok (.p (.int (x * y)), st) := by
  rw [mul_ii, small_of h1 h2]
  rfl
theorem mul_r {x y : Int} {st : Store} (h1 : -18446744073709551616 < y) (h2 : y < 18446744073709551616) : mulF (.p (.int x)) (.p (.int y)) st = .ok (.p (.int (x * y)), st) := by
  rw [mul_ii, small_of h1 h2, Bool.or_true]
  rfl
theorem log_lt {y : Int} (h0 : 0 ≤ y) (h : y < 18446744073709551616) : y.natAbs.log2 < 9000 := by
  have h1 : y.natAbs < 2 ^ 64 := by omega
  by_cases h2 : y.natAbs = 0
  · rw [h2]; decide
  · exact Nat.lt_trans ((Nat.log2_lt h2).mpr h1) (by decide)
abbrev iD (xs : List Int) : List D := xs.map .int
def Sm (xs : List Int) : Prop := ∀ a ∈ xs, -1000 < a ∧ a < 1000
theorem Sm.cons {a : Int} {r : List Int} (h : Sm (a :: r)) : Sm r := fun x hx => h x (List.mem_cons_of_mem _ hx)
theorem Sm.head {a : Int} {r : List Int} (h : Sm (a :: r)) : -1000 < a ∧ a < 1000 := h a List.mem_cons_self
theorem Sm.rev {r : List Int} (h : Sm r) : Sm r.reverse := fun x hx => h x (List.mem_reverse.mp hx)
theorem Sm.app {r s : List Int} (h : Sm r) (h2 : Sm s) : Sm (r ++ s) := fun x hx => (List.mem_append.mp hx).elim (h x) (h2 x)
theorem len_iD (xs : List Int) : (iD xs).length = xs.length := List.length_map ..
theorem rev_iD (xs : List Int) : (iD xs).reverse = iD xs.reverse := List.map_reverse.symm
theorem small1000 {a : Int} (h : -1000 < a ∧ a < 1000) : smallI a = true := small_of (by omega) (by omega)
theorem map_self (ds : List D) : ds.map (fun d => d) = ds := List.map_id'' (fun _ => rfl) ds
theorem map_bl (xs : List Int) (g : Int → Bool) (F : D → D) (h : ∀ a ∈ xs, F (.int a) = .bl (g a)) : (iD xs).map F = (xs.map g).map D.bl := by
  rw [List.map_map, List.map_map]
  exact List.map_congr_left h
theorem all_true (xs : List Int) (g : Int → Bool) (h : ∀ a ∈ xs, g a = true) : (xs.map g).all id = true := by
  rw [List.all_map, List.all_eq_true]
  exact h
/-- a row or a chain, as tuple or as list -/
def Seq (w : W) (xs : List Int) : Prop := w = .p (.tup (iD xs)) ∨ w = .p (.lst (iD xs))
theorem ix_m1 {ds : List D} {d : D} : atI (ds ++ [d]) (-1) = some d := by
  unfold atI ixN
  rw [if_neg (by decide), if_pos (by rw [List.length_append, List.length_singleton]; omega)]
  show (ds ++ [d])[((((ds ++ [d]).length : Nat) : Int) + -1).toNat]? = _
  rw [show ((((ds ++ [d]).length : Nat) : Int) + -1).toNat = ds.length by rw [List.length_append, List.length_singleton]; omega]
  simp
theorem ix_m2 {ds : List D} {d e : D} : atI (ds ++ [d, e]) (-2) = some d := by
  unfold atI ixN
  rw [if_neg (by decide), if_pos (by rw [List.length_append]; simp; omega)]
  rw [show (-2 + (((ds ++ [d, e]).length : Nat) : Int)).toNat = ds.length by rw [List.length_append]; simp; omega]
  simp
theorem Tin.mono {st : Store} {n : Nat} {C C' : Int} (h : Tin st n C) (hc : C ≤ C') : Tin st n C' := by
  obtain ⟨a, b, c, h1, h2, h3, h4, h5⟩ := h
  exact ⟨a, b, c, h1, h2, h3, h4, by omega⟩
theorem Tin.lt {st : Store} {n : Nat} {C : Int} (h : Tin st n C) : n < st.length := by
  obtain ⟨a, b, c, h1, _⟩ := h
  exact (List.getElem?_eq_some_iff.mp (cellL_inv h1)).1
def zipSelf : List D → List D
  | [] => []
  | d :: ds => .tup [d, d] :: zipSelf ds
theorem zipD_self : ∀ ds : List D, zipD ds ds = zipSelf ds
  | [] => rfl
  | d :: ds => by rw [zipSelf, ← zipD_self ds]; rfl
theorem zipSelf_mem : ∀ {ds : List D} {x : D}, x ∈ zipSelf ds → ∃ d ∈ ds, x = .tup [d, d]
  | d :: ds, x, h => by
    rcases List.mem_cons.mp h with rfl | h
    · exact ⟨d, List.mem_cons_self, rfl⟩
    · obtain ⟨e, h1, h2⟩ := zipSelf_mem h
      exact ⟨e, List.mem_cons_of_mem _ h1, h2⟩
theorem zipSelf_len : ∀ ds : List D, (zipSelf ds).length = ds.length
  | [] => rfl
  | d :: ds => by rw [zipSelf, List.length_cons, zipSelf_len ds, List.length_cons]
theorem map_true : ∀ ds : List D, ds.map (fun _ => D.bl true) = (ds.map fun _ => true).map D.bl
  | [] => rfl
  | d :: ds => by rw [List.map_cons, map_true ds]; rfl
theorem allid_true (ds : List D) : (ds.map fun _ => true).all id = true := by
  rw [List.all_map, List.all_eq_true]; intro _ _; rfl
theorem ixN_nat {n j : Nat} (h : j < n) : ixN n (j : Int) = some j := by
  unfold ixN
  rw [if_pos (by omega), if_pos (by omega), Int.toNat_natCast]
theorem atI_nat {ds : List D} {j : Nat} {d : D} (h : ds[j]? = some d) : atI ds (j : Int) = some d := by
  have hl : j < ds.length := (List.getElem?_eq_some_iff.mp h).1
  unfold atI
  rw [ixN_nat hl]
  exact h
theorem set_iD (cs : List Int) (j : Nat) (x : Int) : (iD cs).set j (.int x) = iD (cs.set j x) := List.map_set.symm
theorem cut_1 (a : Int) (r : List Int) : cutD (.int a :: iD r) (some 1) none = iD r := by
  rw [show D.int a :: iD r = iD (a :: r) from rfl, show (1 : Int) = ((1 : Nat) : Int) from rfl, cutD_map, HT.sIx_nat, HT.sIx_none, List.length_cons, show min 1 (r.length + 1) = 1 by omega, List.drop_succ_cons, List.drop_zero, Nat.add_sub_cancel, List.take_length]
theorem cut_2 (a b : Int) (r : List Int) : cutD (.int a :: .int b :: iD r) (some 2) none = iD r := by
  rw [show D.int a :: D.int b :: iD r = iD (a :: b :: r) from rfl, show (2 : Int) = ((2 : Nat) : Int) from rfl, cutD_map, HT.sIx_nat, HT.sIx_none, List.length_cons, List.length_cons, show min 2 (r.length + 1 + 1) = 2 by omega, List.drop_succ_cons, List.drop_succ_cons, List.drop_zero, show r.length + 1 + 1 - 2 = r.length by omega, List.take_length]
theorem cut_i {xs : List Int} {k : Nat} (h : k ≤ xs.length) : cutD (iD xs) none (some (k : Int)) = iD (xs.take k) := by
  rw [cutD_map, HT.sIx_none, HT.sIx_nat, Nat.sub_zero, List.drop_zero, Nat.min_eq_left h]
theorem cut_d {xs : List Int} {k : Nat} (h : k ≤ xs.length) : cutD (iD xs) (some (k : Int)) none = iD (xs.drop k) := by
  rw [cutD_map, HT.sIx_none, HT.sIx_nat, Nat.min_eq_left h, List.take_of_length_le (by rw [List.length_drop]; omega)]
theorem cut_tail (xs : List Int) : cutD (iD xs) (some 1) none = iD xs.tail := by
  cases xs with
  | nil => rfl
  | cons a r => exact cut_1 a r
theorem cut_init (xs : List Int) : cutD (iD xs) none (some (-1)) = iD xs.dropLast := by
  rw [cutD_map, HT.sIx_none, Nat.sub_zero, List.drop_zero, List.dropLast_eq_take]
  congr 2
  show (-1 + (xs.length : Int)).toNat = _
  omega
theorem cut_inner (xs : List Int) : cutD (iD xs) (some 1) (some (-1)) = iD xs.tail.dropLast := by
  cases xs with
  | nil => rfl
  | cons a r =>
    rw [cutD_map, show (1 : Int) = ((1 : Nat) : Int) from rfl, HT.sIx_nat, List.dropLast_eq_take, List.length_cons, List.tail_cons, show min 1 (r.length + 1) = 1 by omega, List.drop_succ_cons, List.drop_zero]
    congr 2
    show (-1 + ((r.length + 1 : Nat) : Int)).toNat - 1 = _
    omega
theorem lc_store {sl0 : Slots} {t : Tgt} {elt : ME} {Q : D → Prop} (I : Nat → Store → Prop) : ∀ (ds acc : List D) (n : Nat) (st : Store),
    (∀ x ∈ ds, ∀ m st, m < n + ds.length → I m st → ∃ sl1 d st', t.put (.p x) sl0 = .ok sl1 ∧ elt sl1 st = .ok (.p d, st') ∧ Q d ∧ I (m + 1) st') → I n st →
    ∃ ys st', lcGo sl0 t yesT elt ds acc st = .ok (acc.reverse ++ ys, st') ∧ ys.length = ds.length ∧ (∀ y ∈ ys, Q y) ∧ I (n + ds.length) st'
  | [], acc, n, st, _, hi => ⟨[], st, by simp [lcGo_nil], rfl, by simp, hi⟩
  | d :: ds, acc, n, st, h, hi => by
    obtain ⟨sl1, e, st1, h1, h2, h3, h4⟩ := h d List.mem_cons_self n st (by simp) hi
    obtain ⟨ys, st', h5, h6, h7, h8⟩ := lc_store I ds (e :: acc) (n + 1) st1 (fun x hx m st hm => h x (List.mem_cons_of_mem _ hx) m st (by simp at hm ⊢; omega)) h4
    refine ⟨e :: ys, st', ?_, by simp [h6], ?_, by rw [List.length_cons, ← Nat.add_assoc, Nat.add_right_comm]; exact h8⟩
    · rw [lcGo_cons, h1]
      simp only [R.bd_ok, yesT_ap, h2, frz_p]
      rw [h5]
      simp
    · intro y hy
      rcases List.mem_cons.mp hy with rfl | hy
      · exact h3
      · exact h7 y hy
theorem fin_int (n : Nat) (a : Int) : Pm.Fin n (.int a) := by cases n <;> trivial
theorem fin_tints (n : Nat) {xs : List Int} (hl : xs.length ≤ 1000000) : Pm.Fin (n + 1) (.tup (iD xs)) :=
  ⟨by rw [len_iD]; exact hl, fun d hd => by obtain ⟨a, _, rfl⟩ := List.mem_map.mp hd; exact fin_int n a⟩
theorem fin_t2 (n : Nat) {d e : D} (h1 : Pm.Fin n d) (h2 : Pm.Fin n e) : Pm.Fin (n + 1) (.tup [d, e]) := by
  refine ⟨by simp, fun x hx => ?_⟩
  rcases List.mem_cons.mp hx with rfl | hx
  · exact h1
  · rw [List.mem_singleton.mp hx]; exact h2
theorem fin_l3 (n : Nat) {d e f : D} (h1 : Pm.Fin n d) (h2 : Pm.Fin n e) (h3 : Pm.Fin n f) : Pm.Fin (n + 1) (.lst [d, e, f]) := by
  refine ⟨by simp, fun x hx => ?_⟩
  rcases List.mem_cons.mp hx with rfl | hx
  · exact h1
  · rcases List.mem_cons.mp hx with rfl | hx
    · exact h2
    · rw [List.mem_singleton.mp hx]; exact h3
theorem rngD_len (i : Int) (n : Nat) : (rngD i n).length = n := by unfold rngD; rw [List.length_map, List.length_range]
theorem add_ll {ds es : List D} {st : Store} (h : ds.length + es.length ≤ 1000000) : addF (.p (.lst ds)) (.p (.lst es)) st = .ok (.p (.lst (ds ++ es)), st) := if_pos h
theorem min_ok {xs : List Int} (h : xs ≠ []) (st : Store) : ∃ m : Int, minF [.p (.tup (iD xs))] st = .ok (.p (.int m), st) ∧ ∀ a ∈ xs, m ≤ a := by
  cases xs with
  | nil => exact absurd rfl h
  | cons a r =>
    refine ⟨minL a r, ?_, (minL_spec r a).2⟩
    show (match intsS st (.p (.tup (iD (a :: r)))) with | some (n :: ns) => _ | _ => _) = _
    rw [show intsS st (.p (.tup (iD (a :: r)))) = some (a :: r) from intsOf_map (a :: r)]
theorem take_ok {st : Store} {n : Nat} {C k : Int} (h : Tin st n C) (hC : C ≤ 1000000000000) (h0 : 0 < k) (hk : k < 18446744073709551616) :
    ∃ (r : Int) (st' : Store), m__law_take [.loc n, .p (.int k)] st = .ok (.p (.int r), st') ∧ 0 ≤ r ∧ r < k ∧ Tin st' n (C + 1) ∧ st'.length = st.length := by
  obtain ⟨a, b, c, hc, hb0, hb1, hc0, hc1⟩ := h
  have hk' : 0 < k ∧ k.natAbs.log2 < 9000 := ⟨h0, log_lt (by omega) hk⟩
  unfold m__law_take
  by_cases ha : 0 < a
  · refine ⟨a % k, st.set n (some (.l [.int (a / k), .int b, .int c])), ?_, Int.emod_nonneg _ (by omega), Int.emod_lt_of_pos _ h0, ⟨_, _, _, cell_set hc, hb0, hb1, hc0, by omega⟩, by simp⟩
    unfold b__law_take
    walk_at "ev"
  · have m0 : smallI 48271 = true := rfl
    have m1 : smallI (39373 + (c + 1)) = true := small_of (by omega) (by omega)
    have m2 : ∀ x : Int, smallI (x % 40009 + 7) = true := fun x => small_of (by omega) (by omega)
    have hc2 := cell_set (es := [.int a, .int b, .int (c + 1)]) hc
    have g1 : (0 : Int) < 2147483647 := by decide
    have g2 : (0 : Int) < 40009 := by decide
    have g3 : (0 : Int) < 1000003 ∧ (1000003 : Int).natAbs.log2 < 9000 := by decide
    have g4 : (0 : Int) < 2147483629 := by decide
    have g5 : (0 : Int) < 2147483587 := by decide
    have g6 : (0 : Int) < 64 ∧ (64 : Int).natAbs.log2 < 9000 := by decide
    have key : ∃ X : Int, defP 6 b__law_take [.loc n, .p (.int k)] st = .ok (.p (.int (X % k)), st.set n (some (.l [.int a, .int b, .int (c + 1)]))) := by
      unfold b__law_take
      walk_at "ev"
      exact ⟨_, rfl⟩
    obtain ⟨X, e⟩ := key
    exact ⟨_, _, e, Int.emod_nonneg _ (by omega), Int.emod_lt_of_pos _ h0, ⟨_, _, _, hc2, hb0, hb1, by omega, by omega⟩, by simp⟩
/-- the source of draws at n in a store of N cells -/
def TN (n N : Nat) (C : Int) (st : Store) : Prop := Tin st n C ∧ st.length = N
theorem TN.take {n N : Nat} {C k : Int} {st : Store} (h : TN n N C st) (hC : C ≤ 1000000000000) (h0 : 0 < k) (hk : k < 18446744073709551616) :
    ∃ (r : Nat) (st' : Store), m__law_take [.loc n, .p (.int k)] st = .ok (.p (.int (r : Int)), st') ∧ (r : Int) < k ∧ TN n N (C + 1) st' := by
  obtain ⟨r, st', e, h1, h2, h3, h4⟩ := take_ok h.1 hC h0 hk
  refine ⟨r.toNat, st', ?_, by omega, h3, h4.trans h.2⟩
  rw [e, show ((r.toNat : Nat) : Int) = r by omega]
theorem same_seq (n : Nat) (st : Store) (ds : List D) (ih : ∀ d ∈ ds, m__law_same n [.p d, .p d] st = .ok (.p (.bl true), st)) (w1 w2 : W) :
    lcGo [some w1, some w2, none, none] (.tp [.nm 2, .nm 3]) yesT (callM (m__law_same n) (consA (varM 2) (consA (varM 3) nilA))) (zipSelf ds) [] st = .ok (((zipSelf ds).map fun _ => true).map D.bl, st) := by
  rw [lc_map (F := fun _ => .bl true) (zipSelf ds) [] ?_]
  · rw [map_true]; rfl
  · intro x hx
    obtain ⟨d, hd, rfl⟩ := zipSelf_mem hx
    have e := ih d hd
    refine ⟨[some w1, some w2, some (.p d), some (.p d)], ?_, ?_⟩
    · walk_at "ev"
    · walk_at "ev"
theorem same_refl (st : Store) : ∀ (n : Nat) (d : D), Fin n d → m__law_same (n + 1) [.p d, .p d] st = .ok (.p (.bl true), st)
  | n, .non, _ => by
    show defP 4 (b__law_same (m__law_same n)) _ _ = _
    unfold b__law_same
    walk_at "ev"
  | n, .int a, _ => by
    show defP 4 (b__law_same (m__law_same n)) _ _ = _
    unfold b__law_same
    walk_at "ev"
  | n, .bl a, _ => by
    show defP 4 (b__law_same (m__law_same n)) _ _ = _
    unfold b__law_same
    walk_at "ev"
  | n, .str a, h => by
    have h : okD 60 (.str a) = true := by simp only [okD]; cases n <;> simpa only [Pm.Fin] using h
    have e := eq_pp (st := st) h h
    have e2 := eqD_refl (.str a)
    show defP 4 (b__law_same (m__law_same n)) _ _ = _
    unfold b__law_same
    walk_at "ev"
  | n + 1, .tup ds, h => by
    obtain ⟨hl, hm⟩ := h
    have hl2 : (zipSelf ds).length ≤ 1000000 := by rw [zipSelf_len]; exact hl
    have hz := zipD_self ds
    have lc := same_seq (n + 1) st ds (fun d hd => same_refl st n d (hm d hd)) (.p (.tup ds)) (.p (.tup ds))
    have ha := allid_true (zipSelf ds)
    show defP 4 (b__law_same (m__law_same (n + 1))) _ _ = _
    unfold b__law_same
    walk_at "ev"
  | n + 1, .lst ds, h => by
    obtain ⟨hl, hm⟩ := h
    have hl2 : (zipSelf ds).length ≤ 1000000 := by rw [zipSelf_len]; exact hl
    have hz := zipD_self ds
    have lc := same_seq (n + 1) st ds (fun d hd => same_refl st n d (hm d hd)) (.p (.lst ds)) (.p (.lst ds))
    have ha := allid_true (zipSelf ds)
    show defP 4 (b__law_same (m__law_same (n + 1))) _ _ = _
    unfold b__law_same
    walk_at "ev"
theorem same_d (st : Store) (d : D) (h : Pm.Fin 7 d) : m__law_same 8 [.p d, .p d] st = .ok (.p (.bl true), st) := same_refl st 7 d h
theorem cells_loop (ns : List Int) (S : Store) (most : Nat) (hm : 1 ≤ most) (hm2 : most < 1000) : ∀ (l : List Int) (k : Nat) (cs : List Int), cs.length = most → k + l.length ≤ 100 → ∀ x y z : Option W, ∃ (cs' : List Int) (x' y' z' : Option W), cs'.length = most ∧
    forGo (.tp [.nm 3, .nm 4]) f__law_cells_1 (enumFrom k (iD l)) [some (.scr ns), some (.p (.int most)), some (.loc S.length), x, y, z] (S ++ [some (.l (iD cs))])
    = .ok (.nx, [some (.scr ns), some (.p (.int most)), some (.loc S.length), x', y', z'], S ++ [some (.l (iD cs'))])
  | [], k, cs, hc, _, x, y, z => ⟨cs, x, y, z, hc, rfl⟩
  | a :: l, k, cs, hc, hk, x, y, z => by
    have hj : k % most < cs.length := by rw [hc]; exact Nat.mod_lt _ (by omega)
    obtain ⟨v, hv⟩ : ∃ v, cs[k % most]? = some v := ⟨_, List.getElem?_eq_getElem hj⟩
    have e0 : ((k : Int) % (most : Int)) = ((k % most : Nat) : Int) := by omega
    have h1 : atI (iD cs) ((k % most : Nat) : Int) = some (.int v) := atI_nat (by rw [List.getElem?_map, hv]; rfl)
    have h2 : ixN (iD cs).length ((k % most : Nat) : Int) = some (k % most) := ixN_nat (by rw [len_iD]; exact hj)
    have h3 : smallI ((k : Int) + 2) = true := small_of (by omega) (by simp at hk; omega)
    have h4 := set_iD cs (k % most) (v + a * ((k : Int) + 2))
    have h5 : (0 : Int) < (most : Int) := by omega
    obtain ⟨cs', x', y', z', hc', e⟩ := cells_loop ns S most hm hm2 l (k + 1) (cs.set (k % most) (v + a * ((k : Int) + 2))) (by rw [List.length_set]; exact hc) (by simp at hk ⊢; omega) (some (.p (.int k))) (some (.p (.int a))) (some (.p (.int ((k % most : Nat) : Int))))
    refine ⟨cs', x', y', z', hc', ?_⟩
    show forGo _ _ (D.tup [.int k, .int a] :: enumFrom (k + 1) (iD l)) _ _ = _
    rw [forGo_cons]
    unfold f__law_cells_1 at e ⊢
    walk_at "ev"
theorem cells_ok (ns : List Int) (most : Nat) (hm : 1 ≤ most) (hm2 : most ≤ 62) (st : Store) : ∃ cs : List Int, cs ≠ [] ∧ cs.length ≤ most ∧ m__law_cells [.scr ns, .p (.int most)] st = .ok (.p (.lst (iD cs)), st) := by
  have hc1 : cutD (iD ns) none (some (most : Int)) = iD (ns.take most) := by
    rw [cutD_map, HT.sIx_none, HT.sIx_nat, Nat.sub_zero, List.drop_zero]
    congr 1
    rcases Nat.le_total most ns.length with h | h
    · rw [Nat.min_eq_left h]
    · rw [Nat.min_eq_right h, List.take_length, List.take_of_length_le h]
  have hc2 : cutD (iD ns) (some (most : Int)) (some 63) = iD ((ns.drop most).take (63 - most)) := by
    rw [cutD_map, show (63 : Int) = ((63 : Nat) : Int) from rfl, HT.sIx_nat, HT.sIx_nat]
    congr 1
    rcases Nat.le_total most ns.length with h | h
    · rw [Nat.min_eq_left h]
      rcases Nat.le_total 63 ns.length with h2 | h2
      · rw [Nat.min_eq_left h2]
      · rw [Nat.min_eq_right h2, List.take_of_length_le (by rw [List.length_drop]; omega), List.take_of_length_le (by rw [List.length_drop]; omega)]
    · rw [Nat.min_eq_right h, List.drop_length, List.drop_of_length_le h, List.take_nil, List.take_nil]
  by_cases hn : ns = []
  · subst hn
    rw [show iD [] = [] from rfl] at hc1 hc2
    simp only [List.take_nil, List.drop_nil, List.map_nil] at hc1 hc2
    have hst : (st ++ [some (Cell.l [])] ++ [some (Cell.l [D.int 0])]).take st.length = st := by rw [List.append_assoc]; exact take_app
    have hcl : cellL (st ++ [some (Cell.l [])] ++ [some (Cell.l [D.int 0])]) (st ++ [some (Cell.l [])]).length = some [.int 0] := cell_app
    have hset : (st ++ [some (Cell.l [])] ++ [none]).take st.length = st := by rw [List.append_assoc]; exact take_app
    refine ⟨[0], by simp, by simpa using hm, ?_⟩
    unfold m__law_cells b__law_cells
    walk_at "ev"
  · have hne : (iD (ns.take most)).isEmpty = false := by
      cases ns with
      | nil => exact absurd rfl hn
      | cons a r => cases most with
        | zero => omega
        | succ m => rfl
    by_cases hl : ns.length ≤ most
    · rw [List.take_of_length_le hl] at hc1 hne
      rw [List.drop_of_length_le hl, List.take_nil] at hc2
      refine ⟨ns, hn, hl, ?_⟩
      unfold m__law_cells b__law_cells
      walk_at "ev"
    · obtain ⟨cs', x', y', z', hc', e⟩ := cells_loop ns st most hm (by omega) ((ns.drop most).take (63 - most)) 0 (ns.take most) (by rw [List.length_take]; omega) (by rw [List.length_take]; omega) none none none
      refine ⟨cs', by intro h; rw [h] at hc'; simp at hc'; omega, by omega, ?_⟩
      unfold m__law_cells b__law_cells
      walk_at "ev"
theorem box_ok (cs : List Int) (k : Nat) (hk : k < 100) (st : Store) : ∃ st' : Store, m__law_box [.p (.lst (iD cs)), .p (.int k)] st = .ok (.loc st.length, st') ∧ Tin st' st.length 0 ∧ st'.take st.length = st := by
  have hp : powF (.p (.int 10)) (.p (.int 18)) st = .ok (.p (.int 1000000000000000000), st) := by
    unfold powF; rfl
  have hb : ∀ b : Bool, smallI (if b = true then 1 else 0) = true := by intro b; cases b <;> rfl
  have hi : ∀ b : Bool, intF [.p (.bl b)] st = .ok (.p (.int (if b = true then 1 else 0)), st) := fun _ => rfl
  have g1 : (0 : Int) < 2305843009213693951 := by decide
  have g2 : smallI 39373 = true := rfl
  have key : ∃ v a : Int, m__law_box [.p (.lst (iD cs)), .p (.int k)] st = .ok (.loc st.length, st ++ [some (.l [.int a, .int (v % 2305843009213693951 + 39373 * (k : Int) + 9212066), .int 0])]) := by
    by_cases hl : k < cs.length
    · obtain ⟨v, hv⟩ : ∃ v, cs[k]? = some v := ⟨_, List.getElem?_eq_getElem hl⟩
      have h1 : atI (iD cs) (k : Int) = some (.int v) := atI_nat (by rw [List.getElem?_map, hv]; rfl)
      have h2 : decide ((k : Int) < ((iD cs).length : Int)) = true := decide_eq_true (by rw [len_iD]; omega)
      refine ⟨v, ?_⟩
      unfold m__law_box b__law_box
      walk_at "ev"
      exact ⟨_, rfl⟩
    · have h2 : decide ((k : Int) < ((iD cs).length : Int)) = false := decide_eq_false (by rw [len_iD]; omega)
      refine ⟨0, ?_⟩
      unfold m__law_box b__law_box
      walk_at "ev"
      exact ⟨_, rfl⟩
  obtain ⟨v, a, e⟩ := key
  refine ⟨_, e, ⟨_, _, _, cell_app, ?_, ?_, Int.le_refl _, Int.le_refl _⟩, take_app⟩
  · have := Int.emod_nonneg v (b := 2305843009213693951) (by decide); omega
  · have := Int.emod_lt_of_pos v (b := 2305843009213693951) (by decide); omega
theorem is_number_ok (a : Int) (st : Store) : m_is_number [.p (.int a)] st = .ok (.p (.bl true), st) := by
  unfold m_is_number b_is_number
  walk_at "ev"
theorem tupled_int (n : Nat) (a : Int) (st : Store) : m_tupled (n + 1) [.p (.int a)] st = .ok (.p (.int a), st) := by
  show defP 2 (b_tupled (m_tupled n)) _ _ = _
  unfold b_tupled
  walk_at "ev"
theorem tupled_tup (n : Nat) (xs : List Int) (h : xs.length ≤ 1000000) (st : Store) : m_tupled (n + 2) [.p (.tup (iD xs))] st = .ok (.p (.tup (iD xs)), st) := by
  show defP 2 (b_tupled (m_tupled (n + 1))) _ _ = _
  have h2 : (iD xs).length ≤ 1000000 := by rw [len_iD]; exact h
  unfold b_tupled
  walk_at "ev"
  rw [lc_map (F := fun d => d) (iD xs) [] ?_]
  · rw [map_self]; walk_at "ev"
  · intro x hx
    obtain ⟨a, _, rfl⟩ := List.mem_map.mp hx
    have e := tupled_int n a st
    refine ⟨_, put_nm, ?_⟩
    walk_at "ev"
theorem tupled_lst (n : Nat) (xs : List Int) (h : xs.length ≤ 1000000) (st : Store) : m_tupled (n + 2) [.p (.lst (iD xs))] st = .ok (.p (.tup (iD xs)), st) := by
  show defP 2 (b_tupled (m_tupled (n + 1))) _ _ = _
  have h2 : (iD xs).length ≤ 1000000 := by rw [len_iD]; exact h
  unfold b_tupled
  walk_at "ev"
  rw [lc_map (F := fun d => d) (iD xs) [] ?_]
  · rw [map_self]; walk_at "ev"
  · intro x hx
    obtain ⟨a, _, rfl⟩ := List.mem_map.mp hx
    have e := tupled_int n a st
    refine ⟨_, put_nm, ?_⟩
    walk_at "ev"
theorem tupled_seq (n : Nat) {w : W} {xs : List Int} (hw : Seq w xs) (h : xs.length ≤ 1000000) (st : Store) : m_tupled (n + 2) [w] st = .ok (.p (.tup (iD xs)), st) := by
  rcases hw with rfl | rfl
  · exact tupled_tup n xs h st
  · exact tupled_lst n xs h st
theorem are_numbers_ok (xs : List Int) (h : xs.length ≤ 1000000) (st : Store) : m_are_numbers [.p (.tup (iD xs))] st = .ok (.p (.bl true), st) := by
  have h2 : (iD xs).length ≤ 1000000 := by rw [len_iD]; exact h
  unfold m_are_numbers b_are_numbers
  walk_at "ev"
  rw [lc_map (F := fun _ => .bl true) (iD xs) [] ?_]
  · rw [map_bl xs (fun _ => true) _ fun _ _ => rfl]; walk_at "ev"; rw [all_true _ _ fun _ _ => rfl]
  · intro x hx
    obtain ⟨a, _, rfl⟩ := List.mem_map.mp hx
    have e := is_number_ok a st
    refine ⟨_, put_nm, ?_⟩
    walk_at "ev"
def geB (n : Int) : D → D
  | .int a => .bl (decide (n ≤ a))
  | d => d
theorem are_from_ok (xs : List Int) (n : Int) (h : xs.length ≤ 1000000) (h0 : ∀ a ∈ xs, n ≤ a) (st : Store) : m_are_from [.p (.tup (iD xs)), .p (.int n)] st = .ok (.p (.bl true), st) := by
  have h2 : (iD xs).length ≤ 1000000 := by rw [len_iD]; exact h
  have h3 := are_numbers_ok xs h st
  unfold m_are_from b_are_from
  walk_at "ev"
  rw [lc_map (F := geB n) (iD xs) [] ?_]
  · rw [map_bl xs (fun a => decide (n ≤ a)) _ fun _ _ => rfl]; walk_at "ev"; rw [all_true _ _ fun a ha => decide_eq_true (h0 a ha)]
  · intro x hx
    obtain ⟨a, _, rfl⟩ := List.mem_map.mp hx
    refine ⟨_, put_nm, ?_⟩
    show _ = R.ok (W.p (.bl (decide (n ≤ a))), st)
    walk_at "ev"
theorem sure_row_ok {w : W} {xs : List Int} (hw : Seq w xs) (h : xs.length ≤ 1000000) (st : Store) : m_sure_row [w] st = .ok (.p (.tup (iD xs)), st) := by
  have h1 := tupled_seq 6 hw h st
  have h3 := are_numbers_ok xs h st
  unfold m_sure_row b_sure_row
  walk_at "ev"
def E : List Int → Int
  | [] => 1
  | [a] => a
  | a :: b :: r => a * E (b :: r) - E r
def T : List Int → Int
  | [] => 0
  | _ :: r => E r
theorem E_cons (a : Int) (r : List Int) : E (a :: r) = a * E r - T r := by
  cases r with
  | nil => simp [E, T]
  | cons b r => simp [E, T]
def L (xs : List Int) : Int := match xs with
  | [] => 0
  | a :: r => E (a :: r).dropLast
theorem L_cons2 (a b : Int) (r : List Int) : L (a :: b :: r) = a * L (b :: r) - L r := by
  cases r with
  | nil => simp [L, E]
  | cons c s => simp only [L, List.dropLast_cons_cons, E]
theorem T_cons (a : Int) (r : List Int) : T (a :: r) = E r := rfl
theorem E_app : ∀ xs ys : List Int, E (xs ++ ys) = E xs * E ys - L xs * T ys
  | [], ys => by simp [E, L]
  | [a], ys => by rw [List.cons_append, List.nil_append, E_cons]; simp [E, L]
  | a :: b :: r, ys => by
    have h1 := E_app (b :: r) ys
    have h2 := E_app r ys
    rw [L_cons2]
    simp only [List.cons_append] at h1 ⊢
    simp only [E]
    rw [h1, h2]
    grind
theorem L_snoc (xs : List Int) (z : Int) : L (xs ++ [z]) = E xs := by
  cases xs with
  | nil => rfl
  | cons a r =>
    show E (a :: (r ++ [z])).dropLast = _
    rw [← List.cons_append, List.dropLast_concat]
theorem E_rev : ∀ xs : List Int, E xs.reverse = E xs
  | [] => rfl
  | [a] => rfl
  | a :: b :: r => by
    have h1 := E_rev (b :: r)
    have h2 := E_rev r
    rw [List.reverse_cons, E_app, h1]
    rw [List.reverse_cons, L_snoc, h2]
    simp only [E, T]
    grind
theorem L_ne {xs : List Int} (h : xs ≠ []) : L xs = E xs.dropLast := by
  cases xs with
  | nil => exact absurd rfl h
  | cons a r => rfl
theorem T_ne {xs : List Int} (h : xs ≠ []) : T xs = E xs.tail := by
  cases xs with
  | nil => exact absurd rfl h
  | cons a r => rfl
theorem T_rev (xs : List Int) : T xs.reverse = L xs := by
  by_cases h : xs = []
  · subst h; rfl
  · obtain ⟨ys, z, rfl⟩ : ∃ ys z, xs = ys ++ [z] := ⟨xs.dropLast, xs.getLast h, (List.dropLast_concat_getLast h).symm⟩
    rw [L_snoc, List.reverse_append]
    show E ys.reverse = _
    exact E_rev ys
theorem det1 : ∀ (ys : List Int) (z : Int), E ys * T (ys ++ [z]) - E (ys ++ [z]) * T ys = 1
  | [], z => by simp [E, T]
  | a :: r, z => by
    have h := det1 r z
    rw [List.cons_append, E_cons, T_cons, T_cons, E_cons]
    grind
/-- row vectors times the product -/
def Pv (a b : Int) (xs : List Int) : Int := a * E xs + b * T xs
theorem Pv_cons (a b x : Int) (r : List Int) : Pv a b (x :: r) = Pv (a * x + b) (-a) r := by
  unfold Pv
  rw [E_cons, T_cons]
  grind
theorem worth_loop (w : W) : ∀ (l ys : List Int), Sm l → ∀ (x : Option W) (st : Store), ∃ x', forGo (.nm 3) f_worth_in_1 (iD l) [some w, some (.p (.int (E ys))), some (.p (.int (T ys))), x] st
    = .ok (.nx, [some w, some (.p (.int (E (l.reverse ++ ys)))), some (.p (.int (T (l.reverse ++ ys)))), x'], st)
  | [], ys, _, x, st => ⟨x, rfl⟩
  | a :: l, ys, h, x, st => by
    have hs := small1000 h.head
    obtain ⟨x', e⟩ := worth_loop w l (a :: ys) h.cons (some (.p (.int a))) st
    rw [E_cons, show T (a :: ys) = E ys from rfl] at e
    refine ⟨x', ?_⟩
    show forGo _ _ (D.int a :: iD l) _ _ = _
    rw [forGo_cons]
    unfold f_worth_in_1 at e ⊢
    walk_at "ev"
    rw [List.reverse_cons, List.append_assoc]
    rfl
theorem worth_in_ok (xs : List Int) (h : Sm xs) (st : Store) : m_worth_in [.p (.tup (iD xs))] st = .ok (.p (.tup [.int (E xs), .int (T xs)]), st) := by
  obtain ⟨x', e⟩ := worth_loop (.p (.tup (iD xs))) xs.reverse [] h.rev none st
  rw [List.reverse_reverse, List.append_nil, show E [] = 1 from rfl, show T [] = 0 from rfl] at e
  have e2 := rev_iD xs
  unfold m_worth_in b_worth_in
  walk_at "ev"
theorem worth_ok {w : W} {xs : List Int} (hw : Seq w xs) (hl : xs.length ≤ 1000000) (h : Sm xs) (st : Store) : m_worth [w] st = .ok (.p (.tup [.int (E xs), .int (T xs)]), st) := by
  have h1 := sure_row_ok hw hl st
  have h2 := worth_in_ok xs h st
  unfold m_worth b_worth
  walk_at "ev"
theorem gcd_end (near : Nat) : Nat.gcd near 0 = near := Nat.gcd_zero_right near
theorem gcd_lap (near far : Nat) : Nat.gcd near far = Nat.gcd far (near % far) := by rw [Nat.gcd_comm, Nat.gcd_rec, Nat.gcd_comm]
theorem half_mod {a r : Nat} (h0 : 0 < r) (h : r ≤ a) : 2 * (a % r) < a := by
  have h1 := Nat.mod_lt a h0
  by_cases h2 : 2 * r ≤ a
  · omega
  · have h3 : a / r = 1 := by
      have h4 : r * 1 ≤ a := by omega
      have h5 : a < r * 2 := by omega
      have h6 := (Nat.le_div_iff_mul_le h0).mpr (show 1 * r ≤ a by omega)
      have h7 := (Nat.div_lt_iff_lt_mul h0).mpr (show a < 2 * r by omega)
      omega
    have h4 := Nat.div_add_mod a r
    rw [h3] at h4
    omega
theorem common_lap (near far fuel : Nat) (h : far ≠ 0) (x y : Option W) (st : Store) : whileS (boolM (binM neF (varM 3) (constM (.int 0)))) f_common_1 (fuel + 1) [x, y, some (.p (.int near)), some (.p (.int far))] st
    = whileS (boolM (binM neF (varM 3) (constM (.int 0)))) f_common_1 fuel [x, y, some (.p (.int far)), some (.p (.int ((near % far : Nat) : Int)))] st := by
  have h1 : ((far : Int) == 0) = false := by simp [h]
  have h2 : (0 : Int) < (far : Int) := by omega
  have h3 : ((near : Int) % (far : Int)) = ((near % far : Nat) : Int) := by omega
  rw [while_succ]
  unfold f_common_1
  walk_at "ev"
theorem common_end (near fuel : Nat) (x y : Option W) (st : Store) : whileS (boolM (binM neF (varM 3) (constM (.int 0)))) f_common_1 (fuel + 1) [x, y, some (.p (.int near)), some (.p (.int ((0 : Nat) : Int)))] st
    = .ok (.nx, [x, y, some (.p (.int near)), some (.p (.int ((0 : Nat) : Int)))], st) := by
  rw [while_succ]
  walk_at "ev"
theorem common_loop (x y : Option W) (st : Store) : ∀ (k near far fuel : Nat), far < 2 ^ k → 2 * k + 1 ≤ fuel → whileS (boolM (binM neF (varM 3) (constM (.int 0)))) f_common_1 fuel [x, y, some (.p (.int near)), some (.p (.int far))] st
    = .ok (.nx, [x, y, some (.p (.int (Nat.gcd near far : Nat))), some (.p (.int ((0 : Nat) : Int)))], st)
  | 0, near, far, fuel + 1, h, _ => by
    have h : far = 0 := by simp at h; omega
    subst h
    rw [common_end, gcd_end]
  | k + 1, near, far, fuel + 1, h, hf => by
    by_cases h0 : far = 0
    · subst h0
      rw [common_end, gcd_end]
    · rw [common_lap near far fuel h0, gcd_lap near far]
      by_cases h1 : near % far = 0
      · rw [h1, gcd_end]
        obtain ⟨f, rfl⟩ : ∃ f, fuel = f + 1 := ⟨fuel - 1, by omega⟩
        exact common_end far f x y st
      · obtain ⟨f, rfl⟩ : ∃ f, fuel = f + 1 := ⟨fuel - 1, by omega⟩
        rw [common_lap far (near % far) f h1, gcd_lap far (near % far)]
        refine common_loop x y st k (near % far) (far % (near % far)) f ?_ (by omega)
        have := half_mod (a := far) (r := near % far) (by omega) (Nat.le_of_lt (Nat.mod_lt _ (by omega)))
        rw [Nat.pow_succ] at h
        omega
theorem common_ok (a b : Int) (h : b.natAbs < 2 ^ 250) (st : Store) : m_common [.p (.int a), .p (.int b)] st = .ok (.p (.int (Nat.gcd a.natAbs b.natAbs : Nat)), st) := by
  have h1 : (if a < 0 then -a else a) = (a.natAbs : Int) := by split <;> omega
  have h2 : (if b < 0 then -b else b) = (b.natAbs : Int) := by split <;> omega
  have h3 := common_loop (some (.p (.int a))) (some (.p (.int b))) st 250 a.natAbs b.natAbs 1000000 h (by decide)
  unfold m_common b_common
  walk_at "ev"
/-- fractions: n > q, no common part -/
def Fr (n q : Nat) : Prop := q < n ∧ Nat.gcd n q = 1 ∧ n < 2 ^ 250
def frW (n q : Nat) : D := .tup [.int n, .int q]
theorem is_fraction_ok {n q : Nat} (h : Fr n q) (st : Store) : m_is_fraction [.p (.tup [.int n, .int q])] st = .ok (.p (.bl true), st) := by
  obtain ⟨h1, h2, h3⟩ := h
  have e1 : m_are_from [.p (.tup [.int n, .int q]), .p (.int 0)] st = .ok (.p (.bl true), st) := are_from_ok [(n : Int), (q : Int)] 0 (by simp) (by simp) st
  have e2 := common_ok n q (by simp; omega) st
  rw [Int.natAbs_natCast, Int.natAbs_natCast, h2] at e2
  have e3 : decide ((q : Int) < (n : Int)) = true := decide_eq_true (by omega)
  have e4 : m_is_row_of [.p (.tup [.int n, .int q]), .p (.int 2), .p (.int 0)] st = .ok (.p (.bl true), st) := by
    unfold m_is_row_of b_is_row_of m_is_long b_is_long
    walk_at "ev"
  unfold m_is_fraction b_is_fraction
  walk_at "ev"
/-- a fraction, as tuple or as list -/
def SeqF (w : W) (n q : Nat) : Prop := w = .p (.tup [.int n, .int q]) ∨ w = .p (.lst [.int n, .int q])
theorem sure_fraction_ok {w : W} {n q : Nat} (hw : SeqF w n q) (h : Fr n q) (st : Store) : m_sure_fraction [w] st = .ok (.p (.tup [.int n, .int q]), st) := by
  have e1 : m_tupled 8 [w] st = .ok (.p (.tup [.int n, .int q]), st) := tupled_seq (w := w) (xs := [(n : Int), (q : Int)]) 6 hw (by simp) st
  have e2 := is_fraction_ok h st
  unfold m_sure_fraction b_sure_fraction
  walk_at "ev"
/-- the chain of n over q -/
def chainF : Nat → Nat → Nat → List Nat
  | 0, _, _ => []
  | f + 1, n, q => if q = 0 then [] else (n + q - 1) / q :: chainF f q ((n + q - 1) / q * q - n)
def chain (n q : Nat) : List Nat := chainF q n q
theorem ceil_lt {n q : Nat} (h : 0 < q) : (n + q - 1) / q * q - n < q ∧ n ≤ (n + q - 1) / q * q := by
  have h1 := Nat.div_add_mod (n + q - 1) q
  have h2 := Nat.mod_lt (n + q - 1) h
  rw [Nat.mul_comm] at h1
  omega
theorem chainF_irr : ∀ (f g n q : Nat), q ≤ f → q ≤ g → chainF f n q = chainF g n q
  | 0, 0, _, _, _, _ => rfl
  | 0, g + 1, n, q, h, _ => by have : q = 0 := by omega
                               subst this; rfl
  | f + 1, 0, n, q, _, h => by have : q = 0 := by omega
                               subst this; rfl
  | f + 1, g + 1, n, q, h1, h2 => by
    by_cases h : q = 0
    · subst h; rfl
    · have := (ceil_lt (n := n) (q := q) (by omega)).1
      simp only [chainF, if_neg h]
      rw [chainF_irr f g q _ (by omega) (by omega)]
theorem chain_zero (n : Nat) : chain n 0 = [] := rfl
theorem chain_step {n q : Nat} (h : q ≠ 0) : chain n q = (n + q - 1) / q :: chain q ((n + q - 1) / q * q - n) := by
  obtain ⟨f, rfl⟩ : ∃ f, q = f + 1 := ⟨q - 1, by omega⟩
  have := (ceil_lt (n := n) (q := f + 1) (by omega)).1
  unfold chain
  rw [show chainF (f + 1) n (f + 1) = (n + (f + 1) - 1) / (f + 1) :: chainF f (f + 1) ((n + (f + 1) - 1) / (f + 1) * (f + 1) - n) from if_neg (by omega)]
  rw [chainF_irr f ((n + (f + 1) - 1) / (f + 1) * (f + 1) - n) _ _ (by omega) (Nat.le_refl _)]
theorem ceil_int {n q : Nat} (h : 0 < q) : -(-(n : Int) / (q : Int)) = (((n + q - 1) / q : Nat) : Int) := by
  have h1 := ceil_lt (n := n) h
  have h2 : -(n : Int) / (q : Int) = -(((n + q - 1) / q : Nat) : Int) := by
    rw [Int.ediv_eq_iff_of_pos (by omega)]
    generalize (n + q - 1) / q = c at h1
    have h3 : ((c * q : Nat) : Int) = (c : Int) * (q : Int) := by simp
    constructor <;> grind
  omega
def nD (xs : List Nat) : List D := xs.map fun x => .int (x : Nat)
theorem nD_len (xs : List Nat) : (nD xs).length = xs.length := List.length_map ..
theorem big_nat {n : Nat} (h : n < 2 ^ 250) : big (n : Int) = true := by
  unfold big
  rw [Int.natAbs_natCast]
  refine decide_eq_true ?_
  by_cases h0 : n = 0
  · subst h0; decide
  · exact Nat.lt_trans ((Nat.log2_lt h0).mpr h) (by decide)
theorem log_nat {n : Nat} (h : n < 2 ^ 250) : (n : Int).natAbs.log2 < 9000 := by
  rw [Int.natAbs_natCast]
  by_cases h0 : n = 0
  · subst h0; decide
  · exact Nat.lt_trans ((Nat.log2_lt h0).mpr h) (by decide)
theorem nD_snoc (ds : List Nat) (c : Nat) : nD ds ++ [.int (c : Nat)] = nD (ds ++ [c]) := by simp [nD]
theorem chain_loop (st : Store) : ∀ (q n : Nat) (ds : List Nat) (fuel : Nat) (x : Option W), ds.length + (chain n q).length ≤ 2000 → (chain n q).length + 1 ≤ fuel → n < 2 ^ 250 → q < 2 ^ 250 →
    ∃ (x' y' z' : Option W), whileS (andT (boolM (binM neF (varM 1) (constM (.int 0)))) (boolM (binM leF (callM lenF (consA (varM 2) nilA)) (constM (.int 2000))))) f_chain_in_1 fuel [some (.p (.int n)), some (.p (.int q)), some (.loc st.length), x] (st ++ [some (.l (nD ds))])
      = .ok (.nx, [x', y', some (.loc st.length), z'], st ++ [some (.l (nD (ds ++ chain n q)))]) := by
  intro q
  induction q using Nat.strongRecOn with
  | ind q ih =>
    intro n ds fuel x hl hf hn hq
    obtain ⟨f, rfl⟩ : ∃ f, fuel = f + 1 := ⟨fuel - 1, by omega⟩
    by_cases h : q = 0
    · subst h
      rw [chain_zero, List.append_nil, while_succ]
      refine ⟨some (.p (.int n)), some (.p (.int ((0 : Nat) : Int))), x, ?_⟩
      walk_at "ev"
    · have hq0 : 0 < q := by omega
      have hlt := ceil_lt (n := n) hq0
      have hc := ceil_int (n := n) hq0
      rw [chain_step h, List.length_cons] at hl hf
      have e1 : ((q : Int) == 0) = false := by simp [h]
      have hl2 : (nD ds).length = ds.length := nD_len ds
      have e2 : decide ((ds.length : Int) ≤ 2000) = true := decide_eq_true (by omega)
      have e3 : ds.length ≤ 1000000 := by omega
      have e4 : (0 : Int) < (q : Int) ∧ (q : Int).natAbs.log2 < 9000 := ⟨by omega, log_nat hq⟩
      have hcle : (n + q - 1) / q ≤ n + q := Nat.le_trans (Nat.div_le_self _ _) (by omega)
      generalize hcc : (n + q - 1) / q = c at hlt hc hl hf hcle
      have e5 : ((c : Int) * (q : Int) - (n : Int)) = ((c * q - n : Nat) : Int) := by
        have := hlt.2
        omega
      have e6 : big (q : Int) = true := big_nat hq
      have e7 : big (c : Int) = true := by
        unfold big
        rw [Int.natAbs_natCast]
        refine decide_eq_true ?_
        by_cases h0 : c = 0
        · subst h0; decide
        · exact Nat.lt_trans ((Nat.log2_lt h0).mpr (show c < 2 ^ 251 by omega)) (by decide)
      obtain ⟨x', y', z', e⟩ := ih (c * q - n) hlt.1 q (ds ++ [c]) f (some (.p (.int c))) (by rw [List.length_append, List.length_singleton]; omega) (by omega) hq (by omega)
      refine ⟨x', y', z', ?_⟩
      rw [chain_step h, hcc, while_succ]
      rw [List.append_assoc, List.singleton_append] at e
      have e8 := nD_snoc ds c
      clear ih hlt hl hf hcle hcc h
      unfold f_chain_in_1 at e ⊢
      walk_at "ev"
theorem chain_in_ok {n q : Nat} (hl : (chain n q).length ≤ 2000) (hn : n < 2 ^ 250) (hq : q < 2 ^ 250) (st : Store) : m_chain_in [.p (.int n), .p (.int q)] st = .ok (.p (.tup (nD (chain n q))), st) := by
  obtain ⟨x', y', z', e⟩ := chain_loop st q n [] 1000000 none (by simpa using hl) (by omega) hn hq
  rw [List.nil_append, show nD [] = [] from rfl] at e
  unfold m_chain_in b_chain_in
  walk_at "ev"
theorem sure_short_ok {n q : Nat} (hl : (chain n q).length ≤ 2000) (hn : n < 2 ^ 250) (hq : q < 2 ^ 250) (st : Store) : m_sure_short [.p (.int n), .p (.int q)] st = .ok (.p (.tup (nD (chain n q))), st) := by
  have e := chain_in_ok hl hn hq st
  have e1 : (nD (chain n q)).length = (chain n q).length := nD_len _
  have e2 : decide ((2000 : Int) < ((chain n q).length : Int)) = false := decide_eq_false (by omega)
  unfold m_sure_short b_sure_short
  walk_at "ev"
theorem chain_of_ok {w : W} {n q : Nat} (hw : SeqF w n q) (h : Fr n q) (hl : (chain n q).length ≤ 2000) (st : Store) : m_chain_of [w] st = .ok (.p (.tup (nD (chain n q))), st) := by
  have e1 := sure_fraction_ok hw h st
  obtain ⟨h1, h2, h3⟩ := h
  have e2 := sure_short_ok hl h3 (by omega) st
  unfold m_chain_of b_chain_of
  walk_at "ev"
theorem mate_of_fraction_ok {w : W} {n q : Nat} (hw : SeqF w n q) (h : Fr n q) (h1 : 1 < n) (st : Store) : m_mate_of_fraction [w] st = .ok (.p (.tup [.int n, .int ((n - q : Nat) : Int)]), st) := by
  have e1 := sure_fraction_ok hw h st
  have e2 : decide ((1 : Int) < (n : Int)) = true := decide_eq_true (by omega)
  have e3 : ((n : Int) - (q : Int)) = ((n - q : Nat) : Int) := by have := h.1; omega
  unfold m_mate_of_fraction b_mate_of_fraction
  walk_at "ev"
/-- j undoes q at n -/
def Inv (n q j : Nat) : Prop := j < n ∧ q * j % n = 1 % n
theorem Inv.symm {n q j : Nat} (h : Inv n q j) (hq : q < n) : Inv n j q := ⟨hq, by rw [Nat.mul_comm]; exact h.2⟩
theorem Inv.gcd {n q j : Nat} (h : Inv n q j) : Nat.gcd n j = 1 := by
  have h1 : Nat.gcd n j ∣ 1 % n := by
    rw [← h.2]
    exact (Nat.dvd_mod_iff (Nat.gcd_dvd_left n j)).mpr (Nat.dvd_trans (Nat.gcd_dvd_right n j) (Nat.dvd_mul_left j q))
  by_cases hn : n = 1
  · subst hn; simp
  · have hj := h.1
    rw [Nat.mod_eq_of_lt (by omega)] at h1
    exact Nat.dvd_one.mp h1
theorem Inv.fr {n q j : Nat} (h : Inv n q j) (hn : n < 2 ^ 250) : Fr n j := ⟨h.1, h.gcd, hn⟩
theorem Inv.uniq {n q j i : Nat} (hg : Nat.gcd n q = 1) (h : Inv n q j) (h2 : Inv n q i) : j = i := by
  have key : ∀ {a b : Nat}, a ≤ b → b < n → q * a % n = q * b % n → a = b := by
    intro a b hab hb e
    have h1 : n ∣ q * b - q * a := Nat.dvd_of_mod_eq_zero (Nat.sub_mod_eq_zero_of_mod_eq e.symm)
    rw [← Nat.mul_sub] at h1
    have h2 : n ∣ b - a := Nat.Coprime.dvd_of_dvd_mul_left hg h1
    have h3 := Nat.eq_zero_of_dvd_of_lt h2 (by omega)
    omega
  rcases Nat.le_total j i with hle | hle
  · exact key hle h2.1 (h.2.trans h2.2.symm)
  · exact (key hle h.1 (h2.2.trans h.2.symm)).symm
theorem lc_filt {st : Store} {sl0 : Slots} {t : Tgt} {a : MT} {elt : ME} {p : D → Bool} {F : D → D} : ∀ (ds acc : List D), (∀ x ∈ ds, ∃ sl1, t.put (.p x) sl0 = .ok sl1 ∧ a sl1 st = .ok (p x, st) ∧ (p x = true → elt sl1 st = .ok (.p (F x), st))) → lcGo sl0 t a elt ds acc st = .ok (acc.reverse ++ (ds.filter p).map F, st)
  | [], acc, _ => by simp [lcGo_nil]
  | d :: ds, acc, h => by
    obtain ⟨sl1, h1, h2, h3⟩ := h d List.mem_cons_self
    have ih := fun acc => lc_filt (F := F) ds acc fun x hx => h x (List.mem_cons_of_mem _ hx)
    rw [lcGo_cons, h1]
    by_cases hp : p d = true
    · have h3 := h3 hp
      rw [hp] at h2
      simp only [R.bd_ok, h2, h3, frz_p]
      rw [ih]
      simp [List.filter_cons, hp]
    · have hp : p d = false := by simpa using hp
      rw [hp] at h2
      simp only [R.bd_ok, h2]
      rw [ih]
      simp [List.filter_cons, hp]
theorem nD_sum (xs : List Nat) (F : D → D) (k : Int) (hF : ∀ c : Nat, F (.int c) = .int ((c : Int) - k)) : (nD xs).map F = iD (xs.map fun c : Nat => (c : Int) - k) := by
  unfold nD
  rw [iD, List.map_map, List.map_map]
  exact List.map_congr_left fun c _ => hF c
theorem lgcd_lap (a b : Nat) (h : b ≠ 0) (l : List D) (d : D) (x : Option W) (st : Store) : forGo (.nm 2) f__law_gcd_1 (d :: l) [some (.p (.int a)), some (.p (.int b)), x] st
    = forGo (.nm 2) f__law_gcd_1 l [some (.p (.int b)), some (.p (.int ((a % b : Nat) : Int))), some (.p d)] st := by
  have h1 : ((b : Int) == 0) = false := by simp [h]
  have h2 : (0 : Int) < (b : Int) := by omega
  have h3 : ((a : Int) % (b : Int)) = ((a % b : Nat) : Int) := by omega
  rw [forGo_cons]
  unfold f__law_gcd_1
  walk_at "ev"
theorem lgcd_end (a : Nat) (l : List D) (x : Option W) (st : Store) : ∃ x', forGo (.nm 2) f__law_gcd_1 l [some (.p (.int a)), some (.p (.int ((0 : Nat) : Int))), x] st
    = .ok (.nx, [some (.p (.int a)), some (.p (.int ((0 : Nat) : Int))), x'], st) := by
  cases l with
  | nil => exact ⟨x, rfl⟩
  | cons d l =>
    refine ⟨some (.p d), ?_⟩
    rw [forGo_cons]
    unfold f__law_gcd_1
    walk_at "ev"
theorem lgcd_loop (st : Store) : ∀ (k a b : Nat) (l : List D) (x : Option W), b < 2 ^ k → 2 * k ≤ l.length → ∃ x', forGo (.nm 2) f__law_gcd_1 l [some (.p (.int a)), some (.p (.int b)), x] st
    = .ok (.nx, [some (.p (.int (Nat.gcd a b : Nat))), some (.p (.int ((0 : Nat) : Int))), x'], st)
  | 0, a, b, l, x, h, _ => by
    have h : b = 0 := by simp at h; omega
    subst h
    rw [Nat.gcd_zero_right]
    exact lgcd_end a l x st
  | k + 1, a, b, l, x, h, hl => by
    by_cases h0 : b = 0
    · subst h0
      rw [Nat.gcd_zero_right]
      exact lgcd_end a l x st
    · obtain ⟨d, e, l', rfl⟩ : ∃ d e l', l = d :: e :: l' := by
        cases l with
        | nil => simp at hl
        | cons d l => cases l with
          | nil => simp at hl; omega
          | cons e l' => exact ⟨d, e, l', rfl⟩
      rw [lgcd_lap a b h0, gcd_lap a b]
      by_cases h1 : a % b = 0
      · rw [h1, Nat.gcd_zero_right]
        exact lgcd_end b _ _ st
      · rw [lgcd_lap b (a % b) h1, gcd_lap b (a % b)]
        refine lgcd_loop st k (a % b) (b % (a % b)) l' _ ?_ (by simp at hl; omega)
        have := half_mod (a := b) (r := a % b) (by omega) (Nat.le_of_lt (Nat.mod_lt _ (by omega)))
        rw [Nat.pow_succ] at h
        omega
theorem lgcd_ok (a b : Int) (h : b.natAbs < 2 ^ 250) (st : Store) : m__law_gcd [.p (.int a), .p (.int b)] st = .ok (.p (.int (Nat.gcd a.natAbs b.natAbs : Nat)), st) := by
  have h1 : (if a < 0 then -a else a) = (a.natAbs : Int) := by split <;> omega
  have h2 : (if b < 0 then -b else b) = (b.natAbs : Int) := by split <;> omega
  obtain ⟨x', h3⟩ := lgcd_loop st 250 a.natAbs b.natAbs (rngD 0 9000) none h (by rw [rngD_len]; decide)
  have g1 : -(2 ^ 62) ≤ (9000 : Int) ∧ (9000 : Int) < 2 ^ 62 := by decide
  have g2 : Int.toNat 9000 = 9000 := rfl
  unfold m__law_gcd b__law_gcd
  walk_at "ev"
def tops (u v : Int) : List Int → List Int
  | [] => []
  | a :: r => (a * u - v) :: tops (a * u - v) u r
theorem tops_eq : ∀ (xs : List Int) (u v : Int), tops u v xs = (List.range xs.length).map fun k => u * E (xs.take (k + 1)) - v * T (xs.take (k + 1))
  | [], u, v => rfl
  | x :: r, u, v => by
    rw [tops, tops_eq r, List.length_cons, List.range_succ_eq_map, List.map_cons, List.map_map]
    congr 1
    · simp [E, T]; grind
    · apply List.map_congr_left
      intro k _
      simp only [Function.comp, List.take_succ_cons, E_cons, T_cons]
      grind
theorem tops_all (xs : List Int) : (1 :: tops 1 0 xs) = (List.range (xs.length + 1)).map fun k => E (xs.take k) := by
  rw [tops_eq, List.range_succ_eq_map, List.map_cons, List.map_map]
  congr 1
  apply List.map_congr_left
  intro k _
  simp
theorem tops_len : ∀ (xs : List Int) (u v : Int), (tops u v xs).length = xs.length
  | [], _, _ => rfl
  | x :: r, u, v => by rw [tops, List.length_cons, tops_len r, List.length_cons]
theorem tops_loop (w : W) (st : Store) : ∀ (l ds : List Int) (u v : Int), Sm l → ds.length + l.length ≤ 999990 → ∀ (x : Option W), ∃ x' v', forGo (.nm 3) f_tops_in_1 (iD l) [some w, some (.loc st.length), some (.p (.int v)), x] (st ++ [some (.l (iD ds ++ [.int u]))])
    = .ok (.nx, [some w, some (.loc st.length), v', x'], st ++ [some (.l (iD ds ++ [.int u] ++ iD (tops u v l)))])
  | [], ds, u, v, _, _, x => ⟨x, _, by rw [show iD (tops u v []) = [] from rfl, List.append_nil]; rfl⟩
  | a :: l, ds, u, v, h, hl, x => by
    have hs := small1000 h.head
    obtain ⟨x', v', e⟩ := tops_loop w st l (ds ++ [u]) (a * u - v) u h.cons (by simp at hl ⊢; omega) (some (.p (.int a)))
    refine ⟨x', v', ?_⟩
    show forGo _ _ (D.int a :: iD l) _ _ = _
    rw [forGo_cons]
    have h1 := ix_m1 (ds := iD ds) (d := .int u)
    have h2 : atI (iD ds ++ [D.int u] ++ [D.int (a * u - v)]) (-2) = some (.int u) := by rw [List.append_assoc]; exact ix_m2
    have h3 : (iD ds ++ [D.int u]).length ≤ 1000000 := by simp at hl ⊢; omega
    have h4 : iD (ds ++ [u]) = iD ds ++ [D.int u] := by simp
    rw [h4] at e
    unfold f_tops_in_1 at e ⊢
    walk_at "ev"
    simp [tops]
theorem tops_ok (xs : List Int) (hl : xs.length ≤ 99999) (h : Sm xs) (st : Store) : m_tops [.p (.tup (iD xs))] st = .ok (.p (.tup (.int 1 :: iD (tops 1 0 xs))), st) := by
  have h1 := sure_row_ok (.inl rfl) (show xs.length ≤ 1000000 by omega) st
  obtain ⟨x', v', e⟩ := tops_loop (.p (.tup (iD xs))) st xs [] 1 0 h (by simp; omega) none
  rw [show iD [] = [] from rfl, List.nil_append] at e
  have e2 : m_tops_in [.p (.tup (iD xs))] st = .ok (.p (.lst (.int 1 :: iD (tops 1 0 xs))), st) := by
    unfold m_tops_in b_tops_in
    walk_at "ev"
  unfold m_tops b_tops
  walk_at "ev"
theorem nD_iD (xs : List Nat) : nD xs = iD (xs.map fun c : Nat => (c : Int)) := by unfold nD; rw [iD, List.map_map]; rfl
theorem chainF_len : ∀ (f n q : Nat), (chainF f n q).length ≤ f
  | 0, _, _ => Nat.le_refl _
  | f + 1, n, q => by
    simp only [chainF]
    split
    · simp
    · rw [List.length_cons]; have := chainF_len f q ((n + q - 1) / q * q - n); omega
theorem chain_len (n q : Nat) : (chain n q).length ≤ q := chainF_len q n q
def chI (n q : Nat) : List Int := (chain n q).map fun c : Nat => (c : Int)
theorem chI_len (n q : Nat) : (chI n q).length = (chain n q).length := List.length_map ..
theorem chI_zero (n : Nat) : chI n 0 = [] := rfl
theorem chI_step {n q : Nat} (h : q ≠ 0) : chI n q = (((n + q - 1) / q : Nat) : Int) :: chI q ((n + q - 1) / q * q - n) := by
  unfold chI; rw [chain_step h, List.map_cons]
theorem chI_worth : ∀ (q n : Nat), q < n → Nat.gcd n q = 1 → E (chI n q) = n ∧ T (chI n q) = q := by
  intro q
  induction q using Nat.strongRecOn with
  | ind q ih =>
    intro n hq hg
    by_cases h : q = 0
    · subst h
      rw [Nat.gcd_zero_right] at hg
      subst hg
      exact ⟨rfl, rfl⟩
    · have hc := ceil_lt (n := n) (show 0 < q by omega)
      rw [chI_step h]
      generalize (n + q - 1) / q = c at *
      have hg2 : Nat.gcd q (c * q - n) = 1 := by
        have h1 : Nat.gcd q (c * q - n) ∣ n := by
          have h2 : Nat.gcd q (c * q - n) ∣ c * q := Nat.dvd_trans (Nat.gcd_dvd_left _ _) (Nat.dvd_mul_left q c)
          have h3 := Nat.gcd_dvd_right q (c * q - n)
          have h4 := Nat.dvd_sub h2 h3
          rwa [show c * q - (c * q - n) = n by omega] at h4
        exact Nat.dvd_one.mp (hg ▸ Nat.dvd_gcd h1 (Nat.gcd_dvd_left _ _))
      obtain ⟨h1, h2⟩ := ih (c * q - n) hc.1 q hc.1 hg2
      rw [E_cons, T_cons, h1, h2]
      refine ⟨?_, rfl⟩
      have h3 : ((c * q - n : Nat) : Int) = (c : Int) * (q : Int) - (n : Int) := by rw [Int.natCast_sub hc.2]; simp
      rw [h3]; omega
theorem chI_ge : ∀ (q n : Nat), q < n → ∀ a ∈ chI n q, 2 ≤ a ∧ a ≤ 2 * (n : Int) := by
  intro q
  induction q using Nat.strongRecOn with
  | ind q ih =>
    intro n hq a ha
    by_cases h : q = 0
    · subst h; cases ha
    · have hc := ceil_lt (n := n) (show 0 < q by omega)
      rw [chI_step h] at ha
      rcases List.mem_cons.mp ha with rfl | ha
      · have h1 : 2 ≤ (n + q - 1) / q := (Nat.le_div_iff_mul_le (by omega)).mpr (by omega)
        have h2 : (n + q - 1) / q ≤ n + q - 1 := Nat.div_le_self _ _
        omega
      · have := ih _ hc.1 q hc.1 a ha
        omega
/-- how many laps the makers of a fraction take: as the chain of the mate is long -/
theorem makers_loop (st : Store) (x0 x1 : Option W) : ∀ (q n : Nat) (ds : List D) (u v : Int) (fuel : Nat) (x5 : Option W), ds.length + (chain n q).length < 2000 → (chain n q).length + 1 ≤ fuel → n < 1000000 → q < 1000000 →
    ∃ (es : List D) (e : D) (y3 y5 : Option W), es.length = ds.length + (chain n q).length ∧ whileS (boolM (binM gtF (binM ixF (varM 4) (constM (.int 0))) (constM (.int 0)))) f_makers_in_1 fuel
      [x0, x1, some (.loc st.length), some (.p (.tup [.int n, .int u])), some (.p (.tup [.int q, .int v])), x5] (st ++ [some (.l ds)])
      = .ok (.nx, [x0, x1, some (.loc st.length), y3, some (.p e), y5], st ++ [some (.l es)]) := by
  intro q
  induction q using Nat.strongRecOn with
  | ind q ih =>
    intro n ds u v fuel x5 hl hf hn hq
    obtain ⟨f, rfl⟩ : ∃ f, fuel = f + 1 := ⟨fuel - 1, by omega⟩
    by_cases h : q = 0
    · subst h
      refine ⟨ds, .tup [.int ((0 : Nat) : Int), .int v], some (.p (.tup [.int n, .int u])), x5, by simp [chain_zero], ?_⟩
      rw [while_succ]
      walk_at "ev"
    · have hq0 : 0 < q := by omega
      have hlt := ceil_lt (n := n) hq0
      have hc := ceil_int (n := n) hq0
      rw [chain_step h, List.length_cons] at hl hf
      have hcle : (n + q - 1) / q ≤ n + q := Nat.le_trans (Nat.div_le_self _ _) (by omega)
      generalize hcc : (n + q - 1) / q = c at hlt hc hl hf hcle
      obtain ⟨es, e, y3, y5, hes, ee⟩ := ih (c * q - n) hlt.1 q (ds ++ [.tup [.int q, .int v]]) v ((c : Int) * v - u) f (some (.p (.int c))) (by rw [List.length_append, List.length_singleton]; omega) (by omega) hq (by omega)
      refine ⟨es, e, y3, y5, by rw [hes, chain_step h, hcc]; simp; omega, ?_⟩
      have e1 : decide ((0 : Int) < (q : Int)) = true := decide_eq_true (by omega)
      have e2 : decide ((2000 : Int) ≤ ((ds.length + 1 : Nat) : Int)) = false := decide_eq_false (by omega)
      have e3 : ds.length ≤ 1000000 := by omega
      have e4 : (0 : Int) < (q : Int) ∧ (q : Int).natAbs.log2 < 9000 := ⟨by omega, log_lt (by omega) (by omega)⟩
      have e5 : ((c : Int) * (q : Int) - (n : Int)) = ((c * q - n : Nat) : Int) := by
        have := hlt.2
        omega
      have e6 : smallI (c : Int) = true := small_of (by omega) (by omega)
      have e7 : (ds ++ [D.tup [.int q, .int v]]).length = ds.length + 1 := by simp
      rw [while_succ]
      clear ih hlt hl hf hcle hcc h hes
      unfold f_makers_in_1 at ee ⊢
      walk_at "ev"
theorem makers_in_ok {n q : Nat} (h1 : 1 < n) (hq : q < n) (hl : (chain n (n - q)).length < 1999) (hn : n < 1000000) (st : Store) : ∃ ds : List D, ds.length = (chain n (n - q)).length + 2 ∧ m_makers_in [.p (.int n), .p (.int q)] st = .ok (.p (.lst ds), st) := by
  obtain ⟨es, e, y3, y5, hes, ee⟩ := makers_loop st (some (.p (.int n))) (some (.p (.int q))) (n - q) n [.tup [.int n, .int 0]] 0 1 1000000 none (by simp; omega) (by omega) hn (by omega)
  refine ⟨es ++ [e], by rw [List.length_append, hes]; simp; omega, ?_⟩
  have e1 : ((n : Int) == 1) = false := by rw [beq_eq_false_iff_ne]; omega
  have e2 : ((n : Int) - (q : Int)) = ((n - q : Nat) : Int) := by omega
  have e3 : ∀ st', cellL st' st.length = some es → addF (.loc st.length) (.p (.lst [e])) st' = .ok (.p (.lst (es ++ [e])), st') := by
    intro st' hs
    show (match lstX st' (.loc st.length), lstX st' (.p (.lst [e])) with | some i, some j => if i.length + j.length ≤ 1000000 then R.ok (W.p (.lst (i ++ j)), st') else .stuck | _, _ => .stuck) = _
    rw [show lstX st' (.loc st.length) = some es from hs]
    exact if_pos (by rw [hes]; simp; omega)
  have e4 := e3 (st ++ [some (.l es)]) cell_app
  clear e3 hl hn hes h1
  unfold m_makers_in b_makers_in
  walk_at "ev"
theorem makers_ok {w : W} {n q : Nat} (hw : SeqF w n q) (h : Fr n q) (h1 : 1 < n) (hl : (chain n (n - q)).length < 1999) (hn : n < 1000000) (st : Store) : ∃ ds : List D, ds.length = (chain n (n - q)).length + 2 ∧ m_makers [w] st = .ok (.p (.lst ds), st) := by
  have e1 := sure_fraction_ok hw h st
  obtain ⟨ds, hds, e2⟩ := makers_in_ok h1 h.1 hl hn st
  refine ⟨ds, hds, ?_⟩
  clear hds
  unfold m_makers b_makers
  walk_at "ev"
theorem law_fraction_ok {m N : Nat} {C : Int} {st : Store} (h : TN m N C st) (hC : C ≤ 1000000) (top : Nat) (ht : 1 ≤ top) (ht2 : top < 100000000 - 2) :
    ∃ (n q : Nat) (st' : Store), m__law_fraction [.loc m, .p (.int top)] st = .ok (.p (.tup [.int n, .int q]), st') ∧ TN m N (C + 2) st' ∧ 1 ≤ q ∧ q < n ∧ n ≤ top + 1 ∧ Nat.gcd n q = 1 := by
  obtain ⟨r, st1, e1, hr, h1⟩ := h.take (by omega) (k := (top : Int)) (by omega) (by omega)
  obtain ⟨n, hn⟩ : ∃ n, n = 2 + r := ⟨_, rfl⟩
  have e2 : (2 : Int) + (r : Int) = (n : Int) := by omega
  obtain ⟨r2, st2, e3, hr2, h2⟩ := h1.take (by omega) (k := (n : Int) - 1) (by omega) (by omega)
  obtain ⟨q, hq⟩ : ∃ q, q = 1 + r2 := ⟨_, rfl⟩
  have e4 : (1 : Int) + (r2 : Int) = (q : Int) := by omega
  have hqn : q < n := by omega
  have e5 := lgcd_ok (n : Int) (q : Int) (by rw [Int.natAbs_natCast]; exact Nat.lt_trans (show q < 100000000 by omega) (by decide)) st2
  rw [Int.natAbs_natCast, Int.natAbs_natCast] at e5
  have hg : 0 < Nat.gcd n q := Nat.gcd_pos_of_pos_right _ (by omega)
  have d1 := Nat.gcd_dvd_left n q
  have d2 := Nat.gcd_dvd_right n q
  have hgq := Nat.le_of_dvd (by omega) d2
  have hco := Nat.gcd_div_gcd_div_gcd_of_pos_right (n := n) (m := q) (by omega)
  have h5 : n / Nat.gcd n q * Nat.gcd n q = n := Nat.div_mul_cancel d1
  have h6 : q / Nat.gcd n q * Nat.gcd n q = q := Nat.div_mul_cancel d2
  generalize Nat.gcd n q = g at *
  have h7 : q / g < n / g := by
    refine Nat.lt_of_mul_lt_mul_right (a := g) ?_
    omega
  have h8 : 0 < q / g := Nat.div_pos hgq hg
  have p8 : ∀ st, powF (.p (.int 10)) (.p (.int 8)) st = .ok (.p (.int 100000000), st) := fun _ => rfl
  have t1 : decide ((top : Int) < 100000000) = true := decide_eq_true (by omega)
  have t2 : decide ((n : Int) < 100000000) = true := decide_eq_true (by omega)
  have e6 : (0 : Int) < (g : Int) ∧ (g : Int).natAbs.log2 < 9000 := ⟨by omega, log_lt (by omega) (by omega)⟩
  have e7 : ((n : Int) / (g : Int)) = ((n / g : Nat) : Int) := by omega
  have e8 : ((q : Int) / (g : Int)) = ((q / g : Nat) : Int) := by omega
  have t3 : decide ((1 : Int) < ((n / g : Nat) : Int)) = true := decide_eq_true (by omega)
  have hst : st2.take st.length = st2 := by rw [h.2, ← h2.2, List.take_length]
  refine ⟨n / g, q / g, st2, ?_, by rw [show C + 2 = C + 1 + 1 by omega]; exact h2, by omega, h7, Nat.le_trans (Nat.div_le_self _ _) (by omega), hco⟩
  clear h7 h8 h5 h6 hco hgq d1 d2 hg hqn hq hn hr hr2
  unfold m__law_fraction b__law_fraction
  walk_at "ev"

/-- the makers behind the first -/
def mkF : Nat → Nat → Nat → Int → Int → List D
  | 0, _, _, _, v => [.tup [.int ((0 : Nat) : Int), .int v]]
  | f + 1, n, q, u, v => if q = 0 then [.tup [.int ((0 : Nat) : Int), .int v]] else .tup [.int q, .int v] :: mkF f q ((n + q - 1) / q * q - n) v (((n + q - 1) / q : Nat) * v - u)
theorem makers_loopV (st : Store) (x0 x1 : Option W) : ∀ (q n g : Nat) (ds : List D) (u v : Int) (fuel : Nat) (x5 : Option W), q ≤ g → ds.length + (chain n q).length < 2000 → (chain n q).length + 1 ≤ fuel → n < 1000000 → q < 1000000 →
    ∃ (es : List D) (e : D) (y3 y5 : Option W), es ++ [e] = ds ++ mkF g n q u v ∧ es.length = ds.length + (chain n q).length ∧ whileS (boolM (binM gtF (binM ixF (varM 4) (constM (.int 0))) (constM (.int 0)))) f_makers_in_1 fuel
      [x0, x1, some (.loc st.length), some (.p (.tup [.int n, .int u])), some (.p (.tup [.int q, .int v])), x5] (st ++ [some (.l ds)])
      = .ok (.nx, [x0, x1, some (.loc st.length), y3, some (.p e), y5], st ++ [some (.l es)]) := by
  intro q
  induction q using Nat.strongRecOn with
  | ind q ih =>
    intro n g ds u v fuel x5 hg hl hf hn hq
    obtain ⟨f, rfl⟩ : ∃ f, fuel = f + 1 := ⟨fuel - 1, by omega⟩
    by_cases h : q = 0
    · subst h
      refine ⟨ds, .tup [.int ((0 : Nat) : Int), .int v], some (.p (.tup [.int n, .int u])), x5, ?_, by simp [chain_zero], ?_⟩
      · cases g with
        | zero => rfl
        | succ g => rw [mkF, if_pos rfl]
      · rw [while_succ]
        walk_at "ev"
    · have hq0 : 0 < q := by omega
      have hlt := ceil_lt (n := n) hq0
      have hc := ceil_int (n := n) hq0
      obtain ⟨g', rfl⟩ : ∃ g', g = g' + 1 := ⟨g - 1, by omega⟩
      rw [chain_step h, List.length_cons] at hl hf
      have hmk : mkF (g' + 1) n q u v = .tup [.int q, .int v] :: mkF g' q ((n + q - 1) / q * q - n) v (((n + q - 1) / q : Nat) * v - u) := by rw [mkF, if_neg h]
      have hcle : (n + q - 1) / q ≤ n + q := Nat.le_trans (Nat.div_le_self _ _) (by omega)
      generalize hcc : (n + q - 1) / q = c at hlt hc hl hf hcle hmk
      obtain ⟨es, e, y3, y5, hes0, hes, ee⟩ := ih (c * q - n) hlt.1 q g' (ds ++ [.tup [.int q, .int v]]) v ((c : Int) * v - u) f (some (.p (.int c))) (by omega) (by rw [List.length_append, List.length_singleton]; omega) (by omega) hq (by omega)
      refine ⟨es, e, y3, y5, by rw [hes0, hmk]; simp, by rw [hes, chain_step h, hcc]; simp; omega, ?_⟩
      have e1 : decide ((0 : Int) < (q : Int)) = true := decide_eq_true (by omega)
      have e2 : decide ((2000 : Int) ≤ ((ds.length + 1 : Nat) : Int)) = false := decide_eq_false (by omega)
      have e3 : ds.length ≤ 1000000 := by omega
      have e4 : (0 : Int) < (q : Int) ∧ (q : Int).natAbs.log2 < 9000 := ⟨by omega, log_lt (by omega) (by omega)⟩
      have e5 : ((c : Int) * (q : Int) - (n : Int)) = ((c * q - n : Nat) : Int) := by
        have := hlt.2
        omega
      have e6 : smallI (c : Int) = true := small_of (by omega) (by omega)
      have e7 : (ds ++ [D.tup [.int q, .int v]]).length = ds.length + 1 := by simp
      rw [while_succ]
      clear ih hlt hl hf hcle hcc h hes hes0 hmk hg
      unfold f_makers_in_1 at ee ⊢
      walk_at "ev"
theorem makers_inV {n q : Nat} (h1 : 1 < n) (hq : q < n) (hn : n ≤ 1000) (st : Store) : m_makers_in [.p (.int n), .p (.int q)] st = .ok (.p (.lst (.tup [.int n, .int ((0 : Nat) : Int)] :: mkF (n - q) n (n - q) 0 1)), st) := by
  have hl : (chain n (n - q)).length ≤ 1000 := Nat.le_trans (chain_len n (n - q)) (by omega)
  obtain ⟨es, e, y3, y5, hes0, hes, ee⟩ := makers_loopV st (some (.p (.int n))) (some (.p (.int q))) (n - q) n (n - q) [.tup [.int n, .int 0]] 0 1 1000000 none (Nat.le_refl _) (by simp; omega) (by omega) (by omega) (by omega)
  rw [show (.tup [.int n, .int ((0 : Nat) : Int)] :: mkF (n - q) n (n - q) 0 1) = es ++ [e] by rw [hes0]; rfl]
  have e1 : ((n : Int) == 1) = false := by rw [beq_eq_false_iff_ne]; omega
  have e2 : ((n : Int) - (q : Int)) = ((n - q : Nat) : Int) := by omega
  have e3 : ∀ st', cellL st' st.length = some es → addF (.loc st.length) (.p (.lst [e])) st' = .ok (.p (.lst (es ++ [e])), st') := by
    intro st' hs
    show (match lstX st' (.loc st.length), lstX st' (.p (.lst [e])) with | some i, some j => if i.length + j.length ≤ 1000000 then R.ok (W.p (.lst (i ++ j)), st') else .stuck | _, _ => .stuck) = _
    rw [show lstX st' (.loc st.length) = some es from hs]
    exact if_pos (by rw [hes]; simp; omega)
  have e4 := e3 (st ++ [some (.l es)]) cell_app
  clear e3 hl hn hes h1 hes0
  unfold m_makers_in b_makers_in
  walk_at "ev"
theorem makersV {w : W} {n q : Nat} (hw : SeqF w n q) (h : Fr n q) (h1 : 1 < n) (hn : n ≤ 1000) (st : Store) : m_makers [w] st = .ok (.p (.lst (.tup [.int n, .int ((0 : Nat) : Int)] :: mkF (n - q) n (n - q) 0 1)), st) := by
  have e1 := sure_fraction_ok hw h st
  have e2 := makers_inV h1 h.1 hn st
  unfold m_makers b_makers
  walk_at "ev"



/-! ### chains from 2 on: their worths by prefixes -/
def Ge2 (xs : List Int) : Prop := ∀ a ∈ xs, 2 ≤ a
theorem Ge2.cons {a : Int} {r : List Int} (h : Ge2 (a :: r)) : Ge2 r := fun x hx => h x (List.mem_cons_of_mem _ hx)
theorem Ge2.rev {r : List Int} (h : Ge2 r) : Ge2 r.reverse := fun x hx => h x (List.mem_reverse.mp hx)
theorem Ge2.take {r : List Int} (h : Ge2 r) (k : Nat) : Ge2 (r.take k) := fun x hx => h x (List.mem_of_mem_take hx)
theorem Ge2.drop {r : List Int} (h : Ge2 r) (k : Nat) : Ge2 (r.drop k) := fun x hx => h x (List.mem_of_mem_drop hx)
theorem ge2_T : ∀ {xs : List Int}, Ge2 xs → 0 ≤ T xs ∧ T xs < E xs
  | [], _ => by simp [E, T]
  | a :: r, h => by
    obtain ⟨h1, h2⟩ := ge2_T h.cons
    have ha := h a List.mem_cons_self
    rw [E_cons, T_cons]
    have h3 : 2 * E r ≤ a * E r := Int.mul_le_mul_of_nonneg_right ha (by omega)
    omega
theorem ge2_L {xs : List Int} (h : Ge2 xs) : 0 ≤ L xs ∧ L xs < E xs := by
  have := ge2_T h.rev
  rw [T_rev, E_rev] at this
  exact this
theorem E_snoc (ys : List Int) (z : Int) : E (ys ++ [z]) = E ys * z - L ys := by
  rw [E_app]; simp [E, T]
theorem E_lt_snoc {ys : List Int} {z : Int} (h : Ge2 ys) (hz : 2 ≤ z) : E ys < E (ys ++ [z]) := by
  have h1 := ge2_L h
  rw [E_snoc]
  have h3 : E ys * 2 ≤ E ys * z := Int.mul_le_mul_of_nonneg_left hz (by omega)
  omega
theorem E_le_app : ∀ {ys zs : List Int}, Ge2 (ys ++ zs) → E zs ≤ E (ys ++ zs)
  | [], zs, _ => Int.le_refl _
  | a :: r, zs, h => by
    have h1 := E_le_app (ys := r) (zs := zs) h.cons
    have h2 := ge2_T h
    rw [List.cons_append, T_cons] at h2
    rw [List.cons_append]
    omega
theorem det_app : ∀ (ys zs : List Int), E ys * T (ys ++ zs) - E (ys ++ zs) * T ys = T zs
  | [], zs => by simp [E, T]
  | a :: r, zs => by
    have h := det_app r zs
    rw [List.cons_append, E_cons, T_cons, T_cons, E_cons]
    grind
def P (xs : List Int) (k : Nat) : Int := E (xs.take k)
def Q (xs : List Int) (k : Nat) : Int := T (xs.take k)
theorem take_snoc {xs : List Int} {k : Nat} (h : k < xs.length) : xs.take (k + 1) = xs.take k ++ [xs[k]] := by
  rw [List.take_add_one, List.getElem?_eq_getElem h]; rfl
theorem det_next {xs : List Int} {k : Nat} (h : k < xs.length) : P xs k * Q xs (k + 1) - P xs (k + 1) * Q xs k = 1 := by
  unfold P Q
  rw [take_snoc h]
  exact det1 _ _
theorem P_lt {xs : List Int} (hg : Ge2 xs) {k : Nat} (h : k < xs.length) : P xs k < P xs (k + 1) := by
  unfold P
  rw [take_snoc h]
  exact E_lt_snoc (hg.take k) (hg _ (List.getElem_mem h))
theorem Q_lt {xs : List Int} (hg : Ge2 xs) {k : Nat} (h : k < xs.length) : Q xs k < Q xs (k + 1) := by
  cases xs with
  | nil => simp at h
  | cons a r =>
    cases k with
    | zero => simp [Q, T, E]
    | succ k =>
      show E (r.take k) < E (r.take (k + 1))
      exact P_lt hg.cons (by simpa using h)
theorem Q_mono {xs : List Int} (hg : Ge2 xs) : ∀ {i j : Nat}, i ≤ j → j ≤ xs.length → Q xs i ≤ Q xs j := by
  intro i j hij
  induction j with
  | zero => intro _; have : i = 0 := by omega
            subst this; exact Int.le_refl _
  | succ j ih =>
    intro hj
    by_cases h : i = j + 1
    · subst h; exact Int.le_refl _
    · have h1 := ih (by omega) (by omega)
      have h2 := Q_lt hg (show j < xs.length by omega)
      omega
theorem P_mono {xs : List Int} (hg : Ge2 xs) : ∀ {i j : Nat}, i ≤ j → j ≤ xs.length → P xs i ≤ P xs j := by
  intro i j hij
  induction j with
  | zero => intro _; have : i = 0 := by omega
            subst this; exact Int.le_refl _
  | succ j ih =>
    intro hj
    by_cases h : i = j + 1
    · subst h; exact Int.le_refl _
    · have h1 := ih (by omega) (by omega)
      have h2 := P_lt hg (show j < xs.length by omega)
      omega
theorem P_full (xs : List Int) : P xs xs.length = E xs := by unfold P; rw [List.take_length]
theorem Q_full (xs : List Int) : Q xs xs.length = T xs := by unfold Q; rw [List.take_length]
theorem Q_zero (xs : List Int) : Q xs 0 = 0 := rfl
theorem Q_one {xs : List Int} (h : xs ≠ []) : Q xs 1 = 1 := by
  cases xs with
  | nil => exact absurd rfl h
  | cons a r => rfl
/-- what lies between the worth and a worth before it has a greater second number -/
theorem between {xs : List Int} (hg : Ge2 xs) {a b : Int} (hb : 1 ≤ b) (hab : E xs * b ≤ a * T xs) : ∀ (j k : Nat), k + j = xs.length → a * Q xs k < P xs k * b → k < xs.length ∧ Q xs (k + 1) ≤ b := by
  intro j
  induction j with
  | zero =>
    intro k hk h
    have : k = xs.length := by omega
    subst this
    rw [P_full, Q_full] at h
    omega
  | succ j ih =>
    intro k hk h
    have hlt : k < xs.length := by omega
    refine ⟨hlt, ?_⟩
    have hd := det_next hlt
    by_cases hy : a * Q xs (k + 1) < P xs (k + 1) * b
    · obtain ⟨h1, h2⟩ := ih (k + 1) (by omega) hy
      have := Q_lt hg h1
      omega
    · have hq0 : 0 ≤ Q xs k := by have := Q_mono hg (i := 0) (j := k) (by omega) (by omega); rw [Q_zero] at this; exact this
      have hq1 : 0 ≤ Q xs (k + 1) := by have := Q_lt hg hlt; omega
      have hx : 1 ≤ P xs k * b - a * Q xs k := by omega
      have hy' : 0 ≤ a * Q xs (k + 1) - P xs (k + 1) * b := by omega
      have e : b = (P xs k * b - a * Q xs k) * Q xs (k + 1) + (a * Q xs (k + 1) - P xs (k + 1) * b) * Q xs k := by
        have : b * 1 = b * (P xs k * Q xs (k + 1) - P xs (k + 1) * Q xs k) := by rw [hd]
        grind
      have h1 : 1 * Q xs (k + 1) ≤ (P xs k * b - a * Q xs k) * Q xs (k + 1) := Int.mul_le_mul_of_nonneg_right hx hq1
      have h2 : 0 ≤ (a * Q xs (k + 1) - P xs (k + 1) * b) * Q xs k := Int.mul_nonneg hy' hq0
      omega
/-- rounding up -/
def cl (n q b : Int) : Int := (n * b + q - 1) / q
theorem cl_spec {n q b : Int} (hq : 0 < q) : n * b ≤ cl n q b * q ∧ cl n q b * q < n * b + q := by
  unfold cl
  generalize n * b = m
  have h1 := Int.emod_add_mul_ediv (m + q - 1) q
  have h2 := Int.emod_nonneg (m + q - 1) (show q ≠ 0 by omega)
  have h3 := Int.emod_lt_of_pos (m + q - 1) hq
  rw [Int.mul_comm q] at h1
  omega
theorem cl_uniq {n q b c : Int} (hq : 0 < q) (h1 : n * b ≤ c * q) (h2 : c * q < n * b + q) : cl n q b = c := by
  unfold cl
  rw [Int.ediv_eq_iff_of_pos hq]
  omega
/-- the least from above with second number up to d, and the first of them -/
structure Best (n q d a b : Int) : Prop where
  b1 : 1 ≤ b
  bd : b ≤ d
  ac : a = cl n q b
  le : ∀ c : Int, 1 ≤ c → c ≤ d → a * c ≤ cl n q c * b
  lt : ∀ c : Int, 1 ≤ c → c < b → a * c < cl n q c * b
theorem Best.uniq {n q d a b a' b' : Int} (h : Best n q d a b) (h' : Best n q d a' b') : a = a' ∧ b = b' := by
  have key : ∀ {a b a' b' : Int}, Best n q d a b → Best n q d a' b' → ¬ b < b' := by
    intro a b a' b' h h' hlt
    have h1 := h'.lt b h.b1 hlt
    have h2 := h.le b' h'.b1 h'.bd
    rw [← h.ac] at h1
    rw [← h'.ac] at h2
    omega
  have e : b = b' := by
    have h1 := key h h'
    have h2 := key h' h
    omega
  subst e
  exact ⟨h.ac.trans h'.ac.symm, rfl⟩
theorem told_best {xs : List Int} (hg : Ge2 xs) {n q : Int} (hn : E xs = n) (hq : T xs = q) (hq0 : 0 < q) {k : Nat} (hk : k < xs.length) {d : Int} (hd : Q xs (k + 1) ≤ d) (hnext : k + 1 < xs.length → d < Q xs (k + 2)) : Best n q d (P xs (k + 1)) (Q xs (k + 1)) := by
  have hQ1 : 1 ≤ Q xs (k + 1) := by
    have h1 := Q_mono hg (i := 1) (j := k + 1) (by omega) (by omega)
    rw [Q_one (by intro h; subst h; simp at hk)] at h1
    exact h1
  have hdet := det_app (xs.take (k + 1)) (xs.drop (k + 1))
  rw [List.take_append_drop, hn, hq] at hdet
  have hz := ge2_T (hg.drop (k + 1))
  have hle : T (xs.drop (k + 1)) < q := by
    rw [← hq]
    cases xs with
    | nil => simp at hk
    | cons x r =>
      have h1 : E (r.drop k) ≤ E r := by
        have h2 := E_le_app (ys := r.take k) (zs := r.drop k) (by rw [List.take_append_drop]; exact hg.cons)
        rw [List.take_append_drop] at h2
        exact h2
      rw [List.drop_succ_cons] at hz ⊢
      rw [T_cons]
      omega
  have hac : cl n q (Q xs (k + 1)) = P xs (k + 1) := by
    refine cl_uniq hq0 ?_ ?_
    · show n * T (xs.take (k + 1)) ≤ E (xs.take (k + 1)) * q; omega
    · show E (xs.take (k + 1)) * q < n * T (xs.take (k + 1)) + q; omega
  refine ⟨hQ1, hd, hac.symm, fun c hc hcd => ?_, fun c hc hcb => ?_⟩
  · refine Int.not_lt.mp fun h => ?_
    have hs := cl_spec (n := n) (b := c) hq0
    obtain ⟨h1, h2⟩ := between hg hc (a := cl n q c) (b := c) (by rw [hn, hq]; exact hs.1) (xs.length - (k + 1)) (k + 1) (by omega) h
    have := hnext h1
    rw [show k + 1 + 1 = k + 2 from rfl] at h2
    omega
  · refine Int.not_le.mp fun h => ?_
    have hs := cl_spec (n := n) (b := c) hq0
    have hdk := det_next hk
    have hk1 : cl n q c * Q xs k < P xs k * c := by
      have hq0' : 0 ≤ Q xs k := by have := Q_mono hg (i := 0) (j := k) (by omega) (by omega); rw [Q_zero] at this; exact this
      have h3 : cl n q c * Q xs (k + 1) * Q xs k ≤ P xs (k + 1) * c * Q xs k := Int.mul_le_mul_of_nonneg_right h hq0'
      have h4 : P xs (k + 1) * c * Q xs k = (P xs k * Q xs (k + 1) - 1) * c := by
        have : P xs (k + 1) * Q xs k = P xs k * Q xs (k + 1) - 1 := by omega
        rw [← this]; grind
      have h5 : (cl n q c * Q xs k) * Q xs (k + 1) < (P xs k * c) * Q xs (k + 1) := by
        have h6 : (P xs k * Q xs (k + 1) - 1) * c = (P xs k * c) * Q xs (k + 1) - c := by grind
        have h7 : cl n q c * Q xs (k + 1) * Q xs k = (cl n q c * Q xs k) * Q xs (k + 1) := by grind
        omega
      exact Int.lt_of_mul_lt_mul_right h5 (by omega)
    obtain ⟨_, h2⟩ := between hg hc (a := cl n q c) (b := c) (by rw [hn, hq]; exact hs.1) (xs.length - k) k (by omega) hk1
    omega

/-! ### law k66: best from above -/
abbrev T2 (a b : Int) : D := .tup [.int a, .int b]
def headD (xs : List Int) : List D := (List.range xs.length).map fun i => T2 (P xs (i + 1)) (Q xs (i + 1))
theorem headD_len (xs : List Int) : (headD xs).length = xs.length := by unfold headD; rw [List.length_map, List.length_range]
theorem rngD_succ (lo : Int) (n : Nat) : rngD lo (n + 1) = .int lo :: rngD (lo + 1) n := by
  unfold rngD
  rw [List.range_succ_eq_map, List.map_cons, List.map_map]
  congr 1
  · simp
  · apply List.map_congr_left
    intro i _
    simp only [Function.comp]
    congr 1
    omega
theorem ahead_lc {xs : List Int} (hl : xs.length ≤ 1000) (hs : Sm xs) (st : Store) (sl0 : Slots) (h16 : sl0.length = 16) (h4 : sl0[4]? = some (some (.p (.tup (iD xs))))) :
    lcGo sl0 (.nm 6) yesT (callM m_worth (consA (cutM (varM 4) noO (someO (varM 6))) nilA)) (rngD 1 xs.length) [] st = .ok (headD xs, st) := by
  rw [lc_map (F := fun d => match d with | .int k => T2 (P xs k.toNat) (Q xs k.toNat) | d => d) _ [] ?_]
  · congr 2
    unfold rngD headD
    rw [List.reverse_nil, List.nil_append, List.map_map]
    apply List.map_congr_left
    intro i _
    simp only [Function.comp]
    rw [show (1 + (i : Int)).toNat = i + 1 by omega]
  · intro x hx
    obtain ⟨i, hi, rfl⟩ := List.mem_map.mp hx
    have hi : i < xs.length := List.mem_range.mp hi
    have g4 : (sl0.set 6 (some (.p (.int (1 + (i : Int))))))[4]? = some (some (.p (.tup (iD xs)))) := by rw [List.getElem?_set_ne (by omega)]; exact h4
    have g6 : (sl0.set 6 (some (.p (.int (1 + (i : Int))))))[6]? = some (some (.p (.int (1 + (i : Int))))) := List.getElem?_set_self (by omega)
    have e := worth_ok (w := .p (.tup (iD (xs.take (i + 1))))) (.inl rfl) (by rw [List.length_take]; omega) (fun a ha => hs a (List.mem_of_mem_take ha)) st
    have c : cutD (iD xs) none (some (1 + (i : Int))) = iD (xs.take (i + 1)) := by
      rw [← cut_i (xs := xs) (k := i + 1) (by omega)]
      congr 2
      omega
    refine ⟨_, put_nm, ?_⟩
    show _ = R.ok (W.p (T2 (P xs (1 + (i : Int)).toNat) (Q xs (1 + (i : Int)).toNat)), st)
    rw [show (1 + (i : Int)).toNat = i + 1 by omega]
    clear hx hi hs hl
    unfold P Q
    walk_at "ev"
theorem best_one (n q : Int) : Best n q 1 (cl n q 1) 1 := ⟨by omega, by omega, rfl, fun c h1 h2 => by rw [show c = 1 by omega]; exact Int.le_refl _, fun c h1 h2 => by omega⟩
theorem best_new {n q m a b : Int} (h : Best n q m a b) (hlt : cl n q (m + 1) * b < a * (m + 1)) : Best n q (m + 1) (cl n q (m + 1)) (m + 1) := by
  have key : ∀ c : Int, 1 ≤ c → c ≤ m → cl n q (m + 1) * c < cl n q c * (m + 1) := by
    intro c h1 h2
    have h3 := h.le c h1 h2
    have hb := h.b1
    have hm : 0 < m + 1 := by have := h.bd; omega
    have h4 : cl n q (m + 1) * b * c < a * (m + 1) * c := Int.mul_lt_mul_of_pos_right hlt (by omega)
    have h5 : a * c * (m + 1) ≤ cl n q c * b * (m + 1) := Int.mul_le_mul_of_nonneg_right h3 (by omega)
    have h6 : cl n q (m + 1) * b * c = (cl n q (m + 1) * c) * b := by grind
    have h7 : a * (m + 1) * c = a * c * (m + 1) := by grind
    have h8 : cl n q c * b * (m + 1) = (cl n q c * (m + 1)) * b := by grind
    rw [h6, h7] at h4
    rw [h8] at h5
    exact Int.lt_of_mul_lt_mul_right (Int.lt_of_lt_of_le h4 h5) (by omega)
  have hb := h.b1
  have hd := h.bd
  refine ⟨by omega, by omega, rfl, fun c h1 h2 => ?_, fun c h1 h2 => key c h1 (by omega)⟩
  by_cases hc : c = m + 1
  · subst hc; exact Int.le_refl _
  · exact Int.le_of_lt (key c h1 (by omega))
theorem best_old {n q m a b : Int} (h : Best n q m a b) (hge : ¬ cl n q (m + 1) * b < a * (m + 1)) : Best n q (m + 1) a b := by
  have hd := h.bd
  refine ⟨h.b1, by omega, h.ac, fun c h1 h2 => ?_, h.lt⟩
  by_cases hc : c = m + 1
  · subst hc; omega
  · exact h.le c h1 (by omega)
def BestD (n q m : Int) (d : D) : Prop := (m = 0 ∧ d = .non) ∨ (1 ≤ m ∧ ∃ a b : Int, d = T2 a b ∧ Best n q m a b)
theorem best_lap {n q : Nat} (hn : n ≤ 1000) (hq0 : 1 ≤ q) (hq : q ≤ 1000) (st : Store) (s0 s1 s4 s5 s6 s7 s8 s9 s10 s13 s14 s15 : Option W) {m : Nat} (hm : m ≤ 1000) {d : D} (h : BestD n q m d) :
    ∃ (d' : D) (y13 : Option W), BestD n q (m + 1) d' ∧ f__law_right_2 [s0, s1, some (.p (.int n)), some (.p (.int q)), s4, s5, s6, s7, s8, s9, s10, some (.p d), some (.p (.int (1 + (m : Int)))), s13, s14, s15] st
      = .ok (.nx, [s0, s1, some (.p (.int n)), some (.p (.int q)), s4, s5, s6, s7, s8, s9, s10, some (.p d'), some (.p (.int (1 + (m : Int)))), y13, s14, s15], st) := by
  have g1 : smallI (n : Int) = true := small_of (by omega) (by omega)
  have g2 : smallI (1 + (m : Int)) = true := small_of (by omega) (by omega)
  have g3 : (0 : Int) < (q : Int) ∧ (q : Int).natAbs.log2 < 9000 := ⟨by omega, log_lt (by omega) (by omega)⟩
  have ec : ((n : Int) * (1 + (m : Int)) + (q : Int) - 1) / (q : Int) = cl n q (1 + m) := rfl
  rcases h with ⟨h0, rfl⟩ | ⟨h0, a, b, rfl, hB⟩
  · refine ⟨T2 (cl n q (1 + m)) (1 + m), some (.p (.int (cl n q (1 + m)))), .inr ⟨by omega, _, _, rfl, ?_⟩, ?_⟩
    · rw [h0]; exact best_one n q
    · clear h0
      unfold f__law_right_2
      walk_at "ev"
  · have hb1 := hB.b1
    have hbd := hB.bd
    have g4 : smallI b = true := small_of (by omega) (by omega)
    have em : (1 + (m : Int)) = (m : Int) + 1 := by omega
    by_cases hlt : cl n q (1 + (m : Int)) * b < a * (1 + (m : Int))
    · refine ⟨T2 (cl n q (1 + m)) (1 + m), some (.p (.int (cl n q (1 + m)))), .inr ⟨by omega, _, _, rfl, ?_⟩, ?_⟩
      · rw [em] at hlt ⊢; exact best_new hB hlt
      · have e1 : decide (cl n q (1 + (m : Int)) * b < a * (1 + (m : Int))) = true := decide_eq_true hlt
        clear hlt hb1 hbd h0 hB em
        unfold f__law_right_2
        walk_at "ev"
    · refine ⟨T2 a b, some (.p (.int (cl n q (1 + m)))), .inr ⟨by omega, _, _, rfl, ?_⟩, ?_⟩
      · rw [em] at hlt; exact best_old hB hlt
      · have e1 : decide (cl n q (1 + (m : Int)) * b < a * (1 + (m : Int))) = false := decide_eq_false hlt
        clear hlt hb1 hbd h0 hB em
        unfold f__law_right_2
        walk_at "ev"
theorem best_loop {n q : Nat} (hn : n ≤ 1000) (hq0 : 1 ≤ q) (hq : q ≤ 1000) (st : Store) (s0 s1 s4 s5 s6 s7 s8 s9 s10 s14 s15 : Option W) : ∀ (j m : Nat) (s12 s13 : Option W) (d : D), m + j ≤ 1000 → BestD n q m d →
    ∃ (d' : D) (y12 y13 : Option W), BestD n q ((m + j : Nat) : Int) d' ∧ forGo (.nm 12) f__law_right_2 (rngD (1 + (m : Int)) j) [s0, s1, some (.p (.int n)), some (.p (.int q)), s4, s5, s6, s7, s8, s9, s10, some (.p d), s12, s13, s14, s15] st
      = .ok (.nx, [s0, s1, some (.p (.int n)), some (.p (.int q)), s4, s5, s6, s7, s8, s9, s10, some (.p d'), y12, y13, s14, s15], st) := by
  intro j
  induction j with
  | zero =>
    intro m s12 s13 d _ h
    refine ⟨d, s12, s13, by rw [Nat.add_zero]; exact h, ?_⟩
    rw [show rngD (1 + (m : Int)) 0 = [] from rfl, forGo_nil]
  | succ j ih =>
    intro m s12 s13 d hm h
    obtain ⟨d1, y13, h1, e1⟩ := best_lap hn hq0 hq st s0 s1 s4 s5 s6 s7 s8 s9 s10 s13 s14 s15 (m := m) (by omega) h
    have h1 : BestD n q ((m + 1 : Nat) : Int) d1 := by rw [show ((m + 1 : Nat) : Int) = (m : Int) + 1 by omega]; exact h1
    obtain ⟨d2, z12, z13, h2, e2⟩ := ih (m + 1) (some (.p (.int (1 + (m : Int))))) y13 d1 (by omega) h1
    refine ⟨d2, z12, z13, by rw [show m + (j + 1) = m + 1 + j by omega]; exact h2, ?_⟩
    rw [rngD_succ, forGo_cons, put_nm]
    simp -implicitDefEqProofs -dsimp only [R.bd_ok, List.set_cons_succ, List.set_cons_zero]
    rw [e1]
    rw [show ((m + 1 : Nat) : Int) = 1 + (m : Int) by omega, show (1 + (1 + (m : Int))) = (1 + (m : Int)) + 1 by omega] at e2
    simp -implicitDefEqProofs -dsimp only [R.bd_ok]
    generalize rngD (1 + (m : Int) + 1) j = l at e2 ⊢
    exact e2
/-! the one told -/
theorem filt_range {k : Nat} : ∀ L : Nat, k < L → (List.range L).filter (fun i => decide (i ≤ k)) = List.range (k + 1)
  | 0, h => absurd h (Nat.not_lt_zero _)
  | L + 1, h => by
    rw [List.range_succ, List.filter_append]
    by_cases hk : k < L
    · rw [filt_range L hk]
      have : (List.filter (fun i => decide (i ≤ k)) [L]) = [] := by simp; omega
      rw [this, List.append_nil]
    · have : k = L := by omega
      subst this
      have h1 : (List.range k).filter (fun i => decide (i ≤ k)) = List.range k := List.filter_eq_self.mpr fun a ha => decide_eq_true (by have := List.mem_range.mp ha; omega)
      rw [h1, List.range_succ]
      simp
theorem told_at {xs : List Int} (hg : Ge2 xs) {d : Int} (hd : 1 ≤ d) : ∀ L : Nat, 1 ≤ L → L ≤ xs.length → ∃ k, k < L ∧ Q xs (k + 1) ≤ d ∧ (k + 1 < L → d < Q xs (k + 2))
  | 0, h, _ => absurd h (by omega)
  | 1, _, hl => ⟨0, by omega, by rw [Q_one (by intro h; subst h; simp at hl)]; exact hd, fun h => by omega⟩
  | L + 2, _, hl => by
    obtain ⟨k, h1, h2, h3⟩ := told_at hg hd (L + 1) (by omega) (by omega)
    by_cases h : Q xs (L + 2) ≤ d
    · exact ⟨L + 1, by omega, h, fun h => by omega⟩
    · refine ⟨k, by omega, h2, fun _ => ?_⟩
      by_cases hk : k + 1 < L + 1
      · exact h3 hk
      · rw [show k + 2 = L + 2 by omega]; omega
def dB (d : Int) : D → Bool
  | .tup [_, .int b] => decide (b ≤ d)
  | _ => false
theorem told_filt {xs : List Int} (hg : Ge2 xs) {d : Int} {k : Nat} (h1 : k < xs.length) (h2 : Q xs (k + 1) ≤ d) (h3 : k + 1 < xs.length → d < Q xs (k + 2)) :
    (headD xs).filter (dB d) = ((List.range k).map fun i => T2 (P xs (i + 1)) (Q xs (i + 1))) ++ [T2 (P xs (k + 1)) (Q xs (k + 1))] := by
  unfold headD
  rw [List.filter_map]
  have : (List.range xs.length).filter (dB d ∘ fun i => T2 (P xs (i + 1)) (Q xs (i + 1))) = (List.range xs.length).filter (fun i => decide (i ≤ k)) := by
    apply List.filter_congr
    intro i hi
    have hi := List.mem_range.mp hi
    show decide (Q xs (i + 1) ≤ d) = decide (i ≤ k)
    by_cases hk : i ≤ k
    · have := Q_mono hg (i := i + 1) (j := k + 1) (by omega) (by omega)
      rw [decide_eq_true hk, decide_eq_true (by omega)]
    · have h4 := h3 (by omega)
      have := Q_mono hg (i := k + 2) (j := i + 1) (by omega) (by omega)
      rw [decide_eq_false hk, decide_eq_false (by omega)]
  rw [this, filt_range _ h1, List.range_succ, List.map_append]
  rfl
theorem told_lc {xs : List Int} (d : Int) (st : Store) (sl0 : Slots) (h16 : sl0.length = 16) (h10 : sl0[10]? = some (some (.p (.int d)))) :
    lcGo sl0 (.nm 7) (boolM (binM leF (binM ixF (varM 7) (constM (.int 1))) (varM 10))) (varM 7) (headD xs) [] st = .ok ((headD xs).filter (dB d), st) := by
  rw [lc_filt (p := dB d) (F := fun d => d) _ [] ?_]
  · rw [map_self]; rfl
  · intro x hx
    obtain ⟨i, hi, rfl⟩ := List.mem_map.mp hx
    have g10 : (sl0.set 7 (some (.p (T2 (P xs (i + 1)) (Q xs (i + 1))))))[10]? = some (some (.p (.int d))) := by rw [List.getElem?_set_ne (by omega)]; exact h10
    have g7 : (sl0.set 7 (some (.p (T2 (P xs (i + 1)) (Q xs (i + 1))))))[7]? = some (some (.p (T2 (P xs (i + 1)) (Q xs (i + 1))))) := List.getElem?_set_self (by omega)
    refine ⟨_, put_nm, ?_, fun _ => ?_⟩
    · simp only [dB]
      clear hx hi
      walk_at "ev"
    · clear hx hi
      walk_at "ev"
theorem ne_self2 (a b : Int) (st : Store) : neF (.p (T2 a b)) (.p (T2 a b)) st = .ok (.p (.bl false), st) := by
  unfold neF
  simp [plainW, okD, okDs, eqD, eqDs]

/-! neighbours -/
theorem zipD_mem : ∀ {ds es : List D} {x : D}, x ∈ zipD ds es → ∃ (i : Nat) (d e : D), ds[i]? = some d ∧ es[i]? = some e ∧ x = .tup [d, e]
  | d :: ds, e :: es, x, h => by
    rcases List.mem_cons.mp (show x ∈ D.tup [d, e] :: zipD ds es from h) with rfl | h
    · exact ⟨0, d, e, rfl, rfl, rfl⟩
    · obtain ⟨i, d', e', h1, h2, h3⟩ := zipD_mem h
      exact ⟨i + 1, d', e', by simpa using h1, by simpa using h2, h3⟩
  | [], _, x, h => by simp [zipD] at h
  | _ :: _, [], x, h => by simp [zipD] at h
theorem cut_one (ds : List D) : cutD ds (some 1) none = ds.drop 1 := by
  unfold Pm.cutD
  rw [show (1 : Int) = ((1 : Nat) : Int) from rfl, HT.sIx_nat, HT.sIx_none]
  by_cases h : 1 ≤ ds.length
  · rw [Nat.min_eq_left h]
    exact List.take_of_length_le (by rw [List.length_drop]; omega)
  · have : ds = [] := List.eq_nil_of_length_eq_zero (by omega)
    subst this
    rfl
def Nb (xs : List Int) (x : D) : Prop := ∃ i, i + 1 < xs.length ∧ x = .tup [T2 (P xs (i + 1)) (Q xs (i + 1)), T2 (P xs (i + 2)) (Q xs (i + 2))]
theorem headD_at {xs : List Int} {i : Nat} {d : D} (h : (headD xs)[i]? = some d) : i < xs.length ∧ d = T2 (P xs (i + 1)) (Q xs (i + 1)) := by
  have hl : i < xs.length := by
    have := (List.getElem?_eq_some_iff.mp h).1
    rw [headD_len] at this; exact this
  refine ⟨hl, ?_⟩
  unfold headD at h
  rw [List.getElem?_map, List.getElem?_range hl] at h
  exact (Option.some.inj h).symm
theorem nb_all {xs : List Int} : ∀ x ∈ zipD (headD xs) ((headD xs).drop 1), Nb xs x := by
  intro x hx
  obtain ⟨i, d, e, h1, h2, rfl⟩ := zipD_mem hx
  obtain ⟨_, rfl⟩ := headD_at h1
  rw [List.getElem?_drop, Nat.add_comm 1 i] at h2
  obtain ⟨h3, rfl⟩ := headD_at h2
  exact ⟨i, h3, rfl⟩
theorem nb_lap (a b c e : Int) (h : a * e - c * b = 1) (hbe : b < e) (hb : 0 ≤ b) (he : e ≤ 1000) (st : Store) (s0 s1 s2 s3 s4 s5 s6 s7 s10 s11 s12 s13 s14 s15 : Option W) :
    f__law_right_1 [s0, s1, s2, s3, s4, s5, s6, s7, some (.p (T2 a b)), some (.p (T2 c e)), s10, s11, s12, s13, s14, s15] st = .ok (.nx, [s0, s1, s2, s3, s4, s5, s6, s7, some (.p (T2 a b)), some (.p (T2 c e)), s10, s11, s12, s13, s14, s15], st) := by
  have g1 : smallI b = true := small_of (by omega) (by omega)
  have g2 : smallI e = true := small_of (by omega) (by omega)
  have g3 : (a * e - c * b == 1) = true := by rw [beq_iff_eq]; exact h
  have g4 : decide (e ≤ b) = false := decide_eq_false (by omega)
  clear h hbe hb he
  unfold f__law_right_1
  walk_at "ev"
theorem nb_loop {xs : List Int} (hg : Ge2 xs) (hq : T xs ≤ 1000) (st : Store) (s0 s1 s2 s3 s4 s5 s6 s7 s10 s11 s12 s13 s14 s15 : Option W) : ∀ (l : List D), (∀ x ∈ l, Nb xs x) → ∀ (s8 s9 : Option W), ∃ y8 y9 : Option W,
    forGo (.tp [.nm 8, .nm 9]) f__law_right_1 l [s0, s1, s2, s3, s4, s5, s6, s7, s8, s9, s10, s11, s12, s13, s14, s15] st = .ok (.nx, [s0, s1, s2, s3, s4, s5, s6, s7, y8, y9, s10, s11, s12, s13, s14, s15], st) := by
  intro l
  induction l with
  | nil => exact fun _ s8 s9 => ⟨s8, s9, forGo_nil⟩
  | cons x l ih =>
    intro h s8 s9
    obtain ⟨i, hi, rfl⟩ := h x List.mem_cons_self
    have hd := det_next (xs := xs) (k := i + 1) hi
    have hlt := Q_lt hg (k := i + 1) hi
    have h0 := Q_mono hg (i := 0) (j := i + 1) (by omega) (by omega)
    rw [Q_zero] at h0
    have h1 := Q_mono hg (i := i + 2) (j := xs.length) (by omega) (Nat.le_refl _)
    rw [Q_full] at h1
    have e := nb_lap (P xs (i + 1)) (Q xs (i + 1)) (P xs (i + 2)) (Q xs (i + 2)) hd hlt h0 (by omega) st s0 s1 s2 s3 s4 s5 s6 s7 s10 s11 s12 s13 s14 s15
    obtain ⟨y8, y9, e2⟩ := ih (fun y hy => h y (List.mem_cons_of_mem _ hy)) (some (.p (T2 (P xs (i + 1)) (Q xs (i + 1))))) (some (.p (T2 (P xs (i + 2)) (Q xs (i + 2)))))
    refine ⟨y8, y9, ?_⟩
    rw [forGo_cons]
    simp -implicitDefEqProofs -dsimp only [put_tp, puts_cons, puts_nil, put_nm, R.bd_ok, List.set_cons_succ, List.set_cons_zero, List.length_cons, List.length_nil, if_true]
    rw [e]
    simp -implicitDefEqProofs -dsimp only [R.bd_ok]
    exact e2
/-! all second numbers -/
theorem best_d {n q : Nat} (hn : n ≤ 1000) (hq0 : 1 ≤ q) (hq : q ≤ 1000) {xs : List Int} (hg : Ge2 xs) (hE : E xs = n) (hT : T xs = q) (hne : 1 ≤ xs.length) (hlen : xs.length ≤ 1000) (st : Store) (s0 s1 s4 s6 s7 s8 s9 s11 s12 s13 s14 s15 : Option W) {d : Nat} (hd : d < q) :
    ∃ y11 y12 y13 y14 : Option W, f__law_right_3 [s0, s1, some (.p (.int n)), some (.p (.int q)), s4, some (.p (.lst (headD xs))), s6, s7, s8, s9, some (.p (.int (1 + (d : Int)))), s11, s12, s13, s14, s15] st
      = .ok (.nx, [s0, s1, some (.p (.int n)), some (.p (.int q)), s4, some (.p (.lst (headD xs))), s6, s7, s8, s9, some (.p (.int (1 + (d : Int)))), y11, y12, y13, y14, s15], st) := by
  obtain ⟨k, k1, k2, k3⟩ := told_at hg (d := 1 + (d : Int)) (by omega) xs.length hne (Nat.le_refl _)
  have hB := told_best hg hE hT (by omega) k1 k2 k3
  obtain ⟨b, y12, y13, hb, e1⟩ := best_loop hn hq0 hq st s0 s1 s4 (some (.p (.lst (headD xs)))) s6 s7 s8 s9 (some (.p (.int (1 + (d : Int))))) s14 s15 (d + 1) 0 s12 s13 .non (by omega) (.inl ⟨rfl, rfl⟩)
  have hbb : b = T2 (P xs (k + 1)) (Q xs (k + 1)) := by
    rcases hb with ⟨h0, _⟩ | ⟨_, a, c, rfl, hB2⟩
    · omega
    · rw [show ((0 + (d + 1) : Nat) : Int) = 1 + (d : Int) by omega] at hB2
      obtain ⟨r1, r2⟩ := hB.uniq hB2
      rw [r1, r2]
  subst hbb
  have lc := told_lc (xs := xs) (1 + (d : Int)) st [s0, s1, some (.p (.int n)), some (.p (.int q)), s4, some (.p (.lst (headD xs))), s6, none, s8, s9, some (.p (.int (1 + (d : Int)))), some (.p (T2 (P xs (k + 1)) (Q xs (k + 1)))), y12, y13, s14, s15] rfl rfl
  rw [told_filt hg k1 k2 k3] at lc
  have at1 : atI (((List.range k).map fun i => T2 (P xs (i + 1)) (Q xs (i + 1))) ++ [T2 (P xs (k + 1)) (Q xs (k + 1))]) (-1) = some (T2 (P xs (k + 1)) (Q xs (k + 1))) := ix_m1
  have ne := ne_self2 (P xs (k + 1)) (Q xs (k + 1)) st
  have g1 : -(2 ^ 62) ≤ (1 : Int) ∧ (1 : Int) < 2 ^ 62 ∧ -(2 ^ 62) ≤ (1 + (d : Int) + 1) ∧ (1 + (d : Int) + 1) < 2 ^ 62 := ⟨by decide, by decide, by omega, by omega⟩
  have g2 : ((1 + (d : Int) + 1) - 1).toNat = d + 1 := by omega
  have g3 : (headD xs).length ≤ 1000000 := by rw [headD_len]; omega
  rw [show (1 + ((0 : Nat) : Int)) = 1 by rfl] at e1
  refine ⟨some (.p (T2 (P xs (k + 1)) (Q xs (k + 1)))), y12, y13, some (.p (T2 (P xs (k + 1)) (Q xs (k + 1)))), ?_⟩
  clear hb hB k2 k3 hE hT hne hlen hd hn hq0 hq k1
  generalize ((List.range k).map fun i => T2 (P xs (i + 1)) (Q xs (i + 1))) ++ [T2 (P xs (k + 1)) (Q xs (k + 1))] = told at lc at1
  unfold f__law_right_3
  walk_at "ev"
theorem best_ds {n q : Nat} (hn : n ≤ 1000) (hq0 : 1 ≤ q) (hq : q ≤ 1000) {xs : List Int} (hg : Ge2 xs) (hE : E xs = n) (hT : T xs = q) (hne : 1 ≤ xs.length) (hlen : xs.length ≤ 1000) (st : Store) (s0 s1 s4 s6 s7 s8 s9 s15 : Option W) : ∀ (j d : Nat), d + j ≤ q → ∀ (s10 s11 s12 s13 s14 : Option W),
    ∃ y10 y11 y12 y13 y14 : Option W, forGo (.nm 10) f__law_right_3 (rngD (1 + (d : Int)) j) [s0, s1, some (.p (.int n)), some (.p (.int q)), s4, some (.p (.lst (headD xs))), s6, s7, s8, s9, s10, s11, s12, s13, s14, s15] st
      = .ok (.nx, [s0, s1, some (.p (.int n)), some (.p (.int q)), s4, some (.p (.lst (headD xs))), s6, s7, s8, s9, y10, y11, y12, y13, y14, s15], st) := by
  intro j
  induction j with
  | zero =>
    intro d _ s10 s11 s12 s13 s14
    refine ⟨s10, s11, s12, s13, s14, ?_⟩
    rw [show rngD (1 + (d : Int)) 0 = [] from rfl, forGo_nil]
  | succ j ih =>
    intro d hd s10 s11 s12 s13 s14
    obtain ⟨y11, y12, y13, y14, e⟩ := best_d hn hq0 hq hg hE hT hne hlen st s0 s1 s4 s6 s7 s8 s9 s11 s12 s13 s14 s15 (d := d) (by omega)
    obtain ⟨z10, z11, z12, z13, z14, e2⟩ := ih (d + 1) (by omega) (some (.p (.int (1 + (d : Int))))) y11 y12 y13 y14
    refine ⟨z10, z11, z12, z13, z14, ?_⟩
    rw [rngD_succ, forGo_cons, put_nm]
    simp -implicitDefEqProofs -dsimp only [R.bd_ok, List.set_cons_succ, List.set_cons_zero]
    rw [e]
    rw [show (1 + ((d + 1 : Nat) : Int)) = (1 + (d : Int)) + 1 by omega] at e2
    simp -implicitDefEqProofs -dsimp only [R.bd_ok]
    generalize rngD (1 + (d : Int) + 1) j = l at e2 ⊢
    exact e2

/-! a fraction -/
theorem chI_ge2 {n q : Nat} (h : q < n) : Ge2 (chI n q) := fun a ha => (chI_ge q n h a ha).1
def fstD : D → D
  | .tup [a, _] => a
  | d => d
theorem tops_head (xs : List Int) : (headD xs).map fstD = iD (tops 1 0 xs) := by
  have ht := tops_all xs
  have h3 : tops 1 0 xs = (List.range xs.length).map fun i => E (xs.take (i + 1)) := by
    rw [List.range_succ_eq_map, List.map_cons, List.map_map] at ht
    exact (List.cons.inj ht).2
  rw [h3]
  unfold headD
  rw [List.map_map, iD, List.map_map]
  apply List.map_congr_left
  intro i _
  rfl
theorem body66 (m N : Nat) (C : Int) (hC : C ≤ 10000) (st : Store) (h : TN m N C st) (s1 s2 s3 s4 s5 s6 s7 s8 s9 s10 s11 s12 s13 s14 s15 : Option W) :
    ∃ (st' : Store) (y2 y3 y4 y5 y6 y7 y8 y9 y10 y11 y12 y13 y14 y15 : Option W), f__law_right_4 [some (.loc m), s1, s2, s3, s4, s5, s6, s7, s8, s9, s10, s11, s12, s13, s14, s15] st
      = .ok (.nx, [some (.loc m), s1, y2, y3, y4, y5, y6, y7, y8, y9, y10, y11, y12, y13, y14, y15], st') ∧ TN m N (C + 2) st' := by
  obtain ⟨n, q, st1, e1, h1, q1, qn, nt, gc⟩ := law_fraction_ok h (by omega) 200 (by decide) (by decide)
  replace e1 : m__law_fraction [.loc m, .p (.int 200)] st = .ok (.p (.tup [.int n, .int q]), st1) := e1
  have fr : Fr n q := ⟨qn, gc, Nat.lt_of_le_of_lt nt (by decide)⟩
  have fr2 : Fr n (n - q) := ⟨by omega, by rw [Nat.gcd_self_sub_right (by omega)]; exact gc, fr.2.2⟩
  obtain ⟨hE, hT⟩ := chI_worth q n qn gc
  have hg := chI_ge2 qn
  have hcl := chain_len n q
  have e2 := chain_of_ok (w := .p (.tup [.int n, .int q])) (.inl rfl) fr (by omega) st1
  rw [nD_iD] at e2
  obtain ⟨xs, hxs⟩ : ∃ xs, xs = chI n q := ⟨_, rfl⟩
  replace e2 : m_chain_of [.p (.tup [.int n, .int q])] st1 = .ok (.p (.tup (iD xs)), st1) := by rw [hxs]; exact e2
  have hl : xs.length = (chain n q).length := by rw [hxs]; exact chI_len n q
  have hs : Sm xs := fun a ha => by
    rw [hxs] at ha
    have := chI_ge q n qn a ha
    omega
  rw [← hxs] at hE hT hg
  clear hxs
  have hne : 1 ≤ xs.length := by
    cases xs with
    | nil => simp [T] at hT; omega
    | cons a r => simp
  have hlen : xs.length ≤ 1000 := by omega
  have lc := ahead_lc hlen hs st1 [some (.loc m), s1, some (.p (.int n)), some (.p (.int q)), some (.p (.tup (iD xs))), s5, none, s7, s8, s9, s10, s11, s12, s13, s14, s15] rfl rfl
  have hD : headD xs ≠ [] := by
    intro z
    have := headD_len xs
    rw [z] at this
    simp at this
    omega
  obtain ⟨k, hk⟩ : ∃ k, xs.length = k + 1 := ⟨xs.length - 1, by omega⟩
  have hlast : headD xs = ((List.range k).map fun i => T2 (P xs (i + 1)) (Q xs (i + 1))) ++ [T2 n q] := by
    unfold headD
    rw [hk, List.range_succ, List.map_append, ← hE, ← hT, ← P_full xs, ← Q_full xs, hk]
    rfl
  have at1 : atI (headD xs) (-1) = some (T2 n q) := by rw [hlast]; exact ix_m1
  have lc2 : ∀ sl0 : Slots, sl0.length = 16 → lcGo sl0 (.nm 7) yesT (binM ixF (varM 7) (constM (.int 0))) (headD xs) [] st1 = .ok (iD (tops 1 0 xs), st1) := by
    intro sl0 h16
    rw [lc_map (F := fstD) _ [] ?_]
    · rw [List.reverse_nil, List.nil_append, tops_head]
    · intro x hx
      obtain ⟨i, hi, rfl⟩ := List.mem_map.mp hx
      have g7 : (sl0.set 7 (some (.p (T2 (P xs (i + 1)) (Q xs (i + 1))))))[7]? = some (some (.p (T2 (P xs (i + 1)) (Q xs (i + 1))))) := List.getElem?_set_self (by omega)
      refine ⟨_, put_nm, ?_⟩
      rw [show fstD (T2 (P xs (i + 1)) (Q xs (i + 1))) = .int (P xs (i + 1)) from rfl]
      clear hx hi
      walk_at "ev"
  have lc2 := lc2 [some (.loc m), s1, some (.p (.int n)), some (.p (.int q)), some (.p (.tup (iD xs))), some (.p (.lst (headD xs))), s6, none, s8, s9, s10, s11, s12, s13, s14, s15] rfl
  have e3 := tops_ok xs (by omega) hs st1
  have tl : (tops 1 0 xs).length = xs.length := tops_len xs 1 0
  have same : m__law_same 8 [.p (.lst [T2 n q, .tup (.int 1 :: iD (tops 1 0 xs))]), .p (.lst [T2 n q, .tup (.int 1 :: iD (tops 1 0 xs))])] st1 = .ok (.p (.bl true), st1) := by
    refine same_d st1 _ ⟨by simp, fun x hx => ?_⟩
    simp only [List.mem_cons, List.not_mem_nil, or_false] at hx
    rcases hx with rfl | rfl
    · exact fin_t2 5 (fin_int _ _) (fin_int _ _)
    · exact fin_tints 5 (xs := 1 :: tops 1 0 xs) (by rw [List.length_cons, tl]; omega)
  obtain ⟨y8, y9, e4⟩ := nb_loop hg (by omega) st1 (some (.loc m)) s1 (some (.p (.int n))) (some (.p (.int q))) (some (.p (.tup (iD xs)))) (some (.p (.lst (headD xs)))) s6 s7 s10 s11 s12 s13 s14 s15 _ nb_all s8 s9
  obtain ⟨y10, y11, y12, y13, y14, e5⟩ := best_ds (n := n) (q := q) (by omega) q1 (by omega) hg hE hT hne hlen st1 (some (.loc m)) s1 (some (.p (.tup (iD xs)))) s6 s7 y8 y9 s15 q 0 (by omega) s10 s11 s12 s13 s14
  rw [show (1 + ((0 : Nat) : Int)) = 1 by rfl] at e5
  have e6 := mate_of_fraction_ok (w := .p (.tup [.int n, .int q])) (.inl rfl) fr (by omega) st1
  obtain ⟨ds, hds, e7⟩ := makers_ok (w := .p (.tup [.int n, .int ((n - q : Nat) : Int)])) (.inl rfl) fr2 (by omega) (by rw [show n - (n - q) = q by omega]; omega) (by omega) st1
  rw [show n - (n - q) = q by omega, ← hl] at hds
  refine ⟨st1, some (.p (.int n)), some (.p (.int q)), some (.p (.tup (iD xs))), some (.p (.lst (headD xs))), s6, s7, y8, y9, y10, y11, y12, y13, y14, some (.p (.lst ds)), ?_, h1⟩
  have b1 : ((n : Int) == 1) = false := by rw [beq_eq_false_iff_ne]; omega
  have g1 : -(2 ^ 62) ≤ (1 : Int) ∧ (1 : Int) < 2 ^ 62 ∧ -(2 ^ 62) ≤ ((xs.length : Int) + 1) ∧ ((xs.length : Int) + 1) < 2 ^ 62 := ⟨by decide, by decide, by omega, by omega⟩
  have g2 : (((xs.length : Int) + 1) - 1).toNat = xs.length := by omega
  have g3 : (rngD 1 xs.length).length ≤ 1000000 := by rw [rngD_len]; omega
  have g4 : -(2 ^ 62) ≤ (1 : Int) ∧ (1 : Int) < 2 ^ 62 ∧ -(2 ^ 62) ≤ ((q : Int) + 1) ∧ ((q : Int) + 1) < 2 ^ 62 := ⟨by decide, by decide, by omega, by omega⟩
  have g5 : (((q : Int) + 1) - 1).toNat = q := by omega
  have g6 : (headD xs).length ≤ 1000000 := by rw [headD_len]; omega
  have g7 : (iD xs).length = xs.length := len_iD xs
  have g8 : ([D.int 1].length + (iD (tops 1 0 xs)).length) ≤ 1000000 := by rw [len_iD, tl]; simp; omega
  have a1 : addF (.p (.lst [.int 1])) (.p (.lst (iD (tops 1 0 xs)))) st1 = .ok (.p (.lst (.int 1 :: iD (tops 1 0 xs))), st1) := add_ll g8
  have c1 := cut_one (headD xs)
  have n1 : (((ds.length : Nat) : Int) == (xs.length : Int) + 2) = true := by rw [beq_iff_eq]; omega
  clear hE hT hg hcl hl hs hne hlen hD hk hlast hds h1 h q1 qn nt gc fr fr2 tl g8
  unfold f__law_right_4
  walk_at "ev"

theorem loop66 (m N : Nat) : ∀ (l : List D) (C : Int) (st : Store), C + 2 * l.length ≤ 10000 → TN m N C st → ∀ (s1 s2 s3 s4 s5 s6 s7 s8 s9 s10 s11 s12 s13 s14 s15 : Option W), ∃ (st' : Store) (sl' : Slots),
    forGo (.nm 1) f__law_right_4 l [some (.loc m), s1, s2, s3, s4, s5, s6, s7, s8, s9, s10, s11, s12, s13, s14, s15] st = .ok (.nx, sl', st') := by
  intro l
  induction l with
  | nil => exact fun C st _ _ s1 s2 s3 s4 s5 s6 s7 s8 s9 s10 s11 s12 s13 s14 s15 => ⟨st, _, forGo_nil⟩
  | cons d l ih =>
    intro C st hC h s1 s2 s3 s4 s5 s6 s7 s8 s9 s10 s11 s12 s13 s14 s15
    rw [List.length_cons] at hC
    obtain ⟨st1, y2, y3, y4, y5, y6, y7, y8, y9, y10, y11, y12, y13, y14, y15, e, h1⟩ := body66 m N C (by omega) st h (some (.p d)) s2 s3 s4 s5 s6 s7 s8 s9 s10 s11 s12 s13 s14 s15
    obtain ⟨st', sl', e2⟩ := ih (C + 2) st1 (by omega) h1 (some (.p d)) y2 y3 y4 y5 y6 y7 y8 y9 y10 y11 y12 y13 y14 y15
    refine ⟨st', sl', ?_⟩
    rw [forGo_cons, put_nm]
    simp -implicitDefEqProofs -dsimp only [R.bd_ok, List.set_cons_succ, List.set_cons_zero]
    rw [e]
    simp -implicitDefEqProofs -dsimp only [R.bd_ok]
    exact e2
theorem right_ok (m : Nat) (st : Store) (h : Tin st m 0) : ∃ st' : Store, m__law_right [.loc m] st = .ok (.p (.bl true), st') := by
  obtain ⟨st', sl', e⟩ := loop66 m st.length (rngD 0 2) 0 st (by rw [rngD_len]; decide) ⟨h, rfl⟩ none none none none none none none none none none none none none none none
  have g1 : -(2 ^ 62) ≤ (2 : Int) ∧ (2 : Int) < 2 ^ 62 := by decide
  have g2 : Int.toNat 2 = 2 := rfl
  refine ⟨st'.take st.length, ?_⟩
  unfold m__law_right b__law_right
  walk_at "ev"
theorem run_ok (ns : List Int) (_h : ns.length ≤ 63) : ∃ st, m_law [.scr ns] [] = .ok (.p (.bl true), st) := by
  obtain ⟨cs, hne, hlen, ec⟩ := cells_ok ns 2 (by decide) (by decide) []
  replace ec : m__law_cells [.scr ns, .p (.int 2)] [] = .ok (.p (.lst (iD cs)), []) := ec
  obtain ⟨ds, st', e, hl, hq, _⟩ := lc_store (sl0 := [some (.scr ns), some (.p (.lst (iD cs))), none]) (t := .nm 2)
    (elt := callM m__law_right (consA (callM m__law_box (consA (varM 1) (consA (varM 2) nilA))) nilA))
    (Q := fun d => d = .bl true) (fun _ _ => True) (rngD 0 cs.length) [] 0 [] (fun x hx _ st _ _ => by
      obtain ⟨k, hk, rfl⟩ := List.mem_map.mp hx
      have hk := List.mem_range.mp hk
      obtain ⟨st1, e1, h1, _⟩ := box_ok cs k (by omega) st
      obtain ⟨st2, e2⟩ := right_ok _ _ h1
      rw [Int.zero_add]
      refine ⟨_, .bl true, st2, put_nm, ?_, rfl, trivial⟩
      clear hk hx h1
      walk_at "ev") trivial
  have hds : ds = (cs.map fun _ => true).map D.bl := by
    rw [rngD_len] at hl
    rw [List.map_map]
    apply List.ext_getElem (by rw [List.length_map]; exact hl)
    intro i h1 h2
    rw [hq _ (List.getElem_mem h1), List.getElem_map]
    rfl
  replace e : lcGo [some (.scr ns), some (.p (.lst (iD cs))), none] (.nm 2) yesT (callM m__law_right (consA (callM m__law_box (consA (varM 1) (consA (varM 2) nilA))) nilA)) (rngD 0 cs.length) [] [] = .ok ((cs.map fun _ => true).map D.bl, st') := by rw [e, hds]; rfl
  have g0 : (iD cs).length = cs.length := len_iD cs
  have g1 : -(2 ^ 62) ≤ (cs.length : Int) ∧ (cs.length : Int) < 2 ^ 62 := by omega
  have g2 : Int.toNat (cs.length : Int) = cs.length := Int.toNat_natCast _
  have g3 : (rngD 0 cs.length).length ≤ 1000000 := by rw [rngD_len]; omega
  have g4 : ((cs.map fun _ => true).all id) = true := by rw [List.all_map, List.all_eq_true]; intro _ _; rfl
  refine ⟨st'.take 0, ?_⟩
  have hz : ([] : Store).length = 0 := rfl
  clear hds hne hlen hl hq
  unfold m_law b_law
  walk_at "ev"

/-! ### where all stands -/
structure Tb (K : PySem.W.Frag) (mg : Str → Option Value) : Prop where
  b_abs : mg "abs" = none
  b_all : mg "all" = none
  b_bool : mg "bool" = none
  b_enumerate : mg "enumerate" = none
  b_int : mg "int" = none
  b_isinstance : mg "isinstance" = none
  b_len : mg "len" = none
  b_list : mg "list" = none
  b_range : mg "range" = none
  b_str : mg "str" = none
  b_tuple : mg "tuple" = none
  b_zip : mg "zip" = none
  c_MOST_TOLD_chains : ∃ t, mg "MOST_TOLD_chains" = some (.int 2000 t)
  c_MOST_TOLD_corners : ∃ t, mg "MOST_TOLD_corners" = some (.int 2000 t)
  h_is_number : Has K mg "is_number" s_is_number ["thing"]
  h_is_long : Has K mg "is_long" s_is_long ["thing", "length"]
  h_tupled : Has K mg "tupled" s_tupled ["value"]
  h_are_numbers : Has K mg "are_numbers" s_are_numbers ["thing"]
  h_are_from : Has K mg "are_from" s_are_from ["thing", "least"]
  h_is_row_of : Has K mg "is_row_of" s_is_row_of ["thing", "many", "least"]
  h_sure_row : Has K mg "sure_row" s_sure_row ["value"]
  h_common : Has K mg "common" s_common ["one", "other"]
  h_is_fraction : Has K mg "is_fraction" s_is_fraction ["thing"]
  h_sure_fraction : Has K mg "sure_fraction" s_sure_fraction ["value"]
  h_worth_in : Has K mg "worth_in" s_worth_in ["row"]
  h_worth : Has K mg "worth" s_worth ["row"]
  h_chain_in : Has K mg "chain_in" s_chain_in ["above", "below"]
  h_sure_short : Has K mg "sure_short" s_sure_short ["above", "below"]
  h_chain_of : Has K mg "chain_of" s_chain_of ["fraction"]
  h_tops_in : Has K mg "tops_in" s_tops_in ["row"]
  h_tops : Has K mg "tops" s_tops ["row"]
  h_makers_in : Has K mg "makers_in" s_makers_in ["above", "below"]
  h_makers : Has K mg "makers" s_makers ["fraction"]
  h_mate_of_fraction : Has K mg "mate_of_fraction" s_mate_of_fraction ["fraction"]
  h__law_box : Has K mg "_law_box" s__law_box ["script", "k"]
  h__law_take : Has K mg "_law_take" s__law_take ["tin", "below_so"]
  h__law_cells : Has K mg "_law_cells" s__law_cells ["script", "most_so"]
  h__law_same : Has K mg "_law_same" s__law_same ["got", "due"]
  h__law_gcd : Has K mg "_law_gcd" s__law_gcd ["one", "two"]
  h__law_fraction : Has K mg "_law_fraction" s__law_fraction ["tin", "top_so"]
  h__law_right : Has K mg "_law_right" s__law_right ["tin"]
  h_law : Has K mg "law" s_law ["script"]
/-! ### the ties -/
theorem sc_is_number : FnScope ["thing"] ["thing"] (defScope s_is_number) := ⟨rfl, rfl, rfl, by decide +kernel, rfl, by decide +kernel, by decide +kernel⟩
theorem sc_is_long : FnScope ["thing", "length"] ["thing", "length"] (defScope s_is_long) := ⟨rfl, rfl, rfl, by decide +kernel, rfl, by decide +kernel, by decide +kernel⟩
theorem sc_tupled : FnScope ["value", "own"] ["value"] (defScope s_tupled) := ⟨rfl, rfl, rfl, by decide +kernel, rfl, by decide +kernel, by decide +kernel⟩
theorem sc_are_numbers : FnScope ["thing", "own"] ["thing"] (defScope s_are_numbers) := ⟨rfl, rfl, rfl, by decide +kernel, rfl, by decide +kernel, by decide +kernel⟩
theorem sc_are_from : FnScope ["thing", "least", "own"] ["thing", "least"] (defScope s_are_from) := ⟨rfl, rfl, rfl, by decide +kernel, rfl, by decide +kernel, by decide +kernel⟩
theorem sc_is_row_of : FnScope ["thing", "many", "least"] ["thing", "many", "least"] (defScope s_is_row_of) := ⟨rfl, rfl, rfl, by decide +kernel, rfl, by decide +kernel, by decide +kernel⟩
theorem sc_sure_row : FnScope ["value", "own"] ["value"] (defScope s_sure_row) := ⟨rfl, rfl, rfl, by decide +kernel, rfl, by decide +kernel, by decide +kernel⟩
theorem sc_common : FnScope ["one", "other", "near", "far"] ["one", "other"] (defScope s_common) := ⟨rfl, rfl, rfl, by decide +kernel, rfl, by decide +kernel, by decide +kernel⟩
theorem sc_is_fraction : FnScope ["thing"] ["thing"] (defScope s_is_fraction) := ⟨rfl, rfl, rfl, by decide +kernel, rfl, by decide +kernel, by decide +kernel⟩
theorem sc_sure_fraction : FnScope ["value", "own"] ["value"] (defScope s_sure_fraction) := ⟨rfl, rfl, rfl, by decide +kernel, rfl, by decide +kernel, by decide +kernel⟩
theorem sc_worth_in : FnScope ["row", "above", "below", "own"] ["row"] (defScope s_worth_in) := ⟨rfl, rfl, rfl, by decide +kernel, rfl, by decide +kernel, by decide +kernel⟩
theorem sc_worth : FnScope ["row"] ["row"] (defScope s_worth) := ⟨rfl, rfl, rfl, by decide +kernel, rfl, by decide +kernel, by decide +kernel⟩
theorem sc_chain_in : FnScope ["above", "below", "found", "own"] ["above", "below"] (defScope s_chain_in) := ⟨rfl, rfl, rfl, by decide +kernel, rfl, by decide +kernel, by decide +kernel⟩
theorem sc_sure_short : FnScope ["above", "below", "found"] ["above", "below"] (defScope s_sure_short) := ⟨rfl, rfl, rfl, by decide +kernel, rfl, by decide +kernel, by decide +kernel⟩
theorem sc_chain_of : FnScope ["fraction", "above", "below"] ["fraction"] (defScope s_chain_of) := ⟨rfl, rfl, rfl, by decide +kernel, rfl, by decide +kernel, by decide +kernel⟩
theorem sc_tops_in : FnScope ["row", "found", "last", "own"] ["row"] (defScope s_tops_in) := ⟨rfl, rfl, rfl, by decide +kernel, rfl, by decide +kernel, by decide +kernel⟩
theorem sc_tops : FnScope ["row"] ["row"] (defScope s_tops) := ⟨rfl, rfl, rfl, by decide +kernel, rfl, by decide +kernel, by decide +kernel⟩
theorem sc_makers_in : FnScope ["above", "below", "found", "last", "now", "times"] ["above", "below"] (defScope s_makers_in) := ⟨rfl, rfl, rfl, by decide +kernel, rfl, by decide +kernel, by decide +kernel⟩
theorem sc_makers : FnScope ["fraction", "above", "below"] ["fraction"] (defScope s_makers) := ⟨rfl, rfl, rfl, by decide +kernel, rfl, by decide +kernel, by decide +kernel⟩
theorem sc_mate_of_fraction : FnScope ["fraction", "above", "below"] ["fraction"] (defScope s_mate_of_fraction) := ⟨rfl, rfl, rfl, by decide +kernel, rfl, by decide +kernel, by decide +kernel⟩
theorem sc__law_box : FnScope ["script", "k", "bit_so"] ["script", "k"] (defScope s__law_box) := ⟨rfl, rfl, rfl, by decide +kernel, rfl, by decide +kernel, by decide +kernel⟩
theorem sc__law_take : FnScope ["tin", "below_so", "drawn_so", "once_so", "wide_so", "twice_so"] ["tin", "below_so"] (defScope s__law_take) := ⟨rfl, rfl, rfl, by decide +kernel, rfl, by decide +kernel, by decide +kernel⟩
theorem sc__law_cells : FnScope ["script", "most_so", "cells_so", "k", "bit_so", "at_so"] ["script", "most_so"] (defScope s__law_cells) := ⟨rfl, rfl, rfl, by decide +kernel, rfl, by decide +kernel, by decide +kernel⟩
theorem sc__law_same : FnScope ["got", "due", "mine", "its"] ["got", "due"] (defScope s__law_same) := ⟨rfl, rfl, rfl, by decide +kernel, rfl, by decide +kernel, by decide +kernel⟩
theorem sc__law_gcd : FnScope ["one", "two", "lap"] ["one", "two"] (defScope s__law_gcd) := ⟨rfl, rfl, rfl, by decide +kernel, rfl, by decide +kernel, by decide +kernel⟩
theorem sc__law_fraction : FnScope ["tin", "top_so", "n", "q", "shared_so"] ["tin", "top_so"] (defScope s__law_fraction) := ⟨rfl, rfl, rfl, by decide +kernel, rfl, by decide +kernel, by decide +kernel⟩
theorem sc__law_right : FnScope ["tin", "lap", "n", "q", "chain_so", "ahead_so", "k", "own", "one", "two", "d", "best_so", "below_so", "above_so", "told_so", "rows_so"] ["tin"] (defScope s__law_right) := ⟨rfl, rfl, rfl, by decide +kernel, rfl, by decide +kernel, by decide +kernel⟩
theorem sc_law : FnScope ["script", "cells_so", "k"] ["script"] (defScope s_law) := ⟨rfl, rfl, rfl, by decide +kernel, rfl, by decide +kernel, by decide +kernel⟩
section
variable {P : Program} {w : World} {K : PySem.W.Frag} {mg : Str → Option Value} {base : Heap}
theorem ok_is_number (T : Tb K mg) : Fnk P w K mg base 1 "is_number" s_is_number ["thing"] m_is_number 1 :=
  T.h_is_number.okP (N := ["thing"]) (k := 0) (body := b_is_number) sc_is_number rfl fun f cdv A outer s H E hr => (s_one (s_ret (m_and (m_isi (u := .int) (by rfl) T.b_isinstance (m_var 0) (by rfl) T.b_int bt_int (by decide) (by decide)) (m_one (m_not (m_isi (u := .bool) (by rfl) T.b_isinstance (m_var 0) (by rfl) T.b_bool bt_bool (by decide) (by decide)))))))
theorem ok_is_long (T : Tb K mg) : Fnk P w K mg base 1 "is_long" s_is_long ["thing", "length"] m_is_long 2 :=
  T.h_is_long.okP (N := ["thing", "length"]) (k := 0) (body := b_is_long) sc_is_long rfl fun f cdv A outer s H E hr => (s_one (s_ret (m_and (m_isi (u := .tup) (by rfl) T.b_isinstance (m_var 0) (by rfl) T.b_tuple bt_tuple (by decide) (by decide)) (m_one (m_cmp (o_eq hr.units) (m_callB c_len (by rfl) T.b_len bt_len (a_cons (m_var 0) a_nil)) (m_var 1) (nomark _))))))
theorem ok_tupled (T : Tb K mg) : ∀ n : Nat, Fnk P w K mg base (0 + n) "tupled" s_tupled ["value"] (m_tupled n) 1
  | 0 => T.h_tupled.stuck rfl
  | n + 1 => T.h_tupled.okP (N := ["value", "own"]) (k := 0 + n) (body := b_tupled (m_tupled n)) sc_tupled rfl fun f cdv A outer s H E hr => (s_one (s_ret (m_ifx (t_truth (m_isi2 (u1 := .lst) (u2 := .tup) (by rfl) T.b_isinstance (m_var 0) (by rfl) T.b_list bt_list (by decide) (by decide) (by rfl) T.b_tuple bt_tuple (by decide) (by decide))) (m_callTy c_tuple (by rfl) T.b_tuple bt_tuple (a_cons (m_lc (li_lc (own := [("own", 1)]) rfl sc_tupled.nd (i_seq (m_var 0)) (blkOk_by (by kernel_rfl)) (fun _ _ _ _ _ => (g_nm (i := 1) sc_tupled.nd rfl (by first | exact .inl rfl | exact .inr rfl))) (fun _ _ _ _ _ => ts_nil) (fun _ _ _ _ _ => (c_fn (ok_tupled T n) hr (by rfl) (a_cons (m_var 1) a_nil) (lenA_cons lenA_nil))))) a_nil)) (m_var 0))))
theorem ok_are_numbers (T : Tb K mg) : Fnk P w K mg base 2 "are_numbers" s_are_numbers ["thing"] m_are_numbers 1 :=
  T.h_are_numbers.okP (N := ["thing", "own"]) (k := 1) (body := b_are_numbers) sc_are_numbers rfl fun f cdv A outer s H E hr => (s_one (s_ret (m_and (m_isi (u := .tup) (by rfl) T.b_isinstance (m_var 0) (by rfl) T.b_tuple bt_tuple (by decide) (by decide)) (m_one (m_callB (c_all rfl) (by rfl) T.b_all bt_all (a_cons (m_lc (li_lc (own := [("own", 1)]) rfl sc_are_numbers.nd (i_seq (m_var 0)) (blkOk_by (by kernel_rfl)) (fun _ _ _ _ _ => (g_nm (i := 1) sc_are_numbers.nd rfl (by first | exact .inl rfl | exact .inr rfl))) (fun _ _ _ _ _ => ts_nil) (fun _ _ _ _ _ => (c_fn ((ok_is_number T).mono (by decide)) hr (by rfl) (a_cons (m_var 1) a_nil) (lenA_cons lenA_nil))))) a_nil))))))
theorem ok_are_from (T : Tb K mg) : Fnk P w K mg base 3 "are_from" s_are_from ["thing", "least"] m_are_from 2 :=
  T.h_are_from.okP (N := ["thing", "least", "own"]) (k := 2) (body := b_are_from) sc_are_from rfl fun f cdv A outer s H E hr => (s_one (s_ret (m_and (c_fn ((ok_are_numbers T).mono (by decide)) hr (by rfl) (a_cons (m_var 0) a_nil) (lenA_cons lenA_nil)) (m_one (m_callB (c_all rfl) (by rfl) T.b_all bt_all (a_cons (m_lc (li_lc (own := [("own", 2)]) rfl sc_are_from.nd (i_seq (m_var 0)) (blkOk_by (by kernel_rfl)) (fun _ _ _ _ _ => (g_nm (i := 2) sc_are_from.nd rfl (by first | exact .inl rfl | exact .inr rfl))) (fun _ _ _ _ _ => ts_nil) (fun _ _ _ _ _ => (m_cmp o_ge (m_var 2) (m_var 1) (nomark _))))) a_nil))))))
theorem ok_is_row_of (T : Tb K mg) : Fnk P w K mg base 4 "is_row_of" s_is_row_of ["thing", "many", "least"] m_is_row_of 3 :=
  T.h_is_row_of.okP (N := ["thing", "many", "least"]) (k := 3) (body := b_is_row_of) sc_is_row_of rfl fun f cdv A outer s H E hr => (s_cons (s_if (t_cmp o_is (m_var 2) (m_const pe_non fun _ _ => repNon) (nomark _)) (s_one (s_ret (m_and (c_fn ((ok_is_long T).mono (by decide)) hr (by rfl) (a_cons (m_var 0) (a_cons (m_var 1) a_nil)) (lenA_cons (lenA_cons lenA_nil))) (m_one (c_fn ((ok_are_numbers T).mono (by decide)) hr (by rfl) (a_cons (m_var 0) a_nil) (lenA_cons lenA_nil)))))) s_nil)
      (s_one (s_ret (m_and (c_fn ((ok_is_long T).mono (by decide)) hr (by rfl) (a_cons (m_var 0) (a_cons (m_var 1) a_nil)) (lenA_cons (lenA_cons lenA_nil))) (m_one (c_fn ((ok_are_from T).mono (by decide)) hr (by rfl) (a_cons (m_var 0) (a_cons (m_var 2) a_nil)) (lenA_cons (lenA_cons lenA_nil))))))))
theorem ok_sure_row (T : Tb K mg) : Fnk P w K mg base 9 "sure_row" s_sure_row ["value"] m_sure_row 1 :=
  T.h_sure_row.okP (N := ["value", "own"]) (k := 8) (body := b_sure_row) sc_sure_row rfl fun f cdv A outer s H E hr => (s_cons (s_set (i := 1) sc_sure_row.nd rfl (by first | exact .inl rfl | exact .inr rfl) (c_fn ((ok_tupled T 8).mono (by decide)) hr (by rfl) (a_cons (m_var 0) a_nil) (lenA_cons lenA_nil)))
      (s_cons (s_if (t_not (t_truth (c_fn ((ok_are_numbers T).mono (by decide)) hr (by rfl) (a_cons (m_var 1) a_nil) (lenA_cons lenA_nil)))) (s_one (s_raise (c := 5))) s_nil)
      (s_one (s_ret (m_var 1)))))
theorem ok_common (T : Tb K mg) : Fnk P w K mg base 1 "common" s_common ["one", "other"] m_common 2 :=
  T.h_common.okP (N := ["one", "other", "near", "far"]) (k := 0) (body := b_common) sc_common rfl fun f cdv A outer s H E hr => (s_cons (s_par2 (i := 2) (j := 3) rfl sc_common.nd rfl rfl (by decide) rfl rfl (a_cons (m_callB c_abs (by rfl) T.b_abs bt_abs (a_cons (m_var 0) a_nil)) (a_cons (m_callB c_abs (by rfl) T.b_abs bt_abs (a_cons (m_var 1) a_nil)) a_nil)) (by rfl))
      (s_cons (s_while (n := 1000000) PassesOwn.never (t_cmp (o_ne hr.units) (m_var 3) (m_const pe_int fun _ _ => repInt _) (nomark _)) (s_one (s_par2 (i := 2) (j := 3) rfl sc_common.nd rfl rfl (by decide) rfl rfl (a_cons (m_var 3) (a_cons (m_bin o_mod (m_var 2) (m_var 3)) a_nil)) (by rfl))))
      (s_one (s_ret (m_var 2)))))
theorem ok_is_fraction (T : Tb K mg) : Fnk P w K mg base 5 "is_fraction" s_is_fraction ["thing"] m_is_fraction 1 :=
  T.h_is_fraction.okP (N := ["thing"]) (k := 4) (body := b_is_fraction) sc_is_fraction rfl fun f cdv A outer s H E hr => (s_cons (s_if (PW.pt (t_or (t_not (t_truth (c_fn ((ok_is_row_of T).mono (by decide)) hr (by rfl) (a_cons (m_var 0) (a_cons (m_const pe_int fun _ _ => repInt _) (a_cons (m_const pe_int fun _ _ => repInt _) a_nil))) (lenA_cons (lenA_cons (lenA_cons lenA_nil)))))) (t_or1 (t_not (t_cmp o_lt (m_ix (m_var 0) (m_const pe_int fun _ _ => repInt _)) (m_ix (m_var 0) (m_const pe_int fun _ _ => repInt _)) (nomark _)))))) (s_one (s_ret (m_const pe_bl fun _ _ => repBl _))) s_nil)
      (s_one (s_ret (m_cmp (o_eq hr.units) (c_fn ((ok_common T).mono (by decide)) hr (by rfl) (a_cons (m_ix (m_var 0) (m_const pe_int fun _ _ => repInt _)) (a_cons (m_ix (m_var 0) (m_const pe_int fun _ _ => repInt _)) a_nil)) (lenA_cons (lenA_cons lenA_nil))) (m_const pe_int fun _ _ => repInt _) (nomark _)))))
theorem ok_sure_fraction (T : Tb K mg) : Fnk P w K mg base 9 "sure_fraction" s_sure_fraction ["value"] m_sure_fraction 1 :=
  T.h_sure_fraction.okP (N := ["value", "own"]) (k := 8) (body := b_sure_fraction) sc_sure_fraction rfl fun f cdv A outer s H E hr => (s_cons (s_set (i := 1) sc_sure_fraction.nd rfl (by first | exact .inl rfl | exact .inr rfl) (c_fn ((ok_tupled T 8).mono (by decide)) hr (by rfl) (a_cons (m_var 0) a_nil) (lenA_cons lenA_nil)))
      (s_cons (s_if (t_not (t_truth (c_fn ((ok_is_fraction T).mono (by decide)) hr (by rfl) (a_cons (m_var 1) a_nil) (lenA_cons lenA_nil)))) (s_one (s_raise (c := 5))) s_nil)
      (s_one (s_ret (m_var 1)))))
theorem ok_worth_in (T : Tb K mg) : Fnk P w K mg base 1 "worth_in" s_worth_in ["row"] m_worth_in 1 :=
  T.h_worth_in.okP (N := ["row", "above", "below", "own"]) (k := 0) (body := b_worth_in) sc_worth_in rfl fun f cdv A outer s H E hr => (s_cons (s_parT (is := [1, 2]) rfl (n_cons (pg_name (i := 1) sc_worth_in.nd rfl (by first | exact .inl rfl | exact .inr rfl)) (n_cons (pg_name (i := 2) sc_worth_in.nd rfl (by first | exact .inl rfl | exact .inr rfl)) n_nil)) (a_cons (m_const pe_int fun _ _ => repInt _) (a_cons (m_const pe_int fun _ _ => repInt _) a_nil)) (lenA_cons (lenA_cons lenA_nil)) (by decide))
      (s_cons (s_for PassesOwn.never rfl (i_seq (m_rev (m_var 0))) (g_nm (i := 3) sc_worth_in.nd rfl (by first | exact .inl rfl | exact .inr rfl)) (s_one (s_par2 (i := 1) (j := 2) rfl sc_worth_in.nd rfl rfl (by decide) rfl rfl (a_cons (m_bin o_sub (m_bin o_mul (m_var 3) (m_var 1)) (m_var 2)) (a_cons (m_var 1) a_nil)) (by rfl))))
      (s_one (s_ret (m_tup (a_cons (m_var 1) (a_cons (m_var 2) a_nil)) (lenA_cons (lenA_cons lenA_nil)) (by decide))))))
theorem ok_worth (T : Tb K mg) : Fnk P w K mg base 10 "worth" s_worth ["row"] m_worth 1 :=
  T.h_worth.okP (N := ["row"]) (k := 9) (body := b_worth) sc_worth rfl fun f cdv A outer s H E hr => (s_one (s_ret (c_fn ((ok_worth_in T).mono (by decide)) hr (by rfl) (a_cons (c_fn ((ok_sure_row T).mono (by decide)) hr (by rfl) (a_cons (m_var 0) a_nil) (lenA_cons lenA_nil)) a_nil) (lenA_cons lenA_nil))))
theorem ok_chain_in (T : Tb K mg) : Fnk P w K mg base 1 "chain_in" s_chain_in ["above", "below"] m_chain_in 2 :=
  T.h_chain_in.okP (N := ["above", "below", "found", "own"]) (k := 0) (body := b_chain_in) sc_chain_in rfl fun f cdv A outer s H E hr => (s_cons (s_set (i := 2) sc_chain_in.nd rfl (by first | exact .inl rfl | exact .inr rfl) (m_new a_nil lenA_nil (by decide)))
      (s_cons (s_while (n := 1000000) PassesOwn.never (PW.pt (t_and (t_cmp (o_ne hr.units) (m_var 1) (m_const pe_int fun _ _ => repInt _) (nomark _)) (t_and1 (t_cmp o_le (m_callB c_len (by rfl) T.b_len bt_len (a_cons (m_var 2) a_nil)) (m_glob (by rfl) T.c_MOST_TOLD_chains) (nomark _))))) (s_cons (s_set (i := 3) sc_chain_in.nd rfl (by first | exact .inl rfl | exact .inr rfl) (m_un u_neg (m_bin o_div (m_un u_neg (m_var 0)) (m_var 1))))
      (s_cons (s_drop (m_app (m_var 2) (m_var 3)))
      (s_one (s_par2 (i := 0) (j := 1) rfl sc_chain_in.nd rfl rfl (by decide) rfl rfl (a_cons (m_var 1) (a_cons (m_bin o_sub (m_bin o_mul (m_var 3) (m_var 1)) (m_var 0)) a_nil)) (by rfl))))))
      (s_one (s_ret (m_callTy c_tuple (by rfl) T.b_tuple bt_tuple (a_cons (m_var 2) a_nil))))))
theorem ok_sure_short (T : Tb K mg) : Fnk P w K mg base 2 "sure_short" s_sure_short ["above", "below"] m_sure_short 2 :=
  T.h_sure_short.okP (N := ["above", "below", "found"]) (k := 1) (body := b_sure_short) sc_sure_short rfl fun f cdv A outer s H E hr => (s_cons (s_set (i := 2) sc_sure_short.nd rfl (by first | exact .inl rfl | exact .inr rfl) (c_fn ((ok_chain_in T).mono (by decide)) hr (by rfl) (a_cons (m_var 0) (a_cons (m_var 1) a_nil)) (lenA_cons (lenA_cons lenA_nil))))
      (s_cons (s_if (t_cmp o_gt (m_callB c_len (by rfl) T.b_len bt_len (a_cons (m_var 2) a_nil)) (m_glob (by rfl) T.c_MOST_TOLD_chains) (nomark _)) (s_one (s_raise (c := 4))) s_nil)
      (s_one (s_ret (m_var 2)))))
theorem ok_chain_of (T : Tb K mg) : Fnk P w K mg base 10 "chain_of" s_chain_of ["fraction"] m_chain_of 1 :=
  T.h_chain_of.okP (N := ["fraction", "above", "below"]) (k := 9) (body := b_chain_of) sc_chain_of rfl fun f cdv A outer s H E hr => (s_cons (s_asg (c_fn ((ok_sure_fraction T).mono (by decide)) hr (by rfl) (a_cons (m_var 0) a_nil) (lenA_cons lenA_nil)) (g_tp rfl (gs_cons (g_nm (i := 1) sc_chain_of.nd rfl (by first | exact .inl rfl | exact .inr rfl)) (gs_cons (g_nm (i := 2) sc_chain_of.nd rfl (by first | exact .inl rfl | exact .inr rfl)) gs_nil))))
      (s_one (s_ret (c_fn ((ok_sure_short T).mono (by decide)) hr (by rfl) (a_cons (m_var 1) (a_cons (m_var 2) a_nil)) (lenA_cons (lenA_cons lenA_nil))))))
theorem ok_tops_in (T : Tb K mg) : Fnk P w K mg base 1 "tops_in" s_tops_in ["row"] m_tops_in 1 :=
  T.h_tops_in.okP (N := ["row", "found", "last", "own"]) (k := 0) (body := b_tops_in) sc_tops_in rfl fun f cdv A outer s H E hr => (s_cons (s_par2 (i := 1) (j := 2) rfl sc_tops_in.nd rfl rfl (by decide) rfl rfl (a_cons (m_new (a_cons (m_const pe_int fun _ _ => repInt _) a_nil) (lenA_cons lenA_nil) (by decide)) (a_cons (m_const pe_int fun _ _ => repInt _) a_nil)) (by rfl))
      (s_cons (s_for PassesOwn.never rfl (i_seq (m_var 0)) (g_nm (i := 3) sc_tops_in.nd rfl (by first | exact .inl rfl | exact .inr rfl)) (s_cons (s_drop (m_app (m_var 1) (m_bin o_sub (m_bin o_mul (m_var 3) (m_ix (m_var 1) (m_un u_neg (m_const pe_int fun _ _ => repInt _)))) (m_var 2))))
      (s_one (s_set (i := 2) sc_tops_in.nd rfl (by first | exact .inl rfl | exact .inr rfl) (m_ix (m_var 1) (m_un u_neg (m_const pe_int fun _ _ => repInt _)))))))
      (s_one (s_ret (m_var 1)))))
theorem ok_tops (T : Tb K mg) : Fnk P w K mg base 10 "tops" s_tops ["row"] m_tops 1 :=
  T.h_tops.okP (N := ["row"]) (k := 9) (body := b_tops) sc_tops rfl fun f cdv A outer s H E hr => (s_one (s_ret (m_callTy c_tuple (by rfl) T.b_tuple bt_tuple (a_cons (c_fn ((ok_tops_in T).mono (by decide)) hr (by rfl) (a_cons (c_fn ((ok_sure_row T).mono (by decide)) hr (by rfl) (a_cons (m_var 0) a_nil) (lenA_cons lenA_nil)) a_nil) (lenA_cons lenA_nil)) a_nil))))
theorem ok_makers_in (T : Tb K mg) : Fnk P w K mg base 1 "makers_in" s_makers_in ["above", "below"] m_makers_in 2 :=
  T.h_makers_in.okP (N := ["above", "below", "found", "last", "now", "times"]) (k := 0) (body := b_makers_in) sc_makers_in rfl fun f cdv A outer s H E hr => (s_cons (s_set (i := 2) sc_makers_in.nd rfl (by first | exact .inl rfl | exact .inr rfl) (m_new (a_cons (m_tup (a_cons (m_var 0) (a_cons (m_const pe_int fun _ _ => repInt _) a_nil)) (lenA_cons (lenA_cons lenA_nil)) (by decide)) a_nil) (lenA_cons lenA_nil) (by decide)))
      (s_cons (s_if (t_cmp (o_eq hr.units) (m_var 0) (m_const pe_int fun _ _ => repInt _) (nomark _)) (s_one (s_ret (m_bin o_add (m_var 2) (m_lst (a_cons (m_tup (a_cons (m_const pe_int fun _ _ => repInt _) (a_cons (m_const pe_int fun _ _ => repInt _) a_nil)) (lenA_cons (lenA_cons lenA_nil)) (by decide)) a_nil) (lenA_cons lenA_nil) (by decide))))) s_nil)
      (s_cons (s_par2 (i := 3) (j := 4) rfl sc_makers_in.nd rfl rfl (by decide) rfl rfl (a_cons (m_tup (a_cons (m_var 0) (a_cons (m_const pe_int fun _ _ => repInt _) a_nil)) (lenA_cons (lenA_cons lenA_nil)) (by decide)) (a_cons (m_tup (a_cons (m_bin o_sub (m_var 0) (m_var 1)) (a_cons (m_const pe_int fun _ _ => repInt _) a_nil)) (lenA_cons (lenA_cons lenA_nil)) (by decide)) a_nil)) (by rfl))
      (s_cons (s_while (n := 1000000) PassesOwn.never (t_cmp o_gt (m_ix (m_var 4) (m_const pe_int fun _ _ => repInt _)) (m_const pe_int fun _ _ => repInt _) (nomark _)) (s_cons (s_drop (m_app (m_var 2) (m_var 4)))
      (s_cons (s_if (t_cmp o_ge (m_callB c_len (by rfl) T.b_len bt_len (a_cons (m_var 2) a_nil)) (m_glob (by rfl) T.c_MOST_TOLD_corners) (nomark _)) (s_one (s_raise (c := 4))) s_nil)
      (s_cons (s_set (i := 5) sc_makers_in.nd rfl (by first | exact .inl rfl | exact .inr rfl) (m_un u_neg (m_bin o_div (m_un u_neg (m_ix (m_var 3) (m_const pe_int fun _ _ => repInt _))) (m_ix (m_var 4) (m_const pe_int fun _ _ => repInt _)))))
      (s_one (s_par2 (i := 3) (j := 4) rfl sc_makers_in.nd rfl rfl (by decide) rfl rfl (a_cons (m_var 4) (a_cons (m_tup (a_cons (m_bin o_sub (m_bin o_mul (m_var 5) (m_ix (m_var 4) (m_const pe_int fun _ _ => repInt _))) (m_ix (m_var 3) (m_const pe_int fun _ _ => repInt _))) (a_cons (m_bin o_sub (m_bin o_mul (m_var 5) (m_ix (m_var 4) (m_const pe_int fun _ _ => repInt _))) (m_ix (m_var 3) (m_const pe_int fun _ _ => repInt _))) a_nil)) (lenA_cons (lenA_cons lenA_nil)) (by decide)) a_nil)) (by rfl)))))))
      (s_one (s_ret (m_bin o_add (m_var 2) (m_lst (a_cons (m_var 4) a_nil) (lenA_cons lenA_nil) (by decide)))))))))
theorem ok_makers (T : Tb K mg) : Fnk P w K mg base 10 "makers" s_makers ["fraction"] m_makers 1 :=
  T.h_makers.okP (N := ["fraction", "above", "below"]) (k := 9) (body := b_makers) sc_makers rfl fun f cdv A outer s H E hr => (s_cons (s_asg (c_fn ((ok_sure_fraction T).mono (by decide)) hr (by rfl) (a_cons (m_var 0) a_nil) (lenA_cons lenA_nil)) (g_tp rfl (gs_cons (g_nm (i := 1) sc_makers.nd rfl (by first | exact .inl rfl | exact .inr rfl)) (gs_cons (g_nm (i := 2) sc_makers.nd rfl (by first | exact .inl rfl | exact .inr rfl)) gs_nil))))
      (s_one (s_ret (c_fn ((ok_makers_in T).mono (by decide)) hr (by rfl) (a_cons (m_var 1) (a_cons (m_var 2) a_nil)) (lenA_cons (lenA_cons lenA_nil))))))
theorem ok_mate_of_fraction (T : Tb K mg) : Fnk P w K mg base 10 "mate_of_fraction" s_mate_of_fraction ["fraction"] m_mate_of_fraction 1 :=
  T.h_mate_of_fraction.okP (N := ["fraction", "above", "below"]) (k := 9) (body := b_mate_of_fraction) sc_mate_of_fraction rfl fun f cdv A outer s H E hr => (s_cons (s_asg (c_fn ((ok_sure_fraction T).mono (by decide)) hr (by rfl) (a_cons (m_var 0) a_nil) (lenA_cons lenA_nil)) (g_tp rfl (gs_cons (g_nm (i := 1) sc_mate_of_fraction.nd rfl (by first | exact .inl rfl | exact .inr rfl)) (gs_cons (g_nm (i := 2) sc_mate_of_fraction.nd rfl (by first | exact .inl rfl | exact .inr rfl)) gs_nil))))
      (s_one (s_ret (m_ifx (t_cmp o_gt (m_var 1) (m_const pe_int fun _ _ => repInt _) (nomark _)) (m_tup (a_cons (m_var 1) (a_cons (m_bin o_sub (m_var 1) (m_var 2)) a_nil)) (lenA_cons (lenA_cons lenA_nil)) (by decide)) (m_tup (a_cons (m_const pe_int fun _ _ => repInt _) (a_cons (m_const pe_int fun _ _ => repInt _) a_nil)) (lenA_cons (lenA_cons lenA_nil)) (by decide))))))
theorem ok__law_box (T : Tb K mg) : Fnk P w K mg base 1 "_law_box" s__law_box ["script", "k"] m__law_box 2 :=
  T.h__law_box.okC (N := ["script", "k", "bit_so"]) (k := 0) (body := b__law_box) sc__law_box rfl fun f cdv A outer s H E hr => (s_cons (s_set (i := 2) sc__law_box.nd rfl (by first | exact .inl rfl | exact .inr rfl) (m_ifx (t_cmp o_lt (m_var 1) (m_callB c_len (by rfl) T.b_len bt_len (a_cons (m_var 0) a_nil)) (nomark _)) (m_ix (m_var 0) (m_var 1)) (m_const pe_int fun _ _ => repInt _)))
      (s_one (s_ret (m_new (a_cons (m_bin o_mul (m_callB c_abs (by rfl) T.b_abs bt_abs (a_cons (m_var 2) a_nil)) (m_callTy c_int (by rfl) T.b_int bt_int (a_cons (m_cmp o_ge (m_callB c_abs (by rfl) T.b_abs bt_abs (a_cons (m_var 2) a_nil)) (m_bin o_pow (m_const pe_int fun _ _ => repInt _) (m_const pe_int fun _ _ => repInt _)) (nomark _)) a_nil))) (a_cons (m_bin o_add (m_bin o_add (m_bin o_mod (m_callTy c_int (by rfl) T.b_int bt_int (a_cons (m_var 2) a_nil)) (m_const pe_int fun _ _ => repInt _)) (m_bin o_mul (m_const pe_int fun _ _ => repInt _) (m_var 1))) (m_const pe_int fun _ _ => repInt _)) (a_cons (m_const pe_int fun _ _ => repInt _) a_nil))) (lenA_cons (lenA_cons (lenA_cons lenA_nil))) (by decide)))))
theorem ok__law_take (T : Tb K mg) : Fnk P w K mg base 1 "_law_take" s__law_take ["tin", "below_so"] m__law_take 2 :=
  T.h__law_take.okP (N := ["tin", "below_so", "drawn_so", "once_so", "wide_so", "twice_so"]) (k := 0) (body := b__law_take) sc__law_take rfl fun f cdv A outer s H E hr => (s_cons (s_if (t_cmp o_gt (m_ix (m_var 0) (m_const pe_int fun _ _ => repInt _)) (m_const pe_int fun _ _ => repInt _) (nomark _)) (s_cons (s_set (i := 2) sc__law_take.nd rfl (by first | exact .inl rfl | exact .inr rfl) (m_bin o_mod (m_callTy c_int (by rfl) T.b_int bt_int (a_cons (m_ix (m_var 0) (m_const pe_int fun _ _ => repInt _)) a_nil)) (m_var 1)))
      (s_cons (s_put (m_bin o_div (m_ix (m_var 0) (m_const pe_int fun _ _ => repInt _)) (m_var 1)) (m_var 0) (m_const pe_int fun _ _ => repInt _))
      (s_one (s_ret (m_var 2))))) s_nil)
      (s_cons (s_put (m_bin o_add (m_ix (m_var 0) (m_const pe_int fun _ _ => repInt _)) (m_const pe_int fun _ _ => repInt _)) (m_var 0) (m_const pe_int fun _ _ => repInt _))
      (s_cons (s_set (i := 3) sc__law_take.nd rfl (by first | exact .inl rfl | exact .inr rfl) (m_bin o_mod (m_callTy c_int (by rfl) T.b_int bt_int (a_cons (m_bin o_mul (m_bin o_add (m_ix (m_var 0) (m_const pe_int fun _ _ => repInt _)) (m_bin o_mul (m_const pe_int fun _ _ => repInt _) (m_ix (m_var 0) (m_const pe_int fun _ _ => repInt _)))) (m_bin o_add (m_const pe_int fun _ _ => repInt _) (m_ix (m_var 0) (m_const pe_int fun _ _ => repInt _)))) a_nil)) (m_const pe_int fun _ _ => repInt _)))
      (s_cons (s_set (i := 4) sc__law_take.nd rfl (by first | exact .inl rfl | exact .inr rfl) (m_bin o_add (m_bin o_mod (m_callTy c_int (by rfl) T.b_int bt_int (a_cons (m_var 3) a_nil)) (m_const pe_int fun _ _ => repInt _)) (m_const pe_int fun _ _ => repInt _)))
      (s_cons (s_set (i := 5) sc__law_take.nd rfl (by first | exact .inl rfl | exact .inr rfl) (m_bin o_mod (m_callTy c_int (by rfl) T.b_int bt_int (a_cons (m_bin o_mul (m_bin o_add (m_bin o_add (m_var 3) (m_ix (m_var 0) (m_const pe_int fun _ _ => repInt _))) (m_bin o_div (m_ix (m_var 0) (m_const pe_int fun _ _ => repInt _)) (m_const pe_int fun _ _ => repInt _))) (m_var 4)) a_nil)) (m_const pe_int fun _ _ => repInt _)))
      (s_one (s_ret (m_bin o_mod (m_callTy c_int (by rfl) T.b_int bt_int (a_cons (m_bin o_div (m_bin o_mod (m_callTy c_int (by rfl) T.b_int bt_int (a_cons (m_bin o_add (m_bin o_mul (m_var 5) (m_const pe_int fun _ _ => repInt _)) (m_var 3)) a_nil)) (m_const pe_int fun _ _ => repInt _)) (m_const pe_int fun _ _ => repInt _)) a_nil)) (m_var 1)))))))))
theorem ok__law_cells (T : Tb K mg) : Fnk P w K mg base 1 "_law_cells" s__law_cells ["script", "most_so"] m__law_cells 2 :=
  T.h__law_cells.okP (N := ["script", "most_so", "cells_so", "k", "bit_so", "at_so"]) (k := 0) (body := b__law_cells) sc__law_cells rfl fun f cdv A outer s H E hr => (s_cons (s_set (i := 2) sc__law_cells.nd rfl (by first | exact .inl rfl | exact .inr rfl) (m_or (m_callTy c_listN (by rfl) T.b_list bt_list (a_cons (m_cut (m_var 0) o_none (o_some (m_var 1))) a_nil)) (m_one (m_new (a_cons (m_const pe_int fun _ _ => repInt _) a_nil) (lenA_cons lenA_nil) (by decide)))))
      (s_cons (s_for PassesOwn.never rfl (i_enum (by rfl) T.b_enumerate (a_cons (m_cut (m_var 0) (o_some (m_var 1)) (o_some (m_const pe_int fun _ _ => repInt _))) a_nil)) (g_tp rfl (gs_cons (g_nm (i := 3) sc__law_cells.nd rfl (by first | exact .inl rfl | exact .inr rfl)) (gs_cons (g_nm (i := 4) sc__law_cells.nd rfl (by first | exact .inl rfl | exact .inr rfl)) gs_nil))) (s_cons (s_set (i := 5) sc__law_cells.nd rfl (by first | exact .inl rfl | exact .inr rfl) (m_bin o_mod (m_callTy c_int (by rfl) T.b_int bt_int (a_cons (m_var 3) a_nil)) (m_var 1)))
      (s_one (s_put (m_bin o_add (m_ix (m_var 2) (m_var 5)) (m_bin o_mul (m_var 4) (m_bin o_add (m_var 3) (m_const pe_int fun _ _ => repInt _)))) (m_var 2) (m_var 5)))))
      (s_one (s_ret (m_var 2)))))
theorem ok__law_same (T : Tb K mg) : ∀ n : Nat, Fnk P w K mg base (0 + n) "_law_same" s__law_same ["got", "due"] (m__law_same n) 2
  | 0 => T.h__law_same.stuck rfl
  | n + 1 => T.h__law_same.okP (N := ["got", "due", "mine", "its"]) (k := 0 + n) (body := b__law_same (m__law_same n)) sc__law_same rfl fun f cdv A outer s H E hr => (s_cons (s_if (t_truth (m_isi2 (u1 := .lst) (u2 := .tup) (by rfl) T.b_isinstance (m_var 1) (by rfl) T.b_list bt_list (by decide) (by decide) (by rfl) T.b_tuple bt_tuple (by decide) (by decide))) (s_cons (s_if (PW.pt (t_or (t_cmp (o_ne hr.units) (m_isi (u := .lst) (by rfl) T.b_isinstance (m_var 0) (by rfl) T.b_list bt_list (by decide) (by decide)) (m_isi (u := .lst) (by rfl) T.b_isinstance (m_var 1) (by rfl) T.b_list bt_list (by decide) (by decide)) (nomark _)) (t_or1 (t_cmp (o_ne hr.units) (m_isi (u := .tup) (by rfl) T.b_isinstance (m_var 0) (by rfl) T.b_tuple bt_tuple (by decide) (by decide)) (m_isi (u := .tup) (by rfl) T.b_isinstance (m_var 1) (by rfl) T.b_tuple bt_tuple (by decide) (by decide)) (nomark _))))) (s_one (s_ret (m_const pe_bl fun _ _ => repBl _))) s_nil)
      (s_one (s_ret (m_and (m_cmp (o_eq hr.units) (m_callB c_len (by rfl) T.b_len bt_len (a_cons (m_var 0) a_nil)) (m_callB c_len (by rfl) T.b_len bt_len (a_cons (m_var 1) a_nil)) (nomark _)) (m_one (m_callB (c_all rfl) (by rfl) T.b_all bt_all (a_cons (m_lc (li_lc (own := [("mine", 2), ("its", 3)]) rfl sc__law_same.nd (i_zip (by rfl) T.b_zip (a_cons (m_var 0) (a_cons (m_var 1) a_nil))) (blkOk_by (by kernel_rfl)) (fun _ _ _ _ _ => (g_tp rfl (gs_cons (g_nm (i := 2) sc__law_same.nd rfl (by first | exact .inl rfl | exact .inr rfl)) (gs_cons (g_nm (i := 3) sc__law_same.nd rfl (by first | exact .inl rfl | exact .inr rfl)) gs_nil)))) (fun _ _ _ _ _ => ts_nil) (fun _ _ _ _ _ => (c_fn (ok__law_same T n) hr (by rfl) (a_cons (m_var 2) (a_cons (m_var 3) a_nil)) (lenA_cons (lenA_cons lenA_nil)))))) a_nil))))))) s_nil)
      (s_cons (s_if (t_cmp o_is (m_var 1) (m_const pe_non fun _ _ => repNon) (nomark _)) (s_one (s_ret (m_cmp o_is (m_var 0) (m_const pe_non fun _ _ => repNon) (nomark _)))) s_nil)
      (s_cons (s_if (t_truth (m_isi2 (u1 := .bool) (u2 := .str) (by rfl) T.b_isinstance (m_var 1) (by rfl) T.b_bool bt_bool (by decide) (by decide) (by rfl) T.b_str bt_str (by decide) (by decide))) (s_one (s_ret (m_and (m_cmp (o_eq hr.units) (m_isi (u := .bool) (by rfl) T.b_isinstance (m_var 0) (by rfl) T.b_bool bt_bool (by decide) (by decide)) (m_isi (u := .bool) (by rfl) T.b_isinstance (m_var 1) (by rfl) T.b_bool bt_bool (by decide) (by decide)) (nomark _)) (m_and (m_cmp (o_eq hr.units) (m_isi (u := .str) (by rfl) T.b_isinstance (m_var 0) (by rfl) T.b_str bt_str (by decide) (by decide)) (m_isi (u := .str) (by rfl) T.b_isinstance (m_var 1) (by rfl) T.b_str bt_str (by decide) (by decide)) (nomark _)) (m_one (m_cmp (o_eq hr.units) (m_var 0) (m_var 1) (nomark _))))))) s_nil)
      (s_one (s_ret (m_and (m_isi (u := .int) (by rfl) T.b_isinstance (m_var 0) (by rfl) T.b_int bt_int (by decide) (by decide)) (m_and (m_not (m_isi (u := .bool) (by rfl) T.b_isinstance (m_var 0) (by rfl) T.b_bool bt_bool (by decide) (by decide))) (m_one (m_cmp (o_eq hr.units) (m_var 0) (m_var 1) (nomark _))))))))))
theorem ok__law_gcd (T : Tb K mg) : Fnk P w K mg base 1 "_law_gcd" s__law_gcd ["one", "two"] m__law_gcd 2 :=
  T.h__law_gcd.okP (N := ["one", "two", "lap"]) (k := 0) (body := b__law_gcd) sc__law_gcd rfl fun f cdv A outer s H E hr => (s_cons (s_par2 (i := 0) (j := 1) rfl sc__law_gcd.nd rfl rfl (by decide) rfl rfl (a_cons (m_callB c_abs (by rfl) T.b_abs bt_abs (a_cons (m_var 0) a_nil)) (a_cons (m_callB c_abs (by rfl) T.b_abs bt_abs (a_cons (m_var 1) a_nil)) a_nil)) (by rfl))
      (s_cons (s_for PassesOwn.never rfl (i_rng1 (by rfl) T.b_range (a_cons (m_const pe_int fun _ _ => repInt _) a_nil)) (g_nm (i := 2) sc__law_gcd.nd rfl (by first | exact .inl rfl | exact .inr rfl)) (s_cons (s_if (t_cmp (o_eq hr.units) (m_var 1) (m_const pe_int fun _ _ => repInt _) (nomark _)) (s_one s_break) s_nil)
      (s_one (s_par2 (i := 0) (j := 1) rfl sc__law_gcd.nd rfl rfl (by decide) rfl rfl (a_cons (m_var 1) (a_cons (m_bin o_mod (m_callTy c_int (by rfl) T.b_int bt_int (a_cons (m_var 0) a_nil)) (m_var 1)) a_nil)) (by rfl)))))
      (s_one (s_ret (m_var 0)))))
theorem ok__law_fraction (T : Tb K mg) : Fnk P w K mg base 2 "_law_fraction" s__law_fraction ["tin", "top_so"] m__law_fraction 2 :=
  T.h__law_fraction.okP (N := ["tin", "top_so", "n", "q", "shared_so"]) (k := 1) (body := b__law_fraction) sc__law_fraction rfl fun f cdv A outer s H E hr => (s_cons (s_set (i := 2) sc__law_fraction.nd rfl (by first | exact .inl rfl | exact .inr rfl) (m_ifx (t_cmp o_lt (m_var 1) (m_bin o_pow (m_const pe_int fun _ _ => repInt _) (m_const pe_int fun _ _ => repInt _)) (nomark _)) (m_bin o_add (m_const pe_int fun _ _ => repInt _) (c_fn ((ok__law_take T).mono (by decide)) hr (by rfl) (a_cons (m_var 0) (a_cons (m_var 1) a_nil)) (lenA_cons (lenA_cons lenA_nil)))) (m_bin o_add (m_bin o_add (m_const pe_int fun _ _ => repInt _) (m_bin o_mul (c_fn ((ok__law_take T).mono (by decide)) hr (by rfl) (a_cons (m_var 0) (a_cons (m_bin o_pow (m_const pe_int fun _ _ => repInt _) (m_const pe_int fun _ _ => repInt _)) a_nil)) (lenA_cons (lenA_cons lenA_nil))) (m_bin o_div (m_var 1) (m_bin o_pow (m_const pe_int fun _ _ => repInt _) (m_const pe_int fun _ _ => repInt _))))) (c_fn ((ok__law_take T).mono (by decide)) hr (by rfl) (a_cons (m_var 0) (a_cons (m_bin o_pow (m_const pe_int fun _ _ => repInt _) (m_const pe_int fun _ _ => repInt _)) a_nil)) (lenA_cons (lenA_cons lenA_nil))))))
      (s_cons (s_set (i := 3) sc__law_fraction.nd rfl (by first | exact .inl rfl | exact .inr rfl) (m_ifx (t_cmp o_lt (m_var 2) (m_bin o_pow (m_const pe_int fun _ _ => repInt _) (m_const pe_int fun _ _ => repInt _)) (nomark _)) (m_bin o_add (m_const pe_int fun _ _ => repInt _) (c_fn ((ok__law_take T).mono (by decide)) hr (by rfl) (a_cons (m_var 0) (a_cons (m_bin o_sub (m_var 2) (m_const pe_int fun _ _ => repInt _)) a_nil)) (lenA_cons (lenA_cons lenA_nil)))) (m_bin o_add (m_const pe_int fun _ _ => repInt _) (m_bin o_mod (m_callTy c_int (by rfl) T.b_int bt_int (a_cons (m_bin o_add (m_bin o_mul (c_fn ((ok__law_take T).mono (by decide)) hr (by rfl) (a_cons (m_var 0) (a_cons (m_bin o_pow (m_const pe_int fun _ _ => repInt _) (m_const pe_int fun _ _ => repInt _)) a_nil)) (lenA_cons (lenA_cons lenA_nil))) (m_bin o_pow (m_const pe_int fun _ _ => repInt _) (m_const pe_int fun _ _ => repInt _))) (c_fn ((ok__law_take T).mono (by decide)) hr (by rfl) (a_cons (m_var 0) (a_cons (m_bin o_pow (m_const pe_int fun _ _ => repInt _) (m_const pe_int fun _ _ => repInt _)) a_nil)) (lenA_cons (lenA_cons lenA_nil)))) a_nil)) (m_bin o_sub (m_var 2) (m_const pe_int fun _ _ => repInt _))))))
      (s_cons (s_set (i := 4) sc__law_fraction.nd rfl (by first | exact .inl rfl | exact .inr rfl) (c_fn ((ok__law_gcd T).mono (by decide)) hr (by rfl) (a_cons (m_var 2) (a_cons (m_var 3) a_nil)) (lenA_cons (lenA_cons lenA_nil))))
      (s_one (s_ret (m_ifx (t_cmp o_gt (m_bin o_div (m_var 2) (m_var 4)) (m_const pe_int fun _ _ => repInt _) (nomark _)) (m_tup (a_cons (m_bin o_div (m_var 2) (m_var 4)) (a_cons (m_bin o_div (m_var 3) (m_var 4)) a_nil)) (lenA_cons (lenA_cons lenA_nil)) (by decide)) (m_tup (a_cons (m_var 2) (a_cons (m_const pe_int fun _ _ => repInt _) a_nil)) (lenA_cons (lenA_cons lenA_nil)) (by decide))))))))
theorem ok__law_right (T : Tb K mg) : Fnk P w K mg base 11 "_law_right" s__law_right ["tin"] m__law_right 1 :=
  T.h__law_right.okP (N := ["tin", "lap", "n", "q", "chain_so", "ahead_so", "k", "own", "one", "two", "d", "best_so", "below_so", "above_so", "told_so", "rows_so"]) (k := 10) (body := b__law_right) sc__law_right rfl fun f cdv A outer s H E hr => (s_cons (s_for PassesOwn.never rfl (i_rng1 (by rfl) T.b_range (a_cons (m_const pe_int fun _ _ => repInt _) a_nil)) (g_nm (i := 1) sc__law_right.nd rfl (by first | exact .inl rfl | exact .inr rfl)) (s_cons (s_asg (c_fn ((ok__law_fraction T).mono (by decide)) hr (by rfl) (a_cons (m_var 0) (a_cons (m_const pe_int fun _ _ => repInt _) a_nil)) (lenA_cons (lenA_cons lenA_nil))) (g_tp rfl (gs_cons (g_nm (i := 2) sc__law_right.nd rfl (by first | exact .inl rfl | exact .inr rfl)) (gs_cons (g_nm (i := 3) sc__law_right.nd rfl (by first | exact .inl rfl | exact .inr rfl)) gs_nil))))
      (s_cons (s_if (t_cmp (o_eq hr.units) (m_var 2) (m_const pe_int fun _ _ => repInt _) (nomark _)) (s_one s_cont) s_nil)
      (s_cons (s_set (i := 4) sc__law_right.nd rfl (by first | exact .inl rfl | exact .inr rfl) (c_fn ((ok_chain_of T).mono (by decide)) hr (by rfl) (a_cons (m_tup (a_cons (m_var 2) (a_cons (m_var 3) a_nil)) (lenA_cons (lenA_cons lenA_nil)) (by decide)) a_nil) (lenA_cons lenA_nil)))
      (s_cons (s_setLc (i := 5) (own := [("k", 6)]) rfl sc__law_right.nd rfl rfl (sw_true rfl rfl rfl (by decide +kernel)) (i_rng2 (by rfl) T.b_range (a_cons (m_const pe_int fun _ _ => repInt _) (a_cons (m_bin o_add (m_callB c_len (by rfl) T.b_len bt_len (a_cons (m_var 4) a_nil)) (m_const pe_int fun _ _ => repInt _)) a_nil))) (blkOk_by (by kernel_rfl)) (fun _ _ _ _ _ => (g_nm (i := 6) sc__law_right.nd rfl (by first | exact .inl rfl | exact .inr rfl))) (fun _ _ _ _ _ => ts_nil) (fun _ _ _ _ _ => (c_fn ((ok_worth T).mono (by decide)) hr (by rfl) (a_cons (m_cut (m_var 4) o_none (o_some (m_var 6))) a_nil) (lenA_cons lenA_nil))))
      (s_cons (s_if (t_not (t_truth (c_fn ((ok__law_same T 8).mono (by decide)) hr (by rfl) (a_cons (m_lst (a_cons (m_ix (m_var 5) (m_un u_neg (m_const pe_int fun _ _ => repInt _))) (a_cons (m_callTy c_tuple (by rfl) T.b_tuple bt_tuple (a_cons (m_bin o_add (m_lst (a_cons (m_const pe_int fun _ _ => repInt _) a_nil) (lenA_cons lenA_nil) (by decide)) (m_lc (li_lc (own := [("own", 7)]) rfl sc__law_right.nd (i_seq (m_var 5)) (blkOk_by (by kernel_rfl)) (fun _ _ _ _ _ => (g_nm (i := 7) sc__law_right.nd rfl (by first | exact .inl rfl | exact .inr rfl))) (fun _ _ _ _ _ => ts_nil) (fun _ _ _ _ _ => (m_ix (m_var 7) (m_const pe_int fun _ _ => repInt _)))))) a_nil)) a_nil)) (lenA_cons (lenA_cons lenA_nil)) (by decide)) (a_cons (m_lst (a_cons (m_tup (a_cons (m_var 2) (a_cons (m_var 3) a_nil)) (lenA_cons (lenA_cons lenA_nil)) (by decide)) (a_cons (c_fn ((ok_tops T).mono (by decide)) hr (by rfl) (a_cons (m_var 4) a_nil) (lenA_cons lenA_nil)) a_nil)) (lenA_cons (lenA_cons lenA_nil)) (by decide)) a_nil)) (lenA_cons (lenA_cons lenA_nil))))) (s_one (s_ret (m_const pe_bl fun _ _ => repBl _))) s_nil)
      (s_cons (s_for PassesOwn.never rfl (i_zip (by rfl) T.b_zip (a_cons (m_var 5) (a_cons (m_cut (m_var 5) (o_some (m_const pe_int fun _ _ => repInt _)) o_none) a_nil))) (g_tp rfl (gs_cons (g_nm (i := 8) sc__law_right.nd rfl (by first | exact .inl rfl | exact .inr rfl)) (gs_cons (g_nm (i := 9) sc__law_right.nd rfl (by first | exact .inl rfl | exact .inr rfl)) gs_nil))) (s_one (s_if (PW.pt (t_or (t_cmp (o_ne hr.units) (m_bin o_sub (m_bin o_mul (m_ix (m_var 8) (m_const pe_int fun _ _ => repInt _)) (m_ix (m_var 9) (m_const pe_int fun _ _ => repInt _))) (m_bin o_mul (m_ix (m_var 9) (m_const pe_int fun _ _ => repInt _)) (m_ix (m_var 8) (m_const pe_int fun _ _ => repInt _)))) (m_const pe_int fun _ _ => repInt _) (nomark _)) (t_or1 (t_cmp o_ge (m_ix (m_var 8) (m_const pe_int fun _ _ => repInt _)) (m_ix (m_var 9) (m_const pe_int fun _ _ => repInt _)) (nomark _))))) (s_one (s_ret (m_const pe_bl fun _ _ => repBl _))) s_nil)))
      (s_cons (s_for PassesOwn.never rfl (i_rng2 (by rfl) T.b_range (a_cons (m_const pe_int fun _ _ => repInt _) (a_cons (m_bin o_add (m_var 3) (m_const pe_int fun _ _ => repInt _)) a_nil))) (g_nm (i := 10) sc__law_right.nd rfl (by first | exact .inl rfl | exact .inr rfl)) (s_cons (s_set (i := 11) sc__law_right.nd rfl (by first | exact .inl rfl | exact .inr rfl) (m_const pe_non fun _ _ => repNon))
      (s_cons (s_for PassesOwn.never rfl (i_rng2 (by rfl) T.b_range (a_cons (m_const pe_int fun _ _ => repInt _) (a_cons (m_bin o_add (m_var 10) (m_const pe_int fun _ _ => repInt _)) a_nil))) (g_nm (i := 12) sc__law_right.nd rfl (by first | exact .inl rfl | exact .inr rfl)) (s_cons (s_set (i := 13) sc__law_right.nd rfl (by first | exact .inl rfl | exact .inr rfl) (m_bin o_div (m_bin o_sub (m_bin o_add (m_bin o_mul (m_var 2) (m_var 12)) (m_var 3)) (m_const pe_int fun _ _ => repInt _)) (m_var 3)))
      (s_one (s_if (PW.pt (t_or (t_cmp o_is (m_var 11) (m_const pe_non fun _ _ => repNon) (nomark _)) (t_or1 (t_cmp o_lt (m_bin o_mul (m_var 13) (m_ix (m_var 11) (m_const pe_int fun _ _ => repInt _))) (m_bin o_mul (m_ix (m_var 11) (m_const pe_int fun _ _ => repInt _)) (m_var 12)) (nomark _))))) (s_one (s_set (i := 11) sc__law_right.nd rfl (by first | exact .inl rfl | exact .inr rfl) (m_tup (a_cons (m_var 13) (a_cons (m_var 12) a_nil)) (lenA_cons (lenA_cons lenA_nil)) (by decide)))) s_nil))))
      (s_cons (s_set (i := 14) sc__law_right.nd rfl (by first | exact .inl rfl | exact .inr rfl) (m_ix (m_lc (li_lc (own := [("own", 7)]) rfl sc__law_right.nd (i_seq (m_var 5)) (blkOk_by (by kernel_rfl)) (fun _ _ _ _ _ => (g_nm (i := 7) sc__law_right.nd rfl (by first | exact .inl rfl | exact .inr rfl))) (fun _ _ _ _ _ => (ts_one (t_cmp o_le (m_ix (m_var 7) (m_const pe_int fun _ _ => repInt _)) (m_var 10) (nomark _)))) (fun _ _ _ _ _ => (m_var 7)))) (m_un u_neg (m_const pe_int fun _ _ => repInt _))))
      (s_one (s_if (t_cmp (o_ne hr.units) (m_var 14) (m_var 11) (nomark _)) (s_one (s_ret (m_const pe_bl fun _ _ => repBl _))) s_nil))))))
      (s_cons (s_set (i := 15) sc__law_right.nd rfl (by first | exact .inl rfl | exact .inr rfl) (c_fn ((ok_makers T).mono (by decide)) hr (by rfl) (a_cons (c_fn ((ok_mate_of_fraction T).mono (by decide)) hr (by rfl) (a_cons (m_tup (a_cons (m_var 2) (a_cons (m_var 3) a_nil)) (lenA_cons (lenA_cons lenA_nil)) (by decide)) a_nil) (lenA_cons lenA_nil)) a_nil) (lenA_cons lenA_nil)))
      (s_one (s_if (t_cmp (o_ne hr.units) (m_callB c_len (by rfl) T.b_len bt_len (a_cons (m_var 15) a_nil)) (m_bin o_add (m_callB c_len (by rfl) T.b_len bt_len (a_cons (m_var 4) a_nil)) (m_const pe_int fun _ _ => repInt _)) (nomark _)) (s_one (s_ret (m_const pe_bl fun _ _ => repBl _))) s_nil)))))))))))
      (s_one (s_ret (m_const pe_bl fun _ _ => repBl _))))
theorem ok_law (T : Tb K mg) : Fnk P w K mg base 12 "law" s_law ["script"] m_law 1 :=
  T.h_law.okP (N := ["script", "cells_so", "k"]) (k := 11) (body := b_law) sc_law rfl fun f cdv A outer s H E hr => (s_cons (s_set (i := 1) sc_law.nd rfl (by first | exact .inl rfl | exact .inr rfl) (c_fn ((ok__law_cells T).mono (by decide)) hr (by rfl) (a_cons (m_var 0) (a_cons (m_const pe_int fun _ _ => repInt _) a_nil)) (lenA_cons (lenA_cons lenA_nil))))
      (s_one (s_ret (m_callB (c_all rfl) (by rfl) T.b_all bt_all (a_cons (m_lc (li_lc (own := [("k", 2)]) rfl sc_law.nd (i_rng1 (by rfl) T.b_range (a_cons (m_callB c_len (by rfl) T.b_len bt_len (a_cons (m_var 1) a_nil)) a_nil)) (blkOk_by (by kernel_rfl)) (fun _ _ _ _ _ => (g_nm (i := 2) sc_law.nd rfl (by first | exact .inl rfl | exact .inr rfl))) (fun _ _ _ _ _ => ts_nil) (fun _ _ _ _ _ => (c_fn ((ok__law_right T).mono (by decide)) hr (by rfl) (a_cons (c_fn ((ok__law_box T).mono (by decide)) hr (by rfl) (a_cons (m_var 1) (a_cons (m_var 2) a_nil)) (lenA_cons (lenA_cons lenA_nil))) a_nil) (lenA_cons lenA_nil))))) a_nil)))))
end
/-! ### the head -/
def fn : List He.DefD := [dOf s_is_number "is_number", dOf s_is_long "is_long", dOf s_tupled "tupled", dOf s_are_numbers "are_numbers", dOf s_are_from "are_from", dOf s_is_row_of "is_row_of", dOf s_sure_row "sure_row", dOf s_common "common", dOf s_is_fraction "is_fraction", dOf s_sure_fraction "sure_fraction", dOf s_worth_in "worth_in", dOf s_worth "worth", dOf s_chain_in "chain_in", dOf s_sure_short "sure_short", dOf s_chain_of "chain_of", dOf s_tops_in "tops_in", dOf s_tops "tops", dOf s_makers_in "makers_in", dOf s_makers "makers", dOf s_mate_of_fraction "mate_of_fraction", dOf s__law_box "_law_box", dOf s__law_take "_law_take", dOf s__law_cells "_law_cells", dOf s__law_same "_law_same", dOf s__law_gcd "_law_gcd", dOf s__law_fraction "_law_fraction", dOf s__law_right "_law_right", dOf s_law "law"]
def fa : List He.Fa := [.glo "is_number", .glo "is_long", .glo "tupled", .glo "are_numbers", .glo "are_from", .glo "is_row_of", .glo "sure_row", .glo "common", .glo "is_fraction", .glo "sure_fraction", .glo "worth_in", .glo "worth", .glo "chain_in", .glo "sure_short", .glo "chain_of", .glo "tops_in", .glo "tops", .glo "makers_in", .glo "makers", .glo "mate_of_fraction", .glo "_law_box", .glo "_law_take", .glo "_law_cells", .glo "_law_same", .glo "_law_gcd", .glo "_law_fraction", .glo "_law_right", .glo "law", .free "abs", .free "all", .free "bool", .free "enumerate", .free "int", .free "isinstance", .free "len", .free "list", .free "range", .free "str", .free "tuple", .free "zip", .int "MOST_TOLD_chains" 2000, .int "MOST_TOLD_corners" 2000]
abbrev RR : PySem.W.OpenRow := PySem.W.OpenLaw.row PySem.Challenge.rw_pearlchains_k66_main_best_from_above
def exl : List (PySem.W.Frag → Bool) := []
abbrev hk : PySem.W.Hook := hookE 4 fa fn exl
def ob (s : PySem.W.SharedT) : He.AlD × Bool := obsE 4 fa fn exl (HandSHeadRun.getT s)
theorem ob_eq (s : PySem.W.SharedT) : ob s = hk.obs s.abs := obsE_eq (HandSHeadRun.getT_eq s)
def loose0 : List Str := ["is_number", "is_long", "tupled", "are_numbers", "are_from", "is_row_of", "sure_row", "common", "is_fraction", "sure_fraction", "worth_in", "worth", "chain_in", "sure_short", "chain_of", "tops_in", "tops", "makers_in", "makers", "mate_of_fraction"]
def loose1 : List Str := ["_law_box", "_law_take", "_law_cells", "_law_same", "_law_gcd", "_law_fraction", "_law_right", "TooMany", "Unfit", "MOST_TOLD_chains", "MOST_TOLD_corners"]
abbrev loose : List Str := loose0 ++ loose1
theorem run (w : World) : HandSHeadRun.RunEq RR (PySem.W.view RR.prog [37]) hk ob 3000 loose w := by
  intro os
  kernel_rfl
theorem tb {K : PySem.W.Frag} {h : Heap} {mg : Str → Option Value} (X : K.In h) (Gn : h.Ns mainGlobals mg) (c : SaysE fa fn exl K) : Tb K mg where
  h_is_number := has_of X Gn c.1 0 0 rfl rfl fun _ _ _ _ _ _ us hl => match us, hl with | [_], _ => rfl
  h_is_long := has_of X Gn c.1 1 1 rfl rfl fun _ _ _ _ _ _ us hl => match us, hl with | [_, _], _ => rfl
  h_tupled := has_of X Gn c.1 2 2 rfl rfl fun _ _ _ _ _ _ us hl => match us, hl with | [_], _ => rfl
  h_are_numbers := has_of X Gn c.1 3 3 rfl rfl fun _ _ _ _ _ _ us hl => match us, hl with | [_], _ => rfl
  h_are_from := has_of X Gn c.1 4 4 rfl rfl fun _ _ _ _ _ _ us hl => match us, hl with | [_, _], _ => rfl
  h_is_row_of := has_of X Gn c.1 5 5 rfl rfl fun _ _ _ _ _ _ us hl => match us, hl with | [_, _, _], _ => rfl
  h_sure_row := has_of X Gn c.1 6 6 rfl rfl fun _ _ _ _ _ _ us hl => match us, hl with | [_], _ => rfl
  h_common := has_of X Gn c.1 7 7 rfl rfl fun _ _ _ _ _ _ us hl => match us, hl with | [_, _], _ => rfl
  h_is_fraction := has_of X Gn c.1 8 8 rfl rfl fun _ _ _ _ _ _ us hl => match us, hl with | [_], _ => rfl
  h_sure_fraction := has_of X Gn c.1 9 9 rfl rfl fun _ _ _ _ _ _ us hl => match us, hl with | [_], _ => rfl
  h_worth_in := has_of X Gn c.1 10 10 rfl rfl fun _ _ _ _ _ _ us hl => match us, hl with | [_], _ => rfl
  h_worth := has_of X Gn c.1 11 11 rfl rfl fun _ _ _ _ _ _ us hl => match us, hl with | [_], _ => rfl
  h_chain_in := has_of X Gn c.1 12 12 rfl rfl fun _ _ _ _ _ _ us hl => match us, hl with | [_, _], _ => rfl
  h_sure_short := has_of X Gn c.1 13 13 rfl rfl fun _ _ _ _ _ _ us hl => match us, hl with | [_, _], _ => rfl
  h_chain_of := has_of X Gn c.1 14 14 rfl rfl fun _ _ _ _ _ _ us hl => match us, hl with | [_], _ => rfl
  h_tops_in := has_of X Gn c.1 15 15 rfl rfl fun _ _ _ _ _ _ us hl => match us, hl with | [_], _ => rfl
  h_tops := has_of X Gn c.1 16 16 rfl rfl fun _ _ _ _ _ _ us hl => match us, hl with | [_], _ => rfl
  h_makers_in := has_of X Gn c.1 17 17 rfl rfl fun _ _ _ _ _ _ us hl => match us, hl with | [_, _], _ => rfl
  h_makers := has_of X Gn c.1 18 18 rfl rfl fun _ _ _ _ _ _ us hl => match us, hl with | [_], _ => rfl
  h_mate_of_fraction := has_of X Gn c.1 19 19 rfl rfl fun _ _ _ _ _ _ us hl => match us, hl with | [_], _ => rfl
  h__law_box := has_of X Gn c.1 20 20 rfl rfl fun _ _ _ _ _ _ us hl => match us, hl with | [_, _], _ => rfl
  h__law_take := has_of X Gn c.1 21 21 rfl rfl fun _ _ _ _ _ _ us hl => match us, hl with | [_, _], _ => rfl
  h__law_cells := has_of X Gn c.1 22 22 rfl rfl fun _ _ _ _ _ _ us hl => match us, hl with | [_, _], _ => rfl
  h__law_same := has_of X Gn c.1 23 23 rfl rfl fun _ _ _ _ _ _ us hl => match us, hl with | [_, _], _ => rfl
  h__law_gcd := has_of X Gn c.1 24 24 rfl rfl fun _ _ _ _ _ _ us hl => match us, hl with | [_, _], _ => rfl
  h__law_fraction := has_of X Gn c.1 25 25 rfl rfl fun _ _ _ _ _ _ us hl => match us, hl with | [_, _], _ => rfl
  h__law_right := has_of X Gn c.1 26 26 rfl rfl fun _ _ _ _ _ _ us hl => match us, hl with | [_], _ => rfl
  h_law := has_of X Gn c.1 27 27 rfl rfl fun _ _ _ _ _ _ us hl => match us, hl with | [_], _ => rfl
  b_abs := He.free_ok X Gn (c.1.fact 28 (f := .free "abs") rfl)
  b_all := He.free_ok X Gn (c.1.fact 29 (f := .free "all") rfl)
  b_bool := He.free_ok X Gn (c.1.fact 30 (f := .free "bool") rfl)
  b_enumerate := He.free_ok X Gn (c.1.fact 31 (f := .free "enumerate") rfl)
  b_int := He.free_ok X Gn (c.1.fact 32 (f := .free "int") rfl)
  b_isinstance := He.free_ok X Gn (c.1.fact 33 (f := .free "isinstance") rfl)
  b_len := He.free_ok X Gn (c.1.fact 34 (f := .free "len") rfl)
  b_list := He.free_ok X Gn (c.1.fact 35 (f := .free "list") rfl)
  b_range := He.free_ok X Gn (c.1.fact 36 (f := .free "range") rfl)
  b_str := He.free_ok X Gn (c.1.fact 37 (f := .free "str") rfl)
  b_tuple := He.free_ok X Gn (c.1.fact 38 (f := .free "tuple") rfl)
  b_zip := He.free_ok X Gn (c.1.fact 39 (f := .free "zip") rfl)
  c_MOST_TOLD_chains := He.int_ok X Gn (c.1.fact 40 (f := .int "MOST_TOLD_chains" 2000) rfl)
  c_MOST_TOLD_corners := He.int_ok X Gn (c.1.fact 41 (f := .int "MOST_TOLD_corners" 2000) rfl)
theorem facts {P : Program} {w : World} {K : PySem.W.Frag} {h : Heap} {mg : Str → Option Value} {f : Addr} (X : K.In h) (Gn : h.Ns mainGlobals mg) (hfa : mg ("law" : Str) = some (.ref f)) (c : SaysE fa fn exl K) :
    ∃ fd : FuncData, (∀ (s : Shared) (v : Value), BindsTo s fd ⟨[v], []⟩ [("script", v)]) ∧ ∀ base : Heap, FnOk P w K mg base CX0 12 f fd ["script"] (spM K m_law 1) := by
  obtain ⟨fd, F⟩ := c.1.def_ 27 (d := dOf s_law "law") rfl
  have e := hfa.symm.trans (He.glo_ok X Gn (c.1.fact 27 (f := .glo "law") rfl))
  cases e
  have b := FunD.bindsA (ps := ["script"]) F fun _ _ _ _ _ _ us hl => match us, hl with | [_], _ => rfl
  refine ⟨fd, fun s v => b s [v] rfl, fun base => ?_⟩
  obtain ⟨a, fd2, F2, m2, b2, k2⟩ := ok_law (P := P) (w := w) (base := base) (tb X Gn c)
  cases hfa.symm.trans m2
  have efd : fd = fd2 := by
    obtain ⟨_, _, _, _, _, _, _, _, _, _, h1, l1, _⟩ := F.ex
    obtain ⟨_, _, _, _, _, _, _, _, _, _, h2, l2, _⟩ := F2.ex
    have e := l1.symm.trans l2
    cases e
    rfl
  rw [efd]
  exact k2
end K66
open PySem PySem.W PySem.Calls PyProof.Rows
theorem PySem.Challenge.cw_pearlchains_k66_main_best_from_above_holds : PySem.Challenge.rw_pearlchains_k66_main_best_from_above.Holds := by
  w_on; o_law
  refine HandSHeadRun.head_any (r := OpenLaw.row PySem.Challenge.rw_pearlchains_k66_main_best_from_above) (q := view (OpenLaw.row PySem.Challenge.rw_pearlchains_k66_main_best_from_above).prog [37]) (H := K66.hk) (ob := K66.ob) (M := 3000) (loose := K66.loose) (d := HandSHeadRun.topDef (OpenLaw.row PySem.Challenge.rw_pearlchains_k66_main_best_from_above).prog 37) (kwd := []) K66.ob_eq
    (by kernel_rfl) (fun s => by kernel_rfl) K66.run (by kernel_rfl) (by kernel_rfl) (by kernel_rfl) (by rfl) (by first | assumption | decide +kernel) (by decide +kernel) ⟨rfl, rfl, rfl, rfl, rfl, by decide +kernel⟩ ?hw ?hc
  case hw => w_witness2
  case hc =>
    refine L2.walk_ofE (l := PySem.Challenge.rw_pearlchains_k66_main_best_from_above) (n := 63) (k := 12) (x := "script") (CX := L2.CX0) rfl (by decide) (by kernel_rfl) ⟨rfl, by decide, by decide⟩ ?F (fun _ _ _ _ z => z)
    intro w mg fa h Y G hmg0
    obtain ⟨K, KX, c⟩ := Y
    have hmg : mg ("law" : PySem.Str) = some (.ref fa) := by
      have e : (HandSHeadRun.topDef (OpenLaw.row PySem.Challenge.rw_pearlchains_k66_main_best_from_above).prog 37).name = ("law" : PySem.Str) := by kernel_rfl
      rw [← e]
      exact hmg0
    obtain ⟨fd, hb, hF⟩ := K66.facts (P := (PySem.Challenge.rw_pearlchains_k66_main_best_from_above).prog) (w := w) KX G hmg c
    refine ⟨K, fd, Pm.spM K K66.m_law 1, KX, hb, fun H a ns hl _ hS => ?_, fun base _ _ => hF base⟩
    obtain ⟨st, e⟩ := K66.run_ok ns hl
    exact Pm.law_sp hS e
