import PyProof.Rows.All
import Wide.All
import OpenK.AllK
import Wide.FinOn
import HandS.ForMost
import HandS.TupAny
import HandS.TupMul
import HandS.Conv
import HandS.Rev
import HandS.Strs
import PyProof.DictStraight
import HandS.Exc
import HandS.ExcOwn
import HandS.ExcInit
import HandS.WordsExc
import HandS.Wide
import HandS.Text
import HandS.Flow
import HandS.IsInst
import HandS.Walk
import HandS.ExcCtx
import HandS.HotCalls
import HandS.ExcField
import HandS.ExcIs
import KE.KExcIs
import HandS.More
import HandS.Replace
import HandS.StrMore
import HandS.CallSlots
import KE.GoesMore
import KE.GoesEnum
import HandS.SortInts
import HandS.SetKeys
import HandS.Steps
import PySem.Challenge.RW_trunkcall_k34_play_one_call
set_option Elab.async false
set_option linter.all false
set_option maxRecDepth 100000
set_option maxHeartbeats 4000000
section
set_option autoImplicit false
/-! tuples whose object is known: it has no dict of its own (wanted where a tuple's method is called) -/
namespace FL
open PySem PySem.Spec PyProof.Rows L2
def FzT (K : PySem.W.Frag) (H : Hp) (a : Addr) (xs : List V) : Prop :=
  (∃ o : Obj, H a = some (.frz o (.tup xs)) ∧ o.dict = none) ∨
    ∃ (o : Obj) (its : Array Value) (n : Nat), K.lookup a = some o ∧ o.cls = .type "tuple" ∧ o.dict = none ∧ o.data = .seq its n ∧ its.size ≤ sizeLine ∧ Vals xs its.toList
section
variable {K : PySem.W.Frag} {H : Hp} {a : Addr} {xs : List V} {o : Obj}
theorem FzT.sq (h : FzT K H a xs) : SqT K H a xs := by
  rcases h with ⟨o, h, _⟩ | ⟨o, its, n, h1, h2, _, h3⟩
  · exact .inl (.inr ⟨o, h⟩)
  · exact .inr ⟨o, its, n, h1, h2, h3⟩
theorem FzT.of (h : H a = some (.frz o (.tup xs))) (hd : o.dict = none) : FzT K H a xs := .inl ⟨o, h, hd⟩
end
section
variable {X : Cx} {pins : List (Addr × Obj)} {σ : L2.St} {H : Hp} {s : Shared} {a : Addr} {xs : List V}
theorem FzT.obj (I : Inv X pins σ H s) (h : FzT X.K H a xs) : ∃ (o : Obj) (its : List Value) (n : Nat), s.heap.get? a = some o ∧ o.cls = .type "tuple" ∧ o.dict = none ∧ o.data = .seq its.toArray n ∧ Vals xs its ∧ xs.length ≤ sizeLine := by
  rcases h with ⟨o, h, hd⟩ | ⟨o, its, n, h1, h2, h3, h4, h5, h6⟩
  · obtain ⟨e, hz, its, r, o', e', hc, n, hdat⟩ := I.hok a _ h
    rw [e] at e'; cases e'
    exact ⟨o, its, n, e, hc, hd, hdat, r, hz⟩
  · refine ⟨o, its.toList, n, I.kIn a o h1, h2, h3, by simpa using h4, h6, ?_⟩
    have e := h6.length
    simp only [Array.length_toList] at e
    omega
end
/-! ### where tuples are made -/
section
variable {X : Cx} {es : List Expr} {t : TA} {pos : Pos}
def tTupF (t : TA) : TE := fun σ H Q => t σ H fun xs H1 => xs.length ≤ sizeLine ∧ ∀ p (o : Obj), H1 p = none → o.dict = none → Q (.ref p) (upd H1 p (.frz o (.tup xs)))
theorem pe_tupF {x1} (h : PA X es t) : PE X (.Tuple es x1 pos) (tTupF t) := by
  refine ⟨fun pins s σ H Q I hq => ?_⟩
  refine wpAny_Tuple_spliced (thn (h.run pos pins s σ H _ I hq) fun us s1 ⟨xs, H1, I1, r, z, q⟩ => ⟨by rw [← r.length]; exact z, ?_⟩)
  have hf : H1 s1.heap.objs.size = none := I1.hok.fresh (Nat.le_refl _)
  refine ⟨.ref s1.heap.objs.size, upd H1 s1.heap.objs.size (.frz { cls := .type "tuple", data := .seq us.toArray } (.tup xs)), I1.laid (t' := s1.toks) (fun b u e => Heap.get?_push_of_some _ e) (Nat.le_refl _) ?_, rfl, q _ _ hf rfl⟩
  exact ⟨Heap.get?_push_size _ rfl, z, us, r, ⟨_, Heap.get?_push_size _ rfl, rfl, _, rfl⟩⟩
/-- t + u -/
def rCatF (K : PySem.W.Frag) : R2 := fun x y H Q => ∃ a b xs ys, x = .ref a ∧ y = .ref b ∧ SqT K H a xs ∧ SqT K H b ys ∧ xs.length + ys.length ≤ sizeLine ∧
  (xs = [] → Q (.ref b) H) ∧ (xs ≠ [] → ys = [] → Q (.ref a) H) ∧ (xs ≠ [] → ys ≠ [] → ∀ p (o : Obj), H p = none → o.dict = none → Q (.ref p) (upd H p (.frz o (.tup (xs ++ ys)))))
theorem op_catF : OpR X (binaryOp .Add) (rCatF X.K) := by
  intro pins s σ H x y v u Q I rx ry h
  obtain ⟨a, b, xs, ys, rfl, rfl, ha, hb, hz, q0, q1, q2⟩ := h
  cases rx
  cases ry
  obtain ⟨its, r1, p1, _⟩ := I.tuple ha
  obtain ⟨its2, r2, p2, _⟩ := I.tuple hb
  by_cases hx : xs = []
  · subst hx
    cases r1
    exact cat_tup0 p1 p2 ⟨.ref b, H, I, rfl, q0 rfl⟩
  · refine HT.cat_tup p1 p2 (fun z => hx (r1.nil_iff.mp z)) (fun z => ⟨.ref a, H, I, rfl, q1 hx (r2.nil_iff.mp z)⟩) (fun z => ?_) (by rw [← r1.length, ← r2.length]; exact hz)
    refine ⟨.ref s.heap.objs.size, _, I.laid (t' := s.toks) (o := .frz { cls := .type "tuple", data := .seq (its ++ its2).toArray } (.tup (xs ++ ys))) (fun b ob q => Heap.get?_push_of_some _ q) (Nat.le_refl _) ?_, rfl, q2 hx (fun w => z (r2.nil_iff.mpr w)) _ _ (I.hok.fresh (Nat.le_refl _)) rfl⟩
    exact ⟨Heap.get?_push_size _ rfl, by rw [List.length_append]; exact hz, _, r1.append r2, IsTup.new _ _⟩
/-- t[lo:hi]: the whole of it is t itself -/
def rSlF (K : PySem.W.Frag) : V → Option Int → Option Int → Hp → VK → Prop := fun x lo hi H Q => ∃ a xs, x = .ref a ∧ SqT K H a xs ∧
  (HT.sIx xs.length 0 lo = 0 ∧ HT.sIx xs.length xs.length hi = xs.length → Q (.ref a) H) ∧ (¬ (HT.sIx xs.length 0 lo = 0 ∧ HT.sIx xs.length xs.length hi = xs.length) → ∀ p (o : Obj), H p = none → o.dict = none → Q (.ref p) (upd H p (.frz o (.tup (cutV xs lo hi)))))
theorem sl_tupF : SlR X (rSlF X.K) := by
  intro pins s σ H x v vl vu lo hi sl Q I rx hs pl pu h
  obtain ⟨a, xs, rfl, hx, q1, q2⟩ := h
  cases rx
  obtain ⟨its, r, ht, hz⟩ := I.tuple hx
  have hlen : its.toArray.size = xs.length := by rw [List.size_toArray]; exact r.length.symm
  refine ⟨"tuple", _, PyProof.Rows.slot_tuple_getitem.lookup, ht.typeIs, ?_⟩
  by_cases hw : HT.sIx xs.length 0 lo = 0 ∧ HT.sIx xs.length xs.length hi = xs.length
  · exact getItem_tuple_whole ht hs pl pu (by rw [hlen]; exact hw) ⟨.ref a, H, I, rfl, q1 hw⟩
  · refine HT.getItem_tuple_cut ht hs pl pu (by rw [hlen]; exact hw) ?_ (by rw [hlen]; exact hz)
    rw [hlen]
    refine ⟨.ref s.heap.objs.size, _, I.laid (t' := s.toks) (o := .frz { cls := .type "tuple", data := .seq ((its.toArray.toList.drop (HT.sIx xs.length 0 lo)).take (HT.sIx xs.length xs.length hi - HT.sIx xs.length 0 lo)).toArray } (.tup (cutV xs lo hi))) (fun b ob q => Heap.get?_push_of_some _ q) (Nat.le_refl _) ?_, rfl, q2 hw _ _ (I.hok.fresh (Nat.le_refl _)) rfl⟩
    exact ⟨Heap.get?_push_size _ rfl, Nat.le_trans (cutV_length xs lo hi) hz, _, (r.drop (HT.sIx xs.length 0 lo)).take (HT.sIx xs.length xs.length hi - HT.sIx xs.length 0 lo), IsTup.new _ _⟩
/-- tuple(x) -/
theorem call_tuple_ofF : CallR X (.type "tuple") (fun xs H Q => ∃ p ys, xs = [.ref p] ∧ ((SqL X.K H p ys ∧ ∀ l (o : Obj), H l = none → o.dict = none → Q (.ref l) (upd H l (.frz o (.tup ys)))) ∨ (SqT X.K H p ys ∧ Q (.ref p) H))) := by
  intro pins s σ H xs us Q I r h
  obtain ⟨p, ys, rfl, h⟩ := h
  obtain ⟨u, rfl, rx⟩ := vals1 r
  cases rx
  rcases h with ⟨hq, q⟩ | ⟨hq, q⟩
  · obtain ⟨its, r', pl, hz⟩ := I.list hq
    have hlen := r'.length
    refine call_tuple_list pl.isList (fun h' kp => ?_) (by simp only [List.size_toArray] <;> omega)
    have I1 : Inv X pins σ H { s with heap := h' } := I.kept (t' := s.toks) kp
    have I2 : Inv X pins σ (upd H h'.objs.size (.frz { cls := .type "tuple", data := .seq its.toArray } (.tup ys))) { s with heap := h'.push { cls := .type "tuple", data := .seq its.toArray } } :=
      I1.laid (t' := s.toks) (fun b o e => Heap.get?_push_of_some _ e) (Nat.le_refl _) (show ObjOk X.prog X.w _ _ _ (.frz _ (.tup ys)) from ⟨Heap.get?_push_size _ rfl, hz, its, r', IsTup.new _ _⟩)
    exact ⟨.ref h'.objs.size, _, I2, rfl, q _ _ (I1.hok.fresh (Nat.le_refl _)) rfl⟩
  · obtain ⟨its, r', pl, hz⟩ := I.tuple hq
    exact call_tuple_same pl ⟨.ref p, H, I, rfl, q⟩
/-- tuple(range(..)) -/
def tTupRgF (te : L2.St → Hp → (Int → Int → Hp → Prop) → Prop) : TE := fun σ H Q => te σ H fun a b H1 => RgOk a b ∧ ∀ q (o : Obj), H1 q = none → o.dict = none → Q (.ref q) (upd H1 q (.frz o (.tup (rgV a b))))
variable {e : Expr} {te : L2.St → Hp → (Int → Int → Hp → Prop) → Prop}
theorem pe_tupRgF {p pos : Pos} (hc : X.calm = true) (hg : Gl X "tuple") (hm : X.mg "tuple" = none) (he : PRg X e te) (na : starEach [e] X.env = (false, eval e X.env) :: starEach [] X.env := by rfl) : PE X (.Call (.Name "tuple" p) [e] [] pos) (tTupRgF te) := by
  refine ⟨fun pins s σ H Q I h => ?_⟩
  refine Call_ (ld_blt I hg hm boot_tuple (PyProof.Rows.callWith_type1 (args_cons (thn (he pins s σ H _ I h) fun x s1 ⟨r, a, b, t, u, v, H1, ex, hr, I1, ok, q⟩ => args_nil ?_) na) na))
  subst ex
  obtain ⟨b1, b2, b3, b4, b5⟩ := ok
  refine call_tuple_range (n := (b - a).toNat) (I1.ok.hd hc) hr (small_one b1 b2 b3 b4) (rangeSize_nat a b) b5 fun h' tk acc hk hi => ?_
  have I2 : Inv X pins σ H1 { s1 with heap := h', toks := tk } := I1.kept hk
  refine ⟨.ref h'.objs.size, upd H1 h'.objs.size (.frz { cls := .type "tuple", data := .seq acc } (.tup (rgV a b))), I2.laid (t' := tk) (fun c o e => Heap.get?_push_of_some _ e) (Nat.le_refl _) (show ObjOk X.prog X.w _ _ _ (.frz _ (.tup (rgV a b))) from ⟨Heap.get?_push_size _ rfl, ?_, acc.toList, vals_rg hi, ?_⟩), rfl, q _ _ (I2.hok.fresh (Nat.le_refl _)) rfl⟩
  · rw [rgV_length, sizeLine_eq]; omega
  · rw [Array.toArray_toList]; exact IsTup.new _ _
end
/-! ### a tuple times an int -/
theorem tuple_mulS (l : Addr) (items : Array Value) (n : Nat) (dd : Option Addr) (sl : Array (Option Value)) (x : Int) (u : Tok) (c0 : (decide (x < -(2 ^ 63)) || decide (x ≥ 2 ^ 63)) = false) (c1 : (items.isEmpty || x == 1) = true) :
    Meets (Builtin.«tuple.__mul__» ⟨[.ref l, .int x u], []⟩) (fun _ R s => s.heap.get? l = some { cls := .type "tuple", dict := dd, data := .seq items n, slots := sl } ∧ R (.ok (.ret (Value.ref l))) s) :=
  .of_wp fun prog w A R s h => by
    obtain ⟨hp, g, d, tk, os⟩ := s
    obtain ⟨hl, h⟩ := h
    have f1 := AutoSeq1.idx_int
    wp_walk using PySem.AutoSeq1.wpAny_loadPart' hl
    repeat (first
      | (refine wpAny_ite_false (decide_eq_false (by rw [c0]; exact Bool.false_ne_true)) ?_; wp_walk using PySem.AutoSeq1.wpAny_loadPart' hl)
      | (refine wpAny_ite_true (decide_eq_true (by rw [c1])) ?_; wp_walk using PySem.AutoSeq1.wpAny_loadPart' hl))
    all_goals exact ⟨_, rfl, h⟩
theorem tuple_mul0 (l : Addr) (items : Array Value) (n : Nat) (dd : Option Addr) (sl : Array (Option Value)) (x : Int) (u : Tok) (c0 : (decide (x < -(2 ^ 63)) || decide (x ≥ 2 ^ 63)) = false) (c1 : (items.isEmpty || x == 1) = false) (c2 : (decide (x ≤ 0) || items.isEmpty) = true) :
    Meets (Builtin.«tuple.__mul__» ⟨[.ref l, .int x u], []⟩) (fun _ R s => s.heap.get? l = some { cls := .type "tuple", dict := dd, data := .seq items n, slots := sl } ∧
      R (.ok (.ret (Value.ref s.heap.objs.size))) { s with heap := s.heap.push { cls := Value.type "tuple", data := Data.seq #[] }, toks := s.toks }) :=
  .of_wp fun prog w A R s h => by
    obtain ⟨hp, g, d, tk, os⟩ := s
    obtain ⟨hl, h⟩ := h
    have f1 := AutoSeq1.idx_int
    wp_walk using PySem.AutoSeq1.wpAny_loadPart' hl
    repeat (first
      | (refine wpAny_ite_false (decide_eq_false (by rw [c0]; exact Bool.false_ne_true)) ?_; wp_walk using PySem.AutoSeq1.wpAny_loadPart' hl)
      | (refine wpAny_ite_false (decide_eq_false (by rw [c1]; exact Bool.false_ne_true)) ?_; wp_walk using PySem.AutoSeq1.wpAny_loadPart' hl)
      | (refine wpAny_ite_true (decide_eq_true (by rw [c2])) ?_; wp_walk using PySem.AutoSeq1.wpAny_loadPart' hl))
    all_goals exact ⟨_, rfl, h⟩
def rRepF (K : PySem.W.Frag) : R2 := fun x y H Q => ∃ l k xs, x = .ref l ∧ y = .int k ∧ SqT K H l xs ∧ -1000000 ≤ k ∧ k ≤ 1000 ∧ xs.length ≤ 1000 ∧ ((xs = [] ∨ k = 1) → Q (.ref l) H) ∧
  (¬ (xs = [] ∨ k = 1) → ∀ p (o : Obj), H p = none → o.dict = none → Q (.ref p) (upd H p (.frz o (.tup (List.replicate k.toNat xs).flatten))))
section
variable {X : Cx}
theorem op_repF : OpR X (binaryOp .Mult) (rRepF X.K) := by
  intro pins s σ H x y v u Q I rx ry h
  obtain ⟨l, k, xs, rfl, rfl, hT, h0, h2, hz, q1, q2⟩ := h
  cases rx
  obtain ⟨t, rfl⟩ := ry
  obtain ⟨its, r, ⟨⟨cls, dd, data, sl⟩, ho, hc, n, hd⟩, hs⟩ := I.tuple hT
  simp only at hc hd
  subst hc hd
  have hle : its.length = xs.length := r.length.symm
  have emp : its.toArray.isEmpty = decide (xs = []) := by
    cases r with
    | nil => rfl
    | cons _ _ => rfl
  have c0 : (decide (k < -(2 ^ 63)) || decide (k ≥ 2 ^ 63)) = false := by
    rw [decide_eq_false (by omega), decide_eq_false (by omega)] <;> rfl
  by_cases he : xs = [] ∨ k = 1
  · have c1 : (its.toArray.isEmpty || k == 1) = true := by
      rw [emp]
      rcases he with e | e
      · rw [e]; rfl
      · rw [e]; simp
    exact wpAny_binaryOp_repeat_ref (T := "tuple") (U := "int") (by decide) ⟨_, ho, rfl⟩ (fun s' => typeIs_int s' k t) noFill_tuple_mul F.fills_int_mul F.slot_int_rmul repeat_tuple F.slot_int_index.lookup
      (call_meets F.slot_int_rmul (typeIs_int s k t) F.entry_int_rmul (F.args_int_rmul_2 _ _) (int_rmul_tuple k t l its.toArray n dd sl)
        ⟨ho, rfl, ⟨_, ho, rfl⟩, call_meets F.slot_tuple_mul ⟨_, ho, rfl⟩ F.entry_tuple_mul (F.args_tuple_mul_2 _ _) (tuple_mulS l its.toArray n dd sl k t c0 c1) ⟨ho, ⟨.ref l, H, I, rfl, q1 he⟩⟩⟩)
  · have hne : xs ≠ [] := fun e => he (.inl e)
    have hi : its.toArray.isEmpty = false := by rw [emp]; exact decide_eq_false hne
    have hk1 : k ≠ 1 := fun e => he (.inr e)
    have c1 : (its.toArray.isEmpty || k == 1) = false := by
      rw [hi, Bool.false_or]
      exact beq_eq_false_iff_ne.mpr hk1
    by_cases hk : k ≤ 0
    · have c2 : (decide (k ≤ 0) || its.toArray.isEmpty) = true := by rw [decide_eq_true hk]; rfl
      refine wpAny_binaryOp_repeat_ref (T := "tuple") (U := "int") (by decide) ⟨_, ho, rfl⟩ (fun s' => typeIs_int s' k t) noFill_tuple_mul F.fills_int_mul F.slot_int_rmul repeat_tuple F.slot_int_index.lookup
        (call_meets F.slot_int_rmul (typeIs_int s k t) F.entry_int_rmul (F.args_int_rmul_2 _ _) (int_rmul_tuple k t l its.toArray n dd sl)
          ⟨ho, rfl, ⟨_, ho, rfl⟩, call_meets F.slot_tuple_mul ⟨_, ho, rfl⟩ F.entry_tuple_mul (F.args_tuple_mul_2 _ _) (tuple_mul0 l its.toArray n dd sl k t c0 c1 c2) ⟨ho, ?_⟩⟩)
      refine ⟨.ref s.heap.objs.size, _, I.laid (t' := s.toks) (o := .frz { cls := .type "tuple", data := .seq #[] } (.tup (List.replicate k.toNat xs).flatten)) (fun b ob q => Heap.get?_push_of_some _ q) (Nat.le_refl _) ?_, rfl, q2 he _ _ (I.hok.fresh (Nat.le_refl _)) rfl⟩
      have e0 : k.toNat = 0 := by omega
      rw [e0]
      exact ⟨Heap.get?_push_size _ rfl, Nat.zero_le _, [], .nil, IsTup.new _ _⟩
    · have c2 : (decide (k ≤ 0) || its.toArray.isEmpty) = false := by
        rw [hi, Bool.or_false]
        exact decide_eq_false hk
      have hsz0 : its.toArray.size = xs.length := by rw [List.size_toArray, hle]
      have hm : ((its.toArray.size : Nat) : Int) * k ≤ 1000000 := by
        rw [hsz0]
        have a1 : ((xs.length : Nat) : Int) * k ≤ 1000 * k := Int.mul_le_mul_of_nonneg_right (by omega) (by omega)
        omega
      have flen : (List.replicate k.toNat its).flatten.length ≤ sizeLine := by
        rw [PyProof.Rows.lm_len_rep_flat, hle, sizeLine_eq]
        have a1 : k.toNat * xs.length ≤ 1000 * 1000 := Nat.mul_le_mul (by omega) hz
        omega
      have c4 : Builtin.Tuple.tupleTooMany (((its.toArray.size : Nat) : Int) * k) = false := by
        unfold Builtin.Tuple.tupleTooMany
        rw [sizeLine_eq]
        exact decide_eq_false (by omega)
      refine wpAny_binaryOp_repeat_ref (T := "tuple") (U := "int") (by decide) ⟨_, ho, rfl⟩ (fun s' => typeIs_int s' k t) noFill_tuple_mul F.fills_int_mul F.slot_int_rmul repeat_tuple F.slot_int_index.lookup
        (call_meets F.slot_int_rmul (typeIs_int s k t) F.entry_int_rmul (F.args_int_rmul_2 _ _) (int_rmul_tuple k t l its.toArray n dd sl)
          ⟨ho, rfl, ⟨_, ho, rfl⟩, call_meets F.slot_tuple_mul ⟨_, ho, rfl⟩ F.entry_tuple_mul (F.args_tuple_mul_2 _ _) (tuple_mulW l its.toArray n dd sl k t c0 c1 c2 (by omega) c4 (by rw [size_rep, List.size_toArray]; exact flen)) ⟨ho, ?_⟩⟩)
      rw [size_rep]
      refine ⟨.ref s.heap.objs.size, _, I.laid (t' := s.toks) (o := .frz { cls := .type "tuple", data := .seq (List.replicate k.toNat its).flatten.toArray } (.tup (List.replicate k.toNat xs).flatten)) (fun b ob q => Heap.get?_push_of_some _ q) (Nat.le_refl _) ?_, rfl, q2 he _ _ (I.hok.fresh (Nat.le_refl _)) rfl⟩
      exact ⟨Heap.get?_push_size _ rfl, by rw [PyProof.Rows.lm_len_rep_flat, sizeLine_eq]; have a1 : k.toNat * xs.length ≤ 1000 * 1000 := Nat.mul_le_mul (by omega) hz; omega, _, r.rep k.toNat, IsTup.new _ _⟩
/-! ### t.index(x), flat items -/
def tTupM (K : PySem.W.Frag) (r : V → List V → Hp → VK → Prop) (to : TE) (t : TA) : TE := fun σ H Q => to σ H fun x H1 => (∃ a xs, x = .ref a ∧ FzT K H1 a xs) ∧ t σ H1 fun vs H2 => r x vs H2 Q
theorem pe_tupM {name : Str} {id : String} {r : V → List V → Hp → VK → Prop} {o e : Expr} {es : List Expr} {apos cpos : Pos} {to : TE} {t : TA} (slot : Slot "tuple" name id) (hty : typeOf (.builtin id) = pure (.type "method_descriptor")) (hm : MtR X id r) (ho : PE X o to) (ha : PA X (e :: es) t)
    (hbase : attributeBase o name X.env (eval o X.env) = eval o X.env := by rfl)
    (hfew : ((backTo cpos (starEach (e :: es) X.env)).all (fun x => !x.1) && (backToKw cpos (keywordEach [] X.env)).all (fun x => x.1.isSome)
      && decide ((e :: es).length + ([] : List Keyword).length + (if ([] : List Keyword).isEmpty then 0 else 1) < 30)) = true := by rfl)
    (hline : (apos.endLine == cpos.line) = true := by rfl) (hs : starEach (e :: es) X.env = (false, eval e X.env) :: starEach es X.env := by rfl) (hplain : (backTo cpos (starEach es X.env)).any (·.1) = false := by rfl) :
    PE X (.Call (.Attribute o name apos) (e :: es) [] cpos) (tTupM X.K r to t) := by
  refine ⟨fun pins s σ H Q I h => ?_⟩
  refine wpAny_Call_method_late hbase hfew hline rfl (thn (ho.run pins s σ H _ I h) fun v s1 ⟨x, H1, I1, r1, ⟨a, xs, ex, fz⟩, q1⟩ => ?_)
  subst ex
  obtain rfl : v = Value.ref a := r1
  obtain ⟨ob, its, n, g1, g2, g3, g4, g5, g6⟩ := fz.obj I1
  refine ⟨"tuple", id, PySem.F.plainAttrs_tuple, slot, hty, ⟨ob, g1, g2⟩, fun b e => by cases e; exact ⟨ob, g1, g3⟩, ?_⟩
  have hA := ha.run cpos pins s1 σ H1 _ I1 q1
  rw [hs] at hA ⊢
  refine Calls.callWith_builtin (by show (false || (backTo cpos (starEach es X.env)).any (·.1)) = false; rw [hplain] <;> rfl) (Calls.evalArgs_plain ?_)
  exact thn hA fun us s2 ⟨vs, H2, I2, r2, q2⟩ => hm pins s2 σ H2 (.ref a) vs _ us Q I2 rfl r2 q2
def rIndexT (K : PySem.W.Frag) : V → List V → Hp → VK → Prop := fun x xs H Q => ∃ (a : Addr) (ys : List V) (y : V) (j : Nat) (z : V), x = V.ref a ∧ xs = [y] ∧ SqT K H a ys ∧ flatV y = true ∧ ys.all flatV = true ∧ ys[j]? = some z ∧ eqV z y = true ∧
  (∀ (m : Nat) (z' : V), m < j → ys[m]? = some z' → eqV z' y = false) ∧ Q (.int (j : Nat)) H
theorem mt_indexT : MtR X "tuple.index" (rIndexT X.K) := by
  intro pins s σ H x xs v us Q I rx rs h
  obtain ⟨p, ys, y, j, z, rfl, rfl, hq, fy, fys, hy, hzj, hno, q⟩ := h
  cases rx
  obtain ⟨u, rfl, ru⟩ := vals1 rs
  obtain ⟨its, r, pl, hz⟩ := I.tuple hq
  obtain ⟨⟨cls, dd, dt, sl⟩, ho, hc, n, hd⟩ := pl
  simp only at hc hd
  subst hc
  subst hd
  have hl : its.toArray.size = ys.length := by rw [List.size_toArray, ← r.length]
  have hj : j < its.toArray.size := by rw [hl]; exact (List.getElem?_eq_some_iff.mp hy).1
  have at' : ∀ (m : Nat) (hm : m < its.toArray.size), ∃ z', ys[m]? = some z' ∧ eqU y its.toArray[m] = eqV z' y := fun m hm => by
    have hm' : m < ys.length := by rw [← hl]; exact hm
    obtain ⟨w, hw, hr⟩ := r.get (i := m) (x := ys[m]) (by simp [hm'])
    refine ⟨ys[m], List.getElem?_eq_getElem hm', ?_⟩
    have e := (List.getElem?_eq_some_iff.mp hw).2
    have e2 : its.toArray[m] = w := by rw [← e]; simp
    rw [e2]
    exact eqU_of hr (List.all_eq_true.mp fys _ (List.getElem_mem hm'))
  refine call_meets PySem.F.slot_tuple_index ⟨_, ho, rfl⟩ PySem.F.entry_tuple_index (PySem.F.args_tuple_index_2 _ _) (TI.tuple_indexAt p its.toArray n dd sl u (eqU y) j hj ?_ ?_)
    ⟨ho, fun w hw => mem_eqAt (x := y) ru fy r fys w (by simpa using hw), ⟨.int (j : Nat), H, I.tok _, ⟨_, rfl⟩, q⟩⟩
  · obtain ⟨z', h1, h2⟩ := at' j hj
    rw [hy] at h1
    cases h1
    rw [h2]
    exact hzj
  · intro m hm hmj
    obtain ⟨z', h1, h2⟩ := at' m hm
    rw [h2]
    exact hno m z' hmj h1
end
end FL
end

section
set_option autoImplicit false
/-! FL: a def of the program as a plain Lean function of data and a store; one lemma for each construct. -/
namespace FL
open PySem L2

/-- data without addresses; fz: a list that nobody writes (the script); ref: the n-th object of the store -/
inductive D where
  | non
  | bl (b : Bool)
  | int (i : Int)
  | str (s : Str)
  | tup (ds : List D)
  | fz (ds : List D)
  | ref (n : Nat)
  deriving Inhabited
/-- an object of the store -/
inductive O where
  | lst (ds : List D)
  | dct (kvs : List (Key × D))
  | ins (c : Nat) (fs : List (Str × D))
abbrev Store := List O
/-- a slot: forgotten, data, a caught exception -/
inductive Sl where
  | un
  | dat (d : D)
  | exc (c : Nat) (ds : List D)
abbrev Rho := List Sl
/-- the classes by number -/
structure G where
  K : PySem.W.Frag
  ec : Nat → Addr
  fnm : Nat → List Str
  ic : Nat → Addr
/-- the exception that a suite holds: its address, its class, its own dict -/
abbrev HX := Option (Addr × Value × Option Addr)

def FzL (K : PySem.W.Frag) (H : Hp) (a : Addr) (xs : List V) : Prop :=
  (∃ o, H a = some (.frz o (.lst xs))) ∨
    ∃ (o : Obj) (its : Array Value) (n : Nat), K.lookup a = some o ∧ o.cls = .type "list" ∧ o.dict = none ∧ o.data = .seq its n ∧ its.size ≤ sizeLine ∧ Vals xs its.toList
theorem FzL.sq {K : PySem.W.Frag} {H : Hp} {a : Addr} {xs : List V} (h : FzL K H a xs) : SqL K H a xs := by
  rcases h with ⟨o, h⟩ | h
  · exact .inl (.inr ⟨o, h⟩)
  · exact .inr h
mutual
inductive Is (K : PySem.W.Frag) (H : Hp) (As : List Addr) : D → V → Prop
  | non : Is K H As .non .non
  | bl (b : Bool) : Is K H As (.bl b) (.bl b)
  | int (i : Int) : Is K H As (.int i) (.int i)
  | str (s : Str) : Is K H As (.str s) (.str s)
  | tup {a : Addr} {xs : List V} {ds : List D} : FzT K H a xs → IsL K H As ds xs → Is K H As (.tup ds) (.ref a)
  | fz {a : Addr} {xs : List V} {ds : List D} : FzL K H a xs → IsL K H As ds xs → Is K H As (.fz ds) (.ref a)
  | ref {n : Nat} {a : Addr} : As[n]? = some a → Is K H As (.ref n) (.ref a)
inductive IsL (K : PySem.W.Frag) (H : Hp) (As : List Addr) : List D → List V → Prop
  | nil : IsL K H As [] []
  | cons {d : D} {v : V} {ds : List D} {vs : List V} : Is K H As d v → IsL K H As ds vs → IsL K H As (d :: ds) (v :: vs)
end
/-- the heap has grown: only the store's own objects have changed -/
structure Ext (H : Hp) (As : List Addr) (H' : Hp) (As' : List Addr) : Prop where
  pre : As <+: As'
  fresh : ∀ a, a ∈ As' → a ∉ As → H a = none
  keep : ∀ a o, H a = some o → a ∉ As → H' a = some o
  tup : ∀ a xs, H a = some (.tup xs) → H' a = some (.tup xs)
  frz : ∀ a o u, H a = some (.frz o u) → H' a = some (.frz o u)
section
variable {K : PySem.W.Frag} {H H1 H2 : Hp} {As As1 As2 : List Addr} {d : D} {v : V}
theorem Ext.refl (H : Hp) (As : List Addr) : Ext H As H As := ⟨List.prefix_refl _, fun _ h n => absurd h n, fun _ _ h _ => h, fun _ _ h => h, fun _ _ _ h => h⟩
theorem Ext.trans (a : Ext H As H1 As1) (b : Ext H1 As1 H2 As2) : Ext H As H2 As2 where
  pre := List.IsPrefix.trans a.pre b.pre
  fresh := fun x h n => by
    by_cases h1 : x ∈ As1
    · exact a.fresh x h1 n
    · have z := b.fresh x h h1
      cases e : H x with
      | none => rfl
      | some o => rw [a.keep x o e n] at z; cases z
  keep := fun x o e n => by
    refine b.keep x o (a.keep x o e n) fun h => ?_
    rw [a.fresh x h n] at e; cases e
  tup := fun x xs e => b.tup x xs (a.tup x xs e)
  frz := fun x o u e => b.frz x o u (a.frz x o u e)
theorem Ext.get (e : Ext H As H1 As1) {n : Nat} {a : Addr} (h : As[n]? = some a) : As1[n]? = some a := by
  obtain ⟨t, rfl⟩ := e.pre
  rw [List.getElem?_append_left (List.getElem?_eq_some_iff.mp h).1]
  exact h
theorem Ext.sqT (e : Ext H As H1 As1) {a : Addr} {xs : List V} (h : SqT K H a xs) : SqT K H1 a xs := by
  rcases h with (h | ⟨o, h⟩) | h
  · exact .inl (.inl (e.tup _ _ h))
  · exact .inl (.inr ⟨o, e.frz _ _ _ h⟩)
  · exact .inr h
theorem Ext.fzt (e : Ext H As H1 As1) {a : Addr} {xs : List V} (h : FzT K H a xs) : FzT K H1 a xs := by
  rcases h with ⟨o, h, hd⟩ | h
  · exact .inl ⟨o, e.frz _ _ _ h, hd⟩
  · exact .inr h
theorem Ext.fzl (e : Ext H As H1 As1) {a : Addr} {xs : List V} (h : FzL K H a xs) : FzL K H1 a xs := by
  rcases h with ⟨o, h⟩ | h
  · exact .inl ⟨o, e.frz _ _ _ h⟩
  · exact .inr h
mutual
theorem Is.mono (e : Ext H As H1 As1) : ∀ (d : D) (v : V), Is K H As d v → Is K H1 As1 d v
  | .non, _, h => by cases h; exact .non
  | .bl b, _, h => by cases h; exact .bl b
  | .int b, _, h => by cases h; exact .int b
  | .str b, _, h => by cases h; exact .str b
  | .ref n, _, h => by cases h with | ref h => exact .ref (e.get h)
  | .tup ds, _, h => by cases h with | tup h r => exact .tup (e.fzt h) (IsL.mono e ds _ r)
  | .fz ds, _, h => by cases h with | fz h r => exact .fz (e.fzl h) (IsL.mono e ds _ r)
theorem IsL.mono (e : Ext H As H1 As1) : ∀ (ds : List D) (vs : List V), IsL K H As ds vs → IsL K H1 As1 ds vs
  | [], _, h => by cases h; exact .nil
  | d :: ds, _, h => by cases h with | cons a b => exact .cons (Is.mono e d _ a) (IsL.mono e ds _ b)
end
theorem Is.up (h : Is K H As d v) (e : Ext H As H1 As1) : Is K H1 As1 d v := Is.mono e d v h
theorem IsL.up {ds : List D} {vs : List V} (h : IsL K H As ds vs) (e : Ext H As H1 As1) : IsL K H1 As1 ds vs := IsL.mono e ds vs h
theorem IsL.len : ∀ {ds : List D} {vs : List V}, IsL K H As ds vs → ds.length = vs.length
  | _, _, .nil => rfl
  | _, _, .cons _ r => congrArg (· + 1) (IsL.len r)
theorem IsL.get : ∀ {ds : List D} {vs : List V} {i : Nat} {d : D}, IsL K H As ds vs → ds[i]? = some d → ∃ v, vs[i]? = some v ∧ Is K H As d v
  | _, _, _, _, .nil, e => by simp at e
  | _, _, 0, _, .cons a _, e => by simp at e; subst e; exact ⟨_, rfl, a⟩
  | _, _, i + 1, d, .cons _ r, e => by
    obtain ⟨v, h1, h2⟩ := IsL.get (i := i) (d := d) r (by simpa using e)
    exact ⟨v, by simpa using h1, h2⟩
theorem IsL.getV : ∀ {ds : List D} {vs : List V} {i : Nat} {v : V}, IsL K H As ds vs → vs[i]? = some v → ∃ d, ds[i]? = some d ∧ Is K H As d v
  | _, _, _, _, .nil, e => by simp at e
  | _, _, 0, _, .cons a _, e => by simp at e; subst e; exact ⟨_, rfl, a⟩
  | _, _, i + 1, d, .cons _ r, e => by
    obtain ⟨v, h1, h2⟩ := IsL.getV (i := i) (v := d) r (by simpa using e)
    exact ⟨v, by simpa using h1, h2⟩
theorem IsL.app : ∀ {ds es : List D} {vs ws : List V}, IsL K H As ds vs → IsL K H As es ws → IsL K H As (ds ++ es) (vs ++ ws)
  | _, _, _, _, .nil, s => s
  | _, _, _, _, .cons a r, s => .cons a (IsL.app r s)
theorem IsL.take : ∀ {ds : List D} {vs : List V} (n : Nat), IsL K H As ds vs → IsL K H As (ds.take n) (vs.take n)
  | _, _, 0, _ => .nil
  | _, _, _ + 1, .nil => .nil
  | _, _, n + 1, .cons r t => .cons r (IsL.take n t)
theorem IsL.drop : ∀ {ds : List D} {vs : List V} (n : Nat), IsL K H As ds vs → IsL K H As (ds.drop n) (vs.drop n)
  | _, _, 0, r => r
  | _, _, _ + 1, .nil => .nil
  | _, _, n + 1, .cons _ t => IsL.drop n t
theorem IsL.set : ∀ {ds : List D} {vs : List V} (n : Nat) {d : D} {v : V}, IsL K H As ds vs → Is K H As d v → IsL K H As (ds.set n d) (vs.set n v)
  | _, _, _, _, _, .nil, _ => .nil
  | _, _, 0, _, _, .cons _ t, h => .cons h t
  | _, _, n + 1, _, _, .cons r t, h => .cons r (IsL.set n t h)
theorem IsL.split : ∀ {ds es : List D} {ws : List V}, IsL K H As (ds ++ es) ws → ∃ us vs, ws = us ++ vs ∧ IsL K H As ds us ∧ IsL K H As es vs
  | [], es, ws, h => ⟨[], ws, rfl, .nil, h⟩
  | d :: ds, es, _, .cons a r => by
    obtain ⟨us, vs, e, h1, h2⟩ := IsL.split (ds := ds) r
    exact ⟨_ :: us, vs, by rw [e]; rfl, .cons a h1, h2⟩
theorem IsL.rev {ds : List D} {vs : List V} (h : IsL K H As ds vs) : IsL K H As ds.reverse vs.reverse := by
  induction ds generalizing vs with
  | nil => cases h; exact .nil
  | cons d ds ih =>
    cases h with
    | cons a r => rw [List.reverse_cons, List.reverse_cons]; exact (ih r).app (.cons a .nil)
theorem IsL.ints : ∀ (ns : List Int), IsL K H As (ns.map D.int) (ns.map V.int)
  | [] => .nil
  | n :: ns => .cons (.int n) (IsL.ints ns)
theorem IsL.intsV : ∀ {ns : List Int} {vs : List V}, IsL K H As (ns.map D.int) vs → vs = ns.map V.int
  | [], _, .nil => rfl
  | n :: ns, _, .cons a r => by cases a; rw [IsL.intsV r]; rfl
theorem IsL.strsV : ∀ {ns : List Str} {vs : List V}, IsL K H As (ns.map D.str) vs → vs = ns.map V.str
  | [], _, .nil => rfl
  | n :: ns, _, .cons a r => by cases a; rw [IsL.strsV r]; rfl
theorem IsL.blsV : ∀ {ns : List Bool} {vs : List V}, IsL K H As (ns.map D.bl) vs → vs = ns.map V.bl
  | [], _, .nil => rfl
  | n :: ns, _, .cons a r => by cases a; rw [IsL.blsV r]; rfl
end
/-! ### references below n -/
mutual
def Bel (n : Nat) : D → Prop
  | .tup ds => BelL n ds
  | .fz ds => BelL n ds
  | .ref m => m < n
  | _ => True
def BelL (n : Nat) : List D → Prop
  | [] => True
  | d :: ds => Bel n d ∧ BelL n ds
end
def BelO (n : Nat) : O → Prop
  | .lst ds => BelL n ds
  | .dct kvs => BelL n (kvs.map (·.2))
  | .ins _ fs => BelL n (fs.map (·.2))
section
variable {K : PySem.W.Frag} {H : Hp} {As As' : List Addr} {n : Nat}
mutual
theorem Bel.of : ∀ (d : D) (v : V), Is K H As d v → Bel As.length d
  | .non, _, _ => trivial
  | .bl b, _, _ => trivial
  | .int b, _, _ => trivial
  | .str b, _, _ => trivial
  | .ref n, _, h => by cases h with | ref h => exact (List.getElem?_eq_some_iff.mp h).1
  | .tup ds, _, h => by cases h with | tup h r => exact BelL.of ds _ r
  | .fz ds, _, h => by cases h with | fz h r => exact BelL.of ds _ r
theorem BelL.of : ∀ (ds : List D) (vs : List V), IsL K H As ds vs → BelL As.length ds
  | [], _, _ => trivial
  | d :: ds, _, h => by cases h with | cons a b => exact ⟨Bel.of d _ a, BelL.of ds _ b⟩
end
mutual
theorem Is.cut (hp : As <+: As') : ∀ (d : D) (v : V), Is K H As' d v → Bel As.length d → Is K H As d v
  | .non, _, h, _ => by cases h; exact .non
  | .bl b, _, h, _ => by cases h; exact .bl b
  | .int b, _, h, _ => by cases h; exact .int b
  | .str b, _, h, _ => by cases h; exact .str b
  | .ref n, _, h, b => by
    cases h with
    | ref h =>
      have b' : n < As.length := b
      obtain ⟨t, rfl⟩ := hp
      rw [List.getElem?_append_left b'] at h
      exact .ref h
  | .tup ds, _, h, b => by cases h with | tup h r => exact .tup h (IsL.cut hp ds _ r b)
  | .fz ds, _, h, b => by cases h with | fz h r => exact .fz h (IsL.cut hp ds _ r b)
theorem IsL.cut (hp : As <+: As') : ∀ (ds : List D) (vs : List V), IsL K H As' ds vs → BelL As.length ds → IsL K H As ds vs
  | [], _, h, _ => by cases h; exact .nil
  | d :: ds, _, h, b => by cases h with | cons h r => exact .cons (Is.cut hp d _ h b.1) (IsL.cut hp ds _ r b.2)
end
end
/-! ### the store -/
def ObjRel (g : G) (H : Hp) (As : List Addr) : O → Addr → Prop
  | .lst ds, a => ∃ xs, H a = some (.lst xs) ∧ IsL g.K H As ds xs
  | .dct kvs, a => ∃ kxs : List (Key × V), H a = some (.dK kxs) ∧ kvs.map (·.1) = kxs.map (·.1) ∧ IsL g.K H As (kvs.map (·.2)) (kxs.map (·.2))
  | .ins c fs, a => ∃ (dx : Addr) (xs : List (Str × V)), H a = some (.ins (g.ic c) dx xs) ∧ fs.map (·.1) = xs.map (·.1) ∧ IsL g.K H As (fs.map (·.2)) (xs.map (·.2))
def MutO : HO → Prop
  | .lst _ => True
  | .dK _ => True
  | .ins _ _ _ => True
  | _ => False
structure StOk (g : G) (H : Hp) (As : List Addr) (S : Store) : Prop where
  len : As.length = S.length
  nd : As.Nodup
  obj : ∀ (n : Nat) (o : O) (a : Addr), S[n]? = some o → As[n]? = some a → ObjRel g H As o a
section
variable {g : G} {H H1 : Hp} {As As1 : List Addr} {S S1 : Store} {o : O} {a : Addr} {n : Nat}
theorem ObjRel.trk (h : ObjRel g H As o a) : ∃ u, H a = some u ∧ MutO u := by
  cases o with
  | lst ds => obtain ⟨xs, h, _⟩ := h; exact ⟨_, h, trivial⟩
  | dct ds => obtain ⟨xs, h, _⟩ := h; exact ⟨_, h, trivial⟩
  | ins c ds => obtain ⟨_, xs, h, _⟩ := h; exact ⟨_, h, trivial⟩
/-- its cell is as it was -/
theorem ObjRel.up (h : ObjRel g H As o a) (e : Ext H As H1 As1) (ha : H1 a = H a) : ObjRel g H1 As1 o a := by
  cases o with
  | lst ds => obtain ⟨xs, h, r⟩ := h; exact ⟨xs, ha.trans h, r.up e⟩
  | dct ds => obtain ⟨xs, h, k, r⟩ := h; exact ⟨xs, ha.trans h, k, r.up e⟩
  | ins c ds => obtain ⟨dx, xs, h, k, r⟩ := h; exact ⟨dx, xs, ha.trans h, k, r.up e⟩
theorem ObjRel.bel (h : ObjRel g H As o a) : BelO As.length o := by
  cases o with
  | lst ds => obtain ⟨xs, h, r⟩ := h; exact BelL.of _ _ r
  | dct ds => obtain ⟨xs, h, k, r⟩ := h; exact BelL.of _ _ r
  | ins c ds => obtain ⟨dx, xs, h, k, r⟩ := h; exact BelL.of _ _ r
theorem ObjRel.cut (hp : As <+: As1) (h : ObjRel g H As1 o a) (b : BelO As.length o) : ObjRel g H As o a := by
  cases o with
  | lst ds => obtain ⟨xs, h, r⟩ := h; exact ⟨xs, h, IsL.cut hp _ _ r b⟩
  | dct ds => obtain ⟨xs, h, k, r⟩ := h; exact ⟨xs, h, k, IsL.cut hp _ _ r b⟩
  | ins c ds => obtain ⟨dx, xs, h, k, r⟩ := h; exact ⟨dx, xs, h, k, IsL.cut hp _ _ r b⟩
theorem StOk.at (s : StOk g H As S) (h : S[n]? = some o) : ∃ a, As[n]? = some a ∧ ObjRel g H As o a := by
  have hn : n < As.length := by rw [s.len]; exact (List.getElem?_eq_some_iff.mp h).1
  exact ⟨As[n], List.getElem?_eq_getElem hn, s.obj n o _ h (List.getElem?_eq_getElem hn)⟩
theorem StOk.atA (s : StOk g H As S) (h : As[n]? = some a) : ∃ o, S[n]? = some o ∧ ObjRel g H As o a := by
  have hn : n < S.length := by rw [← s.len]; exact (List.getElem?_eq_some_iff.mp h).1
  exact ⟨S[n], List.getElem?_eq_getElem hn, s.obj n _ a (List.getElem?_eq_getElem hn) h⟩
theorem StOk.trk (s : StOk g H As S) (h : a ∈ As) : ∃ u, H a = some u ∧ MutO u := by
  obtain ⟨n, hn⟩ := List.mem_iff_getElem?.mp h
  obtain ⟨o, _, r⟩ := s.atA hn
  exact r.trk
theorem StOk.notMem (s : StOk g H As S) (h : H a = none) : a ∉ As := fun m => by
  obtain ⟨u, e, _⟩ := s.trk m
  rw [h] at e; cases e
theorem StOk.notMemO (s : StOk g H As S) {u : HO} (h : H a = some u) (n : ¬ MutO u) : a ∉ As := fun m => by
  obtain ⟨u', e, k⟩ := s.trk m
  rw [h] at e; cases e; exact n k
/-- a new thing that is no object of the store -/
theorem Ext.side {p : Addr} {u : HO} (s : StOk g H As S) (hp : H p = none) : Ext H As (upd H p u) As where
  pre := List.prefix_refl _
  fresh := fun _ h n => absurd h n
  keep := fun a o e _ => by rw [upd_ne (ne_of_none e hp)]; exact e
  tup := fun a xs e => by rw [upd_ne (ne_of_none e hp)]; exact e
  frz := fun a o xs e => by rw [upd_ne (ne_of_none e hp)]; exact e
theorem StOk.side {p : Addr} {u : HO} (s : StOk g H As S) (hp : H p = none) : StOk g (upd H p u) As S :=
  ⟨s.len, s.nd, fun n o a h1 h2 => (s.obj n o a h1 h2).up (Ext.side s hp) (by
    obtain ⟨u', e, _⟩ := (s.obj n o a h1 h2).trk
    rw [upd_ne (ne_of_none e hp)])⟩
/-- a new object of the store -/
theorem Ext.new {p : Addr} {u : HO} (hp : H p = none) : Ext H As (upd H p u) (As ++ [p]) where
  pre := List.prefix_append _ _
  fresh := fun a h n => by
    rcases List.mem_append.mp h with h | h
    · exact absurd h n
    · rw [List.mem_singleton.mp h]; exact hp
  keep := fun a o e _ => by rw [upd_ne (ne_of_none e hp)]; exact e
  tup := fun a xs e => by rw [upd_ne (ne_of_none e hp)]; exact e
  frz := fun a o xs e => by rw [upd_ne (ne_of_none e hp)]; exact e
theorem StOk.new {p : Addr} {u : HO} (s : StOk g H As S) (hp : H p = none) (r : ObjRel g (upd H p u) (As ++ [p]) o p) : StOk g (upd H p u) (As ++ [p]) (S ++ [o]) where
  len := by rw [List.length_append, List.length_append, s.len]; rfl
  nd := by
    refine List.nodup_append.mpr ⟨s.nd, by simp, fun a ha b hb e => ?_⟩
    rw [List.mem_singleton.mp hb] at e
    exact s.notMem hp (e ▸ ha)
  obj := fun n o' a h1 h2 => by
    by_cases hn : n < S.length
    · rw [List.getElem?_append_left hn] at h1
      rw [List.getElem?_append_left (by rw [s.len]; exact hn)] at h2
      have q := s.obj n o' a h1 h2
      obtain ⟨u', e, _⟩ := q.trk
      exact q.up (Ext.new hp) (by rw [upd_ne (ne_of_none e hp)])
    · have hl : n = S.length := by
        have z := (List.getElem?_eq_some_iff.mp h1).1
        rw [List.length_append] at z
        have : n < S.length + 1 := z
        omega
      subst hl
      rw [List.getElem?_concat_length] at h1
      rw [← s.len, List.getElem?_concat_length] at h2
      cases h1; cases h2
      exact r
/-- an object of the store is written -/
theorem Ext.write {u : HO} (s : StOk g H As S) (ha : As[n]? = some a) : Ext H As (upd H a u) As :=
  have hm : a ∈ As := List.mem_of_getElem? ha
  { pre := List.prefix_refl _
    fresh := fun _ h n => absurd h n
    keep := fun b o e nb => (upd_ne (fun z : b = a => nb (by rw [z]; exact hm))).trans e
    tup := fun b xs e => (upd_ne (fun z : b = a => s.notMemO e (fun k => k) (by rw [z]; exact hm))).trans e
    frz := fun b o xs e => (upd_ne (fun z : b = a => s.notMemO e (fun k => k) (by rw [z]; exact hm))).trans e }
theorem StOk.write {u : HO} (s : StOk g H As S) (ha : As[n]? = some a) (r : ObjRel g (upd H a u) As o a) : StOk g (upd H a u) As (S.set n o) where
  len := by rw [List.length_set, s.len]
  nd := s.nd
  obj := fun m o' b h1 h2 => by
    by_cases hm : m = n
    · subst hm
      rw [ha] at h2; cases h2
      have hl : m < S.length := by rw [← s.len]; exact (List.getElem?_eq_some_iff.mp ha).1
      rw [List.getElem?_set_self hl] at h1
      cases h1
      exact r
    · rw [List.getElem?_set_ne (Ne.symm hm)] at h1
      have q := s.obj m o' b h1 h2
      refine q.up (Ext.write s ha) (upd_ne fun z => hm ?_)
      subst z
      obtain ⟨l3, e3⟩ := List.getElem?_eq_some_iff.mp h2
      obtain ⟨l4, e4⟩ := List.getElem?_eq_some_iff.mp ha
      exact (List.getElem_inj s.nd).mp (e3.trans e4.symm)
end
end FL
end

section
set_option autoImplicit false
namespace FL
open PySem L2

/-! ### answers -/
inductive R (α : Type) where
  | ok (a : α) (S : Store)
  | err (c : Nat) (ds : List D) (S : Store)
  | bad
inductive RS where
  | nx (ρ : Rho) (S : Store)
  | rt (d : D) (S : Store)
  | bk (ρ : Rho) (S : Store)
  | ct (ρ : Rho) (S : Store)
  | err (c : Nat) (ds : List D) (ρ : Rho) (S : Store)
  | bad
abbrev ME := Rho → Store → R D
abbrev MT := Rho → Store → R Bool
abbrev MA := Rho → Store → R (List D)
abbrev MS := Rho → Store → RS
/-- a def's function -/
abbrev MF := List D → Store → R D
def R.bind {α β : Type} : R α → (α → Store → R β) → R β
  | .ok a S, k => k a S
  | .err c ds S, _ => .err c ds S
  | .bad, _ => .bad
@[simp] theorem bind_ok {α β : Type} (a : α) (S : Store) (k : α → Store → R β) : (R.ok a S).bind k = k a S := rfl
@[simp] theorem bind_err {α β : Type} (c : Nat) (ds : List D) (S : Store) (k : α → Store → R β) : (R.err c ds S : R α).bind k = .err c ds S := rfl
@[simp] theorem bind_bad {α β : Type} (k : α → Store → R β) : (R.bad : R α).bind k = .bad := rfl
def R.stm {α : Type} : R α → Rho → (α → Store → RS) → RS
  | .ok a S, _, k => k a S
  | .err c ds S, ρ, _ => .err c ds ρ S
  | .bad, _, _ => .bad
@[simp] theorem stm_ok {α : Type} (a : α) (S : Store) (ρ : Rho) (k : α → Store → RS) : (R.ok a S).stm ρ k = k a S := rfl
@[simp] theorem stm_err {α : Type} (c : Nat) (ds : List D) (S : Store) (ρ : Rho) (k : α → Store → RS) : (R.err c ds S : R α).stm ρ k = .err c ds ρ S := rfl
@[simp] theorem stm_bad {α : Type} (ρ : Rho) (k : α → Store → RS) : (R.bad : R α).stm ρ k = .bad := rfl

/-! ### slots -/
/-- an exception of class c with the fields ds lies with its dict at dd -/
def ExcOk (g : G) (H : Hp) (As : List Addr) (c : Nat) (ds : List D) (dd : Option Addr) : Prop :=
  (ds = [] ∧ g.fnm c = [] ∧ dd = none) ∨ ∃ (d : Addr) (fs : List (Str × V)), dd = some d ∧ H d = some (.xd fs) ∧ d ∉ As ∧ fs.map (·.1) = g.fnm c ∧ IsL g.K H As ds (fs.map (·.2))
def SlOk (g : G) (hx : HX) (H : Hp) (As : List Addr) : Sl → Option (Option V) → Prop
  | .un, _ => True
  | .dat d, o => ∃ v, o = some (some v) ∧ Is g.K H As d v
  | .exc c ds, o => ∃ (a : Addr) (dd : Option Addr), hx = some (a, .ref (g.ec c), dd) ∧ o = some (some (.ref a)) ∧ ExcOk g H As c ds dd
structure EnvOk (g : G) (hx : HX) (H : Hp) (As : List Addr) (ρ : Rho) (σ : L2.St) : Prop where
  len : ρ.length = σ.length
  at_ : ∀ (i : Nat) (s : Sl), ρ[i]? = some s → SlOk g hx H As s σ[i]?
section
variable {g : G} {hx : HX} {H H1 : Hp} {As As1 : List Addr} {ρ : Rho} {σ : L2.St} {S : Store}
theorem ExcOk.up {c : Nat} {ds : List D} {dd : Option Addr} (h : ExcOk g H As c ds dd) (e : Ext H As H1 As1) : ExcOk g H1 As1 c ds dd := by
  rcases h with h | ⟨d, fs, h1, h2, h3, h4, h5⟩
  · exact .inl h
  · refine .inr ⟨d, fs, h1, e.keep _ _ h2 h3, fun m => ?_, h4, h5.up e⟩
    have z := e.fresh d m h3
    rw [h2] at z; cases z
theorem EnvOk.up (h : EnvOk g hx H As ρ σ) (e : Ext H As H1 As1) : EnvOk g hx H1 As1 ρ σ := ⟨h.len, fun i s q => by
  have z := h.at_ i s q
  cases s with
  | un => trivial
  | dat d => obtain ⟨v, e1, r⟩ := z; exact ⟨v, e1, r.up e⟩
  | exc c ds => obtain ⟨a, dd, e0, e1, r⟩ := z; exact ⟨a, dd, e0, e1, r.up e⟩⟩
theorem EnvOk.set (h : EnvOk g hx H As ρ σ) (i : Nat) {s : Sl} {o : Option V} (r : SlOk g hx H As s (some o)) : EnvOk g hx H As (ρ.set i s) (σ.set i o) := ⟨by rw [List.length_set, List.length_set, h.len], fun j s' q => by
  by_cases hj : i = j
  · subst hj
    have hl : i < ρ.length := by
      have z := (List.getElem?_eq_some_iff.mp q).1
      rw [List.length_set] at z
      exact z
    rw [List.getElem?_set_self hl] at q
    cases q
    rw [List.getElem?_set_self (by rw [← h.len]; exact hl)]
    exact r
  · rw [List.getElem?_set_ne hj] at q
    rw [List.getElem?_set_ne hj]
    exact h.at_ j s' q⟩
theorem EnvOk.setD (h : EnvOk g hx H As ρ σ) (i : Nat) {d : D} {v : V} (r : Is g.K H As d v) : EnvOk g hx H As (ρ.set i (.dat d)) (σ.set i (some v)) := h.set i ⟨v, rfl, r⟩
theorem EnvOk.setU (h : EnvOk g hx H As ρ σ) (i : Nat) (o : Option V) : EnvOk g hx H As (ρ.set i .un) (σ.set i o) := h.set i trivial
end

/-! ### what is wanted of an answer -/
section
variable (g : G) (hx : HX) (W : WX)
def Post (σ : L2.St) (H : Hp) (As : List Addr) (r : R D) (Q : VK) : Prop := match r with
  | .ok d S' => ∀ v H' As', Ext H As H' As' → StOk g H' As' S' → Is g.K H' As' d v → Q v H'
  | .err c ds S' => ∀ dd H' As', Ext H As H' As' → StOk g H' As' S' → ExcOk g H' As' c ds dd → W (.ref (g.ec c)) dd σ H'
  | .bad => False
def PostT (σ : L2.St) (H : Hp) (As : List Addr) (r : R Bool) (Q : Bool → Hp → Prop) : Prop := match r with
  | .ok b S' => ∀ H' As', Ext H As H' As' → StOk g H' As' S' → Q b H'
  | .err c ds S' => ∀ dd H' As', Ext H As H' As' → StOk g H' As' S' → ExcOk g H' As' c ds dd → W (.ref (g.ec c)) dd σ H'
  | .bad => False
def PostA (σ : L2.St) (H : Hp) (As : List Addr) (r : R (List D)) (Q : List V → Hp → Prop) : Prop := match r with
  | .ok ds S' => ∀ vs H' As', Ext H As H' As' → StOk g H' As' S' → IsL g.K H' As' ds vs → Q vs H'
  | .err c ds S' => ∀ dd H' As', Ext H As H' As' → StOk g H' As' S' → ExcOk g H' As' c ds dd → W (.ref (g.ec c)) dd σ H'
  | .bad => False
def PostS (H : Hp) (As : List Addr) (r : RS) (E : Ends) : Prop := match r with
  | .nx ρ' S' => ∀ σ' H' As', Ext H As H' As' → StOk g H' As' S' → EnvOk g hx H' As' ρ' σ' → E.nx σ' H'
  | .rt d S' => ∀ v H' As', Ext H As H' As' → StOk g H' As' S' → Is g.K H' As' d v → E.rt v H'
  | .bk ρ' S' => ∀ σ' H' As', Ext H As H' As' → StOk g H' As' S' → EnvOk g hx H' As' ρ' σ' → E.bk σ' H'
  | .ct ρ' S' => ∀ σ' H' As', Ext H As H' As' → StOk g H' As' S' → EnvOk g hx H' As' ρ' σ' → E.ct σ' H'
  | .err c ds ρ' S' => ∀ σ' dd H' As', Ext H As H' As' → StOk g H' As' S' → EnvOk g hx H' As' ρ' σ' → ExcOk g H' As' c ds dd → W (.ref (g.ec c)) dd σ' H'
  | .bad => False
/-- the reading t is answered by m -/
def Sn (t : TE) (m : ME) : Prop := ∀ σ H As ρ S, EnvOk g hx H As ρ σ → StOk g H As S → ∀ Q : VK, Post g W σ H As (m ρ S) Q → t σ H Q
def SnT (t : TT) (m : MT) : Prop := ∀ σ H As ρ S, EnvOk g hx H As ρ σ → StOk g H As S → ∀ Q : Bool → Hp → Prop, PostT g W σ H As (m ρ S) Q → t σ H Q
def SnA (t : TA) (m : MA) : Prop := ∀ σ H As ρ S, EnvOk g hx H As ρ σ → StOk g H As S → ∀ Q : List V → Hp → Prop, PostA g W σ H As (m ρ S) Q → t σ H Q
def SnS (t : TS) (m : MS) : Prop := ∀ σ H As ρ S, EnvOk g hx H As ρ σ → StOk g H As S → ∀ E : Ends, PostS g hx W H As (m ρ S) E → t E σ H
end
section
variable {g : G} {hx : HX} {W : WX} {σ : L2.St} {H H1 : Hp} {As As1 : List Addr} {Q : VK}
/-- later is as good -/
theorem Post.up {r : R D} (h : Post g W σ H As r Q) (e : Ext H As H1 As1) : Post g W σ H1 As1 r Q := by
  cases r with
  | ok d S' => exact fun v H' As' e' => h v H' As' (e.trans e')
  | err c ds S' => exact fun dd H' As' e' => h dd H' As' (e.trans e')
  | bad => exact h
theorem PostT.up {r : R Bool} {Q : Bool → Hp → Prop} (h : PostT g W σ H As r Q) (e : Ext H As H1 As1) : PostT g W σ H1 As1 r Q := by
  cases r with
  | ok d S' => exact fun H' As' e' => h H' As' (e.trans e')
  | err c ds S' => exact fun dd H' As' e' => h dd H' As' (e.trans e')
  | bad => exact h
theorem PostA.up {r : R (List D)} {Q : List V → Hp → Prop} (h : PostA g W σ H As r Q) (e : Ext H As H1 As1) : PostA g W σ H1 As1 r Q := by
  cases r with
  | ok d S' => exact fun v H' As' e' => h v H' As' (e.trans e')
  | err c ds S' => exact fun dd H' As' e' => h dd H' As' (e.trans e')
  | bad => exact h
theorem PostS.up {r : RS} {E : Ends} (h : PostS g hx W H As r E) (e : Ext H As H1 As1) : PostS g hx W H1 As1 r E := by
  cases r with
  | nx ρ S' => exact fun v H' As' e' => h v H' As' (e.trans e')
  | bk ρ S' => exact fun v H' As' e' => h v H' As' (e.trans e')
  | ct ρ S' => exact fun v H' As' e' => h v H' As' (e.trans e')
  | rt d S' => exact fun v H' As' e' => h v H' As' (e.trans e')
  | err c ds ρ S' => exact fun σ' dd H' As' e' => h σ' dd H' As' (e.trans e')
  | bad => exact h
/-- an answer's first half -/
theorem Post.bind {β : Type} {P : R β → Prop} {r : R D} {k : D → Store → R β} (h : P (r.bind k))
    (hok : ∀ d S', P (k d S') → ∀ v H' As', Ext H As H' As' → StOk g H' As' S' → Is g.K H' As' d v → Q v H')
    (herr : ∀ c ds S', P (.err c ds S') → ∀ dd H' As', Ext H As H' As' → StOk g H' As' S' → ExcOk g H' As' c ds dd → W (.ref (g.ec c)) dd σ H') (hbad : ¬ P .bad) : Post g W σ H As r Q := by
  cases r with
  | ok d S' => exact hok d S' h
  | err c ds S' => exact herr c ds S' h
  | bad => exact hbad h
theorem PostT.bind {β : Type} {P : R β → Prop} {r : R Bool} {Q : Bool → Hp → Prop} {k : Bool → Store → R β} (h : P (r.bind k))
    (hok : ∀ d S', P (k d S') → ∀ H' As', Ext H As H' As' → StOk g H' As' S' → Q d H')
    (herr : ∀ c ds S', P (.err c ds S') → ∀ dd H' As', Ext H As H' As' → StOk g H' As' S' → ExcOk g H' As' c ds dd → W (.ref (g.ec c)) dd σ H') (hbad : ¬ P .bad) : PostT g W σ H As r Q := by
  cases r with
  | ok d S' => exact hok d S' h
  | err c ds S' => exact herr c ds S' h
  | bad => exact hbad h
theorem PostA.bind {β : Type} {P : R β → Prop} {r : R (List D)} {Q : List V → Hp → Prop} {k : List D → Store → R β} (h : P (r.bind k))
    (hok : ∀ d S', P (k d S') → ∀ v H' As', Ext H As H' As' → StOk g H' As' S' → IsL g.K H' As' d v → Q v H')
    (herr : ∀ c ds S', P (.err c ds S') → ∀ dd H' As', Ext H As H' As' → StOk g H' As' S' → ExcOk g H' As' c ds dd → W (.ref (g.ec c)) dd σ H') (hbad : ¬ P .bad) : PostA g W σ H As r Q := by
  cases r with
  | ok d S' => exact hok d S' h
  | err c ds S' => exact herr c ds S' h
  | bad => exact hbad h
theorem Post.stm {P : RS → Prop} {r : R D} {ρ : Rho} {k : D → Store → RS} (h : P (r.stm ρ k))
    (hok : ∀ d S', P (k d S') → ∀ v H' As', Ext H As H' As' → StOk g H' As' S' → Is g.K H' As' d v → Q v H')
    (herr : ∀ c ds S', P (.err c ds ρ S') → ∀ dd H' As', Ext H As H' As' → StOk g H' As' S' → ExcOk g H' As' c ds dd → W (.ref (g.ec c)) dd σ H') (hbad : ¬ P .bad) : Post g W σ H As r Q := by
  cases r with
  | ok d S' => exact hok d S' h
  | err c ds S' => exact herr c ds S' h
  | bad => exact hbad h
theorem PostT.stm {P : RS → Prop} {r : R Bool} {Q : Bool → Hp → Prop} {ρ : Rho} {k : Bool → Store → RS} (h : P (r.stm ρ k))
    (hok : ∀ d S', P (k d S') → ∀ H' As', Ext H As H' As' → StOk g H' As' S' → Q d H')
    (herr : ∀ c ds S', P (.err c ds ρ S') → ∀ dd H' As', Ext H As H' As' → StOk g H' As' S' → ExcOk g H' As' c ds dd → W (.ref (g.ec c)) dd σ H') (hbad : ¬ P .bad) : PostT g W σ H As r Q := by
  cases r with
  | ok d S' => exact hok d S' h
  | err c ds S' => exact herr c ds S' h
  | bad => exact hbad h
theorem PostA.stm {P : RS → Prop} {r : R (List D)} {Q : List V → Hp → Prop} {ρ : Rho} {k : List D → Store → RS} (h : P (r.stm ρ k))
    (hok : ∀ d S', P (k d S') → ∀ v H' As', Ext H As H' As' → StOk g H' As' S' → IsL g.K H' As' d v → Q v H')
    (herr : ∀ c ds S', P (.err c ds ρ S') → ∀ dd H' As', Ext H As H' As' → StOk g H' As' S' → ExcOk g H' As' c ds dd → W (.ref (g.ec c)) dd σ H') (hbad : ¬ P .bad) : PostA g W σ H As r Q := by
  cases r with
  | ok d S' => exact hok d S' h
  | err c ds S' => exact herr c ds S' h
  | bad => exact hbad h
end

/-! ### the judgements: a piece of syntax, answered by a function -/
structure FE (X : Cx) (g : G) (hx : HX) (W : WX) (e : Expr) (m : ME) : Prop where
  ex : X.K = g.K ∧ ∃ t, PE X e t ∧ Sn g hx W t m
structure FT (X : Cx) (g : G) (hx : HX) (W : WX) (e : Expr) (m : MT) : Prop where
  ex : X.K = g.K ∧ ∃ t, PT X e t ∧ SnT g hx W t m
structure FW (X : Cx) (g : G) (hx : HX) (W : WX) (e : Expr) (m : MT) : Prop where
  ex : X.K = g.K ∧ ∃ t, PW X e t ∧ SnT g hx W t m
structure FA (X : Cx) (g : G) (hx : HX) (W : WX) (es : List Expr) (m : MA) : Prop where
  ex : X.K = g.K ∧ ∃ t, PA X es t ∧ SnA g hx W t m
structure FS (X : Cx) (g : G) (hx : HX) (W : WX) (st : Stmt) (m : MS) : Prop where
  ex : X.K = g.K ∧ ∃ t, PS X st t ∧ SnS g hx W t m
structure FSs (X : Cx) (g : G) (hx : HX) (W : WX) (st : List Stmt) (m : MS) : Prop where
  ex : X.K = g.K ∧ ∃ t, PSs X st t ∧ SnS g hx W t m

/-! ### names, constants -/
def mVar (i : Nat) : ME := fun ρ S => match ρ[i]? with
  | some (.dat d) => .ok d S
  | _ => .bad
def mC (d : D) : ME := fun _ S => .ok d S
section
variable {X : Cx} {g : G} {hx : HX} {W : WX}
theorem Sn.c {d : D} {v : V} (h : ∀ K H As, Is K H As d v) : Sn g hx W (tC v) (mC d) := fun σ H As ρ S he hs Q hp => hp v H As (Ext.refl _ _) hs (h _ _ _)
theorem f_var (hk : X.K = g.K) (i : Nat) {x : Str} {pos : Pos} (hN : X.N[i]? = some x := by rfl) (hv : Vis X.env.scope x := by first | exact Or.inl rfl | exact Or.inr (Or.inl rfl) | exact Or.inr (Or.inr rfl)) (hd : (x == ("__debug__" : Str)) = false := by decide)
    (hcd : (x == ("__classdict__" : Str)) = false := by decide) : FE X g hx W (.Name x pos) (mVar i) := ⟨hk, _, pe_var hN hv hd hcd, fun σ H As ρ S he hs Q hp => by
  unfold mVar at hp
  cases q : ρ[i]? with
  | none => rw [q] at hp; exact False.elim hp
  | some s =>
    rw [q] at hp
    cases s with
    | un => exact False.elim hp
    | exc c ds => exact False.elim hp
    | dat d =>
      obtain ⟨v, e, r⟩ := he.at_ i _ q
      exact ⟨v, e, hp v H As (Ext.refl _ _) hs r⟩⟩
theorem f_int (hk : X.K = g.K) {i j pos} : FE X g hx W (.Constant (.int i) j pos) (mC (.int i)) := ⟨hk, _, pe_int, Sn.c fun _ _ _ => .int _⟩
theorem f_bl (hk : X.K = g.K) {b j pos} : FE X g hx W (.Constant (.bool b) j pos) (mC (.bl b)) := ⟨hk, _, pe_bl, Sn.c fun _ _ _ => .bl _⟩
theorem f_non (hk : X.K = g.K) {j pos} : FE X g hx W (.Constant .none j pos) (mC .non) := ⟨hk, _, pe_non, Sn.c fun _ _ _ => .non⟩
theorem f_str (hk : X.K = g.K) {x j pos} : FE X g hx W (.Constant (.str x) j pos) (mC (.str x)) := ⟨hk, _, pe_str, Sn.c fun _ _ _ => .str _⟩
/-- a module's constant int or text -/
theorem f_gint (hk : X.K = g.K) {i : Int} {x : Str} {pos : Pos} (hm : ∃ t, X.mg x = some (.int i t)) (hg : Gl X x := by rfl) (hd : (x == ("__debug__" : Str)) = false := by decide) : FE X g hx W (.Name x pos) (mC (.int i)) :=
  let ⟨t, h⟩ := hm
  ⟨hk, _, pe_glob hg h (v := .int i) ⟨t, rfl⟩ hd, Sn.c fun _ _ _ => .int _⟩
theorem f_gstr (hk : X.K = g.K) {z : Str} {x : Str} {pos : Pos} (hm : ∃ t, X.mg x = some (.str z t)) (hg : Gl X x := by rfl) (hd : (x == ("__debug__" : Str)) = false := by decide) : FE X g hx W (.Name x pos) (mC (.str z)) :=
  let ⟨t, h⟩ := hm
  ⟨hk, _, pe_glob hg h (v := .str z) ⟨t, rfl⟩ hd, Sn.c fun _ _ _ => .str _⟩

/-! ### arguments -/
def mNil : MA := fun _ S => .ok [] S
def mCons (ma : ME) (mr : MA) : MA := fun ρ S => (ma ρ S).bind fun d S1 => (mr ρ S1).bind fun ds S2 => .ok (d :: ds) S2
theorem fa_nil (hk : X.K = g.K) : FA X g hx W [] mNil := ⟨hk, _, pa_nil, fun σ H As ρ S he hs Q hp => hp [] H As (Ext.refl _ _) hs .nil⟩
theorem fa_cons {e : Expr} {es : List Expr} {ma : ME} {mr : MA} (ha : FE X g hx W e ma) (hr : FA X g hx W es mr) (hs : starEach (e :: es) X.env = (false, eval e X.env) :: starEach es X.env := by rfl) : FA X g hx W (e :: es) (mCons ma mr) := by
  obtain ⟨hk, ta, pa, sa⟩ := ha.ex
  obtain ⟨_, tr, pr, sr⟩ := hr.ex
  refine ⟨hk, _, pa_cons pa pr hs, fun σ H As ρ S he hs Q hp => ?_⟩
  refine sa σ H As ρ S he hs _ (Post.bind (P := fun r => PostA g W σ H As r Q) hp (fun d S1 hp1 v H1 As1 e1 s1 i1 => ?_) (fun _ _ _ q => q) id)
  refine sr σ H1 As1 ρ S1 (he.up e1) s1 _ (PostA.bind (P := fun r => PostA g W σ H1 As1 r Q) (hp1.up e1) (fun ds S2 hp2 vs H2 As2 e2 s2 i2 => ?_) (fun _ _ _ q => q) id)
  exact hp2 (v :: vs) H2 As2 e2 s2 (.cons (i1.up e2) i2)

/-! ### operations on values -/
/-- r is answered by f -/
def RSn (g : G) (r : R2) (f : D → D → Store → R D) : Prop := ∀ (H : Hp) (As : List Addr) (S : Store) (x y : V) (d e : D), StOk g H As S → Is g.K H As d x → Is g.K H As e y → ∀ Q : VK,
  (∀ z S', f d e S = .ok z S' → ∀ v H' As', Ext H As H' As' → StOk g H' As' S' → Is g.K H' As' z v → Q v H') → (∃ z S', f d e S = .ok z S') → r x y H Q
def mOp (f : D → D → Store → R D) (ma mb : ME) : ME := fun ρ S => (ma ρ S).bind fun d S1 => (mb ρ S1).bind fun e S2 => f d e S2
/-- f never raises -/
def NoErr (f : D → D → Store → R D) : Prop := ∀ d e S c ds S', f d e S ≠ .err c ds S'
theorem Sn.op {ta tb : TE} {ma mb : ME} {r : R2} {f : D → D → Store → R D} (sa : Sn g hx W ta ma) (sb : Sn g hx W tb mb) (hr : RSn g r f) (hn : NoErr f) : Sn g hx W (tOp r ta tb) (mOp f ma mb) := fun σ H As ρ S he hs Q hp => by
  refine sa σ H As ρ S he hs _ (Post.bind (P := fun r => Post g W σ H As r Q) hp (fun d S1 hp1 v H1 As1 e1 s1 i1 => ?_) (fun _ _ _ q => q) id)
  refine sb σ H1 As1 ρ S1 (he.up e1) s1 _ (Post.bind (P := fun r => Post g W σ H1 As1 r Q) (hp1.up e1) (fun e S2 hp2 u H2 As2 e2 s2 i2 => ?_) (fun _ _ _ q => q) id)
  have hp3 := hp2.up e2
  cases q : f d e S2 with
  | ok z S3 =>
    rw [q] at hp3
    exact hr H2 As2 S2 v u d e s2 (i1.up e2) i2 Q (fun z' S' q' => by rw [q] at q'; cases q'; exact hp3) ⟨z, S3, q⟩
  | err c ds S3 => exact absurd q (hn d e S2 c ds S3)
  | bad => rw [q] at hp3; exact False.elim hp3
theorem f_op {a b : Expr} {op : Operator} {pos : Pos} {ma mb : ME} {r : R2} {f : D → D → Store → R D} (ho : OpR X (binaryOp op) r) (hr : RSn g r f) (hn : NoErr f) (ha : FE X g hx W a ma) (hb : FE X g hx W b mb) : FE X g hx W (.BinOp a op b pos) (mOp f ma mb) := by
  obtain ⟨hk, ta, pa, sa⟩ := ha.ex
  obtain ⟨_, tb, pb, sb⟩ := hb.ex
  exact ⟨hk, _, pe_op ho pa pb, Sn.op sa sb hr hn⟩
theorem f_cmp {a b : Expr} {op : CmpOp} {pos : Pos} {ma mb : ME} {r : R2} {f : D → D → Store → R D} (ho : OpR X (compareOp op) r) (hr : RSn g r f) (hn : NoErr f) (ha : FE X g hx W a ma) (hb : FE X g hx W b mb) (hm : behindInMarks op b = false) : FE X g hx W (.Compare a [op] [b] pos) (mOp f ma mb) := by
  obtain ⟨hk, ta, pa, sa⟩ := ha.ex
  obtain ⟨_, tb, pb, sb⟩ := hb.ex
  exact ⟨hk, _, pe_cmpR ho pa pb hm, Sn.op sa sb hr hn⟩
end
end FL
end

section
set_option autoImplicit false
namespace FL
open PySem L2

theorem szle {n : Nat} (h : n ≤ 16777216) : n ≤ sizeLine := by rw [sizeLine_eq]; exact h
theorem szlt {n : Nat} (h : n < 16777216) : n < sizeLine := by rw [sizeLine_eq]; exact h
def getL (S : Store) (n : Nat) : Option (List D) := match S[n]? with
  | some (.lst ds) => some ds
  | _ => none
theorem getL_some {S : Store} {n : Nat} {ds : List D} (h : getL S n = some ds) : S[n]? = some (.lst ds) := by
  unfold getL at h
  split at h
  · rename_i q; cases h; exact q
  · cases h
section
variable {X : Cx} {g : G} {hx : HX} {W : WX} {H : Hp} {As : List Addr} {S : Store}
theorem StOk.lst (s : StOk g H As S) {n : Nat} {ds : List D} (h : S[n]? = some (.lst ds)) : ∃ a xs, As[n]? = some a ∧ H a = some (.lst xs) ∧ IsL g.K H As ds xs := by
  obtain ⟨a, ha, xs, h1, h2⟩ := s.at h
  exact ⟨a, xs, ha, h1, h2⟩
theorem IsRef {n : Nat} {v : V} (h : Is g.K H As (.ref n) v) : ∃ a, v = .ref a ∧ As[n]? = some a := by
  cases h with | ref h => exact ⟨_, rfl, h⟩

/-! ### operators -/
def bAdd : D → D → Store → R D
  | .int i, .int j, S => .ok (.int (i + j)) S
  | .str x, .str y, S => if x.length + y.length ≤ 16777216 then .ok (.str (x ++ y)) S else .bad
  | .tup xs, .tup ys, S => if xs.length + ys.length ≤ 16777216 then .ok (.tup (xs ++ ys)) S else .bad
  | .ref n, .ref m, S => match getL S n, getL S m with
    | some xs, some ys => if xs.length + ys.length ≤ 16777216 then .ok (.ref S.length) (S ++ [.lst (xs ++ ys)]) else .bad
    | _, _ => .bad
  | _, _, _ => .bad
def bSub : D → D → Store → R D
  | .int i, .int j, S => .ok (.int (i - j)) S
  | _, _, _ => .bad
def bMul : D → D → Store → R D
  | .int i, .int j, S => if (i.natAbs < 2 ^ 64 ∨ j.natAbs < 2 ^ 64) ∨ (i.natAbs < 2 ^ 9000 ∧ j.natAbs < 2 ^ 9000) then .ok (.int (i * j)) S else .bad
  | _, _, _ => .bad
def bMod : D → D → Store → R D
  | .int i, .int j, S => if 0 < j then .ok (.int (i % j)) S else .bad
  | _, _, _ => .bad
def bDiv : D → D → Store → R D
  | .int i, .int j, S => if 0 < j ∧ j.natAbs < 2 ^ 300 then .ok (.int (i / j)) S else .bad
  | _, _, _ => .bad
def bPow : D → D → Store → R D
  | .int i, .int j, S => if 0 ≤ j ∧ j ≤ 1000000 ∧ i.natAbs < 2 ^ 64 then .ok (.int (i ^ j.toNat)) S else .bad
  | _, _, _ => .bad
theorem ne_add : NoErr bAdd := by
  intro d e S c ds S' h
  unfold bAdd at h
  split at h <;> (try cases h) <;> (try (split at h <;> (try cases h))) <;> (try (split at h <;> cases h))
theorem ne_sub : NoErr bSub := by intro d e S c ds S' h; unfold bSub at h; split at h <;> cases h
theorem ne_mul : NoErr bMul := by intro d e S c ds S' h; unfold bMul at h; split at h <;> (try cases h); split at h <;> cases h
theorem ne_mod : NoErr bMod := by intro d e S c ds S' h; unfold bMod at h; split at h <;> (try cases h); split at h <;> cases h
theorem ne_div : NoErr bDiv := by intro d e S c ds S' h; unfold bDiv at h; split at h <;> (try cases h); split at h <;> cases h
theorem ne_pow : NoErr bPow := by intro d e S c ds S' h; unfold bPow at h; split at h <;> (try cases h); split at h <;> cases h
/-- a rule that leaves the heap as it is -/
theorem RSn.pure {H : Hp} {As : List Addr} {S : Store} {z : D} {v : V} {Q : VK} {r : R D} (hs : StOk g H As S) (he : r = .ok z S) (k : ∀ z S', r = .ok z S' → ∀ v H' As', Ext H As H' As' → StOk g H' As' S' → Is g.K H' As' z v → Q v H') (i : Is g.K H As z v) : Q v H := k z S he v H As (Ext.refl _ _) hs i
def rAdd4 (K : PySem.W.Frag) : R2 := fun x y H Q => (rI0 fun i j => .int (i + j)) x y H Q ∨ (∃ i j, x = .str i ∧ y = .str j ∧ i.length + j.length ≤ sizeLine ∧ Q (.str (i ++ j)) H) ∨ rCatF K x y H Q ∨ rCat x y H Q
theorem op_add4 : OpR X (binaryOp .Add) (rAdd4 X.K) := op_add.or (op_add_str.or (op_catF.or op_cat))
theorem rs_add : RSn g (rAdd4 g.K) bAdd := by
  intro H As S x y d e hs ix iy Q k ⟨z, S', he⟩
  have hz := he
  unfold bAdd at he
  split at he
  · cases he; cases ix; cases iy
    exact .inl ⟨_, _, rfl, rfl, RSn.pure hs hz k (.int _)⟩
  · cases ix; cases iy
    split at he
    · rename_i hl
      cases he
      exact .inr (.inl ⟨_, _, rfl, rfl, szle hl, RSn.pure hs hz k (.str _)⟩)
    · cases he
  · cases ix with
    | tup h1 i1 =>
      cases iy with
      | tup h2 i2 =>
        split at he
        · rename_i hl
          cases he
          refine .inr (.inr (.inl ⟨_, _, _, _, rfl, rfl, h1.sq, h2.sq, szle (by rw [← i1.len, ← i2.len]; exact hl), fun e1 => ?_, fun e1 e2 => ?_, fun e1 e2 p o hp hd => ?_⟩))
          · refine RSn.pure hs hz k (.tup h2 ?_)
            subst e1
            cases i1
            exact i2
          · refine RSn.pure hs hz k (.tup h1 ?_)
            subst e2
            cases i2
            rw [List.append_nil]
            exact i1
          · exact k _ _ hz (.ref p) _ As (Ext.side hs hp) (hs.side hp) (.tup (FzT.of upd_same hd) ((i1.app i2).up (Ext.side hs hp)))
        · cases he
  · obtain ⟨a, rfl, ha⟩ := IsRef ix
    obtain ⟨b, rfl, hb⟩ := IsRef iy
    split at he
    · rename_i xs ys q1 q2
      split at he
      · rename_i hl
        cases he
        obtain ⟨a', us, ha', h1, i1⟩ := hs.lst (getL_some q1)
        obtain ⟨b', vs, hb', h2, i2⟩ := hs.lst (getL_some q2)
        rw [ha] at ha'; cases ha'
        rw [hb] at hb'; cases hb'
        refine .inr (.inr (.inr ⟨a, b, us, vs, rfl, rfl, h1, h2, szle (by rw [← i1.len, ← i2.len]; exact hl), fun p hp => ?_⟩))
        have ex : Ext H As (upd H p (.lst (us ++ vs))) (As ++ [p]) := Ext.new hp
        exact k _ _ hz (.ref p) _ _ ex (hs.new hp ⟨_, upd_same, (i1.app i2).up ex⟩) (.ref (by rw [← hs.len]; exact List.getElem?_concat_length))
      · cases he
    · cases he
  · cases he
theorem rs_sub : RSn g (rI0 fun i j => .int (i - j)) bSub := by
  intro H As S x y d e hs ix iy Q k ⟨z, S', he⟩
  have hz := he
  unfold bSub at he
  split at he
  · cases he; cases ix; cases iy
    exact ⟨_, _, rfl, rfl, RSn.pure hs hz k (.int _)⟩
  · cases he
theorem CMul.of {i j : Int} (h : i.natAbs < 2 ^ 64 ∨ j.natAbs < 2 ^ 64) : CMul i j := by
  rcases h with h | h
  · left; omega
  · right; omega
def rMul2 : R2 := fun x y H Q => (rI CMul fun i j => .int (i * j)) x y H Q ∨ (rI CMulW fun i j => .int (i * j)) x y H Q
theorem op_mul2 : OpR X (binaryOp .Mult) rMul2 := op_mul.or op_mulW
theorem rs_mul : RSn g rMul2 bMul := by
  intro H As S x y d e hs ix iy Q k ⟨z, S', he⟩
  have hz := he
  unfold bMul at he
  split at he
  · cases ix; cases iy
    split at he
    · rename_i hc
      cases he
      rcases hc with hc | hc
      · exact .inl ⟨_, _, rfl, rfl, CMul.of hc, RSn.pure hs hz k (.int _)⟩
      · exact .inr ⟨_, _, rfl, rfl, wide_mul hc.1 hc.2 (by decide) (by decide) (by decide), RSn.pure hs hz k (.int _)⟩
    · cases he
  · cases he
theorem rs_mod : RSn g (rI (fun _ j => 0 < j) fun i j => .int (i % j)) bMod := by
  intro H As S x y d e hs ix iy Q k ⟨z, S', he⟩
  have hz := he
  unfold bMod at he
  split at he
  · cases ix; cases iy
    split at he
    · rename_i hc
      cases he
      exact ⟨_, _, rfl, rfl, hc, RSn.pure hs hz k (.int _)⟩
    · cases he
  · cases he
theorem rs_div : RSn g (rI CDivW fun i j => .int (i / j)) bDiv := by
  intro H As S x y d e hs ix iy Q k ⟨z, S', he⟩
  have hz := he
  unfold bDiv at he
  split at he
  · cases ix; cases iy
    split at he
    · rename_i hc
      cases he
      exact ⟨_, _, rfl, rfl, wide_div (i := 0) hc.1 hc.2 (by decide) (by decide), RSn.pure hs hz k (.int _)⟩
    · cases he
  · cases he
theorem rs_pow : RSn g (rI CPow fun i j => .int (i ^ j.toNat)) bPow := by
  intro H As S x y d e hs ix iy Q k ⟨z, S', he⟩
  have hz := he
  unfold bPow at he
  split at he
  · cases ix; cases iy
    split at he
    · rename_i hc
      cases he
      exact ⟨_, _, rfl, rfl, hc, RSn.pure hs hz k (.int _)⟩
    · cases he
  · cases he
variable {a b c : Expr} {ma mb mc : ME} {pos : Pos}
theorem f_add (ha : FE X g hx W a ma) (hb : FE X g hx W b mb) : FE X g hx W (.BinOp a .Add b pos) (mOp bAdd ma mb) := f_op (by have := ha.ex.1; rw [← this]; exact op_add4) rs_add ne_add ha hb
theorem f_sub (ha : FE X g hx W a ma) (hb : FE X g hx W b mb) : FE X g hx W (.BinOp a .Sub b pos) (mOp bSub ma mb) := f_op op_sub rs_sub ne_sub ha hb
theorem f_mul (ha : FE X g hx W a ma) (hb : FE X g hx W b mb) : FE X g hx W (.BinOp a .Mult b pos) (mOp bMul ma mb) := f_op op_mul2 rs_mul ne_mul ha hb
theorem f_mod (ha : FE X g hx W a ma) (hb : FE X g hx W b mb) : FE X g hx W (.BinOp a .Mod b pos) (mOp bMod ma mb) := f_op op_mod rs_mod ne_mod ha hb
theorem f_div (ha : FE X g hx W a ma) (hb : FE X g hx W b mb) : FE X g hx W (.BinOp a .FloorDiv b pos) (mOp bDiv ma mb) := f_op op_fdivW rs_div ne_div ha hb
theorem f_pow (ha : FE X g hx W a ma) (hb : FE X g hx W b mb) : FE X g hx W (.BinOp a .Pow b pos) (mOp bPow ma mb) := f_op op_pow rs_pow ne_pow ha hb
/-! ### unary minus -/
def mNeg (ma : ME) : ME := fun ρ S => (ma ρ S).bind fun d S1 => match d with
  | .int i => .ok (.int (-i)) S1
  | _ => .bad
theorem f_neg (ha : FE X g hx W a ma) : FE X g hx W (.UnaryOp .USub a pos) (mNeg ma) := by
  obtain ⟨hk, ta, pa, sa⟩ := ha.ex
  refine ⟨hk, _, pe_un un_neg pa, fun σ H As ρ S he hs Q hp => ?_⟩
  refine sa σ H As ρ S he hs _ (Post.bind (P := fun r => Post g W σ H As r Q) hp (fun d S1 hp1 v H1 As1 e1 s1 i1 => ?_) (fun _ _ _ q => q) id)
  cases i1 with
  | int i => exact ⟨i, rfl, hp1 (.int (-i)) H1 As1 e1 s1 (.int _)⟩
  | _ => exact False.elim hp1
end
end FL
end

section
set_option autoImplicit false
namespace FL
open PySem L2

/-! ### == of data -/
mutual
def pyD : D → PyData
  | .non => .none
  | .bl b => .bool b
  | .int i => .int i
  | .str s => .str s
  | .tup ds => .tuple (pyL ds)
  | .fz ds => .list (pyL ds)
  | .ref _ => .dict []
def pyL : List D → List PyData
  | [] => []
  | d :: ds => pyD d :: pyL ds
end
section
variable {K : PySem.W.Frag} {H : Hp} {As : List Addr}
mutual
theorem Is.dp : ∀ (d : D) (v : V), Is K H As d v → (pyD d).canLay0 = true → Dp K H v (pyD d)
  | .non, _, h, _ => by cases h; exact .non
  | .bl b, _, h, _ => by cases h; exact .bl b
  | .int b, _, h, _ => by cases h; exact .int b
  | .str b, _, h, _ => by cases h; exact .str b
  | .ref n, _, h, b => absurd (show (PyData.dict []).canLay0 = true from b) (by simp [PyData.canLay0])
  | .tup ds, _, h, b => by
    cases h with
    | tup h r => exact .tup h.sq (IsL.dp ds _ r (by simpa [pyD, PyData.canLay0] using b))
  | .fz ds, _, h, b => by
    cases h with
    | fz h r => exact .lst h.sq (IsL.dp ds _ r (by simpa [pyD, PyData.canLay0] using b))
theorem IsL.dp : ∀ (ds : List D) (vs : List V), IsL K H As ds vs → PyData.canLayAll0 (pyL ds) = true → DpAll K H vs (pyL ds)
  | [], _, h, _ => by cases h; exact .nil
  | d :: ds, _, h, b => by
    cases h with
    | cons h r =>
      have b' : PyData.canLay0 (pyD d) = true ∧ PyData.canLayAll0 (pyL ds) = true := by simpa [pyL, PyData.canLayAll0, Bool.and_eq_true] using b
      exact .cons (Is.dp d _ h b'.1) (IsL.dp ds _ r b'.2)
end
end
/-- == of two scalars -/
def eqS : D → D → Option Bool
  | .non, .non => some true
  | .int i, .int j => some (decide (i = j))
  | .bl i, .bl j => some (decide (i = j))
  | .str i, .str j => some (decide (i = j))
  | .non, .int _ => some false
  | .int _, .non => some false
  | .non, .bl _ => some false
  | .bl _, .non => some false
  | .non, .str _ => some false
  | .str _, .non => some false
  | .int _, .str _ => some false
  | .str _, .int _ => some false
  | .bl _, .str _ => some false
  | .str _, .bl _ => some false
  | _, _ => none
def eqD (d e : D) : Option Bool := match eqS d e with
  | some b => some b
  | none => if SeqAt.shaped (pyD d) = true ∧ SeqAt.shaped (pyD e) = true then some (PyData.eqv (pyD d) (pyD e)) else none
def bEq (d e : D) (S : Store) : R D := match eqD d e with
  | some b => .ok (.bl b) S
  | none => .bad
def bNe (d e : D) (S : Store) : R D := match eqD d e with
  | some b => .ok (.bl (!b)) S
  | none => .bad
def bLt : D → D → Store → R D
  | .int i, .int j, S => .ok (.bl (decide (i < j))) S
  | _, _, _ => .bad
def bLe : D → D → Store → R D
  | .int i, .int j, S => .ok (.bl (decide (i ≤ j))) S
  | _, _, _ => .bad
def bGt : D → D → Store → R D
  | .int i, .int j, S => .ok (.bl (decide (j < i))) S
  | _, _, _ => .bad
def bGe : D → D → Store → R D
  | .int i, .int j, S => .ok (.bl (decide (j ≤ i))) S
  | _, _, _ => .bad
def isNonD : D → Bool
  | .non => true
  | _ => false
def bIsN : D → D → Store → R D
  | d, .non, S => .ok (.bl (isNonD d)) S
  | _, _, _ => .bad
def bNotN : D → D → Store → R D
  | d, .non, S => .ok (.bl (!isNonD d)) S
  | _, _, _ => .bad
theorem ne_eq : NoErr bEq := by intro d e S c ds S' h; unfold bEq at h; split at h <;> cases h
theorem ne_ne : NoErr bNe := by intro d e S c ds S' h; unfold bNe at h; split at h <;> cases h
theorem ne_lt : NoErr bLt := by intro d e S c ds S' h; unfold bLt at h; split at h <;> cases h
theorem ne_le : NoErr bLe := by intro d e S c ds S' h; unfold bLe at h; split at h <;> cases h
theorem ne_gt : NoErr bGt := by intro d e S c ds S' h; unfold bGt at h; split at h <;> cases h
theorem ne_ge : NoErr bGe := by intro d e S c ds S' h; unfold bGe at h; split at h <;> cases h
theorem ne_isN : NoErr bIsN := by intro d e S c ds S' h; unfold bIsN at h; split at h <;> cases h
theorem ne_notN : NoErr bNotN := by intro d e S c ds S' h; unfold bNotN at h; split at h <;> cases h
section
variable {X : Cx} {g : G} {hx : HX} {W : WX} {H : Hp} {As : List Addr} {S : Store}
def rEq2 (K : PySem.W.Frag) : R2 := fun x y H Q => rEq x y H Q ∨ rEqD K x y H Q
def rNe2 (K : PySem.W.Frag) : R2 := fun x y H Q => rNe x y H Q ∨ rNeD K x y H Q
theorem op_eq2 (hu : X.A.units + 64 < cLine) : OpR X (compareOp .Eq) (rEq2 X.K) := op_eq.or (op_eqD hu)
theorem op_ne2 (hu : X.A.units + 64 < cLine) : OpR X (compareOp .NotEq) (rNe2 X.K) := op_ne.or (op_neD hu)
theorem scalD {x y : V} {d e : D} {b : Bool} (h : eqS d e = some b) (ix : Is g.K H As d x) (iy : Is g.K H As e y) : scal x y = true ∧ decide (x = y) = b := by
  cases ix <;> cases iy <;> first
    | (simp only [eqS, Option.some.injEq] at h; subst h; refine ⟨rfl, ?_⟩; simp)
    | (simp [eqS] at h)
theorem rs_eq : RSn g (rEq2 g.K) bEq := by
  intro H As S x y d e hs ix iy Q k ⟨z, S', he⟩
  have hz := he
  unfold bEq at he
  split at he
  · rename_i b q
    cases he
    unfold eqD at q
    split at q
    · rename_i b' q'
      cases q
      obtain ⟨h1, h2⟩ := scalD q' ix iy
      refine .inl ⟨h1, ?_⟩
      rw [h2]
      exact RSn.pure hs hz k (.bl _)
    · split at q
      · rename_i hc
        cases q
        exact .inr ⟨_, _, Is.dp d x ix (SeqAt.canLay_of_shaped hc.1), Is.dp e y iy (SeqAt.canLay_of_shaped hc.2), hc.1, hc.2, RSn.pure hs hz k (.bl _)⟩
      · cases q
  · cases he
theorem rs_ne : RSn g (rNe2 g.K) bNe := by
  intro H As S x y d e hs ix iy Q k ⟨z, S', he⟩
  have hz := he
  unfold bNe at he
  split at he
  · rename_i b q
    cases he
    unfold eqD at q
    split at q
    · rename_i b' q'
      cases q
      obtain ⟨h1, h2⟩ := scalD q' ix iy
      refine .inl ⟨h1, ?_⟩
      rw [h2]
      exact RSn.pure hs hz k (.bl _)
    · split at q
      · rename_i hc
        cases q
        exact .inr ⟨_, _, Is.dp d x ix (SeqAt.canLay_of_shaped hc.1), Is.dp e y iy (SeqAt.canLay_of_shaped hc.2), hc.1, hc.2, RSn.pure hs hz k (.bl _)⟩
      · cases q
  · cases he
theorem rs_lt : RSn g (rI0 fun i j => .bl (decide (i < j))) bLt := by
  intro H As S x y d e hs ix iy Q k ⟨z, S', he⟩
  have hz := he
  unfold bLt at he
  split at he
  · cases he; cases ix; cases iy; exact ⟨_, _, rfl, rfl, RSn.pure hs hz k (.bl _)⟩
  · cases he
theorem rs_le : RSn g (rI0 fun i j => .bl (decide (i ≤ j))) bLe := by
  intro H As S x y d e hs ix iy Q k ⟨z, S', he⟩
  have hz := he
  unfold bLe at he
  split at he
  · cases he; cases ix; cases iy; exact ⟨_, _, rfl, rfl, RSn.pure hs hz k (.bl _)⟩
  · cases he
theorem rs_gt : RSn g (rI0 fun i j => .bl (decide (j < i))) bGt := by
  intro H As S x y d e hs ix iy Q k ⟨z, S', he⟩
  have hz := he
  unfold bGt at he
  split at he
  · cases he; cases ix; cases iy; exact ⟨_, _, rfl, rfl, RSn.pure hs hz k (.bl _)⟩
  · cases he
theorem rs_ge : RSn g (rI0 fun i j => .bl (decide (j ≤ i))) bGe := by
  intro H As S x y d e hs ix iy Q k ⟨z, S', he⟩
  have hz := he
  unfold bGe at he
  split at he
  · cases he; cases ix; cases iy; exact ⟨_, _, rfl, rfl, RSn.pure hs hz k (.bl _)⟩
  · cases he
theorem isNonV {x : V} {d : D} (ix : Is g.K H As d x) : decide (x = .non) = isNonD d := by
  cases ix <;> simp [isNonD]
theorem rs_isN : RSn g (fun x y H Q => y = .non ∧ Q (.bl (decide (x = .non))) H) bIsN := by
  intro H As S x y d e hs ix iy Q k ⟨z, S', he⟩
  have hz := he
  unfold bIsN at he
  split at he
  · cases he; cases iy; refine ⟨rfl, ?_⟩; rw [isNonV ix]; exact RSn.pure hs hz k (.bl _)
  · cases he
theorem rs_notN : RSn g (fun x y H Q => y = .non ∧ Q (.bl (!decide (x = .non))) H) bNotN := by
  intro H As S x y d e hs ix iy Q k ⟨z, S', he⟩
  have hz := he
  unfold bNotN at he
  split at he
  · cases he; cases iy; refine ⟨rfl, ?_⟩; rw [isNonV ix]; exact RSn.pure hs hz k (.bl _)
  · cases he
/-- x in y: one sign in a text; flat things in a row -/
def flatD : D → Bool
  | .non => true
  | .bl _ => true
  | .int _ => true
  | .str _ => true
  | _ => false
def eqF : D → D → Bool
  | .non, .non => true
  | .bl a, .bl b => a == b
  | .bl a, .int b => (if a then 1 else 0) == b
  | .int a, .bl b => a == (if b then 1 else 0)
  | .int a, .int b => a == b
  | .str a, .str b => a == b
  | _, _ => false
def inD (x : D) (ds : List D) : Bool := ds.any fun y => eqF y x
def rowOf (S : Store) : D → Option (List D)
  | .tup ds => some ds
  | .fz ds => some ds
  | .ref n => getL S n
  | _ => none
def inB (d e : D) (S : Store) : Option Bool := match d, e with
  | .str x, .str z => if x.cps.size = 1 then some (decide (x.cps.getD 0 0 ∈ z.cps.toList)) else none
  | d, e => match rowOf S e with
    | some ds => if flatD d = true ∧ ds.all flatD = true then some (inD d ds) else none
    | none => none
def bIn (d e : D) (S : Store) : R D := match inB d e S with
  | some b => .ok (.bl b) S
  | none => .bad
def bNotIn (d e : D) (S : Store) : R D := match inB d e S with
  | some b => .ok (.bl (!b)) S
  | none => .bad
theorem ne_in : NoErr bIn := by intro d e S c ds S' h; unfold bIn at h; split at h <;> cases h
theorem ne_notIn : NoErr bNotIn := by intro d e S c ds S' h; unfold bNotIn at h; split at h <;> cases h
theorem flatIs {d : D} {x : V} (h : Is g.K H As d x) (f : flatD d = true) : flatV x = true := by
  cases h <;> first | rfl | (simp [flatD] at f)
theorem flatIsL : ∀ {ds : List D} {xs : List V}, IsL g.K H As ds xs → ds.all flatD = true → xs.all flatV = true
  | _, _, .nil, _ => rfl
  | d :: ds, x :: xs, .cons h r, f => by
    rw [List.all_cons, Bool.and_eq_true] at f ⊢
    exact ⟨flatIs h f.1, flatIsL r f.2⟩
theorem eqFV {d e : D} {x y : V} (h : Is g.K H As d x) (h2 : Is g.K H As e y) (f : flatD d = true) (f2 : flatD e = true) : eqV x y = eqF d e := by
  cases h <;> cases h2 <;> first | rfl | (simp [flatD] at f f2)
theorem inDV {d : D} {x : V} (h : Is g.K H As d x) (f : flatD d = true) : ∀ {ds : List D} {xs : List V}, IsL g.K H As ds xs → ds.all flatD = true → inV x xs = inD d ds
  | _, _, .nil, _ => rfl
  | e :: ds, y :: xs, .cons h2 r, f2 => by
    rw [List.all_cons, Bool.and_eq_true] at f2
    have ih := inDV h f r f2.2
    unfold inV inD at ih ⊢
    rw [List.any_cons, List.any_cons, ih, eqFV h2 h f2.1 f]
theorem StOk.row (s : StOk g H As S) {e : D} {y : V} {ds : List D} (h : rowOf S e = some ds) (iy : Is g.K H As e y) : ∃ p xs, y = .ref p ∧ (SqL g.K H p xs ∨ SqT g.K H p xs) ∧ IsL g.K H As ds xs := by
  cases iy with
  | tup h1 r => cases h; exact ⟨_, _, rfl, .inr h1.sq, r⟩
  | fz h1 r => cases h; exact ⟨_, _, rfl, .inl h1.sq, r⟩
  | ref ha =>
    obtain ⟨a, xs, ha', h1, r⟩ := s.lst (getL_some h)
    rw [ha] at ha'; cases ha'
    exact ⟨_, _, rfl, .inl (SqL.of h1), r⟩
  | _ => cases h
theorem StOk.rowF (s : StOk g H As S) {e : D} {y : V} {ds : List D} (h : rowOf S e = some ds) (iy : Is g.K H As e y) : ∃ p xs, y = .ref p ∧ (SqL g.K H p xs ∨ FzT g.K H p xs) ∧ IsL g.K H As ds xs := by
  cases iy with
  | tup h1 r => cases h; exact ⟨_, _, rfl, .inr h1, r⟩
  | fz h1 r => cases h; exact ⟨_, _, rfl, .inl h1.sq, r⟩
  | ref ha =>
    obtain ⟨a, xs, ha', h1, r⟩ := s.lst (getL_some h)
    rw [ha] at ha'; cases ha'
    exact ⟨_, _, rfl, .inl (SqL.of h1), r⟩
  | _ => cases h
def rIn2 (K : PySem.W.Frag) : R2 := fun x y H Q => (∃ (c : Nat) (z : Str), x = .str ⟨#[c]⟩ ∧ y = .str z ∧ Q (.bl (decide (c ∈ z.cps.toList))) H) ∨ rIn K false x y H Q
def rNotIn2 (K : PySem.W.Frag) : R2 := fun x y H Q => (∃ (c : Nat) (z : Str), x = .str ⟨#[c]⟩ ∧ y = .str z ∧ Q (.bl (!decide (c ∈ z.cps.toList))) H) ∨ rIn K true x y H Q
theorem op_in2 : OpR X (compareOp .In) (rIn2 X.K) := op_in_sign.or op_in_seq
theorem op_notIn2 : OpR X (compareOp .NotIn) (rNotIn2 X.K) := op_notIn_sign.or op_notIn_seq
theorem str1 {x : Str} (h : x.cps.size = 1) : x = ⟨#[x.cps.getD 0 0]⟩ := by
  obtain ⟨⟨l⟩⟩ := x
  match l, h with
  | [c], _ => rfl
theorem rs_in : RSn g (rIn2 g.K) bIn := by
  intro H As S x y d e hs ix iy Q k ⟨z, S', he⟩
  have hz := he
  unfold bIn at he
  split at he
  · rename_i b q
    cases he
    unfold inB at q
    split at q
    · cases ix; cases iy
      split at q
      · rename_i h1
        cases q
        exact .inl ⟨_, _, congrArg V.str (str1 h1), rfl, RSn.pure hs hz k (.bl _)⟩
      · cases q
    · split at q
      · rename_i ds q2
        split at q
        · rename_i hf
          cases q
          obtain ⟨p, xs, rfl, hq, r⟩ := hs.row q2 iy
          refine .inr ⟨p, xs, rfl, hq, flatIs ix hf.1, flatIsL r hf.2, ?_⟩
          rw [if_neg Bool.false_ne_true, inDV ix hf.1 r hf.2]
          exact RSn.pure hs hz k (.bl _)
        · cases q
      · cases q
  · cases he
theorem rs_notIn : RSn g (rNotIn2 g.K) bNotIn := by
  intro H As S x y d e hs ix iy Q k ⟨z, S', he⟩
  have hz := he
  unfold bNotIn at he
  split at he
  · rename_i b q
    cases he
    unfold inB at q
    split at q
    · cases ix; cases iy
      split at q
      · rename_i h1
        cases q
        exact .inl ⟨_, _, congrArg V.str (str1 h1), rfl, RSn.pure hs hz k (.bl _)⟩
      · cases q
    · split at q
      · rename_i ds q2
        split at q
        · rename_i hf
          cases q
          obtain ⟨p, xs, rfl, hq, r⟩ := hs.row q2 iy
          refine .inr ⟨p, xs, rfl, hq, flatIs ix hf.1, flatIsL r hf.2, ?_⟩
          rw [if_pos rfl, inDV ix hf.1 r hf.2]
          exact RSn.pure hs hz k (.bl _)
        · cases q
      · cases q
  · cases he
end
section
variable {X : Cx} {g : G} {hx : HX} {W : WX} {a b c : Expr} {ma mb mc : ME} {pos : Pos}
theorem kEq {e : Expr} {m : ME} {f : PySem.W.Frag → Prop} (ha : FE X g hx W e m) (h : f X.K) : f g.K := by rw [← ha.ex.1]; exact h
theorem f_eq (hu : X.A.units + 64 < cLine) (ha : FE X g hx W a ma) (hb : FE X g hx W b mb) : FE X g hx W (.Compare a [.Eq] [b] pos) (mOp bEq ma mb) := f_cmp (kEq (f := fun K => OpR X (compareOp .Eq) (rEq2 K)) ha (op_eq2 hu)) rs_eq ne_eq ha hb (nomark b)
theorem f_ne (hu : X.A.units + 64 < cLine) (ha : FE X g hx W a ma) (hb : FE X g hx W b mb) : FE X g hx W (.Compare a [.NotEq] [b] pos) (mOp bNe ma mb) := f_cmp (kEq (f := fun K => OpR X (compareOp .NotEq) (rNe2 K)) ha (op_ne2 hu)) rs_ne ne_ne ha hb (nomark b)
theorem f_lt (ha : FE X g hx W a ma) (hb : FE X g hx W b mb) : FE X g hx W (.Compare a [.Lt] [b] pos) (mOp bLt ma mb) := f_cmp op_lt rs_lt ne_lt ha hb (nomark b)
theorem f_le (ha : FE X g hx W a ma) (hb : FE X g hx W b mb) : FE X g hx W (.Compare a [.LtE] [b] pos) (mOp bLe ma mb) := f_cmp op_le rs_le ne_le ha hb (nomark b)
theorem f_gt (ha : FE X g hx W a ma) (hb : FE X g hx W b mb) : FE X g hx W (.Compare a [.Gt] [b] pos) (mOp bGt ma mb) := f_cmp op_gt rs_gt ne_gt ha hb (nomark b)
theorem f_ge (ha : FE X g hx W a ma) (hb : FE X g hx W b mb) : FE X g hx W (.Compare a [.GtE] [b] pos) (mOp bGe ma mb) := f_cmp op_ge rs_ge ne_ge ha hb (nomark b)
theorem f_isN (ha : FE X g hx W a ma) (hb : FE X g hx W b mb) : FE X g hx W (.Compare a [.Is] [b] pos) (mOp bIsN ma mb) := f_cmp op_isN rs_isN ne_isN ha hb (nomark b)
theorem f_notN (ha : FE X g hx W a ma) (hb : FE X g hx W b mb) : FE X g hx W (.Compare a [.IsNot] [b] pos) (mOp bNotN ma mb) := f_cmp op_notN rs_notN ne_notN ha hb (nomark b)
theorem f_in (ha : FE X g hx W a ma) (hb : FE X g hx W b mb) (hm : behindInMarks .In b = false := by rfl) : FE X g hx W (.Compare a [.In] [b] pos) (mOp bIn ma mb) := f_cmp (kEq (f := fun K => OpR X (compareOp .In) (rIn2 K)) ha op_in2) rs_in ne_in ha hb hm
theorem f_notIn (ha : FE X g hx W a ma) (hb : FE X g hx W b mb) (hm : behindInMarks .NotIn b = false := by rfl) : FE X g hx W (.Compare a [.NotIn] [b] pos) (mOp bNotIn ma mb) := f_cmp (kEq (f := fun K => OpR X (compareOp .NotIn) (rNotIn2 K)) ha op_notIn2) rs_notIn ne_notIn ha hb hm
end
end FL
end

section
set_option autoImplicit false
namespace FL
open PySem L2

/-! ### comparisons, by their rules -/
structure CmpR (X : Cx) (g : G) (op : CmpOp) (f : D → D → Store → R D) : Prop where
  ex : ∃ r, OpR X (compareOp op) r ∧ RSn g r f ∧ NoErr f
section
variable {X : Cx} {g : G} {hx : HX} {W : WX} {a b c e : Expr} {ma mb mc m : ME} {pos : Pos} {op op' : CmpOp} {f f' : D → D → Store → R D} {t u : MT}
theorem cr_eq (hk : X.K = g.K) (hu : X.A.units + 64 < cLine) : CmpR X g .Eq bEq := ⟨_, by rw [← hk]; exact op_eq2 hu, rs_eq, ne_eq⟩
theorem cr_ne (hk : X.K = g.K) (hu : X.A.units + 64 < cLine) : CmpR X g .NotEq bNe := ⟨_, by rw [← hk]; exact op_ne2 hu, rs_ne, ne_ne⟩
theorem cr_lt : CmpR X g .Lt bLt := ⟨_, op_lt, rs_lt, ne_lt⟩
theorem cr_le : CmpR X g .LtE bLe := ⟨_, op_le, rs_le, ne_le⟩
theorem cr_gt : CmpR X g .Gt bGt := ⟨_, op_gt, rs_gt, ne_gt⟩
theorem cr_ge : CmpR X g .GtE bGe := ⟨_, op_ge, rs_ge, ne_ge⟩
theorem cr_isN : CmpR X g .Is bIsN := ⟨_, op_isN, rs_isN, ne_isN⟩
theorem cr_notN : CmpR X g .IsNot bNotN := ⟨_, op_notN, rs_notN, ne_notN⟩
theorem cr_in (hk : X.K = g.K) : CmpR X g .In bIn := ⟨_, by rw [← hk]; exact op_in2, rs_in, ne_in⟩
theorem cr_notIn (hk : X.K = g.K) : CmpR X g .NotIn bNotIn := ⟨_, by rw [← hk]; exact op_notIn2, rs_notIn, ne_notIn⟩
theorem fe_cmp (cr : CmpR X g op f) (ha : FE X g hx W a ma) (hb : FE X g hx W b mb) (hm : behindInMarks op b = false := by first | exact nomark _ | rfl) : FE X g hx W (.Compare a [op] [b] pos) (mOp f ma mb) :=
  let ⟨_, ho, hr, hn⟩ := cr.ex
  f_cmp ho hr hn ha hb hm
/-- a value as a test, where it is True or False -/
def mB (m : ME) : MT := fun ρ S => (m ρ S).bind fun d S1 => match d with
  | .bl b => .ok b S1
  | _ => .bad
theorem SnT.B {te : TE} (s : Sn g hx W te m) : SnT g hx W (fun σ H Q => te σ H fun x H' => ∃ k, x = .bl k ∧ Q k H') (mB m) := fun σ H As ρ S he hs Q hp => by
  refine s σ H As ρ S he hs _ (Post.bind (P := fun r => PostT g W σ H As r Q) hp (fun d S1 hp1 v H1 As1 e1 s1 i1 => ?_) (fun _ _ _ q => q) id)
  cases i1 with
  | bl b => exact ⟨b, rfl, hp1 H1 As1 e1 s1⟩
  | _ => exact False.elim hp1
theorem ft_cmp (cr : CmpR X g op f) (ha : FE X g hx W a ma) (hb : FE X g hx W b mb) (hm : behindInMarks op b = false := by first | exact nomark _ | rfl) : FT X g hx W (.Compare a [op] [b] pos) (mB (mOp f ma mb)) := by
  obtain ⟨_, ho, hr, hn⟩ := cr.ex
  obtain ⟨hk, ta, pa, sa⟩ := ha.ex
  obtain ⟨_, tb, pb, sb⟩ := hb.ex
  exact ⟨hk, _, pt_cmpR ho pa pb hm, SnT.B (Sn.op sa sb hr hn)⟩
def mChain (f f' : D → D → Store → R D) (ma mb mc : ME) : ME := fun ρ S => (ma ρ S).bind fun d S1 => (mb ρ S1).bind fun e S2 => (f d e S2).bind fun z S3 => match z with
  | .bl true => (mc ρ S3).bind fun h S4 => f' e h S4
  | .bl false => .ok (.bl false) S3
  | _ => .bad
theorem Sn.chain {ta tb tc : TE} {r r' : R2} (sa : Sn g hx W ta ma) (sb : Sn g hx W tb mb) (sc : Sn g hx W tc mc) (hr : RSn g r f) (hn : NoErr f) (hr' : RSn g r' f') (hn' : NoErr f') : Sn g hx W (tChain r r' ta tb tc) (mChain f f' ma mb mc) := fun σ H As ρ S he hs Q hp => by
  refine sa σ H As ρ S he hs _ (Post.bind (P := fun r => Post g W σ H As r Q) hp (fun d S1 hp1 v H1 As1 e1 s1 i1 => ?_) (fun _ _ _ q => q) id)
  refine sb σ H1 As1 ρ S1 (he.up e1) s1 _ (Post.bind (P := fun r => Post g W σ H1 As1 r Q) (hp1.up e1) (fun e S2 hp2 u H2 As2 e2 s2 i2 => ?_) (fun _ _ _ q => q) id)
  have hp3 := hp2.up e2
  cases q : f d e S2 with
  | err c ds S3 => exact absurd q (hn d e S2 c ds S3)
  | bad => rw [q] at hp3; exact False.elim hp3
  | ok z S3 =>
    rw [q] at hp3
    refine hr H2 As2 S2 v u d e s2 (i1.up e2) i2 _ (fun z' S' q' => ?_) ⟨z, S3, q⟩
    rw [q] at q'; cases q'
    intro zv H3 As3 e3 s3 i3
    have hp4 : Post g W σ H2 As2 ((R.ok z S3).bind fun z S3 => match z with
      | .bl true => (mc ρ S3).bind fun h S4 => f' e h S4
      | .bl false => .ok (.bl false) S3
      | _ => .bad) Q := hp3
    rw [bind_ok] at hp4
    cases i3 with
    | bl k =>
      refine ⟨k, rfl, ?_⟩
      cases k with
      | false =>
        rw [if_neg Bool.false_ne_true]
        exact hp4 (.bl false) H3 As3 e3 s3 (.bl _)
      | true =>
        rw [if_pos rfl]
        have he3 := ((he.up e1).up e2).up e3
        refine sc σ H3 As3 ρ S3 he3 s3 _ (Post.bind (P := fun r => Post g W σ H3 As3 r Q) (Post.up hp4 e3) (fun h S4 hp5 hv H4 As4 e4 s4 i4 => ?_) (fun _ _ _ q => q) id)
        have hp6 := hp5.up e4
        cases q2 : f' e h S4 with
        | ok z S5 =>
          rw [q2] at hp6
          exact hr' H4 As4 S4 u hv e h s4 ((i2.up e3).up e4) i4 Q (fun z' S' q' => by rw [q2] at q'; cases q'; exact hp6) ⟨z, S5, q2⟩
        | err c ds S3 => exact absurd q2 (hn' e h S4 c ds S3)
        | bad => rw [q2] at hp6; exact False.elim hp6
    | _ => exact False.elim hp4
theorem fe_chain (cr : CmpR X g op f) (cr' : CmpR X g op' f') (ha : FE X g hx W a ma) (hb : FE X g hx W b mb) (hc : FE X g hx W c mc) (hm : lastMarks [op, op'] [b, c] = false := by with_unfolding_all rfl) : FE X g hx W (.Compare a [op, op'] [b, c] pos) (mChain f f' ma mb mc) := by
  obtain ⟨_, ho, hr, hn⟩ := cr.ex
  obtain ⟨_, ho', hr', hn'⟩ := cr'.ex
  obtain ⟨hk, ta, pa, sa⟩ := ha.ex
  obtain ⟨_, tb, pb, sb⟩ := hb.ex
  obtain ⟨_, tc, pc, sc⟩ := hc.ex
  exact ⟨hk, _, pe_chain ho ho' pa pb pc hm, Sn.chain sa sb sc hr hn hr' hn'⟩
theorem ft_chain (cr : CmpR X g op f) (cr' : CmpR X g op' f') (ha : FE X g hx W a ma) (hb : FE X g hx W b mb) (hc : FE X g hx W c mc) (hm : lastMarks [op, op'] [b, c] = false := by with_unfolding_all rfl) : FT X g hx W (.Compare a [op, op'] [b, c] pos) (mB (mChain f f' ma mb mc)) := by
  obtain ⟨_, ho, hr, hn⟩ := cr.ex
  obtain ⟨_, ho', hr', hn'⟩ := cr'.ex
  obtain ⟨hk, ta, pa, sa⟩ := ha.ex
  obtain ⟨_, tb, pb, sb⟩ := hb.ex
  obtain ⟨_, tc, pc, sc⟩ := hc.ex
  exact ⟨hk, _, pt_chain ho ho' pa pb pc hm, SnT.B (Sn.chain sa sb sc hr hn hr' hn')⟩

/-! ### truth -/
def truD (d : D) (S : Store) : Option Bool := match d with
  | .non => some false
  | .bl b => some b
  | .int i => some (i != 0)
  | .str s => if s.length ≤ 16777216 then some ((s.length : Int) != 0) else none
  | .tup ds => some (!ds.isEmpty)
  | .fz ds => some (!ds.isEmpty)
  | .ref n => match S[n]? with
    | some (.lst ds) => some (!ds.isEmpty)
    | some (.dct kvs) => some (!kvs.isEmpty)
    | _ => none
def mTru (m : ME) : MT := fun ρ S => (m ρ S).bind fun d S1 => match truD d S1 with
  | some b => .ok b S1
  | none => .bad
theorem emp_of {H : Hp} {As : List Addr} {ds : List D} {xs : List V} (h : IsL g.K H As ds xs) : (!ds.isEmpty) = !xs.isEmpty := by
  cases h <;> rfl
theorem truV_of {H : Hp} {As : List Addr} {S : Store} {d : D} {x : V} {k : Bool} (hs : StOk g H As S) (i : Is g.K H As d x) (h : truD d S = some k) : TruV g.K x H k := by
  cases i with
  | non => cases h; rfl
  | bl b => cases h; rfl
  | int b => cases h; rfl
  | str s =>
    unfold truD at h
    dsimp only at h
    split at h
    · rename_i hl; cases h; exact ⟨szle hl, rfl⟩
    · cases h
  | tup h1 r => cases h; exact .inr (.inl ⟨_, h1.sq, emp_of r⟩)
  | fz h1 r => cases h; exact .inl ⟨_, h1.sq, emp_of r⟩
  | ref ha =>
    unfold truD at h
    dsimp only at h
    split at h
    · rename_i ds q
      cases h
      obtain ⟨a, xs, ha', h1, r⟩ := hs.lst q
      rw [ha] at ha'; cases ha'
      exact .inl ⟨xs, SqL.of h1, emp_of r⟩
    · rename_i kvs q
      cases h
      obtain ⟨a, ha', kxs, h1, r, _⟩ := hs.at q
      rw [ha] at ha'; cases ha'
      refine .inr (.inr ⟨kxs, h1, ?_⟩)
      have e : kvs.length = kxs.length := by have := congrArg List.length r; simpa using this
      cases kvs <;> cases kxs <;> first | rfl | (simp at e)
    · cases h
theorem ft_tru (ha : FE X g hx W a ma) (he : ∀ whole, isTrue a X.env whole = (do let v ← whole; standAt a.pos; holding [v] (truthy v)) := by intro _; rfl) : FT X g hx W a (mTru ma) := by
  obtain ⟨hk, ta, pa, sa⟩ := ha.ex
  refine ⟨hk, _, pt_truth pa he, fun σ H As ρ S he hs Q hp => ?_⟩
  refine sa σ H As ρ S he hs _ (Post.bind (P := fun r => PostT g W σ H As r Q) hp (fun d S1 hp1 v H1 As1 e1 s1 i1 => ?_) (fun _ _ _ q => q) id)
  cases q : truD d S1 with
  | none => rw [q] at hp1; exact False.elim hp1
  | some k =>
    rw [q] at hp1
    refine ⟨k, ?_, hp1 H1 As1 e1 s1⟩
    rw [hk]
    exact truV_of s1 i1 q
/-! ### and, or, not, if else -/
def mAnd (t u : MT) : MT := fun ρ S => (t ρ S).bind fun b S1 => match b with
  | true => u ρ S1
  | false => .ok false S1
def mOr (t u : MT) : MT := fun ρ S => (t ρ S).bind fun b S1 => match b with
  | true => .ok true S1
  | false => u ρ S1
def mNot (t : MT) : MT := fun ρ S => (t ρ S).bind fun b S1 => .ok (!b) S1
variable {rest : List Expr}
theorem fw_and1 (ha : FT X g hx W a t) : FW X g hx W (.BoolOp .And [a] pos) t := let ⟨hk, ta, pa, sa⟩ := ha.ex; ⟨hk, ta, pw_and1 pa, sa⟩
theorem fw_or1 (ha : FT X g hx W a t) : FW X g hx W (.BoolOp .Or [a] pos) t := let ⟨hk, ta, pa, sa⟩ := ha.ex; ⟨hk, ta, pw_or1 pa, sa⟩
theorem fw_and (ha : FT X g hx W a t) (hb : FW X g hx W (.BoolOp .And (b :: rest) pos) u) : FW X g hx W (.BoolOp .And (a :: b :: rest) pos) (mAnd t u) := by
  obtain ⟨hk, ta, pa, sa⟩ := ha.ex
  obtain ⟨_, tb, pb, sb⟩ := hb.ex
  refine ⟨hk, _, pw_and pa pb, fun σ H As ρ S he hs Q hp => ?_⟩
  refine sa σ H As ρ S he hs _ (PostT.bind (P := fun r => PostT g W σ H As r Q) hp (fun d S1 hp1 H1 As1 e1 s1 => ?_) (fun _ _ _ q => q) id)
  cases d with
  | true => rw [if_pos rfl]; exact sb σ H1 As1 ρ S1 (he.up e1) s1 Q (hp1.up e1)
  | false => rw [if_neg Bool.false_ne_true]; exact hp1 H1 As1 e1 s1
theorem fw_or (ha : FT X g hx W a t) (hb : FW X g hx W (.BoolOp .Or (b :: rest) pos) u) : FW X g hx W (.BoolOp .Or (a :: b :: rest) pos) (mOr t u) := by
  obtain ⟨hk, ta, pa, sa⟩ := ha.ex
  obtain ⟨_, tb, pb, sb⟩ := hb.ex
  refine ⟨hk, _, pw_or pa pb, fun σ H As ρ S he hs Q hp => ?_⟩
  refine sa σ H As ρ S he hs _ (PostT.bind (P := fun r => PostT g W σ H As r Q) hp (fun d S1 hp1 H1 As1 e1 s1 => ?_) (fun _ _ _ q => q) id)
  cases d with
  | false => rw [if_neg Bool.false_ne_true]; exact sb σ H1 As1 ρ S1 (he.up e1) s1 Q (hp1.up e1)
  | true => rw [if_pos rfl]; exact hp1 H1 As1 e1 s1
theorem ft_w (h : FW X g hx W a t) : FT X g hx W a t := let ⟨hk, ta, pa, sa⟩ := h.ex; ⟨hk, ta, pa.pt, sa⟩
theorem ft_not (ha : FT X g hx W a t) : FT X g hx W (.UnaryOp .Not a pos) (mNot t) := by
  obtain ⟨hk, ta, pa, sa⟩ := ha.ex
  refine ⟨hk, _, pt_not pa, fun σ H As ρ S he hs Q hp => ?_⟩
  exact sa σ H As ρ S he hs _ (PostT.bind (P := fun r => PostT g W σ H As r Q) hp (fun d S1 hp1 H1 As1 e1 s1 => hp1 H1 As1 e1 s1) (fun _ _ _ q => q) id)
def mAndV (ma mb : ME) : ME := fun ρ S => (ma ρ S).bind fun d S1 => match d with
  | .bl true => mb ρ S1
  | .bl false => .ok (.bl false) S1
  | _ => .bad
def mOrV (ma mb : ME) : ME := fun ρ S => (ma ρ S).bind fun d S1 => match d with
  | .bl true => .ok (.bl true) S1
  | .bl false => mb ρ S1
  | _ => .bad
def mNotV (ma : ME) : ME := fun ρ S => (ma ρ S).bind fun d S1 => match d with
  | .bl b => .ok (.bl (!b)) S1
  | _ => .bad
theorem fe_one {o} (ha : FE X g hx W a ma) : FE X g hx W (.BoolOp o [a] pos) ma := let ⟨hk, ta, pa, sa⟩ := ha.ex; ⟨hk, ta, pe_one pa, sa⟩
theorem fe_and (ha : FE X g hx W a ma) (hb : FE X g hx W (.BoolOp .And (b :: rest) pos) mb) : FE X g hx W (.BoolOp .And (a :: b :: rest) pos) (mAndV ma mb) := by
  obtain ⟨hk, ta, pa, sa⟩ := ha.ex
  obtain ⟨_, tb, pb, sb⟩ := hb.ex
  refine ⟨hk, _, pe_and pa pb, fun σ H As ρ S he hs Q hp => ?_⟩
  refine sa σ H As ρ S he hs _ (Post.bind (P := fun r => Post g W σ H As r Q) hp (fun d S1 hp1 v H1 As1 e1 s1 i1 => ?_) (fun _ _ _ q => q) id)
  cases i1 with
  | bl k =>
    refine ⟨k, rfl, ?_⟩
    cases k with
    | true => rw [if_pos rfl]; exact sb σ H1 As1 ρ S1 (he.up e1) s1 Q (Post.up hp1 e1)
    | false => rw [if_neg Bool.false_ne_true]; exact hp1 _ H1 As1 e1 s1 (.bl _)
  | _ => exact False.elim hp1
theorem fe_or (ha : FE X g hx W a ma) (hb : FE X g hx W (.BoolOp .Or (b :: rest) pos) mb) : FE X g hx W (.BoolOp .Or (a :: b :: rest) pos) (mOrV ma mb) := by
  obtain ⟨hk, ta, pa, sa⟩ := ha.ex
  obtain ⟨_, tb, pb, sb⟩ := hb.ex
  refine ⟨hk, _, pe_or pa pb, fun σ H As ρ S he hs Q hp => ?_⟩
  refine sa σ H As ρ S he hs _ (Post.bind (P := fun r => Post g W σ H As r Q) hp (fun d S1 hp1 v H1 As1 e1 s1 i1 => ?_) (fun _ _ _ q => q) id)
  cases i1 with
  | bl k =>
    refine ⟨k, rfl, ?_⟩
    cases k with
    | false => rw [if_neg Bool.false_ne_true]; exact sb σ H1 As1 ρ S1 (he.up e1) s1 Q (Post.up hp1 e1)
    | true => rw [if_pos rfl]; exact hp1 _ H1 As1 e1 s1 (.bl _)
  | _ => exact False.elim hp1
theorem fe_not (ha : FE X g hx W a ma) : FE X g hx W (.UnaryOp .Not a pos) (mNotV ma) := by
  obtain ⟨hk, ta, pa, sa⟩ := ha.ex
  refine ⟨hk, _, pe_not pa, fun σ H As ρ S he hs Q hp => ?_⟩
  refine sa σ H As ρ S he hs _ (Post.bind (P := fun r => Post g W σ H As r Q) hp (fun d S1 hp1 v H1 As1 e1 s1 i1 => ?_) (fun _ _ _ q => q) id)
  cases i1 with
  | bl k => exact ⟨k, rfl, hp1 _ H1 As1 e1 s1 (.bl _)⟩
  | _ => exact False.elim hp1
def mIfE (t : MT) (ma mb : ME) : ME := fun ρ S => (t ρ S).bind fun b S1 => match b with
  | true => ma ρ S1
  | false => mb ρ S1
theorem fe_if (hc : FT X g hx W c t) (ha : FE X g hx W a ma) (hb : FE X g hx W b mb) : FE X g hx W (.IfExp c a b pos) (mIfE t ma mb) := by
  obtain ⟨hk, tc, pc, sc⟩ := hc.ex
  obtain ⟨_, ta, pa, sa⟩ := ha.ex
  obtain ⟨_, tb, pb, sb⟩ := hb.ex
  refine ⟨hk, _, pe_ifExp pc pa pb, fun σ H As ρ S he hs Q hp => ?_⟩
  refine sc σ H As ρ S he hs _ (PostT.bind (P := fun r => Post g W σ H As r Q) hp (fun d S1 hp1 H1 As1 e1 s1 => ?_) (fun _ _ _ q => q) id)
  cases d with
  | true => rw [if_pos rfl]; exact sa σ H1 As1 ρ S1 (he.up e1) s1 Q (Post.up hp1 e1)
  | false => rw [if_neg Bool.false_ne_true]; exact sb σ H1 As1 ρ S1 (he.up e1) s1 Q (Post.up hp1 e1)
/-! ### displays -/
variable {es : List Expr} {mas : MA}
def mTup (ma : MA) : ME := fun ρ S => (ma ρ S).bind fun ds S1 => if ds.length ≤ 16777216 then .ok (.tup ds) S1 else .bad
def mLst (ma : MA) : ME := fun ρ S => (ma ρ S).bind fun ds S1 => if ds.length ≤ 16777216 then .ok (.ref S1.length) (S1 ++ [.lst ds]) else .bad
theorem fe_tup {x1} (h : FA X g hx W es mas) : FE X g hx W (.Tuple es x1 pos) (mTup mas) := by
  obtain ⟨hk, ta, pa, sa⟩ := h.ex
  refine ⟨hk, _, pe_tupF pa, fun σ H As ρ S he hs Q hp => ?_⟩
  refine sa σ H As ρ S he hs _ (PostA.bind (P := fun r => Post g W σ H As r Q) hp (fun ds S1 hp1 vs H1 As1 e1 s1 i1 => ?_) (fun _ _ _ q => q) id)
  split at hp1
  · rename_i hl
    refine ⟨szle (by rw [← i1.len]; exact hl), fun p o hn hd => ?_⟩
    have ex := Ext.side (u := .frz o (.tup vs)) s1 hn
    exact hp1 (.ref p) _ As1 (e1.trans ex) (s1.side hn) (.tup (FzT.of upd_same hd) (i1.up ex))
  · exact False.elim hp1
theorem fe_lst (h : FA X g hx W es mas) : FE X g hx W (.List es pos) (mLst mas) := by
  obtain ⟨hk, ta, pa, sa⟩ := h.ex
  refine ⟨hk, _, pe_lst pa, fun σ H As ρ S he hs Q hp => ?_⟩
  refine sa σ H As ρ S he hs _ (PostA.bind (P := fun r => Post g W σ H As r Q) hp (fun ds S1 hp1 vs H1 As1 e1 s1 i1 => ?_) (fun _ _ _ q => q) id)
  split at hp1
  · rename_i hl
    refine ⟨szle (by rw [← i1.len]; exact hl), fun p hn => ?_⟩
    have ex : Ext H1 As1 (upd H1 p (.lst vs)) (As1 ++ [p]) := Ext.new hn
    exact hp1 (.ref p) _ _ (e1.trans ex) (s1.new hn ⟨_, upd_same, i1.up ex⟩) (.ref (by rw [← s1.len]; exact List.getElem?_concat_length))
  · exact False.elim hp1
end
end FL
end

section
set_option autoImplicit false
namespace FL
open PySem L2

/-! ### items, slices -/
def bIx (d e : D) (S : Store) : R D := match e with
  | .int i => match d with
    | .str s => if s.length ≤ 16777216 then (match atI s.cps.toList i with
      | some c => .ok (.str ⟨#[c]⟩) S
      | none => .bad) else .bad
    | d => match rowOf S d with
      | some ds => (match atI ds i with
        | some z => .ok z S
        | none => .bad)
      | none => .bad
  | _ => .bad
theorem ne_ix : NoErr bIx := by
  intro d e S c ds S' h
  unfold bIx at h
  split at h
  · split at h
    · split at h
      · split at h <;> cases h
      · cases h
    · split at h
      · split at h <;> cases h
      · cases h
  · cases h
section
variable {X : Cx} {g : G} {hx : HX} {W : WX} {a b c e : Expr} {ma mb mc m : ME} {pos : Pos} {es : List Expr} {mas : MA} {H : Hp} {As : List Addr} {S : Store}
theorem IsL.at {ds : List D} {xs : List V} {i : Int} {d : D} (h : IsL g.K H As ds xs) (e : atI ds i = some d) : ∃ v, atI xs i = some v ∧ Is g.K H As d v := by
  unfold atI at e ⊢
  rw [← h.len]
  cases q : ixN ds.length i with
  | none => rw [q] at e; cases e
  | some j =>
    rw [q] at e
    obtain ⟨v, h1, h2⟩ := h.get (i := j) (d := d) e
    exact ⟨v, h1, h2⟩
theorem rs_ix : RSn g (rIx g.K) bIx := by
  intro H As S x y d e hs ix iy Q k ⟨z, S', he⟩
  have hz := he
  unfold bIx at he
  split at he
  · cases iy
    split at he
    · cases ix
      split at he
      · rename_i hl
        split at he
        · rename_i c q
          cases he
          exact .inr (.inr ⟨_, _, c, rfl, rfl, szle hl, q, RSn.pure hs hz k (.str _)⟩)
        · cases he
      · cases he
    · split at he
      · rename_i ds q
        split at he
        · rename_i z' q'
          cases he
          obtain ⟨p, xs, rfl, hq, r⟩ := hs.row q ix
          obtain ⟨v, h1, h2⟩ := r.at q'
          rcases hq with hq | hq
          · exact .inl ⟨p, xs, _, v, rfl, rfl, hq, h1, RSn.pure hs hz k h2⟩
          · exact .inr (.inl ⟨p, xs, _, v, rfl, rfl, hq, h1, RSn.pure hs hz k h2⟩)
        · cases he
      · cases he
  · cases he
theorem fe_ix (ha : FE X g hx W a ma) (hb : FE X g hx W b mb) (hs : PlainIx b := by exact fun _ _ => rfl) : FE X g hx W (.Subscript a b pos) (mOp bIx ma mb) := by
  obtain ⟨hk, ta, pa, sa⟩ := ha.ex
  obtain ⟨_, tb, pb, sb⟩ := hb.ex
  exact ⟨hk, _, pe_ix ix_seq pa pb hs, by rw [hk]; exact Sn.op sa sb rs_ix ne_ix⟩
/-- the part from lo to hi -/
def cutD {α : Type} (ds : List α) (lo hi : Option Int) : List α := (ds.drop (HT.sIx ds.length 0 lo)).take (HT.sIx ds.length ds.length hi - HT.sIx ds.length 0 lo)
abbrev MO := Rho → Store → R (Option Int)
def mNoP : MO := fun _ S => .ok none S
def mP (m : ME) : MO := fun ρ S => (m ρ S).bind fun d S1 => match d with
  | .int i => .ok (some i) S1
  | _ => .bad
def PostO (g : G) (W : WX) (σ : L2.St) (H : Hp) (As : List Addr) (r : R (Option Int)) (Q : Option Int → Hp → Prop) : Prop := match r with
  | .ok b S' => ∀ H' As', Ext H As H' As' → StOk g H' As' S' → Q b H'
  | .err c ds S' => ∀ dd H' As', Ext H As H' As' → StOk g H' As' S' → ExcOk g H' As' c ds dd → W (.ref (g.ec c)) dd σ H'
  | .bad => False
def SnO (g : G) (hx : HX) (W : WX) (t : TO) (m : MO) : Prop := ∀ σ H As ρ S, EnvOk g hx H As ρ σ → StOk g H As S → ∀ Q : Option Int → Hp → Prop, PostO g W σ H As (m ρ S) Q → t σ H Q
structure FO (X : Cx) (g : G) (hx : HX) (W : WX) (e : Option Expr) (m : MO) : Prop where
  ex : ∃ t, PO X e t ∧ SnO g hx W t m
theorem fo_none : FO X g hx W none mNoP := ⟨_, po_none, fun σ H As ρ S he hs Q hp => hp H As (Ext.refl _ _) hs⟩
theorem fo_some (h : FE X g hx W e m) : FO X g hx W (some e) (mP m) := by
  obtain ⟨hk, t, p, s⟩ := h.ex
  refine ⟨_, po_some p, fun σ H As ρ S he hs Q hp => ?_⟩
  refine s σ H As ρ S he hs _ (Post.bind (P := fun r => PostO g W σ H As r Q) hp (fun d S1 hp1 v H1 As1 e1 s1 i1 => ?_) (fun _ _ _ q => q) id)
  cases i1 with
  | int i => exact ⟨i, rfl, hp1 H1 As1 e1 s1⟩
  | _ => exact False.elim hp1
theorem PostO.bind {β : Type} {σ : L2.St} {P : R β → Prop} {r : R (Option Int)} {Q : Option Int → Hp → Prop} {k : Option Int → Store → R β} (h : P (r.bind k))
    (hok : ∀ d S', P (k d S') → ∀ H' As', Ext H As H' As' → StOk g H' As' S' → Q d H')
    (herr : ∀ c ds S', P (.err c ds S') → ∀ dd H' As', Ext H As H' As' → StOk g H' As' S' → ExcOk g H' As' c ds dd → W (.ref (g.ec c)) dd σ H') (hbad : ¬ P .bad) : PostO g W σ H As r Q := by
  cases r with
  | ok d S' => exact hok d S' h
  | err c ds S' => exact herr c ds S' h
  | bad => exact hbad h
def slD (d : D) (lo hi : Option Int) (S : Store) : R D := match d with
  | .str s => if s.length ≤ 16777216 then .ok (.str (cutS s lo hi)) S else .bad
  | .tup ds => .ok (.tup (cutD ds lo hi)) S
  | d => match rowOf S d with
    | some ds => .ok (.ref S.length) (S ++ [.lst (cutD ds lo hi)])
    | none => .bad
def mSl (m : ME) (lo hi : MO) : ME := fun ρ S => (m ρ S).bind fun d S1 => (lo ρ S1).bind fun l S2 => (hi ρ S2).bind fun h S3 => slD d l h S3
def rSl3 (K : PySem.W.Frag) : V → Option Int → Option Int → Hp → VK → Prop := fun x lo hi H Q => rSlL K x lo hi H Q ∨ rSlF K x lo hi H Q ∨ (∃ z, x = .str z ∧ z.length ≤ sizeLine ∧ Q (.str (cutS z lo hi)) H)
theorem IsL.cutD {ds : List D} {xs : List V} (lo hi : Option Int) (h : IsL g.K H As ds xs) : IsL g.K H As (cutD ds lo hi) (cutV xs lo hi) := by
  unfold FL.cutD cutV
  rw [h.len]
  exact (h.drop _).take _
theorem cutD_whole {α : Type} {ds : List α} {lo hi : Option Int} (h : HT.sIx ds.length 0 lo = 0 ∧ HT.sIx ds.length ds.length hi = ds.length) : cutD ds lo hi = ds := by
  unfold cutD
  rw [h.1, h.2, List.drop_zero, Nat.sub_zero, List.take_length]
theorem sl3 (hs : SlR X fun x lo hi H Q => ∃ z, x = .str z ∧ z.length ≤ sizeLine ∧ Q (.str (cutS z lo hi)) H) : SlR X (rSl3 X.K) := sl_list.or (sl_tupF.or hs)
theorem fe_slice {lo hi : Option Expr} {ml mh : MO} {p2 : Pos} (hss : SlR X fun x lo hi H Q => ∃ z, x = .str z ∧ z.length ≤ sizeLine ∧ Q (.str (cutS z lo hi)) H) (he : FE X g hx W e m) (hl : FO X g hx W lo ml) (hh : FO X g hx W hi mh) : FE X g hx W (.Subscript e (.Slice lo hi none p2) pos) (mSl m ml mh) := by
  obtain ⟨hk, t, p, s⟩ := he.ex
  obtain ⟨tl, pl, sl⟩ := hl.ex
  obtain ⟨th, ph, sh⟩ := hh.ex
  refine ⟨hk, _, pe_slice (sl3 hss) p pl ph, fun σ H As ρ S he hs Q hp => ?_⟩
  refine s σ H As ρ S he hs _ (Post.bind (P := fun r => Post g W σ H As r Q) hp (fun d S1 hp1 v H1 As1 e1 s1 i1 => ?_) (fun _ _ _ q => q) id)
  refine sl σ H1 As1 ρ S1 (he.up e1) s1 _ (PostO.bind (P := fun r => Post g W σ H1 As1 r Q) (Post.up hp1 e1) (fun l S2 hp2 H2 As2 e2 s2 => ?_) (fun _ _ _ q => q) id)
  refine sh σ H2 As2 ρ S2 ((he.up e1).up e2) s2 _ (PostO.bind (P := fun r => Post g W σ H2 As2 r Q) (Post.up hp2 e2) (fun h S3 hp3 H3 As3 e3 s3 => ?_) (fun _ _ _ q => q) id)
  have i3 := (i1.up e2).up e3
  have hp4 := Post.up hp3 e3
  unfold slD at hp4
  rw [hk]
  cases i3 with
  | str z =>
    dsimp only at hp4
    split at hp4
    · rename_i hz
      exact .inr (.inr ⟨z, rfl, szle hz, hp4 _ H3 As3 (Ext.refl _ _) s3 (.str _)⟩)
    · exact False.elim hp4
  | tup h1 r =>
    refine .inr (.inl ⟨_, _, rfl, h1.sq, fun hw => ?_, fun hw p o hn hd => ?_⟩)
    · refine hp4 _ H3 As3 (Ext.refl _ _) s3 (.tup h1 ?_)
      rw [cutD_whole (by rw [r.len]; exact hw)]
      exact r
    · exact hp4 _ _ As3 (Ext.side s3 hn) (s3.side hn) (.tup (FzT.of upd_same hd) ((r.cutD l h).up (Ext.side s3 hn)))
  | fz h1 r =>
    refine .inl ⟨_, _, rfl, h1.sq, fun p hn => ?_⟩
    exact hp4 _ _ _ (Ext.new hn) (s3.new hn ⟨_, upd_same, (r.cutD l h).up (Ext.new hn)⟩) (.ref (by rw [← s3.len]; exact List.getElem?_concat_length))
  | ref ha =>
    dsimp only at hp4
    split at hp4
    · rename_i ds q
      obtain ⟨a, xs, ha', h1, r⟩ := s3.lst (getL_some q)
      rw [ha] at ha'; cases ha'
      refine .inl ⟨_, _, rfl, SqL.of h1, fun p hn => ?_⟩
      exact hp4 _ _ _ (Ext.new hn) (s3.new hn ⟨_, upd_same, (r.cutD l h).up (Ext.new hn)⟩) (.ref (by rw [← s3.len]; exact List.getElem?_concat_length))
    · exact False.elim hp4
  | _ => exact False.elim hp4

/-! ### calls of what is built in -/
def CSn (g : G) (r : List V → Hp → VK → Prop) (f : MF) : Prop := ∀ (H : Hp) (As : List Addr) (S : Store) (xs : List V) (ds : List D), StOk g H As S → IsL g.K H As ds xs → ∀ Q : VK,
  (∀ z S', f ds S = .ok z S' → ∀ v H' As', Ext H As H' As' → StOk g H' As' S' → Is g.K H' As' z v → Q v H') → (∃ z S', f ds S = .ok z S') → r xs H Q
def NoErrF (f : MF) : Prop := ∀ d S c ds S', f d S ≠ .err c ds S'
def mCB (f : MF) (ma : MA) : ME := fun ρ S => (ma ρ S).bind fun ds S1 => f ds S1
theorem Sn.cb {t : TA} {r : List V → Hp → VK → Prop} {f : MF} (s : SnA g hx W t mas) (hr : CSn g r f) (hn : NoErrF f) : Sn g hx W (tCB r t) (mCB f mas) := fun σ H As ρ S he hs Q hp => by
  refine s σ H As ρ S he hs _ (PostA.bind (P := fun r => Post g W σ H As r Q) hp (fun ds S1 hp1 vs H1 As1 e1 s1 i1 => ?_) (fun _ _ _ q => q) id)
  have hp2 := Post.up hp1 e1
  cases q : f ds S1 with
  | err c ds' S3 => exact absurd q (hn ds S1 c ds' S3)
  | bad => rw [q] at hp2; exact False.elim hp2
  | ok z S3 =>
    rw [q] at hp2
    exact hr H1 As1 S1 vs ds s1 i1 Q (fun z' S' q' => by rw [q] at q'; cases q'; exact hp2) ⟨z, S3, q⟩
/-- the facts of a call of a built-in by its name -/
structure BltR (X : Cx) (g : G) (x : Str) (f : MF) : Prop where
  ex : ∃ id r, CallR X (.builtin id) r ∧ bootBuiltins x = some (.builtin id) ∧ CSn g r f ∧ NoErrF f
structure BltT (X : Cx) (g : G) (x : Str) (f : MF) : Prop where
  ex : ∃ T r, CallR X (.type T) r ∧ bootBuiltins x = some (.type T) ∧ CSn g r f ∧ NoErrF f
theorem fe_blt {x : Str} {p : Pos} {f : MF} (br : BltR X g x f) (hm : X.mg x = none) (ha : FA X g hx W (e :: es) mas) (hg : Gl X x := by rfl) (hn : x ≠ "__name__" := by decide) (hdb : (x == ("__debug__" : Str)) = false := by decide)
    (he : starEach (e :: es) X.env = (false, eval e X.env) :: starEach es X.env := by rfl) (hpl : (backTo pos (starEach es X.env)).any (·.1) = false := by rfl) : FE X g hx W (.Call (.Name x p) (e :: es) [] pos) (mCB f mas) := by
  obtain ⟨id, r, h1, h2, h3, h4⟩ := br.ex
  obtain ⟨hk, t, pa, s⟩ := ha.ex
  exact ⟨hk, _, pe_callB h1 hg hm h2 pa hn hdb he hpl, Sn.cb s h3 h4⟩
theorem fe_bltT {x : Str} {p : Pos} {f : MF} (br : BltT X g x f) (hm : X.mg x = none) (ha : FA X g hx W (e :: es) mas) (hg : Gl X x := by rfl) (hn : x ≠ "__name__" := by decide) (hdb : (x == ("__debug__" : Str)) = false := by decide)
    (he : starEach (e :: es) X.env = (false, eval e X.env) :: starEach es X.env := by rfl) (hpl : (backTo pos (starEach es X.env)).any (·.1) = false := by rfl) : FE X g hx W (.Call (.Name x p) (e :: es) [] pos) (mCB f mas) := by
  obtain ⟨id, r, h1, h2, h3, h4⟩ := br.ex
  obtain ⟨hk, t, pa, s⟩ := ha.ex
  exact ⟨hk, _, pe_callTy h1 hg hm h2 pa hn hdb he hpl, Sn.cb s h3 h4⟩
theorem CSn.pure {H : Hp} {As : List Addr} {S : Store} {z : D} {v : V} {Q : VK} {r : R D} (hs : StOk g H As S) (he : r = .ok z S) (k : ∀ z S', r = .ok z S' → ∀ v H' As', Ext H As H' As' → StOk g H' As' S' → Is g.K H' As' z v → Q v H') (i : Is g.K H As z v) : Q v H := k z S he v H As (Ext.refl _ _) hs i
def fLen : MF := fun ds S => match ds with
  | [.str s] => if s.length ≤ 16777216 then .ok (.int (s.length : Nat)) S else .bad
  | [d] => match rowOf S d with
    | some ds => .ok (.int (ds.length : Nat)) S
    | none => .bad
  | _ => .bad
theorem br_len (hk : X.K = g.K) : BltR X g "len" fLen := ⟨_, _, call_len, PySem.boot_len, (by
  intro H As S xs ds hs il Q k ⟨z, S', he⟩
  have hz := he
  unfold fLen at he
  split at he
  · cases il with
    | cons i1 i2 =>
      cases i2; cases i1
      split at he
      · rename_i hl
        cases he
        exact ⟨_, _, rfl, ⟨szle hl, rfl⟩, CSn.pure hs hz k (.int _)⟩
      · cases he
  · cases il with
    | cons i1 i2 =>
      cases i2
      split at he
      · rename_i ds q
        cases he
        obtain ⟨p, xs, rfl, hq, r⟩ := hs.row q i1
        refine ⟨_, ds.length, rfl, ?_, CSn.pure hs hz k (.int _)⟩
        rw [hk]
        rcases hq with hq | hq
        · exact .inl ⟨xs, hq, r.len⟩
        · exact .inr ⟨xs, hq, r.len⟩
      · cases he
  · cases he), (by
  intro d S c ds S' h
  unfold fLen at h
  split at h
  · split at h <;> cases h
  · split at h <;> cases h
  · cases h)⟩
def fAbs : MF := fun ds S => match ds with
  | [.int i] => .ok (.int (if i < 0 then -i else i)) S
  | _ => .bad
theorem br_abs : BltR X g "abs" fAbs := ⟨_, _, call_abs, by decide +kernel, (by
  intro H As S xs ds hs il Q k ⟨z, S', he⟩
  have hz := he
  unfold fAbs at he
  split at he
  · cases he
    cases il with
    | cons i1 i2 => cases i2; cases i1; exact ⟨_, rfl, CSn.pure hs hz k (.int _)⟩
  · cases he), (by intro d S c ds S' h; unfold fAbs at h; split at h <;> cases h)⟩
def fMin2 : MF := fun ds S => match ds with
  | [.int i, .int j] => .ok (.int (if j < i then j else i)) S
  | _ => .bad
theorem br_min2 (hc : X.calm = true) : BltR X g "min" fMin2 := ⟨_, _, call_min2 hc, by decide +kernel, (by
  intro H As S xs ds hs il Q k ⟨z, S', he⟩
  have hz := he
  unfold fMin2 at he
  split at he
  · cases he
    cases il with
    | cons i1 i2 =>
      cases i2 with
      | cons i2 i3 => cases i3; cases i2; cases i1; exact ⟨_, _, rfl, CSn.pure hs hz k (.int _)⟩
  · cases he), (by intro d S c ds S' h; unfold fMin2 at h; split at h <;> cases h)⟩
def fMax2 : MF := fun ds S => match ds with
  | [.int i, .int j] => .ok (.int (if j > i then j else i)) S
  | _ => .bad
theorem br_max2 (hc : X.calm = true) : BltR X g "max" fMax2 := ⟨_, _, call_max2 hc, by decide +kernel, (by
  intro H As S xs ds hs il Q k ⟨z, S', he⟩
  have hz := he
  unfold fMax2 at he
  split at he
  · cases he
    cases il with
    | cons i1 i2 =>
      cases i2 with
      | cons i2 i3 => cases i3; cases i2; cases i1; exact ⟨_, _, rfl, CSn.pure hs hz k (.int _)⟩
  · cases he), (by intro d S c ds S' h; unfold fMax2 at h; split at h <;> cases h)⟩
def fOrd : MF := fun ds S => match ds with
  | [.str s] => if s.length = 1 then .ok (.int (s.cps.getD 0 0 : Nat)) S else .bad
  | _ => .bad
theorem br_ord : BltR X g "ord" fOrd := ⟨_, _, call_ord, by decide +kernel, (by
  intro H As S xs ds hs il Q k ⟨z, S', he⟩
  have hz := he
  unfold fOrd at he
  split at he
  · split at he
    · rename_i hl
      cases he
      cases il with
      | cons i1 i2 => cases i2; cases i1; exact ⟨_, rfl, hl, CSn.pure hs hz k (.int _)⟩
    · cases he
  · cases he), (by intro d S c ds S' h; unfold fOrd at h; split at h <;> (try cases h); split at h <;> cases h)⟩
def fInt : MF := fun ds S => match ds with
  | [.int i] => .ok (.int i) S
  | [.bl b] => .ok (.int (if b then 1 else 0)) S
  | _ => .bad
theorem br_int : BltT X g "int" fInt := ⟨_, _, call_int1, by decide +kernel, (by
  intro H As S xs ds hs il Q k ⟨z, S', he⟩
  have hz := he
  unfold fInt at he
  split at he
  · cases he
    cases il with
    | cons i1 i2 => cases i2; cases i1; exact .inl ⟨_, rfl, CSn.pure hs hz k (.int _)⟩
  · cases he
    cases il with
    | cons i1 i2 => cases i2; cases i1; exact .inr ⟨_, rfl, CSn.pure hs hz k (.int _)⟩
  · cases he), (by intro d S c ds S' h; unfold fInt at h; split at h <;> cases h)⟩
def fTup : MF := fun ds S => match ds with
  | [d] => match rowOf S d with
    | some ds => .ok (.tup ds) S
    | none => .bad
  | _ => .bad
theorem br_tup (hk : X.K = g.K) : BltT X g "tuple" fTup := ⟨_, _, call_tuple_ofF, by decide +kernel, (by
  intro H As S xs ds hs il Q k ⟨z, S', he⟩
  have hz := he
  unfold fTup at he
  split at he
  · cases il with
    | cons i1 i2 =>
      cases i2
      split at he
      · rename_i ds q
        cases he
        obtain ⟨p, xs, rfl, hq, r⟩ := hs.rowF q i1
        refine ⟨_, xs, rfl, ?_⟩
        rw [hk]
        rcases hq with hq | hq
        · exact .inl ⟨hq, fun l o hl hd => k _ _ hz _ _ As (Ext.side hs hl) (hs.side hl) (.tup (FzT.of upd_same hd) (r.up (Ext.side hs hl)))⟩
        · exact .inr ⟨hq.sq, CSn.pure hs hz k (.tup hq r)⟩
      · cases he
  · cases he), (by
  intro d S c ds S' h
  unfold fTup at h
  split at h
  · split at h <;> cases h
  · cases h)⟩
def fList : MF := fun ds S => match ds with
  | [d] => match rowOf S d with
    | some ds => .ok (.ref S.length) (S ++ [.lst ds])
    | none => .bad
  | _ => .bad
theorem br_list (hk : X.K = g.K) : BltT X g "list" fList := ⟨_, _, call_list_of, by decide +kernel, (by
  intro H As S xs ds hs il Q k ⟨z, S', he⟩
  have hz := he
  unfold fList at he
  split at he
  · cases il with
    | cons i1 i2 =>
      cases i2
      split at he
      · rename_i ds q
        cases he
        obtain ⟨p, xs, rfl, hq, r⟩ := hs.row q i1
        refine ⟨_, xs, rfl, ?_, fun l hl => k _ _ hz _ _ _ (Ext.new hl) (hs.new hl ⟨_, upd_same, r.up (Ext.new hl)⟩) (.ref (by rw [← hs.len]; exact List.getElem?_concat_length))⟩
        rw [hk]
        exact hq
      · cases he
  · cases he), (by
  intro d S c ds S' h
  unfold fList at h
  split at h
  · split at h <;> cases h
  · cases h)⟩
/-- isinstance(x, T), T a built-in class -/
def tyD (S : Store) : D → Option String
  | .non => some "NoneType"
  | .bl _ => some "bool"
  | .int _ => some "int"
  | .str _ => some "str"
  | .tup _ => some "tuple"
  | .fz _ => some "list"
  | .ref n => match S[n]? with
    | some (.lst _) => some "list"
    | some (.dct _) => some "dict"
    | _ => none
def mIsi (T : String) (m : ME) : ME := fun ρ S => (m ρ S).bind fun d S1 => match (tyD S1 d).bind fun t => kitB t T with
  | some b => .ok (.bl b) S1
  | none => .bad
theorem tyX_of {d : D} {x : V} {t : String} (hs : StOk g H As S) (i : Is g.K H As d x) (h : tyD S d = some t) : TyX g.K H x (.type t) := by
  cases i with
  | non => cases h; exact .base .non
  | bl b => cases h; exact .base (.bl _)
  | int b => cases h; exact .base (.int _)
  | str b => cases h; exact .base (.str _)
  | tup h1 r =>
    cases h
    rcases h1 with ⟨o, h1, _⟩ | ⟨o, its, n, h1, h2, _⟩
    · exact .fTuple h1
    · exact .kTuple h1 h2
  | fz h1 r =>
    cases h
    rcases h1 with ⟨o, h1⟩ | ⟨o, its, n, h1, h2, _⟩
    · exact .base (.frz h1)
    · exact .kList h1 h2
  | ref ha =>
    unfold tyD at h
    dsimp only at h
    split at h
    · rename_i q
      cases h
      obtain ⟨a, xs, ha', h1, r⟩ := hs.lst q
      rw [ha] at ha'; cases ha'
      exact .base (.lst h1)
    · rename_i q
      cases h
      obtain ⟨a, ha', kxs, h1, r, _⟩ := hs.at q
      rw [ha] at ha'; cases ha'
      exact .base (.dK h1)
    · cases h
theorem fe_isi {T : String} {x : Str} {p p2 : Pos} (hm : X.mg "isinstance" = none) (hmT : X.mg x = none) (hvT : bootBuiltins x = some (.type T)) (ha : FE X g hx W e m) (hg : Gl X "isinstance" := by rfl) (hgT : Gl X x := by rfl)
    (hnT : x ≠ "__name__" := by decide) (hdT : (x == ("__debug__" : Str)) = false := by decide)
    (hs1 : starEach [e, .Name x p2] X.env = (false, eval e X.env) :: starEach [.Name x p2] X.env := by rfl) (hs2 : starEach [.Name x p2] X.env = (false, eval (.Name x p2) X.env) :: starEach [] X.env := by rfl)
    (hpl : (backTo pos (starEach [.Name x p2] X.env)).any (·.1) = false := by rfl) : FE X g hx W (.Call (.Name "isinstance" p) [e, .Name x p2] [] pos) (mIsi T m) := by
  obtain ⟨hk, t, pa, s⟩ := ha.ex
  refine ⟨hk, _, pe_callB call_isi hg hm (by decide +kernel) (pa_cons pa (pa_cons (pe_bltn hgT hmT hvT (v := .ty T) rfl hnT hdT) pa_nil hs2) hs1) (by decide) (by decide) hs1 hpl, fun σ H As ρ S he hs Q hp => ?_⟩
  refine s σ H As ρ S he hs _ (Post.bind (P := fun r => Post g W σ H As r Q) hp (fun d S1 hp1 v H1 As1 e1 s1 i1 => ?_) (fun _ _ _ q => q) id)
  cases q : (tyD S1 d).bind fun t => kitB t T with
  | none => rw [q] at hp1; exact False.elim hp1
  | some b =>
    rw [q] at hp1
    cases q2 : tyD S1 d with
    | none => rw [q2] at q; cases q
    | some t =>
      rw [q2] at q
      exact ⟨v, .ty T, .type t, .type T, b, rfl, .ty T, by rw [hk]; exact tyX_of s1 i1 q2, kit_ty q, hp1 _ H1 As1 e1 s1 (.bl _)⟩
end
end FL
end

section
set_option autoImplicit false
namespace FL
open PySem L2
section
variable {X : Cx} {g : G} {hx : HX} {W : WX} {a b c e : Expr} {ma mb mc m : ME} {pos : Pos} {es : List Expr} {mas : MA} {H : Hp} {As : List Addr} {S : Store} {st : Stmt} {sts us : List Stmt} {ms mt mu : MS} {t : MT}
theorem fe_sl {lo hi : Option Expr} {ml mh : MO} {p2 : Pos} (he : FE X g hx W e m) (hl : FO X g hx W lo ml) (hh : FO X g hx W hi mh) : FE X g hx W (.Subscript e (.Slice lo hi none p2) pos) (mSl m ml mh) := fe_slice sl_str he hl hh
/-! ### plain statements -/
def mNext : MS := fun ρ S => .nx ρ S
def mBreak : MS := fun ρ S => .bk ρ S
def mCont : MS := fun ρ S => .ct ρ S
def RS.seq : RS → MS → RS
  | .nx ρ S, k => k ρ S
  | r, _ => r
@[simp] theorem seq_nx (ρ : Rho) (S : Store) (k : MS) : (RS.nx ρ S).seq k = k ρ S := rfl
@[simp] theorem seq_rt (d : D) (S : Store) (k : MS) : (RS.rt d S).seq k = .rt d S := rfl
@[simp] theorem seq_bk (ρ : Rho) (S : Store) (k : MS) : (RS.bk ρ S).seq k = .bk ρ S := rfl
@[simp] theorem seq_ct (ρ : Rho) (S : Store) (k : MS) : (RS.ct ρ S).seq k = .ct ρ S := rfl
@[simp] theorem seq_err (c : Nat) (ds : List D) (ρ : Rho) (S : Store) (k : MS) : (RS.err c ds ρ S).seq k = .err c ds ρ S := rfl
@[simp] theorem seq_bad (k : MS) : RS.bad.seq k = .bad := rfl
def mSeq (m k : MS) : MS := fun ρ S => (m ρ S).seq k
def mRet (m : ME) : MS := fun ρ S => (m ρ S).stm ρ fun d S1 => .rt d S1
def mRetN : MS := fun _ S => .rt .non S
def mDrop (m : ME) : MS := fun ρ S => (m ρ S).stm ρ fun _ S1 => .nx ρ S1
def mSet (i : Nat) (m : ME) : MS := fun ρ S => (m ρ S).stm ρ fun d S1 => .nx (ρ.set i (.dat d)) S1
def mIf (t : MT) (m k : MS) : MS := fun ρ S => (t ρ S).stm ρ fun c S1 => match c with
  | true => m ρ S1
  | false => k ρ S1
theorem fs_nil (hk : X.K = g.K) : FSs X g hx W [] mNext := ⟨hk, _, pss_nil, fun σ H As ρ S he hs E hp => hp σ H As (Ext.refl _ _) hs he⟩
theorem fs_one (h : FS X g hx W st ms) : FSs X g hx W [st] ms := let ⟨hk, t, p, s⟩ := h.ex; ⟨hk, t, pss_one p, s⟩
theorem fs_cons (h : FS X g hx W st ms) (h2 : FSs X g hx W sts mt) : FSs X g hx W (st :: sts) (mSeq ms mt) := by
  obtain ⟨hk, t, p, s⟩ := h.ex
  obtain ⟨_, u, q, s2⟩ := h2.ex
  refine ⟨hk, _, pss_cons p q, fun σ H As ρ S he hs E hp => ?_⟩
  refine s σ H As ρ S he hs _ ?_
  unfold mSeq at hp
  cases r : ms ρ S with
  | nx ρ' S' =>
    rw [r] at hp
    exact fun σ' H' As' e1 s1 v1 => s2 σ' H' As' ρ' S' v1 s1 E (hp.up e1)
  | rt d S' => rw [r] at hp; exact hp
  | bk ρ' S' => rw [r] at hp; exact hp
  | ct ρ' S' => rw [r] at hp; exact hp
  | err c ds ρ' S' => rw [r] at hp; exact hp
  | bad => rw [r] at hp; exact hp
theorem fs_pass (hk : X.K = g.K) : FS X g hx W (.Pass pos) mNext := ⟨hk, _, ps_pass, fun σ H As ρ S he hs E hp => hp σ H As (Ext.refl _ _) hs he⟩
theorem fs_break (hk : X.K = g.K) : FS X g hx W (.Break pos) mBreak := ⟨hk, _, ps_break, fun σ H As ρ S he hs E hp => hp σ H As (Ext.refl _ _) hs he⟩
theorem fs_cont (hk : X.K = g.K) : FS X g hx W (.Continue pos) mCont := ⟨hk, _, ps_continue, fun σ H As ρ S he hs E hp => hp σ H As (Ext.refl _ _) hs he⟩
theorem fs_retN (hk : X.K = g.K) : FS X g hx W (.Return none pos) mRetN := ⟨hk, _, ps_retN, fun σ H As ρ S he hs E hp => hp .non H As (Ext.refl _ _) hs .non⟩
/-- a raise within an expression, told of the statement -/
theorem PostS.err {c : Nat} {ds : List D} {ρ : Rho} {σ : L2.St} {S' : Store} {E : Ends} (he : EnvOk g hx H As ρ σ) (h : PostS g hx W H As (.err c ds ρ S') E) : ∀ dd H' As', Ext H As H' As' → StOk g H' As' S' → ExcOk g H' As' c ds dd → W (.ref (g.ec c)) dd σ H' :=
  fun dd H' As' e s x => h σ dd H' As' e s (he.up e) x
theorem fs_ret (h : FE X g hx W e m) : FS X g hx W (.Return (some e) pos) (mRet m) := by
  obtain ⟨hk, t, p, s⟩ := h.ex
  refine ⟨hk, _, ps_ret p, fun σ H As ρ S he hs E hp => ?_⟩
  exact s σ H As ρ S he hs _ (Post.stm (P := fun r => PostS g hx W H As r E) hp (fun d S1 hp1 => hp1) (fun c ds S' q => PostS.err he q) id)
theorem fs_expr (h : FE X g hx W e m) (hs : swapsWith e none pos.line X.env = pure false := by rfl) : FS X g hx W (.Expr e pos) (mDrop m) := by
  obtain ⟨hk, t, p, s⟩ := h.ex
  refine ⟨hk, _, ps_expr p hs, fun σ H As ρ S he hs E hp => ?_⟩
  exact s σ H As ρ S he hs _ (Post.stm (P := fun r => PostS g hx W H As r E) hp (fun d S1 hp1 v H1 As1 e1 s1 i1 => hp1 σ H1 As1 e1 s1 (he.up e1)) (fun c ds S' q => PostS.err he q) id)
theorem fs_set {i : Nat} {x : Str} {pos' : Pos} (hN : X.N.Nodup) (h : FE X g hx W e m) (hi : X.N[i]? = some x := by rfl) (hl : Loc X.env.scope x := by first | exact Or.inl rfl | exact Or.inr rfl) (hs : swapsWith e (some (.Name x pos')) pos.line X.env = pure false := by rfl) (hf : X.fn x = true ∨ X.env.scope.names.lookup x = some .local := by first | exact .inl rfl | exact .inr rfl | assumption) :
    FS X g hx W (.Assign [.Name x pos'] e pos) (mSet i m) := by
  obtain ⟨hk, t, p, s⟩ := h.ex
  refine ⟨hk, _, ps_set hN hi hl p hs hf, fun σ H As ρ S he hs E hp => ?_⟩
  exact s σ H As ρ S he hs _ (Post.stm (P := fun r => PostS g hx W H As r E) hp (fun d S1 hp1 v H1 As1 e1 s1 i1 => hp1 _ H1 As1 e1 s1 ((he.up e1).setD i i1)) (fun c ds S' q => PostS.err he q) id)
theorem fs_if (hc : FT X g hx W c t) (h1 : FSs X g hx W sts ms) (h2 : FSs X g hx W us mt) : FS X g hx W (.If c sts us pos) (mIf t ms mt) := by
  obtain ⟨hk, tc, pc, sc⟩ := hc.ex
  obtain ⟨_, t1, p1, s1⟩ := h1.ex
  obtain ⟨_, t2, p2, s2⟩ := h2.ex
  refine ⟨hk, _, ps_if pc p1 p2, fun σ H As ρ S he hs E hp => ?_⟩
  refine sc σ H As ρ S he hs _ (PostT.stm (P := fun r => PostS g hx W H As r E) hp (fun d S1 hp1 H1 As1 e1 st1 => ?_) (fun c ds S' q => PostS.err he q) id)
  cases d with
  | true => rw [if_pos rfl]; exact s1 σ H1 As1 ρ S1 (he.up e1) st1 E (hp1.up e1)
  | false => rw [if_neg Bool.false_ne_true]; exact s2 σ H1 As1 ρ S1 (he.up e1) st1 E (hp1.up e1)
/-! ### targets -/
abbrev Tgt := D → Rho → Store → Option Rho
abbrev Tgts := List D → Rho → Store → Option Rho
/-- only the slots sl have changed -/
def Off (sl : List Nat) (σ σ' : L2.St) : Prop := σ'.length = σ.length ∧ ∀ i : Nat, i ∉ sl → σ'[i]? = σ[i]?
theorem Off.refl (sl : List Nat) (σ : L2.St) : Off sl σ σ := ⟨rfl, fun _ _ => rfl⟩
theorem Off.trans {s1 s2 : List Nat} {σ1 σ2 σ3 : L2.St} (a : Off s1 σ1 σ2) (b : Off s2 σ2 σ3) : Off (s1 ++ s2) σ1 σ3 := ⟨b.1.trans a.1, fun i hi => (b.2 i fun m => hi (List.mem_append_right _ m)).trans (a.2 i fun m => hi (List.mem_append_left _ m))⟩
def SnG (g : G) (hx : HX) (t : TG) (sl : List Nat) (m : Tgt) : Prop := ∀ v σ H As d ρ S ρ', EnvOk g hx H As ρ σ → StOk g H As S → Is g.K H As d v → m d ρ S = some ρ' → ∀ Q : L2.St → Hp → Prop, (∀ σ', EnvOk g hx H As ρ' σ' → Off sl σ σ' → Q σ' H) → t v σ H Q
def SnGs (g : G) (hx : HX) (t : TGs) (sl : List Nat) (m : Tgts) : Prop := ∀ vs σ H As ds ρ S ρ', EnvOk g hx H As ρ σ → StOk g H As S → IsL g.K H As ds vs → m ds ρ S = some ρ' → ∀ Q : L2.St → Hp → Prop, (∀ σ', EnvOk g hx H As ρ' σ' → Off sl σ σ' → Q σ' H) → t vs σ H Q
structure FG (X : Cx) (g : G) (hx : HX) (e : Expr) (sl : List Nat) (m : Tgt) : Prop where
  ex : X.K = g.K ∧ ∃ t, PG X e t ∧ SnG g hx t sl m
structure FGs (X : Cx) (g : G) (hx : HX) (e : List Expr) (sl : List Nat) (m : Tgts) : Prop where
  ex : X.K = g.K ∧ ∃ t, PGs X e t ∧ SnGs g hx t sl m
def gN (i : Nat) : Tgt := fun d ρ _ => some (ρ.set i (.dat d))
def gsNil : Tgts := fun ds ρ _ => match ds with
  | [] => some ρ
  | _ => none
def gsCons (t : Tgt) (u : Tgts) : Tgts := fun ds ρ S => match ds with
  | d :: r => (t d ρ S).bind fun ρ1 => u r ρ1 S
  | [] => none
def gT (n : Nat) (u : Tgts) : Tgt := fun d ρ S => match d with
  | .tup ds => if ds.length = n then u ds ρ S else none
  | _ => none
theorem fg_name {i : Nat} {x : Str} (hk : X.K = g.K) (hN : X.N.Nodup) (hi : X.N[i]? = some x := by rfl) (hl : Loc X.env.scope x := by first | exact Or.inl rfl | exact Or.inr rfl) (hf : X.fn x = true ∨ X.env.scope.names.lookup x = some .local := by first | exact .inl rfl | exact .inr rfl | assumption) : FG X g hx (.Name x pos) [i] (gN i) :=
  ⟨hk, _, pg_name hN hi hl hf, fun v σ H As d ρ S ρ' he hs iv h Q q => by
    cases h
    exact q _ (he.setD i iv) ⟨by rw [List.length_set], fun j hj => List.getElem?_set_ne fun z => hj (by rw [z]; exact List.mem_singleton.mpr rfl)⟩⟩
theorem fgs_nil (hk : X.K = g.K) : FGs X g hx [] [] gsNil := ⟨hk, _, pgs_nil, fun vs σ H As ds ρ S ρ' he hs iv h Q q => by
  cases iv with
  | nil => cases h; exact ⟨rfl, q _ he (Off.refl _ _)⟩
  | cons _ _ => cases h⟩
theorem fgs_cons {tg : Tgt} {tgs : Tgts} {s1 s2 : List Nat} (h1 : FG X g hx e s1 tg) (h2 : FGs X g hx es s2 tgs) (hs : (assignEach (e :: es) X.env).map (·.2) = assign e X.env :: (assignEach es X.env).map (·.2) := by rfl) : FGs X g hx (e :: es) (s1 ++ s2) (gsCons tg tgs) := by
  obtain ⟨hk, t, p, s⟩ := h1.ex
  obtain ⟨_, u, q, z2⟩ := h2.ex
  refine ⟨hk, _, pgs_cons p q hs, fun vs σ H As ds ρ S ρ' he hs iv h Q k => ?_⟩
  cases iv with
  | nil => cases h
  | cons i1 i2 =>
    rename_i d v r vr
    unfold gsCons at h
    dsimp only at h
    cases z : tg d ρ S with
    | none => rw [z] at h; cases h
    | some ρ1 =>
      rw [z] at h
      exact ⟨v, vr, rfl, s v σ H As d ρ S ρ1 he hs i1 z _ fun σ1 he1 o1 => z2 vr σ1 H As r ρ1 S ρ' he1 hs i2 h Q fun σ2 he2 o2 => k σ2 he2 (o1.trans o2)⟩
theorem fg_tup {k n : Nat} {tgs : Tgts} {sl : List Nat} (hc : X.calm = true) (h : FGs X g hx es sl tgs) (hn : (assignEach es X.env).length = n := by rfl) (hst : (assignEach es X.env).findIdx? (·.1) = none := by rfl) : FG X g hx (.Tuple es k pos) sl (gT n tgs) := by
  obtain ⟨hk, t, p, s⟩ := h.ex
  refine ⟨hk, _, pg_tup hc p hn hst, fun v σ H As d ρ S ρ' he hs iv h Q q => ?_⟩
  unfold gT at h
  cases iv with
  | tup h1 r =>
    dsimp only at h
    split at h
    · rename_i hl
      refine ⟨_, _, rfl, by rw [hk]; exact h1.sq, by rw [← r.len]; exact hl, s _ σ H As _ ρ S ρ' he hs r h Q q⟩
    · cases h
  | _ => cases h
/-- target = e -/
def mAsg (t : Tgt) (m : ME) : MS := fun ρ S => (m ρ S).stm ρ fun d S1 => match t d ρ S1 with
  | some ρ' => .nx ρ' S1
  | none => .bad
theorem fs_asg {tg : Expr} {tt : Tgt} {sl : List Nat} (h : FE X g hx W e m) (hg : FG X g hx tg sl tt) (hs : swapsWithSole [tg] e pos.line X.env = pure false := by rfl) (hw : swappedStores [tg] e X.env = pure none := by rfl) (h1 : (assignEach [tg] X.env).map (·.2) = [assign tg X.env] := by rfl) : FS X g hx W (.Assign [tg] e pos) (mAsg tt m) := by
  obtain ⟨hk, t, p, s⟩ := h.ex
  obtain ⟨_, u, q, s2⟩ := hg.ex
  refine ⟨hk, _, ps_asg p q hs hw h1, fun σ H As ρ S he hs E hp => ?_⟩
  refine s σ H As ρ S he hs _ (Post.stm (P := fun r => PostS g hx W H As r E) hp (fun d S1 hp1 v H1 As1 e1 s1 i1 => ?_) (fun c ds S' q => PostS.err he q) id)
  split at hp1
  · rename_i ρ' z
    exact s2 v σ H1 As1 d ρ S1 ρ' (he.up e1) s1 i1 z _ fun σ' he' _ => hp1 σ' H1 As1 e1 s1 he'
  · exact False.elim hp1
/-- a, b = e1, e2 (two names of the def) -/
def mPar (i j : Nat) (ma : MA) : MS := fun ρ S => (ma ρ S).stm ρ fun ds S1 => match ds with
  | [d, e] => .nx ((ρ.set i (.dat d)).set j (.dat e)) S1
  | _ => .bad
/-- xs[i] = e, xs an object of the store -/
def setD (o i : D) (d : D) (S : Store) : Option Store := match o, i with
  | .ref n, .int k => match getL S n with
    | some ds => match ixN ds.length k with
      | some j => some (S.set n (.lst (ds.set j d)))
      | none => none
    | none => none
  | _, _ => none
def mSub (mo mi m : ME) : MS := fun ρ S => (m ρ S).stm ρ fun d S1 => (mo ρ S1).stm ρ fun o S2 => (mi ρ S2).stm ρ fun i S3 => match setD o i d S3 with
  | some S4 => .nx ρ S4
  | none => .bad
theorem fs_sub {o i : Expr} {mo mi : ME} {kp : Pos} (h : FE X g hx W e m) (ho : FE X g hx W o mo) (hi : FE X g hx W i mi) (pg : ∀ {to ti : TE} {t : TSet}, PE X o to → PE X i ti → PSet X t → PG X (.Subscript o i kp) (gSub to ti t)) (hs : swapsWithSole [.Subscript o i kp] e pos.line X.env = pure false := by rfl) (hw : swappedStores [.Subscript o i kp] e X.env = pure none := by rfl) (hz : (assignEach [.Subscript o i kp] X.env).map (·.2) = [assign (.Subscript o i kp) X.env] := by rfl) :
    FS X g hx W (.Assign [.Subscript o i kp] e pos) (mSub mo mi m) := by
  obtain ⟨hk, t, p, s⟩ := h.ex
  obtain ⟨_, t1, p1, s1⟩ := ho.ex
  obtain ⟨_, t2, p2, s2⟩ := hi.ex
  refine ⟨hk, _, ps_asg p (pg p1 p2 set_list) hs hw hz, fun σ H As ρ S he hs E hp => ?_⟩
  refine s σ H As ρ S he hs _ (Post.stm (P := fun r => PostS g hx W H As r E) hp (fun d S1 hp1 v H1 As1 e1 st1 i1 => ?_) (fun c ds S' q => PostS.err he q) id)
  refine s1 σ H1 As1 ρ S1 (he.up e1) st1 _ (Post.stm (P := fun r => PostS g hx W H1 As1 r E) (hp1.up e1) (fun od S2 hp2 ov H2 As2 e2 st2 i2 => ?_) (fun c ds S' q => PostS.err (he.up e1) q) id)
  refine s2 σ H2 As2 ρ S2 ((he.up e1).up e2) st2 _ (Post.stm (P := fun r => PostS g hx W H2 As2 r E) (hp2.up e2) (fun id S3 hp3 iv H3 As3 e3 st3 i3 => ?_) (fun c ds S' q => PostS.err ((he.up e1).up e2) q) (fun z => z))
  have hp4 := hp3.up e3
  unfold setD at hp4
  have i2' := i2.up e3
  have i1' := (i1.up e2).up e3
  cases i2' with
  | ref ha =>
    cases i3 with
    | int k =>
      dsimp only at hp4
      cases q : getL S3 _ with
      | none => rw [q] at hp4; exact False.elim hp4
      | some ds =>
        rw [q] at hp4
        dsimp only at hp4
        cases q2 : ixN ds.length k with
        | none => rw [q2] at hp4; exact False.elim hp4
        | some j =>
          rw [q2] at hp4
          obtain ⟨a', xs, ha', h1, r⟩ := st3.lst (getL_some q)
          rw [ha] at ha'; cases ha'
          have ex : Ext H3 As3 (upd H3 _ (.lst (xs.set j v))) As3 := Ext.write st3 ha
          refine ⟨_, xs, k, j, rfl, rfl, h1, by rw [← r.len]; exact q2, ?_⟩
          exact hp4 σ _ As3 ex (st3.write ha ⟨_, upd_same, (r.up ex).set j (i1'.up ex)⟩) ((((he.up e1).up e2).up e3).up ex)
    | _ => exact False.elim hp4
  | _ =>
    cases i3 <;> exact False.elim hp4
/-- x op= e, x a name of the def -/
structure AugR (X : Cx) (g : G) (op : Operator) (f : D → D → Store → R D) : Prop where
  ex : ∃ r, PIp X op r ∧ RSn g r f ∧ NoErr f
def mAug (i : Nat) (f : D → D → Store → R D) (m : ME) : MS := fun ρ S => match ρ[i]? with
  | some (.dat x) => (m ρ S).stm ρ fun d S1 => (f x d S1).stm ρ fun z S2 => .nx (ρ.set i (.dat z)) S2
  | _ => .bad
theorem fs_aug {i : Nat} {x : Str} {op : Operator} {f : D → D → Store → R D} {pos' : Pos} (hN : X.N.Nodup) (ar : AugR X g op f) (h : FE X g hx W e m) (hi : X.N[i]? = some x := by rfl) (hl : Loc X.env.scope x := by first | exact Or.inl rfl | exact Or.inr rfl) (hf : X.fn x = true ∨ X.env.scope.names.lookup x = some .local := by first | exact .inl rfl | exact .inr rfl | assumption) :
    FS X g hx W (.AugAssign (.Name x pos') op e pos) (mAug i f m) := by
  obtain ⟨r, h1, h2, h3⟩ := ar.ex
  obtain ⟨hk, t, p, s⟩ := h.ex
  refine ⟨hk, _, ps_aug hN hi hl p h1 hf, fun σ H As ρ S he hs E hp => ?_⟩
  unfold mAug at hp
  cases q : ρ[i]? with
  | none => rw [q] at hp; exact False.elim hp
  | some sl =>
    rw [q] at hp
    cases sl with
    | un => exact False.elim hp
    | exc c ds => exact False.elim hp
    | dat d0 =>
      obtain ⟨v0, e0, i0⟩ := he.at_ i _ q
      refine ⟨v0, e0, ?_⟩
      refine s σ H As ρ S he hs _ (Post.stm (P := fun r => PostS g hx W H As r E) hp (fun d S1 hp1 v H1 As1 e1 st1 i1 => ?_) (fun c ds S' q => PostS.err he q) id)
      have hp2 := hp1.up e1
      cases q2 : f d0 d S1 with
      | err c ds S3 => exact absurd q2 (h3 d0 d S1 c ds S3)
      | bad => rw [q2] at hp2; exact False.elim hp2
      | ok z S3 =>
        rw [q2] at hp2
        exact h2 H1 As1 S1 v0 v d0 d st1 (i0.up e1) i1 _ (fun z' S' q' => by rw [q2] at q'; cases q'; exact fun zv H2 As2 e2 st2 i2 => hp2 _ H2 As2 e2 st2 (((he.up e1).up e2).setD i i2)) ⟨z, S3, q2⟩
end
end FL
end

section
set_option autoImplicit false
namespace FL
open PySem L2
/-! ### while -/
def mWhileN (t : MT) (b : MS) : Nat → MS
  | 0 => fun _ _ => .bad
  | n + 1 => fun ρ S => (t ρ S).stm ρ fun c S1 => match c with
    | false => .nx ρ S1
    | true => match b ρ S1 with
      | .nx ρ' S' => mWhileN t b n ρ' S'
      | .ct ρ' S' => mWhileN t b n ρ' S'
      | .bk ρ' S' => .nx ρ' S'
      | r => r
/-- the turns that a while may take -/
def fuelW : Nat := 100000000
def mWhile (t : MT) (b : MS) : MS := mWhileN t b fuelW
/-! ### for -/
structure Src where
  items : List D
  guard : Store → Prop
abbrev MI := Rho → Store → R Src
def SrcOk (g : G) (H1 : Hp) (As1 : List Addr) (J : It) (src : Src) : Prop := ∃ Gd Y, Walk J src.items.length Gd Y ∧ (∀ H As S, Ext H1 As1 H As → StOk g H As S → src.guard S → Gd H) ∧
  ∀ i H As S x H', Ext H1 As1 H As → StOk g H As S → src.guard S → Y i H x H' → ∃ d, src.items[i]? = some d ∧ Ext H As H' As ∧ StOk g H' As S ∧ Is g.K H' As d x
def PostI (g : G) (W : WX) (σ : L2.St) (H : Hp) (As : List Addr) (r : R Src) (Q : It → Hp → Prop) : Prop := match r with
  | .ok src S' => ∀ J H' As', Ext H As H' As' → StOk g H' As' S' → SrcOk g H' As' J src → Q J H'
  | .err c ds S' => ∀ dd H' As', Ext H As H' As' → StOk g H' As' S' → ExcOk g H' As' c ds dd → W (.ref (g.ec c)) dd σ H'
  | .bad => False
def SnI (g : G) (hx : HX) (W : WX) (t : TI) (m : MI) : Prop := ∀ σ H As ρ S, EnvOk g hx H As ρ σ → StOk g H As S → ∀ Q : It → Hp → Prop, PostI g W σ H As (m ρ S) Q → t σ H Q
structure FI (X : Cx) (g : G) (hx : HX) (W : WX) (tg e : Expr) (m : MI) : Prop where
  ex : X.K = g.K ∧ ∃ t, PI X tg e t ∧ SnI g hx W t m
open Classical in
noncomputable def mItems (P : Store → Prop) (t : Tgt) (b : MS) : List D → MS
  | [] => fun ρ S => if P S then .nx ρ S else .bad
  | d :: ds => fun ρ S => if P S then (match t d ρ S with
      | none => .bad
      | some ρ1 => match b ρ1 S with
        | .nx ρ' S' => mItems P t b ds ρ' S'
        | .ct ρ' S' => mItems P t b ds ρ' S'
        | .bk ρ' S' => .nx ρ' S'
        | r => r) else .bad
noncomputable def mFor (mi : MI) (t : Tgt) (b : MS) : MS := fun ρ S => (mi ρ S).stm ρ fun src S1 => mItems src.guard t b src.items ρ S1
section
variable {X : Cx} {g : G} {hx : HX} {W : WX} {a b c e tg : Expr} {ma mb mc m : ME} {pos : Pos} {es : List Expr} {mas : MA} {H : Hp} {As : List Addr} {S : Store} {st : Stmt} {sts us : List Stmt} {ms mt mu : MS} {t : MT}
theorem fs_while (hp : PassesOwn (model X.prog X.w) X.A X.env X.xe) (hc : FT X g hx W c t) (hb : FSs X g hx W sts ms) : FS X g hx W (.While c sts [] pos) (mWhile t ms) := by
  obtain ⟨hk, tc, pc, sc⟩ := hc.ex
  obtain ⟨_, tb, pb, sb⟩ := hb.ex
  refine ⟨hk, _, ps_while hp pc pb, fun σ H As ρ S he hs E hp => ?_⟩
  refine ⟨fun n σ H => ∃ As ρ S, EnvOk g hx H As ρ σ ∧ StOk g H As S ∧ PostS g hx W H As (mWhileN t ms n ρ S) E, ⟨fuelW, As, ρ, S, he, hs, hp⟩, ?_⟩
  rintro n σ H ⟨As, ρ, S, he, hs, hp⟩
  cases n with
  | zero => exact False.elim hp
  | succ n =>
    unfold mWhileN at hp
    refine sc σ H As ρ S he hs _ (PostT.stm (P := fun r => PostS g hx W H As r E) hp (fun d S1 hp1 H1 As1 e1 st1 => ?_) (fun c ds S' q => PostS.err he q) id)
    cases d with
    | false => rw [if_neg Bool.false_ne_true]; exact hp1 σ H1 As1 e1 st1 (he.up e1)
    | true =>
      rw [if_pos rfl]
      have hp2 := hp1.up e1
      dsimp only at hp2
      refine ⟨fun σ' H' => ∃ As ρ S, EnvOk g hx H' As ρ σ' ∧ StOk g H' As S ∧ PostS g hx W H' As (mWhileN t ms n ρ S) E, fun σ' H' h => ⟨n, Nat.lt_succ_self n, h⟩, ?_⟩
      refine sb σ H1 As1 ρ S1 (he.up e1) st1 _ ?_
      cases r : ms ρ S1 with
      | nx ρ' S' => rw [r] at hp2; exact fun σ' H' As' e2 st2 v2 => ⟨As', ρ', S', v2, st2, hp2.up e2⟩
      | ct ρ' S' => rw [r] at hp2; exact fun σ' H' As' e2 st2 v2 => ⟨As', ρ', S', v2, st2, hp2.up e2⟩
      | bk ρ' S' => rw [r] at hp2; exact hp2
      | rt d S' => rw [r] at hp2; exact hp2
      | err c ds ρ' S' => rw [r] at hp2; exact hp2
      | bad => rw [r] at hp2; exact hp2
theorem fs_for {mi : MI} {tt : Tgt} {sl : List Nat} (hp : PassesOwn (model X.prog X.w) X.A X.env X.xe) (hc : X.calm = true) (hi : FI X g hx W tg e mi) (hg : FG X g hx tg sl tt) (hb : FSs X g hx W sts ms) (hs : ∀ x, foldedSetIterable e X.env x = pure x := by intro _; rfl) :
    FS X g hx W (.For tg e sts [] pos) (mFor mi tt ms) := by
  obtain ⟨hk, ti, pi, si⟩ := hi.ex
  obtain ⟨_, tgt, pg, sg⟩ := hg.ex
  obtain ⟨_, tb, pb, sb⟩ := hb.ex
  refine ⟨hk, _, ps_for hp hc pi pg pb hs, fun σ H As ρ S he hs E hp => ?_⟩
  have key : PostI g W σ H As (mi ρ S) fun J H1 => ∃ W : Nat → Nat → L2.St → Hp → Prop, (∃ m, W 0 m σ H1) ∧ ∀ i m σ H, W i m σ H →
      (J.stop i H ∧ E.nx σ H) ∨ (J.go i H ∧ ∃ N : L2.St → Hp → Prop, (∀ σ' H', N σ' H' → ∃ m', m' < m ∧ W (i + 1) m' σ' H') ∧ ∀ x H', J.yld i H x H' → tgt x σ H' fun σ2 H2 => tb { E with nx := N, ct := N, bk := E.nx } σ2 H2) := by
    unfold mFor at hp
    cases r : mi ρ S with
    | err c ds S' => rw [r] at hp; exact PostS.err he hp
    | bad => rw [r] at hp; exact False.elim hp
    | ok src S1 =>
      rw [r, stm_ok] at hp
      intro J H1 As1 e1 st1 ⟨Gd, Y, wk, hG, hY⟩
      refine for_it wk (fun i σ H => ∃ As ρ S, Ext H1 As1 H As ∧ EnvOk g hx H As ρ σ ∧ StOk g H As S ∧ PostS g hx W H As (mItems src.guard tt ms (src.items.drop i) ρ S) E)
        ⟨As1, ρ, S1, Ext.refl _ _, he.up e1, st1, by rw [List.drop_zero]; exact hp.up e1⟩ ?_ ?_ ?_
      · rintro i σ H _ ⟨As, ρ, S, ex, he, hs, hp⟩
        refine hG H As S ex hs ?_
        apply Classical.byContradiction
        intro hn
        cases z : src.items.drop i with
        | nil => rw [z] at hp; unfold mItems at hp; rw [if_neg hn] at hp; exact hp
        | cons d ds => rw [z] at hp; unfold mItems at hp; rw [if_neg hn] at hp; exact hp
      · rintro i x σ H H' hi ⟨As, ρ, S, ex, he, hs, hp⟩ hy
        have hgd : src.guard S := by
          apply Classical.byContradiction
          intro hn
          rw [List.drop_eq_getElem_cons hi] at hp
          unfold mItems at hp
          rw [if_neg hn] at hp
          exact hp
        obtain ⟨d, hd, e2, s2, i2⟩ := hY i H As S x H' ex hs hgd hy
        have hdd : src.items.drop i = d :: src.items.drop (i + 1) := by
          rw [List.drop_eq_getElem_cons hi]
          obtain ⟨_, z⟩ := List.getElem?_eq_some_iff.mp hd
          rw [z]
        rw [hdd] at hp
        unfold mItems at hp
        rw [if_pos hgd] at hp
        cases q : tt d ρ S with
        | none => rw [q] at hp; exact False.elim hp
        | some ρ1 =>
          rw [q] at hp
          dsimp only at hp
          refine sg x σ H' As d ρ S ρ1 (he.up e2) s2 i2 q _ fun σ1 he1 _ => ?_
          refine sb σ1 H' As ρ1 S he1 s2 _ ?_
          have hp2 := hp.up e2
          have ex2 := ex.trans e2
          cases r : ms ρ1 S with
          | nx ρ' S' => rw [r] at hp2; exact fun σ' H'' As' e3 st3 v3 => ⟨As', ρ', S', ex2.trans e3, v3, st3, hp2.up e3⟩
          | ct ρ' S' => rw [r] at hp2; exact fun σ' H'' As' e3 st3 v3 => ⟨As', ρ', S', ex2.trans e3, v3, st3, hp2.up e3⟩
          | bk ρ' S' => rw [r] at hp2; exact hp2
          | rt d S' => rw [r] at hp2; exact hp2
          | err c ds ρ' S' => rw [r] at hp2; exact hp2
          | bad => rw [r] at hp2; exact hp2
      · rintro σ H ⟨As, ρ, S, ex, he, hs, hp⟩
        rw [List.drop_length] at hp
        unfold mItems at hp
        split at hp
        · exact hp σ H As (Ext.refl _ _) hs he
        · exact False.elim hp
  exact si σ H As ρ S he hs _ key
/-! ### what a for walks -/
theorem SrcOk.mk {H1 : Hp} {As1 : List Addr} {J : It} {src : Src} {n : Nat} {Gd : Hp → Prop} {Y : Nat → Hp → V → Hp → Prop} (w : Walk J n Gd Y) (hn : n = src.items.length)
    (hG : ∀ H As S, Ext H1 As1 H As → StOk g H As S → src.guard S → Gd H)
    (hY : ∀ i H As S x H', Ext H1 As1 H As → StOk g H As S → src.guard S → Y i H x H' → ∃ d, src.items[i]? = some d ∧ Ext H As H' As ∧ StOk g H' As S ∧ Is g.K H' As d x) : SrcOk g H1 As1 J src := ⟨Gd, Y, hn ▸ w, hG, hY⟩
def mRow (m : ME) : MI := fun ρ S => (m ρ S).bind fun d S1 => match d with
  | .tup ds => .ok ⟨ds, fun _ => True⟩ S1
  | _ => .bad
/-- a list: it must stand as it stood at each turn -/
def mRowL (m : ME) : MI := fun ρ S => (m ρ S).bind fun d S1 => match d with
  | .fz ds => .ok ⟨ds, fun _ => True⟩ S1
  | .ref n => match getL S1 n with
    | some ds => .ok ⟨ds, fun S => S[n]? = some (.lst ds)⟩ S1
    | none => .bad
  | _ => .bad
def mRng1 (ma : MA) : MI := fun ρ S => (ma ρ S).bind fun ds S1 => match ds with
  | [.int n] => if n.natAbs ≤ 16777216 then .ok ⟨(List.range n.toNat).map fun (i : Nat) => .int (i : Int), fun _ => True⟩ S1 else .bad
  | _ => .bad
def mRng2 (ma : MA) : MI := fun ρ S => (ma ρ S).bind fun ds S1 => match ds with
  | [.int a, .int b] => if a.natAbs ≤ 16777216 ∧ b.natAbs ≤ 16777216 then .ok ⟨(List.range (b - a).toNat).map fun (i : Nat) => .int (a + (i : Int)), fun _ => True⟩ S1 else .bad
  | _ => .bad
def mSigns (m : ME) : MI := fun ρ S => (m ρ S).bind fun d S1 => match d with
  | .str s => .ok ⟨s.cps.toList.map fun c => .str ⟨#[c]⟩, fun _ => True⟩ S1
  | _ => .bad
def mRev (m : ME) : MI := fun ρ S => (m ρ S).bind fun d S1 => match d with
  | .tup ds => .ok ⟨ds.reverse, fun _ => True⟩ S1
  | .fz ds => .ok ⟨ds.reverse, fun _ => True⟩ S1
  | .ref n => match getL S1 n with
    | some ds => .ok ⟨ds.reverse, fun S => S[n]? = some (.lst ds)⟩ S1
    | none => .bad
  | _ => .bad
theorem fi_tup (h : FE X g hx W e m) : FI X g hx W tg e (mRow m) := by
  obtain ⟨hk, t, p, s⟩ := h.ex
  refine ⟨hk, _, pi_tup p, fun σ H As ρ S he hs Q hp => ?_⟩
  refine s σ H As ρ S he hs _ (Post.bind (P := fun r => PostI g W σ H As r Q) hp (fun d S1 hp1 v H1 As1 e1 s1 i1 => ?_) (fun _ _ _ q => q) id)
  rw [hk]
  cases i1 with
  | tup h1 r =>
    refine ⟨_, rfl, ⟨_, h1.sq⟩, hp1 _ H1 As1 e1 s1 (SrcOk.mk walk_tup r.len.symm (fun H As S ex _ _ => ?_) (fun i H As S x H' ex s2 _ hy => ?_))⟩
    · exact ex.sqT h1.sq
    · obtain ⟨rfl, hx⟩ := hy
      obtain ⟨d, hd, iv⟩ := (r.up ex).getV hx
      exact ⟨d, hd, Ext.refl _ _, s2, iv⟩
  | _ => exact False.elim hp1
theorem walk_L {K : PySem.W.Frag} {p : Addr} {n : Nat} : Walk (Itl K p) n (fun H => ∃ xs, SqL K H p xs ∧ xs.length = n) (fun i H x H' => H' = H ∧ ∀ xs, SqL K H p xs → xs[i]? = some x) where
  goes := fun i H hi ⟨xs, h, e⟩ => ⟨xs, xs[i]'(by omega), h, by simp⟩
  stops := fun H ⟨xs, h, e⟩ => ⟨xs, h, by omega⟩
  yields := fun i H x H' hi _ y => y
theorem fi_list (h : FE X g hx W e m) : FI X g hx W tg e (mRowL m) := by
  obtain ⟨hk, t, p, s⟩ := h.ex
  refine ⟨hk, _, pi_list p, fun σ H As ρ S he hs Q hp => ?_⟩
  refine s σ H As ρ S he hs _ (Post.bind (P := fun r => PostI g W σ H As r Q) hp (fun d S1 hp1 v H1 As1 e1 s1 i1 => ?_) (fun _ _ _ q => q) id)
  rw [hk]
  cases i1 with
  | fz h1 r =>
    refine ⟨_, rfl, ⟨_, h1.sq⟩, hp1 _ H1 As1 e1 s1 (SrcOk.mk walk_L rfl (fun H As S ex _ _ => ⟨_, (ex.fzl h1).sq, r.len.symm⟩) (fun i H As S x H' ex s2 _ hy => ?_))⟩
    obtain ⟨rfl, hx⟩ := hy
    obtain ⟨d, hd, iv⟩ := (r.up ex).getV (hx _ (ex.fzl h1).sq)
    exact ⟨d, hd, Ext.refl _ _, s2, iv⟩
  | ref ha =>
    dsimp only at hp1
    split at hp1
    · rename_i ds q
      obtain ⟨a, xs, ha', h1, r⟩ := s1.lst (getL_some q)
      rw [ha] at ha'; cases ha'
      refine ⟨_, rfl, ⟨_, SqL.of h1⟩, hp1 _ H1 As1 e1 s1 (SrcOk.mk walk_L rfl (fun H As S ex s2 gd => ?_) (fun i H As S x H' ex s2 gd hy => ?_))⟩
      · obtain ⟨a2, xs2, ha2, h2, r2⟩ := s2.lst gd
        rw [ex.get ha] at ha2; cases ha2
        exact ⟨xs2, SqL.of h2, r2.len.symm⟩
      · obtain ⟨a2, xs2, ha2, h2, r2⟩ := s2.lst gd
        rw [ex.get ha] at ha2; cases ha2
        obtain ⟨rfl, hx⟩ := hy
        obtain ⟨d, hd, iv⟩ := r2.getV (hx _ (SqL.of h2))
        exact ⟨d, hd, Ext.refl _ _, s2, iv⟩
    · exact False.elim hp1
  | _ => exact False.elim hp1
theorem fi_range1 {p : Pos} (hm : X.mg "range" = none) (h : FA X g hx W [e] mas) (hg : Gl X "range" := by rfl) (hs : starEach [e] X.env = [(false, eval e X.env)] := by rfl) : FI X g hx W tg (.Call (.Name "range" p) [e] [] pos) (mRng1 mas) := by
  obtain ⟨hk, t, pa, s⟩ := h.ex
  refine ⟨hk, _, pi_range1 hg hm pa hs, fun σ H As ρ S he hs Q hp => ?_⟩
  refine s σ H As ρ S he hs _ (PostA.bind (P := fun r => PostI g W σ H As r Q) hp (fun ds S1 hp1 vs H1 As1 e1 s1 i1 => ?_) (fun _ _ _ q => q) id)
  split at hp1
  · split at hp1
    · rename_i n hb
      cases i1 with
      | cons i1 i2 =>
        cases i2; cases i1
        refine ⟨n, rfl, by omega, by omega, hp1 _ H1 As1 e1 s1 (SrcOk.mk (walk_range.mono (Y' := fun i H x H' => (i < n.toNat) ∧ H' = H ∧ x = V.int (0 + (i : Nat))) (fun _ h => h) (fun i H x H' hi _ y => ⟨hi, y⟩)) (by rw [List.length_map, List.length_range]) (fun H As S ex _ _ => trivial) (fun i H As S x H' ex s2 _ hy => ?_))⟩
        obtain ⟨hi, rfl, rfl⟩ := hy
        refine ⟨.int (i : Nat), ?_, Ext.refl _ _, s2, by rw [Int.zero_add]; exact .int _⟩
        rw [List.getElem?_map, List.getElem?_range hi]
        rfl
    · exact False.elim hp1
  · exact False.elim hp1
theorem fi_range2 {p : Pos} (hm : X.mg "range" = none) (h : FA X g hx W [a, b] mas) (hg : Gl X "range" := by rfl) (hs : starEach [a, b] X.env = [(false, eval a X.env), (false, eval b X.env)] := by rfl) (hs2 : starEach [b] X.env = [(false, eval b X.env)] := by rfl) : FI X g hx W tg (.Call (.Name "range" p) [a, b] [] pos) (mRng2 mas) := by
  obtain ⟨hk, t, pa, s⟩ := h.ex
  refine ⟨hk, _, pi_range2 hg hm pa hs hs2, fun σ H As ρ S he hs Q hp => ?_⟩
  refine s σ H As ρ S he hs _ (PostA.bind (P := fun r => PostI g W σ H As r Q) hp (fun ds S1 hp1 vs H1 As1 e1 s1 i1 => ?_) (fun _ _ _ q => q) id)
  split at hp1
  · split at hp1
    · rename_i lo hi hb
      cases i1 with
      | cons i1 i2 =>
        cases i2 with
        | cons i2 i3 =>
          cases i3; cases i2; cases i1
          refine ⟨lo, hi, rfl, by omega, hp1 _ H1 As1 e1 s1 (SrcOk.mk (walk_range.mono (Y' := fun i H x H' => (i < (hi - lo).toNat) ∧ H' = H ∧ x = V.int (lo + (i : Nat))) (fun _ h => h) (fun i H x H' hi _ y => ⟨hi, y⟩)) (by rw [List.length_map, List.length_range]) (fun H As S ex _ _ => trivial) (fun i H As S x H' ex s2 _ hy => ?_))⟩
          obtain ⟨hi, rfl, rfl⟩ := hy
          refine ⟨.int (lo + (i : Nat)), ?_, Ext.refl _ _, s2, .int _⟩
          rw [List.getElem?_map, List.getElem?_range hi]
          rfl
    · exact False.elim hp1
  · exact False.elim hp1
theorem fi_str (h : FE X g hx W e m) : FI X g hx W tg e (mSigns m) := by
  obtain ⟨hk, t, p, s⟩ := h.ex
  refine ⟨hk, _, pi_str p, fun σ H As ρ S he hs Q hp => ?_⟩
  refine s σ H As ρ S he hs _ (Post.bind (P := fun r => PostI g W σ H As r Q) hp (fun d S1 hp1 v H1 As1 e1 s1 i1 => ?_) (fun _ _ _ q => q) id)
  cases i1 with
  | str z =>
    refine ⟨z, rfl, hp1 _ H1 As1 e1 s1 (SrcOk.mk walk_str (by rw [List.length_map, Array.length_toList]) (fun H As S ex _ _ => trivial) (fun i H As S x H' ex s2 _ hy => ?_))⟩
    obtain ⟨rfl, c, hc, rfl⟩ := hy
    refine ⟨.str ⟨#[c]⟩, ?_, Ext.refl _ _, s2, .str _⟩
    rw [List.getElem?_map, Array.getElem?_toList, hc]
    rfl
  | _ => exact False.elim hp1
theorem walk_rv {K : PySem.W.Frag} {p : Addr} {n : Nat} : Walk (Itv K p n) n (fun H => ∃ xs, SqL K H p xs ∧ xs.length = n) (fun i H x H' => i < n ∧ H' = H ∧ ∀ xs, SqL K H p xs → xs[n - 1 - i]? = some x) where
  goes := fun i H hi ⟨xs, h, e⟩ => ⟨hi, xs, xs[n - 1 - i]'(by omega), h, by simp⟩
  stops := fun H ⟨xs, h, e⟩ => Nat.le_refl _
  yields := fun i H x H' hi _ y => ⟨hi, y⟩
theorem walk_rt {K : PySem.W.Frag} {p : Addr} {n : Nat} : Walk (RT.ItvT K p n) n (fun H => ∃ xs, SqT K H p xs ∧ xs.length = n) (fun i H x H' => i < n ∧ H' = H ∧ ∀ xs, SqT K H p xs → xs[n - 1 - i]? = some x) where
  goes := fun i H hi ⟨xs, h, e⟩ => ⟨hi, xs, xs[n - 1 - i]'(by omega), h, by simp⟩
  stops := fun H ⟨xs, h, e⟩ => Nat.le_refl _
  yields := fun i H x H' hi _ y => ⟨hi, y⟩
theorem rev_at {ds : List D} {xs : List V} {i : Nat} {x : V} (r : IsL g.K H As ds xs) (hi : i < xs.length) (hx : xs[xs.length - 1 - i]? = some x) : ∃ d, ds.reverse[i]? = some d ∧ Is g.K H As d x := by
  have r2 := r.rev
  refine r2.getV ?_
  rw [List.getElem?_reverse hi]
  exact hx
theorem fi_rev {p : Pos} (hm : X.mg "reversed" = none) (h : FE X g hx W e m) (hg : Gl X "reversed" := by rfl) (hs : starEach [e] X.env = (false, eval e X.env) :: starEach [] X.env := by rfl) : FI X g hx W tg (.Call (.Name "reversed" p) [e] [] pos) (mRev m) := by
  obtain ⟨hk, t, pa, s⟩ := h.ex
  refine ⟨hk, _, RT.pi_revA hg hm pa hs, fun σ H As ρ S he hs Q hp => ?_⟩
  refine s σ H As ρ S he hs _ (Post.bind (P := fun r => PostI g W σ H As r Q) hp (fun d S1 hp1 v H1 As1 e1 s1 i1 => ?_) (fun _ _ _ q => q) id)
  rw [hk]
  cases i1 with
  | tup h1 r =>
    refine ⟨_, _, rfl, .inr ⟨h1.sq, hp1 _ H1 As1 e1 s1 (SrcOk.mk walk_rt (by rw [List.length_reverse, r.len]) (fun H As S ex _ _ => ⟨_, ex.sqT h1.sq, rfl⟩) (fun i H As S x H' ex s2 _ hy => ?_))⟩⟩
    obtain ⟨hi, rfl, hx⟩ := hy
    obtain ⟨d, hd, iv⟩ := rev_at (r.up ex) hi (hx _ (ex.sqT h1.sq))
    exact ⟨d, hd, Ext.refl _ _, s2, iv⟩
  | fz h1 r =>
    refine ⟨_, _, rfl, .inl ⟨h1.sq, hp1 _ H1 As1 e1 s1 (SrcOk.mk walk_rv (by rw [List.length_reverse, r.len]) (fun H As S ex _ _ => ⟨_, (ex.fzl h1).sq, rfl⟩) (fun i H As S x H' ex s2 _ hy => ?_))⟩⟩
    obtain ⟨hi, rfl, hx⟩ := hy
    obtain ⟨d, hd, iv⟩ := rev_at (r.up ex) hi (hx _ (ex.fzl h1).sq)
    exact ⟨d, hd, Ext.refl _ _, s2, iv⟩
  | ref ha =>
    dsimp only at hp1
    split at hp1
    · rename_i ds q
      obtain ⟨a, xs, ha', h1, r⟩ := s1.lst (getL_some q)
      rw [ha] at ha'; cases ha'
      refine ⟨_, _, rfl, .inl ⟨SqL.of h1, hp1 _ H1 As1 e1 s1 (SrcOk.mk walk_rv (by rw [List.length_reverse, r.len]) (fun H As S ex s2 gd => ?_) (fun i H As S x H' ex s2 gd hy => ?_))⟩⟩
      · obtain ⟨a2, xs2, ha2, h2, r2⟩ := s2.lst gd
        rw [ex.get ha] at ha2; cases ha2
        exact ⟨xs2, SqL.of h2, by rw [← r2.len, r.len]⟩
      · obtain ⟨a2, xs2, ha2, h2, r2⟩ := s2.lst gd
        rw [ex.get ha] at ha2; cases ha2
        obtain ⟨hi, rfl, hx⟩ := hy
        have el : xs.length = xs2.length := by rw [← r2.len, r.len]
        rw [el] at hi hx
        obtain ⟨d, hd, iv⟩ := rev_at r2 hi (hx _ (SqL.of h2))
        exact ⟨d, hd, Ext.refl _ _, s2, iv⟩
    · exact False.elim hp1
  | _ => exact False.elim hp1
end
end FL
end

section
set_option autoImplicit false
namespace FL
open PySem L2
/-! ### a def's promise -/
/-- the def answers as f -/
def spM (g : G) (n : Nat) (f : MF) : Sp := fun vs H Q E => ∃ (As : List Addr) (ds : List D) (S : Store), IsL g.K H As ds vs ∧ StOk g H As S ∧ ds.length = n ∧ (match f ds S with
  | .ok d S' => ∀ v H' As', Ext H As H' As' → StOk g H' As' S' → Is g.K H' As' d v → Q v H'
  | .err c es S' => ∀ dd H' As', Ext H As H' As' → StOk g H' As' S' → ExcOk g H' As' c es dd → E (.ref (g.ec c)) dd H'
  | .bad => False)
def rho0 (n : Nat) (ds : List D) : Rho := ds.map .dat ++ List.replicate (n - ds.length) .un
def mFn (n : Nat) (ms : MS) : MF := fun ds S => match ms (rho0 n ds) S with
  | .nx _ S' => .ok .non S'
  | .rt d S' => .ok d S'
  | .err c es _ S' => .err c es S'
  | _ => .bad
section
variable {P : Program} {w : World} {mg : Str → Option Value} {base : Heap} {g : G} {H : Hp} {As : List Addr} {S : Store}
theorem env0 {N : List Str} {ds : List D} {vs : List V} (r : IsL g.K H As ds vs) : EnvOk g none H As (rho0 N.length ds) (L2.start N vs) where
  len := by
    unfold rho0 L2.start
    rw [List.length_append, List.length_append, List.length_map, List.length_map, List.length_replicate, List.length_replicate, r.len]
  at_ := fun i s q => by
    unfold rho0 at q
    unfold L2.start
    by_cases hi : i < ds.length
    · rw [List.getElem?_append_left (by rw [List.length_map]; exact hi), List.getElem?_map] at q
      rw [List.getElem?_append_left (by rw [List.length_map, ← r.len]; exact hi), List.getElem?_map]
      rw [List.getElem?_eq_getElem hi] at q
      cases q
      obtain ⟨v, h1, h2⟩ := r.get (List.getElem?_eq_getElem hi)
      exact ⟨v, by rw [h1]; rfl, h2⟩
    · rw [List.getElem?_append_right (by rw [List.length_map]; omega), List.getElem?_replicate] at q
      split at q
      · cases q; trivial
      · cases q
/-- THE RULE for a def -/
theorem fn_ok {x qual : Str} {st : Stmt} {f : Addr} {fd : FuncData} {N ps : List Str} {k : Nat} {ms : MS} (F : Fun g.K x qual st f fd) (Sc : FnScope N ps (defScope st))
    (h : ∀ (cdv : Value) (A : Around) (outer : List Env) (s : Shared) (H : Hp) (E : XK), Room k (A.deeper (PyProof.Rows.envOfC qual (defScope st) s.heap.objs.size f cdv)) →
      FSs (cxOf (L2N.CX P w) P w g.K mg base N qual (defScope st) f cdv A outer s H E) g none (fun c d _ H' => E c d H') (defBody st) ms) :
    FnOk P w g.K mg base (L2N.CX P w) (k + 1) f fd ps (spM g ps.length (mFn N.length ms)) := by
  obtain ⟨o1, o2, o3, o4, o5, o6, cdv, o7, o8, rfl, lk, hcd⟩ := F.ex
  refine fn_of lk hcd Sc (fun vs H Q E h => ?_) (fun A outer s H vs Q E hr hsp => ?_)
  · obtain ⟨As, ds, S, h1, _, h2, _⟩ := h
    rw [← h1.len, h2]
  · obtain ⟨As, ds, S, h1, h2, h3, h4⟩ := hsp
    obtain ⟨_, t, p, sn⟩ := (h cdv A outer s H E hr).ex
    refine ⟨t, p, sn _ H As (rho0 N.length ds) S (env0 h1) h2 _ ?_⟩
    unfold mFn at h4
    cases r : ms (rho0 N.length ds) S with
    | nx ρ' S' => rw [r] at h4; exact fun σ' H' As' e st1 _ => h4 .non H' As' e st1 .non
    | rt d S' => rw [r] at h4; exact h4
    | err c es ρ' S' => rw [r] at h4; exact fun σ' dd H' As' e st1 _ x => h4 dd H' As' e st1 x
    | bk ρ' S' => rw [r] at h4; exact h4.elim
    | ct ρ' S' => rw [r] at h4; exact h4.elim
    | bad => rw [r] at h4; exact h4.elim
/-! ### what was made on the way is forgotten -/
def Cl (S S' : Store) : Prop := S.length ≤ S'.length ∧ ∀ i : Nat, i < S.length → S'[i]? = S[i]? ∨ ∃ o, S'[i]? = some o ∧ BelO S.length o
open Classical in
noncomputable def gcR (S : Store) (r : R D) : R D := match r with
  | .ok d S' => if Cl S S' ∧ Bel S.length d then .ok d (S'.take S.length) else .bad
  | .err c es S' => if Cl S S' ∧ BelL S.length es then .err c es (S'.take S.length) else .bad
  | .bad => .bad
open Classical in
noncomputable def gcS (S : Store) (r : RS) : RS := match r with
  | .nx ρ S' => if Cl S S' ∧ (∀ d, Sl.dat d ∈ ρ → Bel S.length d) ∧ (∀ c es, Sl.exc c es ∉ ρ) then .nx ρ (S'.take S.length) else .bad
  | .ct ρ S' => if Cl S S' ∧ (∀ d, Sl.dat d ∈ ρ → Bel S.length d) ∧ (∀ c es, Sl.exc c es ∉ ρ) then .ct ρ (S'.take S.length) else .bad
  | .bk ρ S' => if Cl S S' ∧ (∀ d, Sl.dat d ∈ ρ → Bel S.length d) ∧ (∀ c es, Sl.exc c es ∉ ρ) then .bk ρ (S'.take S.length) else .bad
  | r => r
theorem cl_ext {H' : Hp} {As' : List Addr} (e : Ext H As H' As') : Ext H As H' As := ⟨List.prefix_refl _, fun _ h n => absurd h n, e.keep, e.tup, e.frz⟩
theorem cl_st {H' : Hp} {As' : List Addr} {S' : Store} (s : StOk g H As S) (e : Ext H As H' As') (s' : StOk g H' As' S') (c : Cl S S') : StOk g H' As (S'.take S.length) where
  len := by rw [List.length_take, s.len]; have := c.1; omega
  nd := s.nd
  obj := fun n o a h1 h2 => by
    have hn : n < S.length := by rw [← s.len]; exact (List.getElem?_eq_some_iff.mp h2).1
    rw [List.getElem?_take_of_lt hn] at h1
    have r := s'.obj n o a h1 (e.get h2)
    refine r.cut e.pre ?_
    rw [s.len]
    rcases c.2 n hn with q | ⟨o', q, b⟩
    · rw [h1] at q
      have r2 := s.obj n o a q.symm h2
      have b := r2.bel
      rw [s.len] at b
      exact b
    · rw [h1] at q; cases q; exact b
theorem gc_ok {S' : Store} {d : D} (h : Cl S S') (b : Bel S.length d) : gcR S (.ok d S') = .ok d (S'.take S.length) := if_pos ⟨h, b⟩
theorem gc_err {S' : Store} {c : Nat} {es : List D} (h : Cl S S') (b : BelL S.length es) : gcR S (.err c es S') = .err c es (S'.take S.length) := if_pos ⟨h, b⟩
theorem cl_app {J : Store} : Cl S (S ++ J) := ⟨by rw [List.length_append]; omega, fun i hi => .inl (List.getElem?_append_left hi)⟩
theorem cl_refl : Cl S S := ⟨Nat.le_refl _, fun i hi => .inl rfl⟩
theorem gc_app {J : Store} {d : D} (b : Bel S.length d) : gcR S (.ok d (S ++ J)) = .ok d S := by rw [gc_ok cl_app b, List.take_left]
theorem gc_same {d : D} (b : Bel S.length d) : gcR S (.ok d S) = .ok d S := by rw [gc_ok cl_refl b, List.take_length]
theorem ExcOk.cut {As' : List Addr} {c : Nat} {es : List D} {dd : Option Addr} (hp : As <+: As') (h : ExcOk g H As' c es dd) (b : BelL As.length es) : ExcOk g H As c es dd := by
  rcases h with h | ⟨d, fs, h1, h2, h3, h4, h5⟩
  · exact .inl h
  · exact .inr ⟨d, fs, h1, h2, fun m => h3 (hp.subset m), h4, IsL.cut hp _ _ h5 b⟩
theorem Post.gc {W : WX} {σ : L2.St} {r : R D} {Q : VK} (s : StOk g H As S) (h : Post g W σ H As (gcR S r) Q) : Post g W σ H As r Q := by
  cases r with
  | ok d S' =>
    unfold gcR at h
    dsimp only at h
    split at h
    · rename_i hc
      exact fun v H' As' e s' i => h v H' As (cl_ext e) (cl_st s e s' hc.1) (Is.cut e.pre _ _ i (by rw [s.len]; exact hc.2))
    · exact h.elim
  | err c es S' =>
    unfold gcR at h
    dsimp only at h
    split at h
    · rename_i hc
      exact fun dd H' As' e s' x => h dd H' As (cl_ext e) (cl_st s e s' hc.1) (x.cut e.pre (by rw [s.len]; exact hc.2))
    · exact h.elim
  | bad => exact h
noncomputable def gcF (f : MF) : MF := fun ds S => gcR S (f ds S)
noncomputable def mGc (m : ME) : ME := fun ρ S => gcR S (m ρ S)
theorem fn_gc {f : Addr} {fd : FuncData} {ps : List Str} {k n : Nat} {mf : MF} (F : FnOk P w g.K mg base (L2N.CX P w) k f fd ps (spM g n mf)) : FnOk P w g.K mg base (L2N.CX P w) k f fd ps (spM g n (gcF mf)) := by
  refine F.imp fun vs H Q E ⟨As, ds, S, h1, h2, h3, h4⟩ => ⟨As, ds, S, h1, h2, h3, ?_⟩
  have z := Post.gc (W := fun c d _ H => E c d H) (σ := []) (Q := Q) (r := mf ds S) h2 (by
    unfold gcF at h4
    cases r : gcR S (mf ds S) with
    | ok d S' => rw [r] at h4; exact h4
    | err c es S' => rw [r] at h4; exact h4
    | bad => rw [r] at h4; exact h4)
  cases r : mf ds S with
  | ok d S' => rw [r] at z; exact z
  | err c es S' => rw [r] at z; exact z
  | bad => rw [r] at z; exact z
theorem fe_gc {X : Cx} {hx : HX} {W : WX} {e : Expr} {m : ME} (h : FE X g hx W e m) : FE X g hx W e (mGc m) := by
  obtain ⟨hk, t, p, s⟩ := h.ex
  exact ⟨hk, t, p, fun σ H As ρ S he hs Q hp => s σ H As ρ S he hs Q (Post.gc hs hp)⟩
theorem EnvOk.cut {hx : HX} {ρ : Rho} {σ : L2.St} {As' : List Addr} (hp : As <+: As') (h : EnvOk g hx H As' ρ σ) (b : ∀ d, Sl.dat d ∈ ρ → Bel As.length d) (nx : ∀ c es, Sl.exc c es ∉ ρ) : EnvOk g hx H As ρ σ := ⟨h.len, fun i s q => by
  have z := h.at_ i s q
  cases s with
  | un => trivial
  | dat d => obtain ⟨v, e1, r⟩ := z; exact ⟨v, e1, Is.cut hp _ _ r (b d (List.mem_of_getElem? q))⟩
  | exc c es => exact absurd (List.mem_of_getElem? q) (nx c es)⟩
noncomputable def mGcS (m : MS) : MS := fun ρ S => gcS S (m ρ S)
theorem PostS.gc {hx : HX} {W : WX} {r : RS} {E : Ends} (s : StOk g H As S) (h : PostS g hx W H As (gcS S r) E) : PostS g hx W H As r E := by
  cases r with
  | nx ρ S' =>
    unfold gcS at h
    dsimp only at h
    split at h
    · rename_i hc
      exact fun σ' H' As' e s' v => h σ' H' As (cl_ext e) (cl_st s e s' hc.1) (v.cut e.pre (by rw [s.len]; exact hc.2.1) hc.2.2)
    · exact h.elim
  | ct ρ S' =>
    unfold gcS at h
    dsimp only at h
    split at h
    · rename_i hc
      exact fun σ' H' As' e s' v => h σ' H' As (cl_ext e) (cl_st s e s' hc.1) (v.cut e.pre (by rw [s.len]; exact hc.2.1) hc.2.2)
    · exact h.elim
  | bk ρ S' =>
    unfold gcS at h
    dsimp only at h
    split at h
    · rename_i hc
      exact fun σ' H' As' e s' v => h σ' H' As (cl_ext e) (cl_st s e s' hc.1) (v.cut e.pre (by rw [s.len]; exact hc.2.1) hc.2.2)
    · exact h.elim
  | rt d S' => exact h
  | err c es ρ S' => exact h
  | bad => exact h
theorem fs_gc {X : Cx} {hx : HX} {W : WX} {e : Stmt} {m : MS} (h : FS X g hx W e m) : FS X g hx W e (mGcS m) := by
  obtain ⟨hk, t, p, s⟩ := h.ex
  exact ⟨hk, t, p, fun σ H As ρ S he hs Q hp => s σ H As ρ S he hs Q (PostS.gc hs hp)⟩
theorem fss_gc {X : Cx} {hx : HX} {W : WX} {e : List Stmt} {m : MS} (h : FSs X g hx W e m) : FSs X g hx W e (mGcS m) := by
  obtain ⟨hk, t, p, s⟩ := h.ex
  exact ⟨hk, t, p, fun σ H As ρ S he hs Q hp => s σ H As ρ S he hs Q (PostS.gc hs hp)⟩
end
/-! ### a def called -/
section
variable {X : Cx} {g : G} {hx : HX} {W : WX} {a b c e tg : Expr} {ma mb mc m mo : ME} {pos : Pos} {es : List Expr} {mas : MA} {H : Hp} {As : List Addr} {S : Store}
theorem fe_call {f : Addr} {fd : FuncData} {ps : List Str} {k n : Nat} {mf : MF} {x : Str} {p : Pos} (F : FnOk X.prog X.w g.K X.mg X.base (L2N.CX X.prog X.w) k f fd ps (spM g n mf)) (hr : Room k X.A) (hm : X.mg x = some (.ref f)) (hk : PySem.W.keepIn g.K (.ref f) = true) (hb : Binds g.K fd ps []) (tk : L2N.Takes X W)
    (ha : FA X g hx W (e :: es) mas) (hn : ∀ ρ S ds S', mas ρ S = .ok ds S' → ds.length = n) (hg : Gl X x := by rfl) (hdb : (x == ("__debug__" : Str)) = false := by decide) (he : starEach (e :: es) X.env = (false, eval e X.env) :: starEach es X.env := by rfl) (hpl : (backTo pos (starEach es X.env)).any (·.1) = false := by rfl) :
    FE X g hx W (.Call (.Name x p) (e :: es) [] pos) (mCB mf mas) := by
  obtain ⟨hK, t, pa, s⟩ := ha.ex
  refine ⟨hK, _, pe_callS (by rw [hK]; exact F) hr hg hm (by rw [hK]; exact hk) (by rw [hK]; exact hb) (fun σ => L2N.passAt tk σ) pa hdb he hpl, fun σ H As ρ S he hs Q hp => ?_⟩
  unfold mCB at hp
  cases r : mas ρ S with
  | err c es' S' => rw [r] at hp; exact s σ H As ρ S he hs _ (by rw [r]; exact hp)
  | bad => rw [r] at hp; exact hp.elim
  | ok ds S1 =>
    rw [r] at hp
    refine s σ H As ρ S he hs _ ?_
    rw [r]
    intro vs H1 As1 e1 s1 i1
    refine ⟨As1, ds, S1, i1, s1, hn ρ S ds S1 r, ?_⟩
    have hp2 := Post.up hp e1
    rw [bind_ok] at hp2
    cases q : mf ds S1 with
    | ok d S' => rw [q] at hp2; exact hp2
    | err c es' S' => rw [q] at hp2; exact hp2
    | bad => rw [q] at hp2; exact hp2
theorem na_nil : ∀ ρ S ds S', mNil ρ S = .ok ds S' → ds.length = 0 := fun ρ S ds S' h => by cases h; rfl
theorem na_cons {n : Nat} (h : ∀ ρ S ds S', mas ρ S = .ok ds S' → ds.length = n) : ∀ ρ S ds S', mCons ma mas ρ S = .ok ds S' → ds.length = n + 1 := fun ρ S ds S' q => by
  unfold mCons at q
  cases z : ma ρ S with
  | err _ _ _ => rw [z] at q; cases q
  | bad => rw [z] at q; cases q
  | ok d S1 =>
    rw [z] at q
    dsimp only [bind_ok] at q
    cases z2 : mas ρ S1 with
    | err _ _ _ => rw [z2] at q; cases q
    | bad => rw [z2] at q; cases q
    | ok ds2 S2 =>
      rw [z2] at q
      cases q
      rw [List.length_cons, h _ _ _ _ z2]
/-! ### methods of what is built in -/
def recvD (T : String) (S : Store) : D → Bool
  | .str _ => T == "str"
  | .fz _ => T == "list"
  | .ref n => match S[n]? with
    | some (.lst _) => T == "list"
    | some (.dct _) => T == "dict"
    | _ => false
  | _ => false
theorem recv_of {T : String} {o : D} {x : V} (hs : StOk g H As S) (i : Is g.K H As o x) (h : recvD T S o = true) : tyV g.K T x H := by
  cases i with
  | str s =>
    have h' : T = "str" := by simpa [recvD] using h
    exact h'
  | fz h1 r => exact .inl ⟨by simpa [recvD] using h, _, h1.sq⟩
  | ref ha =>
    unfold recvD at h
    dsimp only at h
    split at h
    · rename_i q
      obtain ⟨a, xs, ha', h1, r⟩ := hs.lst q
      rw [ha] at ha'; cases ha'
      exact .inl ⟨by simpa using h, _, SqL.of h1⟩
    · rename_i q
      obtain ⟨a, ha', kxs, h1, r, _⟩ := hs.at q
      rw [ha] at ha'; cases ha'
      exact .inr (.inr (.inl ⟨by simpa using h, .inl ⟨_, h1⟩⟩))
    · cases h
  | _ => simp [recvD] at h
abbrev MM := D → List D → Store → R D
def MSn (g : G) (r : V → List V → Hp → VK → Prop) (f : MM) : Prop := ∀ (H : Hp) (As : List Addr) (S : Store) (x : V) (xs : List V) (o : D) (ds : List D), StOk g H As S → Is g.K H As o x → IsL g.K H As ds xs → ∀ Q : VK,
  (∀ z S', f o ds S = .ok z S' → ∀ v H' As', Ext H As H' As' → StOk g H' As' S' → Is g.K H' As' z v → Q v H') → (∃ z S', f o ds S = .ok z S') → r x xs H Q
def NoErrM (f : MM) : Prop := ∀ o d S c ds S', f o d S ≠ .err c ds S'
def mMeth (T : String) (f : MM) (mo : ME) (ma : MA) : ME := fun ρ S => (mo ρ S).bind fun o S1 => if recvD T S1 o = true then (ma ρ S1).bind fun ds S2 => f o ds S2 else .bad
structure MethR (X : Cx) (g : G) (T : String) (name : Str) (f : MM) : Prop where
  ex : ∃ id r, PlainAttrs T ∧ Slot T name id ∧ typeOf (.builtin id) = pure (.type "method_descriptor") ∧ MtR X id r ∧ MSn g r f ∧ NoErrM f
theorem meth_core {T : String} {r : V → List V → Hp → VK → Prop} {f : MM} {to : TE} {t : TA} (hk : X.K = g.K) (so : Sn g hx W to mo) (sa : SnA g hx W t mas) (h3 : MSn g r f) (h4 : NoErrM f) :
    Sn g hx W (fun σ H Q => to σ H fun x H1 => tyV X.K T x H1 ∧ t σ H1 fun xs H2 => r x xs H2 Q) (mMeth T f mo mas) := fun σ H As ρ S he hs Q hp => by
  refine so σ H As ρ S he hs _ (Post.bind (P := fun r => Post g W σ H As r Q) hp (fun o S1 hp1 v H1 As1 e1 s1 i1 => ?_) (fun _ _ _ q => q) id)
  split at hp1
  · rename_i hr
    refine ⟨by rw [hk]; exact recv_of s1 i1 hr, ?_⟩
    refine sa σ H1 As1 ρ S1 (he.up e1) s1 _ (PostA.bind (P := fun r => Post g W σ H1 As1 r Q) (Post.up hp1 e1) (fun ds S2 hp2 vs H2 As2 e2 s2 i2 => ?_) (fun _ _ _ q => q) id)
    have hp3 := Post.up hp2 e2
    cases q : f o ds S2 with
    | err c ds' S3 => exact absurd q (h4 o ds S2 c ds' S3)
    | bad => rw [q] at hp3; exact False.elim hp3
    | ok z S3 =>
      rw [q] at hp3
      exact h3 H2 As2 S2 v vs o ds s2 (i1.up e2) i2 Q (fun z' S' q' => by rw [q] at q'; cases q'; exact hp3) ⟨z, S3, q⟩
  · exact False.elim hp1
theorem fe_meth {T : String} {name : Str} {f : MM} {o : Expr} {apos : Pos} (mr : MethR X g T name f) (ho : FE X g hx W o mo) (ha : FA X g hx W (e :: es) mas)
    (hbase : attributeBase o name X.env (eval o X.env) = eval o X.env := by rfl)
    (hfew : ((backTo pos (starEach (e :: es) X.env)).all (fun x => !x.1) && (backToKw pos (keywordEach [] X.env)).all (fun x => x.1.isSome)
      && decide ((e :: es).length + ([] : List Keyword).length + (if ([] : List Keyword).isEmpty then 0 else 1) < 30)) = true := by rfl)
    (hline : (apos.endLine == pos.line) = true := by rfl) (hs : starEach (e :: es) X.env = (false, eval e X.env) :: starEach es X.env := by rfl) (hplain : (backTo pos (starEach es X.env)).any (·.1) = false := by rfl) :
    FE X g hx W (.Call (.Attribute o name apos) (e :: es) [] pos) (mMeth T f mo mas) := by
  obtain ⟨id, r, h1, h2, h3, h4, h5, h6⟩ := mr.ex
  obtain ⟨hk, to, po, so⟩ := ho.ex
  obtain ⟨_, t, pa, sa⟩ := ha.ex
  exact ⟨hk, _, pe_bm h1 h2 h3 h4 po pa hbase hfew hline hs hplain, meth_core hk so sa h5 h6⟩
theorem fe_meth0 {T : String} {name : Str} {f : MM} {o : Expr} {apos : Pos} (mr : MethR X g T name f) (ho : FE X g hx W o mo)
    (hbase : attributeBase o name X.env (eval o X.env) = eval o X.env := by rfl) (hline : (apos.endLine == pos.line) = true := by rfl) :
    FE X g hx W (.Call (.Attribute o name apos) [] [] pos) (mMeth T f mo mNil) := by
  obtain ⟨id, r, h1, h2, h3, h4, h5, h6⟩ := mr.ex
  obtain ⟨hk, to, po, so⟩ := ho.ex
  exact ⟨hk, _, pe_bm0 h1 h2 h3 h4 po hbase hline, meth_core (t := tNil) hk so (fun σ H As ρ S he hs Q hp => hp [] H As (Ext.refl _ _) hs .nil) h5 h6⟩
def fAppend : MM := fun o ds S => match o, ds with
  | .ref n, [d] => match getL S n with
    | some l => if l.length < 16777216 then .ok .non (S.set n (.lst (l ++ [d]))) else .bad
    | none => .bad
  | _, _ => .bad
theorem ne_append : NoErrM fAppend := by
  intro o d S c ds S' h
  unfold fAppend at h
  split at h
  · split at h
    · split at h <;> cases h
    · cases h
  · cases h
theorem ms_append : MSn g rAppend fAppend := by
  intro H As S x xs o ds hs io il Q k ⟨z, S', he⟩
  have hz := he
  unfold fAppend at he
  split at he
  · cases il with
    | cons i1 i2 =>
      cases i2
      split at he
      · rename_i l q
        split at he
        · rename_i hl
          cases he
          obtain ⟨a, rfl, ha⟩ := IsRef io
          obtain ⟨a', us, ha', h1, r⟩ := hs.lst (getL_some q)
          rw [ha] at ha'; cases ha'
          refine ⟨a, us, _, rfl, rfl, h1, szlt (by rw [← r.len]; exact hl), ?_⟩
          exact k _ _ hz .non _ As (Ext.write hs ha) (hs.write ha ⟨_, upd_same, (r.app (.cons i1 .nil)).up (Ext.write hs ha)⟩) .non
        · cases he
      · cases he
  · cases he
theorem mr_append : MethR X g "list" "append" fAppend := ⟨_, _, PySem.F.plainAttrs_list, PySem.F.slot_list_append, PySem.F.type_list_append, mt_append, ms_append, ne_append⟩
end
end FL
end

section
set_option autoImplicit false
namespace FL
open PySem L2
/-! ### raise -/
/-- what the top has made of an exception class with the fields fnm -/
structure ExcR (X : Cx) (g : G) (c : Nat) (x : Str) : Prop where
  ox : OexC g.K (g.ec c)
  mg : X.mg x = some (.ref (g.ec c))
/-- what __init__(self, f1, ..) leaves: the fields, the last one first -/
def spInit (C : Addr) (names : List Str) : Sp := fun vs H Q _ => ∃ (a : Addr) (ws : List V), vs = .ref a :: ws ∧ ws.length = names.length ∧ H a = some (exo a C none) ∧
  ∀ d, H d = none → d ≠ a → Q .non (upd (upd H d (exd d ((names.zip ws).reverse))) a (exo a C (some d)))
def mRaise (c : Nat) (ma : MA) : MS := fun ρ S => (ma ρ S).stm ρ fun ds S1 => .err c ds.reverse ρ S1
section
variable {X : Cx} {g : G} {hx : HX} {W : WX} {a b c e tg : Expr} {ma mb mc m mo : ME} {pos pos2 p : Pos} {es : List Expr} {mas : MA} {H : Hp} {As : List Addr} {S : Store}
theorem takesN0 {X : Cx} : L2N.Takes X (fun _ _ _ _ => False) := fun _ _ ⟨_, _, _, _, _, _, _, _, _, _, _, _, _, _, _, _, z⟩ => z.elim
/-- an error with its own __init__ is made: its context is None -/
theorem pmkN {CX : CXT} {x : Str} {C fI : Addr} {k : Nat} {fd : FuncData} {ps : List Str} {sp : Sp} {ta : TA} (T : OexC X.K C) (iC : PySem.W.findIn X.K (.ref C) "__init__" = some (some (.ref fI))) (tI : PySem.W.typeIn X.K (.ref fI) = some (.type "function"))
    (F1 : FnOk X.prog X.w X.K X.mg X.base CX k fI fd ps sp) (hr : Room (k + 1) X.A) (hb : Binds X.K fd ps []) (hx : Passes CX X (fun _ _ _ => False)) (hg : Gl X x) (hm : X.mg x = some (.ref C)) (ha : PA X (e :: es) ta)
    (hdb : (x == ("__debug__" : Str)) = false := by decide) (he : starEach (e :: es) X.env = (false, eval e X.env) :: starEach es X.env := by rfl) (hpl : (backTo pos (starEach es X.env)).any (·.1) = false := by rfl) :
    L2N.PMk X (.Call (.Name x p) (e :: es) [] pos) (tMkO C sp [] ta) := by
  intro pins s σ H Q I h
  obtain ⟨t1, t2, t3, t4, bm, t5, t6, t7, t8, t9, w0, w1, w2, w3, w5, hC, hbm⟩ := T.cls
  refine wpAny_Call_Name_kw (ld_glob I hg hm ?_ hdb)
  refine PySem.W.callWith_K (h₀ := X.base) I.ok.mod.kin T.kC (thn (ha.run pos pins s σ H _ I h) fun us s1 ⟨vs, H1, I1, r1, hz, q1⟩ => ⟨I1.kIn, ?_⟩) he hpl
  show wpAny _ _ (call (.ref C) us) _ _ _
  obtain ⟨h1, g1, d1, k1, o1⟩ := s1
  have up1 : h1.objs.size ≤ h1.objs.size + 1 := Nat.le_succ _
  have spn := q1 (h1.objs.size + 1) (I1.hok.fresh up1)
  rw [List.append_nil] at spn
  have kp : ∀ b o, h1.get? b = some o → ((h1.push (PySem.W.kdv_tup us)).push (PySem.HandSPX.excO C h1.objs.size)).get? b = some o := fun b o e => Heap.get?_push_of_some _ (Heap.get?_push_of_some _ e)
  have gt : ((h1.push (PySem.W.kdv_tup us)).push (PySem.HandSPX.excO C h1.objs.size)).get? (h1.objs.size + 1) = some (PySem.HandSPX.excO C h1.objs.size) := by heap_get
  have I2 : Inv X pins σ (upd H1 (h1.objs.size + 1) (exo (h1.objs.size + 1) C none)) ⟨(h1.push (PySem.W.kdv_tup us)).push (PySem.HandSPX.excO C h1.objs.size), g1, d1, k1, o1⟩ :=
    I1.laid (t' := k1) (a := h1.objs.size + 1) (o := exo (h1.objs.size + 1) C none) (h' := (h1.push (PySem.W.kdv_tup us)).push (PySem.HandSPX.excO C h1.objs.size)) kp up1 (exo_ok gt)
  have rr : Vals (V.ref (h1.objs.size + 1) :: vs) (Value.ref (h1.objs.size + 1) :: us) := .cons rfl r1
  have ln : (Value.ref (h1.objs.size + 1) :: us ++ []).length = ps.length := by
    have z := rr.length
    rw [F1.len _ _ _ _ spn] at z
    rw [List.append_nil]; exact z.symm
  have small : us.length ≤ sizeLine := by rw [← Paired.length r1, sizeLine_eq]; omega
  have bb := hb _ (Value.ref (h1.objs.size + 1) :: us) I2.kIn ln
  rw [List.append_nil] at bb
  refine wpAny_call (PySem.HandSPX.call_own PySem.F.excBase_ValueError (fun Y => PySem.HandSPX.refsVE_contains Y bm hbm) (I1.kIn _ _ hC) (PySem.W.looks_findIn I1.kIn iC) (fun self => PySem.W.bind_fn I1.kIn self tI) small
    (codeAny_mono (F1.run _ X.stack _ _ ⟨Value.ref (h1.objs.size + 1) :: us, []⟩ (Value.ref (h1.objs.size + 1) :: us) _ _ (fun _ _ _ => False) (hr.make C us []) (I2.env0.make C us []) bb rr spn) fun r s' hq => ?_))
  cases r with
  | error er => exact hx pins σ _ _ er s' I2 hq
  | ok fl =>
    cases fl with
    | next => exact hq.elim
    | brk => exact hq.elim
    | cont => exact hq.elim
    | ret u =>
      obtain ⟨v, H2, osE, bareE, unE, hokE, rv, ev, d, fs, ea, ed, nd, qE⟩ := hq
      subst ev
      obtain ⟨h2, g2, d2, k2, o2⟩ := s'
      obtain ⟨t0, G, J, kG, ge, hoe, na⟩ := mk_end0 (d2 := d2) (t2 := k2) I1 up1 kp unE hokE osE bareE ea ed nd
      exact ⟨rv, ⟨_, _, _, ⟨G, g2, d2, k2, o2⟩, _, .ref C, some d, rfl, J, kG, ge, hoe, ⟨rfl, rfl, fun vs e => by cases e; rfl⟩, rfl, rfl, na, rfl, bareE, raises_own T.exC T.tyC, qE⟩⟩
theorem zip_snd : ∀ {ns : List Str} {ws : List V}, ws.length = ns.length → (ns.zip ws).map (·.2) = ws
  | [], [], _ => rfl
  | [], _ :: _, h => by cases h
  | _ :: _, [], h => by cases h
  | n :: ns, w :: ws, h => by
    have ih := zip_snd (ns := ns) (ws := ws) (by simpa using h)
    simp only [List.zip_cons_cons, List.map_cons, ih]
theorem zip_fst : ∀ {ns : List Str} {ws : List V}, ws.length = ns.length → (ns.zip ws).map (·.1) = ns
  | [], [], _ => rfl
  | [], _ :: _, h => by cases h
  | _ :: _, [], h => by cases h
  | n :: ns, w :: ws, h => by
    have ih := zip_fst (ns := ns) (ws := ws) (by simpa using h)
    simp only [List.zip_cons_cons, List.map_cons, ih]
theorem fs_raise {n : Nat} {x : Str} {fI : Addr} {k : Nat} {fd : FuncData} {ps : List Str} {names : List Str} (hc : X.calm = true) (tk : L2N.Takes X W) (T : OexC g.K (g.ec n)) (iC : PySem.W.findIn g.K (.ref (g.ec n)) "__init__" = some (some (.ref fI))) (tI : PySem.W.typeIn g.K (.ref fI) = some (.type "function"))
    (F1 : FnOk X.prog X.w g.K X.mg X.base CX0 k fI fd ps (spInit (g.ec n) names)) (hr : Room (k + 1) X.A) (hb : Binds g.K fd ps []) (hm : X.mg x = some (.ref (g.ec n))) (hf : g.fnm n = names.reverse) (hn0 : names ≠ [])
    (ha : FA X g hx W (e :: es) mas) (hn : ∀ ρ S ds S', mas ρ S = .ok ds S' → ds.length = names.length) (hl : names.length ≤ 1000) (hg : Gl X x := by rfl)
    (hdb : (x == ("__debug__" : Str)) = false := by decide) (he : starEach (e :: es) X.env = (false, eval e X.env) :: starEach es X.env := by rfl) (hpl : (backTo pos (starEach es X.env)).any (·.1) = false := by rfl) :
    FS X g hx W (.Raise (some (.Call (.Name x p) (e :: es) [] pos)) none pos2) (mRaise n mas) := by
  obtain ⟨hk, t, pa, s⟩ := ha.ex
  refine ⟨hk, _, L2N.ps_raise hc tk (pmkN (C := g.ec n) (by rw [hk]; exact T) (by rw [hk]; exact iC) (by rw [hk]; exact tI) (by rw [hk]; exact F1) hr (by rw [hk]; exact hb) pass0 hg hm pa hdb he hpl), fun σ H As ρ S hE hs E hp => ?_⟩
  unfold mRaise at hp
  cases r : mas ρ S with
  | err c es' S' => rw [r] at hp; exact s σ H As ρ S hE hs _ (by rw [r]; exact PostS.err hE hp)
  | bad => rw [r] at hp; exact hp.elim
  | ok ds S1 =>
    rw [r] at hp
    refine s σ H As ρ S hE hs _ ?_
    rw [r]
    intro vs H1 As1 e1 s1 i1
    have len := hn ρ S ds S1 r
    have lv : vs.length = names.length := by rw [← i1.len, len]
    refine ⟨by rw [lv]; exact hl, fun a na => ?_⟩
    rw [List.append_nil]
    refine ⟨a, vs, rfl, lv, upd_same, fun d nd nda => ⟨rfl, d, (names.zip vs).reverse, upd_same, ?_, ?_, ?_⟩⟩
    · rw [upd_ne nda, upd_same]
    · rw [upd_ne nda] at nd; exact nd
    · have nd1 : H1 d = none := by rw [upd_ne nda] at nd; exact nd
      -- the heap behind it is H1 with the error's dict
      have hH : upd (del (upd (upd (upd H1 a (exo a (g.ec n) none)) d (exd d (names.zip vs).reverse)) a (exo a (g.ec n) (some d))) a) d (.xd (names.zip vs).reverse) = upd H1 d (.xd (names.zip vs).reverse) := by
        funext b
        by_cases hb : b = d
        · subst hb; rw [upd_same, upd_same]
        · rw [upd_ne hb, upd_ne hb]
          by_cases hb2 : b = a
          · subst hb2; rw [del_same, na]
          · rw [del_ne hb2, upd_ne hb2, upd_ne hb, upd_ne hb2]
      rw [hH]
      have ex := Ext.side (u := .xd (names.zip vs).reverse) s1 nd1
      refine hp σ (some d) _ As1 (e1.trans ex) (s1.side nd1) ((hE.up e1).up ex) (.inr ⟨d, _, rfl, upd_same, s1.notMem nd1, ?_, ?_⟩)
      · rw [List.map_reverse, zip_fst lv, hf]
      · rw [List.map_reverse, zip_snd lv]
        exact (i1.rev).up ex
end
end FL
end

section
set_option autoImplicit false
namespace FL
open PySem L2
/-! ### try: .. except C as e: .. -/
/-- the reading by the function itself -/
def tM (g : G) (hx : HX) (W : WX) (m : MS) : TS := fun E σ H => ∃ (As : List Addr) (ρ : Rho) (S : Store), EnvOk g hx H As ρ σ ∧ StOk g H As S ∧ PostS g hx W H As (m ρ S) E
def W0 : WX := fun _ _ _ _ => False
def clr (ρ : Rho) : Rho := ρ.map fun s => match s with
  | .exc _ _ => .un
  | s => s
/-- behind the suite: the name is gone -/
def unset (i : Nat) : RS → RS
  | .nx ρ S => .nx ((clr ρ).set i .un) S
  | .bk ρ S => .bk ((clr ρ).set i .un) S
  | .ct ρ S => .ct ((clr ρ).set i .un) S
  | .rt d S => .rt d S
  | _ => .bad
def mTry (sub : Nat → Option Bool) (i : Nat) (mb ms : MS) : MS := fun ρ S => match mb ρ S with
  | .err c es ρ' S' => match sub c with
    | some true => unset i (ms (ρ'.set i (.exc c es)) S')
    | some false => .err c es ρ' S'
    | none => .bad
  | r => r
section
variable {X : Cx} {g : G} {hx : HX} {W : WX} {a b c e tg : Expr} {ma mb mc m mo : ME} {pos pos2 p : Pos} {es : List Expr} {mas : MA} {H : Hp} {As : List Addr} {S : Store}
theorem FSs.can {st : List Stmt} {ms : MS} (h : FSs X g hx W st ms) : PSs X st (tM g hx W ms) := by
  obtain ⟨hk, t, pt, s⟩ := h.ex
  exact ⟨fun pins s' σ H E I ⟨As, ρ, S, he, hs, hp⟩ => pt.run pins s' σ H E I (s σ H As ρ S he hs E hp)⟩
theorem EnvOk.none_any {ρ : Rho} {σ : L2.St} (h : EnvOk g none H As ρ σ) (hx : HX) : EnvOk g hx H As ρ σ := ⟨h.len, fun i s q => by
  have z := h.at_ i s q
  cases s with
  | un => trivial
  | dat d => exact z
  | exc c es => obtain ⟨_, _, z, _⟩ := z; cases z⟩
theorem EnvOk.clr {ρ : Rho} {σ : L2.St} (h : EnvOk g hx H As ρ σ) : EnvOk g none H As (clr ρ) σ := ⟨by unfold FL.clr; rw [List.length_map]; exact h.len, fun i s q => by
  unfold FL.clr at q
  rw [List.getElem?_map] at q
  cases z : ρ[i]? with
  | none => rw [z] at q; cases q
  | some s' =>
    rw [z] at q
    have r := h.at_ i s' z
    cases s' with
    | un => cases q; trivial
    | dat d => cases q; exact r
    | exc c es => cases q; trivial⟩
theorem fs_try {body suite : List Stmt} {b₀ : Stmt} {x n : Str} {np pos' : Pos} {cV : Value} {i : Nat} {sub : Nat → Option Bool} {mb ms : MS} (hK : X.K = g.K) (hs : X.stack = X.env :: X.outer) (hf : X.env.frame = some X.env.locals) (hN : X.N.Nodup) (hc : Names X x cV) (tk : L2N.Takes X W)
    (hsub : ∀ c b, sub c = some b → PySem.W.exmOne g.K (.ref (g.ec c)) cV = some b)
    (hb : ∀ (W : WX) (pn : List (Addr × Obj)) (xe : Value → Shared → Prop), L2N.Takes (X.tr pn xe) W → PassesOwn (model X.prog X.w) X.A X.env xe → FSs (X.tr pn xe) g none W body mb)
    (hsu : ∀ (a : Addr) (oe : Obj) (cls : Value) (d : Option Addr) (pn : List (Addr × Obj)), L2N.Zn cls d oe → (∃ vs, oe.data = .fields vs) → FSs (X.suite a ((a, oe) :: pn)) g (some (a, cls, d)) W0 (b₀ :: suite) ms)
    (hi : X.N[i]? = some n := by rfl) (hln : X.env.kindOf n = some .local := by rfl) :
    FS X g none W (.Try body [.ExceptHandler (some (.Name x np)) (some n) (b₀ :: suite) pos'] [] [] pos) (mTry sub i mb ms) := by
  refine ⟨hK, _, L2N.ps_try_as (tb := fun W => tM g none W mb) (ts := fun a cls d => tM g (some (a, cls, d)) W0 ms) hs hf hN hi hln hc tk (fun W pn xe tk' po => (hb W pn xe tk' po).can) (fun a oe cls d pn hz hf => (hsu a oe cls d pn hz hf).can), fun σ H As ρ S he hst E hp => ?_⟩
  refine ⟨As, ρ, S, he, hst, ?_⟩
  unfold mTry at hp
  cases r : mb ρ S with
  | nx ρ' S' => rw [r] at hp; exact hp
  | bk ρ' S' => rw [r] at hp; exact hp
  | ct ρ' S' => rw [r] at hp; exact hp
  | rt d S' => rw [r] at hp; exact hp
  | bad => rw [r] at hp; exact hp
  | err c es ρ' S' =>
    rw [r] at hp
    intro σ' dd H' As' e1 s1 v1 x1
    dsimp only at hp
    cases q : sub c with
    | none => rw [q] at hp; exact hp.elim
    | some b =>
      rw [q] at hp
      refine ⟨b, by rw [hK]; exact hsub c b q, fun hb1 a na => ?_, fun hb0 => ?_⟩
      · subst hb1
        dsimp only at hp
        refine ⟨As', ρ'.set i (.exc c es), S', ?_, s1, ?_⟩
        · exact (v1.none_any _).set i ⟨a, dd, rfl, rfl, x1⟩
        · have hp2 := hp.up e1
          cases r2 : ms (ρ'.set i (.exc c es)) S' with
          | nx ρ2 S2 => rw [r2] at hp2; exact fun σ2 H2 As2 e2 st2 v2 => hp2 _ H2 As2 e2 st2 (v2.clr.setU i none)
          | bk ρ2 S2 => rw [r2] at hp2; exact fun σ2 H2 As2 e2 st2 v2 => hp2 _ H2 As2 e2 st2 (v2.clr.setU i none)
          | ct ρ2 S2 => rw [r2] at hp2; exact fun σ2 H2 As2 e2 st2 v2 => hp2 _ H2 As2 e2 st2 (v2.clr.setU i none)
          | rt d S2 => rw [r2] at hp2; exact hp2
          | err c2 es2 ρ2 S2 => rw [r2] at hp2; exact hp2.elim
          | bad => rw [r2] at hp2; exact hp2.elim
      · subst hb0
        exact hp σ' dd H' As' e1 s1 v1 x1
/-! ### within the suite -/
/-- e.f, e the exception that the suite holds (of the class c) -/
def mExcF (fn : List Str) (c i : Nat) (f : Str) : ME := fun ρ S => match ρ[i]? with
  | some (.exc c' es) => if c' = c then (match (fn.zip es).lookup f with
    | some d => .ok d S
    | none => .bad) else .bad
  | _ => .bad
theorem lookup_zip {f : Str} {d : D} : ∀ {fs : List (Str × V)} {es : List D}, IsL g.K H As es (fs.map (·.2)) → ((fs.map (·.1)).zip es).lookup f = some d → ∃ v, fs.lookup f = some v ∧ Is g.K H As d v
  | [], _, _, h => by simp at h
  | (k, v) :: fs, [], r, _ => by cases r
  | (k, v) :: fs, e :: es, .cons r1 r2, h => by
    simp only [List.map_cons, List.zip_cons_cons, List.lookup_cons] at h ⊢
    cases q : f == k with
    | true => rw [q] at h; cases h; exact ⟨v, rfl, r1⟩
    | false => rw [q] at h; exact lookup_zip r2 h
theorem fe_excF {a : Addr} {oe : Obj} {cls : Value} {d : Option Addr} {pn : List (Addr × Obj)} {n : Nat} {i : Nat} {x f : Str} {p1 : Pos} (hk : X.K = g.K) (T : XfC g.K (g.ec n)) (hno : PySem.W.findIn g.K (.ref (g.ec n)) f = some none) (hz : Zc cls d oe) (hf : ∃ vs, oe.data = .fields vs)
    {fn : List Str} (hfn : g.fnm n = fn) (hN : X.N[i]? = some x := by rfl) (hv : Vis X.env.scope x := by first | exact Or.inl rfl | exact Or.inr (Or.inl rfl) | exact Or.inr (Or.inr rfl)) (hd : (x == ("__debug__" : Str)) = false := by decide) (hcd : (x == ("__classdict__" : Str)) = false := by decide)
    (hb : attributeBase (.Name x p1) f X.env (eval (.Name x p1) X.env) = eval (.Name x p1) X.env := by rfl) :
    FE (X.suite a ((a, oe) :: pn)) g (some (a, cls, d)) W (.Attribute (.Name x p1) f pos) (mExcF fn n i f) := by
  refine ⟨hk, _, pe_xf (C := g.ec n) (by rw [hk]; exact T) (by rw [hk]; exact hno) hz hf (pe_var (X := X.suite a ((a, oe) :: pn)) hN hv hd hcd) hb, fun σ H As ρ S he hs Q hp => ?_⟩
  unfold mExcF at hp
  cases q : ρ[i]? with
  | none => rw [q] at hp; exact hp.elim
  | some s =>
    rw [q] at hp
    cases s with
    | un => exact hp.elim
    | dat d => exact hp.elim
    | exc c' es =>
      dsimp only at hp
      split at hp
      · rename_i hc
        obtain ⟨a', dd, e0, e1, r⟩ := he.at_ i _ q
        cases e0
        refine ⟨.ref a, e1, rfl, by rw [hc], ?_⟩
        rcases r with ⟨r1, r2, r3⟩ | ⟨d0, fs, r1, r2, r3, r4, r5⟩
        · rw [hc] at r2
          rw [hfn] at r2
          subst r2
          exact hp.elim
        · rw [hc, hfn] at r4
          rw [← r4] at hp
          split at hp
          · rename_i z hz
            obtain ⟨v, h1, h2⟩ := lookup_zip r5 hz
            exact ⟨d0, fs, v, r1, r2, h1, hp v H As (Ext.refl _ _) hs h2⟩
          · exact hp.elim
      · exact hp.elim
/-- what isinstance asks of an exception's class -/
structure ExcK (K : PySem.W.Frag) (D : Addr) : Prop where
  cl : (PySem.W.clsIn K D).isSome = true
  hg : PySem.W.findIn K (.ref D) "__getattribute__" = some (some (.builtin "BaseException.__getattribute__"))
  hk : PySem.W.findIn K (.ref D) "__getattr__" = some none
  hs : PySem.W.subIn K (.ref D) (.type "BaseException") = some true
  ha : PySem.W.findIn K (.ref D) "__class__" = some (some (.builtin "object.__class__"))
  hn : PySem.W.specialIn K (.builtin "object.__class__") "__get__" = some (some (.builtin "getset_descriptor.__get__"))
  ht : PySem.W.takesIn K (.builtin "object.__class__") = some true
  hm : PySem.W.mroIn K D (.type "object") = some true
/-- isinstance(e, c), e the exception that the suite holds -/
def rIsX (D a : Addr) (dd : Option Addr) (K : PySem.W.Frag) : List V → Hp → VK → Prop := fun xs H Q => ∃ (c : V) (cv : Value) (b : Bool), xs = [.ref a, c] ∧ (∀ u, RelV c u → u = cv) ∧ PySem.W.kitOne K (.ref D) cv = some b ∧ (dd = none ∨ ∃ d0 fs, dd = some d0 ∧ H d0 = some (.xd fs)) ∧ Q (.bl b) H
theorem call_isX {a D : Addr} {oe : Obj} {pn : List (Addr × Obj)} {dd : Option Addr} (C : ExcK X.K D) (hz : Zc (.ref D) dd oe) (hf : ∃ vs, oe.data = .fields vs) : CallR (X.suite a ((a, oe) :: pn)) (.builtin "isinstance") (rIsX D a dd X.K) := by
  intro pins s σ H xs us Q I r h
  obtain ⟨c, cv, b, rfl, hcv, e, hdd, q⟩ := h
  cases r with
  | cons rx rr =>
    cases rr with
    | cons rt rr =>
      cases rr
      cases rx
      have ec := hcv _ rt
      subst ec
      obtain ⟨hget, _⟩ := I.pin (a, oe) (List.mem_append.mpr (.inl List.mem_cons_self))
      obtain ⟨vs, hv⟩ := hf
      have J : ∃ od, PySem.W.InstAt s.heap a oe D od := by
        obtain ⟨oc, od, oda, osl⟩ := oe
        obtain ⟨h1, h2⟩ := hz
        dsimp only at h1 h2 hv
        subst h1 h2 hv
        rcases hdd with rfl | ⟨d0, fs, rfl, hd⟩
        · exact ⟨none, hget, rfl, rfl, trivial⟩
        · obtain ⟨mA, hns, _⟩ : ∃ mA, s.heap.Ns1 d0 mA ∧ ∀ f, RelO (fs.lookup f) (mA f) := I.hok d0 _ hd
          obtain ⟨od, ho, _⟩ := lookIn_ns hns
          exact ⟨some od, hget, rfl, rfl, ho⟩
      obtain ⟨od, J⟩ := J
      exact PySem.W.kia_one (PySem.W.kitx_exc (od := od) C.cl C.hg C.hk C.hs C.ha C.hn C.ht C.hm) I.kIn J e (fun z => nomatch z) fun tk => ⟨.bl b, H, I.kept (t' := tk) fun _ _ z => z, rfl, q⟩
/-- isinstance(e, C): b, told of the class n -/
def mExcIs (n i : Nat) (b : Bool) : ME := fun ρ S => match ρ[i]? with
  | some (.exc c _) => if c = n then .ok (.bl b) S else .bad
  | _ => .bad
theorem fe_excIs {a : Addr} {oe : Obj} {cls : Value} {d : Option Addr} {pn : List (Addr × Obj)} {n : Nat} {i : Nat} {x y : Str} {p1 p2 p3 : Pos} {cv : Value} {cV : V} {b : Bool} (hk : X.K = g.K) (C : ExcK g.K (g.ec n)) (hz : Zc cls d oe) (hf : ∃ vs, oe.data = .fields vs)
    (hm : X.mg "isinstance" = none) (hy : PE (X.suite a ((a, oe) :: pn)) (.Name y p2) (tC cV)) (hcv : ∀ u, RelV cV u → u = cv) (hb : PySem.W.kitOne g.K (.ref (g.ec n)) cv = some b) (hg : Gl X "isinstance" := by rfl)
    (hN : X.N[i]? = some x := by rfl) (hv : Vis X.env.scope x := by first | exact Or.inl rfl | exact Or.inr (Or.inl rfl) | exact Or.inr (Or.inr rfl)) (hd : (x == ("__debug__" : Str)) = false := by decide) (hcd : (x == ("__classdict__" : Str)) = false := by decide)
    (hs1 : starEach [.Name x p1, .Name y p2] X.env = (false, eval (.Name x p1) X.env) :: starEach [.Name y p2] X.env := by rfl) (hs2 : starEach [.Name y p2] X.env = (false, eval (.Name y p2) X.env) :: starEach [] X.env := by rfl)
    (hpl : (backTo pos (starEach [.Name y p2] X.env)).any (·.1) = false := by rfl) :
    FE (X.suite a ((a, oe) :: pn)) g (some (a, cls, d)) W (.Call (.Name "isinstance" p3) [.Name x p1, .Name y p2] [] pos) (mExcIs n i b) := by
  by_cases hcl : cls = .ref (g.ec n)
  · subst hcl
    refine ⟨hk, _, pe_callB (X := X.suite a ((a, oe) :: pn)) (call_isX (by rw [hk]; exact C) hz hf) hg hm (by decide +kernel) (pa_cons (X := X.suite a ((a, oe) :: pn)) (pe_var (X := X.suite a ((a, oe) :: pn)) hN hv hd hcd) (pa_cons hy pa_nil hs2) hs1) (by decide) (by decide) hs1 hpl, fun σ H As ρ S he hs Q hp => ?_⟩
    unfold mExcIs at hp
    cases q : ρ[i]? with
    | none => rw [q] at hp; exact hp.elim
    | some s =>
      rw [q] at hp
      cases s with
      | un => exact hp.elim
      | dat d => exact hp.elim
      | exc c' es =>
        dsimp only at hp
        split at hp
        · rename_i hc
          subst hc
          obtain ⟨a', dd, e0, e1, r⟩ := he.at_ i _ q
          cases e0
          refine ⟨.ref a, e1, cV, cv, b, rfl, hcv, by rw [hk]; exact hb, ?_, hp _ H As (Ext.refl _ _) hs (.bl _)⟩
          rcases r with ⟨r1, r2, r3⟩ | ⟨d0, fs, r1, r2, r3, r4, r5⟩
          · exact .inl r3
          · exact .inr ⟨d0, fs, r1, r2⟩
        · exact hp.elim
  · refine ⟨hk, fun _ _ _ => False, ⟨fun _ _ _ _ _ _ h => h.elim⟩, fun σ H As ρ S he hs Q hp => ?_⟩
    unfold mExcIs at hp
    cases q : ρ[i]? with
    | none => rw [q] at hp; exact hp.elim
    | some s =>
      rw [q] at hp
      cases s with
      | un => exact hp.elim
      | dat d => exact hp.elim
      | exc c' es =>
        dsimp only at hp
        split at hp
        · rename_i hc
          obtain ⟨a', dd, e0, e1, r⟩ := he.at_ i _ q
          cases e0
          exact hcl (by rw [hc])
        · exact hp.elim
end
end FL
end

section
set_option autoImplicit false
namespace FL
open PySem L2
/-! ### [e for x in xs if t] -/
section
variable (g : G) (hx : HX) (W : WX)
def teM (m : ME) : TE := fun σ H Q => ∃ (As : List Addr) (ρ : Rho) (S : Store), EnvOk g hx H As ρ σ ∧ StOk g H As S ∧ Post g W σ H As (m ρ S) Q
def ttM (m : MT) : TT := fun σ H Q => ∃ (As : List Addr) (ρ : Rho) (S : Store), EnvOk g hx H As ρ σ ∧ StOk g H As S ∧ PostT g W σ H As (m ρ S) Q
def tgM (sl : List Nat) (m : Tgt) : TG := fun v σ H Q => ∃ (As : List Addr) (d : D) (ρ : Rho) (S : Store) (ρ' : Rho), EnvOk g hx H As ρ σ ∧ StOk g H As S ∧ Is g.K H As d v ∧ m d ρ S = some ρ' ∧ ∀ σ', EnvOk g hx H As ρ' σ' → Off sl σ σ' → Q σ' H
end
section
variable {X : Cx} {g : G} {hx : HX} {W : WX}
theorem FE.can {e : Expr} {m : ME} (h : FE X g hx W e m) : PE X e (teM g hx W m) := by
  obtain ⟨hk, t, pt, s⟩ := h.ex
  exact ⟨fun pins s' σ H Q I ⟨As, ρ, S, he, hs, hp⟩ => pt.run pins s' σ H Q I (s σ H As ρ S he hs Q hp)⟩
theorem FT.can {e : Expr} {m : MT} (h : FT X g hx W e m) : PT X e (ttM g hx W m) := by
  obtain ⟨hk, t, pt, s⟩ := h.ex
  exact ⟨fun pins s' σ H Q I ⟨As, ρ, S, he, hs, hp⟩ => pt.run pins s' σ H Q I (s σ H As ρ S he hs Q hp)⟩
theorem FG.can {e : Expr} {sl : List Nat} {m : Tgt} (h : FG X g hx e sl m) : PG X e (tgM g hx sl m) := by
  obtain ⟨hk, t, pt, s⟩ := h.ex
  exact ⟨fun pins s' σ H v u Q I r ⟨As, d, ρ, S, ρ', he, hs, iv, hm, hp⟩ => pt.run pins s' σ H v u Q I r (s v σ H As d ρ S ρ' he hs iv hm Q hp)⟩
end
def wipeR (ρ : Rho) : List Nat → Rho
  | [] => ρ
  | v :: vs => (wipeR ρ vs).set v .un
/-- the test of a comprehension -/
def mYes : MT := fun _ S => .ok true S
open Classical in
noncomputable def lcItems (P : Store → Prop) (tg : Tgt) (tt : MT) (el : ME) (n : Nat) (ρ : Rho) : List D → Store → R D
  | [], S => if P S then .ok (.ref n) S else .bad
  | d :: ds, S => if P S then (match tg d ρ S with
    | none => .bad
    | some ρ1 => match tt ρ1 S with
      | .ok true S2 => match el ρ1 S2 with
        | .ok y S3 => match getL S3 n with
          | some acc => if acc.length < 16777216 then lcItems P tg tt el n ρ ds (S3.set n (.lst (acc ++ [y]))) else .bad
          | none => .bad
        | _ => .bad
      | .ok false S2 => lcItems P tg tt el n ρ ds S2
      | _ => .bad) else .bad
noncomputable def mLc (vs : List Nat) (mi : MI) (tg : Tgt) (tt : MT) (el : ME) : ME := fun ρ S => (mi ρ S).bind fun src S1 => lcItems src.guard tg tt el S1.length (wipeR ρ vs) src.items (S1 ++ [.lst []])
section
variable {X : Cx} {g : G} {hx : HX} {W : WX} {H : Hp} {As : List Addr}
theorem wipe_off {sl : List Nat} : ∀ {vs : List Nat} {σ σ' : L2.St}, Off sl σ σ' → (∀ i ∈ sl, i ∈ vs) → wipe σ' vs = wipe σ vs := by
  intro vs σ σ' h hs
  have key : ∀ (vs : List Nat) (i : Nat) (σ : L2.St), (wipe σ vs)[i]? = if i ∈ vs ∧ i < σ.length then some none else σ[i]? := by
    intro vs
    induction vs with
    | nil => intro i σ; rw [if_neg (by simp)]; rfl
    | cons v vs ih =>
      intro i σ
      unfold wipe
      by_cases hv : v = i
      · subst hv
        by_cases hl : v < σ.length
        · rw [List.getElem?_set_self (by rw [wipe_length]; exact hl), if_pos ⟨List.mem_cons_self, hl⟩]
        · rw [if_neg (by intro z; exact hl z.2), List.getElem?_eq_none (by rw [List.length_set, wipe_length]; omega), List.getElem?_eq_none (by omega)]
      · rw [List.getElem?_set_ne hv, ih]
        have e : (i ∈ v :: vs ∧ i < σ.length) ↔ (i ∈ vs ∧ i < σ.length) := by
          rw [List.mem_cons]
          constructor
          · rintro ⟨z | z, l⟩
            · exact absurd z.symm hv
            · exact ⟨z, l⟩
          · rintro ⟨z, l⟩
            exact ⟨.inr z, l⟩
        by_cases hc : i ∈ vs ∧ i < σ.length
        · rw [if_pos hc, if_pos (e.mpr hc)]
        · rw [if_neg hc, if_neg fun z => hc (e.mp z)]
  refine List.ext_getElem? fun i => ?_
  rw [key, key, h.1]
  by_cases hc : i ∈ vs ∧ i < σ.length
  · rw [if_pos hc, if_pos hc]
  · rw [if_neg hc, if_neg hc]
    by_cases hm : i ∈ vs
    · have hl : ¬ i < σ.length := fun l => hc ⟨hm, l⟩
      rw [List.getElem?_eq_none (by rw [h.1]; omega), List.getElem?_eq_none (by omega)]
    · exact h.2 i fun m => hm (hs i m)
theorem EnvOk.wipe {ρ : Rho} {σ : L2.St} (h : EnvOk g hx H As ρ σ) : ∀ vs : List Nat, EnvOk g hx H As (wipeR ρ vs) (L2.wipe σ vs)
  | [] => h
  | v :: vs => (EnvOk.wipe h vs).setU v none
theorem wipe_idem {vs : List Nat} {σ : L2.St} : wipe (wipe σ vs) vs = wipe σ vs := wipe_off (sl := vs) ⟨wipe_length σ vs, fun i hi => wipe_out hi⟩ fun _ h => h
/-- the heart: from a walked source to the made list -/
theorem lc_sound {src : Src} {tg : Tgt} {tt : MT} {el : ME} {J : It} {vs sl : List Nat} {σ : L2.St} {ρ : Rho} {Q : VK} {H1 : Hp} {As1 : List Addr} {S1 : Store} (he : EnvOk g hx H1 As1 ρ σ) (s1 : StOk g H1 As1 S1) (hsl : ∀ i ∈ sl, i ∈ vs)
    (so : SrcOk g H1 As1 J src) (hp : Post g W σ H1 As1 (lcItems src.guard tg tt el S1.length (wipeR ρ vs) src.items (S1 ++ [.lst []])) Q) :
    ∀ L, H1 L = none → ∃ Wv : Nat → Nat → Hp → Prop, (∃ m, Wv 0 m (upd H1 L (.lst []))) ∧ ∀ i m H, Wv i m H →
      (J.stop i H ∧ Q (.ref L) H) ∨ (J.go i H ∧ ∃ Nx : Hp → Prop, (∀ H', Nx H' → ∃ m', m' < m ∧ Wv (i + 1) m' H') ∧ ∀ x H', J.yld i H x H' → tgM g hx sl tg x (wipe σ vs) H' fun σ2 H2 => wipe σ2 vs = wipe σ vs ∧ ttM g hx W0 tt σ2 H2 fun b H3 =>
        if b = true then teM g hx W0 el σ2 H3 fun y H4 => ∃ acc, H4 L = some (.lst acc) ∧ acc.length < sizeLine ∧ Nx (upd H4 L (.lst (acc ++ [y]))) else Nx H3) := by
  intro L hL
  obtain ⟨Gd, Y, wk, hG, hY⟩ := so
  have ex0 : Ext H1 As1 (upd H1 L (.lst [])) (As1 ++ [L]) := Ext.new hL
  have atL : ∀ {As : List Addr} {H H' : Hp}, Ext H (As1 ++ [L]) H' As → As[S1.length]? = some L := fun {As H H'} ex => by
    refine ex.get ?_
    rw [← s1.len]
    exact List.getElem?_concat_length
  refine lc_it (g := tgM g hx sl tg) (tt := ttM g hx W0 tt) (te := teM g hx W0 el) (vs := vs) (σ := σ) (H1 := H1) (D := L) (Qd := fun H => Q (.ref L) H) wk
    (fun i H => ∃ As S, Ext H1 As1 H As ∧ Ext (upd H1 L (.lst [])) (As1 ++ [L]) H As ∧ EnvOk g hx H As ρ σ ∧ StOk g H As S ∧ Post g W σ H As (lcItems src.guard tg tt el S1.length (wipeR ρ vs) (src.items.drop i) S) Q)
    ⟨As1 ++ [L], S1 ++ [.lst []], ex0, Ext.refl _ _, he.up ex0, s1.new (o := .lst []) hL ⟨[], upd_same, .nil⟩, by rw [List.drop_zero]; exact Post.up hp ex0⟩ ?_ ?_ ?_
  · rintro i H _ ⟨As, S, ex, _, he, hs, hp⟩
    refine hG H As S ex hs ?_
    apply Classical.byContradiction
    intro hn
    cases z : src.items.drop i with
    | nil => rw [z] at hp; unfold lcItems at hp; rw [if_neg hn] at hp; exact hp
    | cons d ds => rw [z] at hp; unfold lcItems at hp; rw [if_neg hn] at hp; exact hp
  · rintro i x H H' hi ⟨As, S, ex, ex2, he, hs, hp⟩ hy
    have hgd : src.guard S := by
      apply Classical.byContradiction
      intro hn
      rw [List.drop_eq_getElem_cons hi] at hp
      unfold lcItems at hp
      rw [if_neg hn] at hp
      exact hp
    obtain ⟨d, hd, e2, s2, i2⟩ := hY i H As S x H' ex hs hgd hy
    have hdd : src.items.drop i = d :: src.items.drop (i + 1) := by
      rw [List.drop_eq_getElem_cons hi]
      obtain ⟨_, z⟩ := List.getElem?_eq_some_iff.mp hd
      rw [z]
    rw [hdd] at hp
    unfold lcItems at hp
    rw [if_pos hgd] at hp
    cases q : tg d (wipeR ρ vs) S with
    | none => rw [q] at hp; exact hp.elim
    | some ρ1 =>
      rw [q] at hp
      dsimp only at hp
      refine ⟨As, d, wipeR ρ vs, S, ρ1, (he.up e2).wipe vs, s2, i2, q, fun σ1 he1 o1 => ⟨by rw [wipe_off o1 hsl, wipe_idem], ?_⟩⟩
      refine ⟨As, ρ1, S, he1, s2, ?_⟩
      have hp2 := Post.up hp e2
      cases r : tt ρ1 S with
      | err c es S' => rw [r] at hp2; exact hp2.elim
      | bad => rw [r] at hp2; exact hp2.elim
      | ok b S2 =>
        rw [r] at hp2
        intro H2 As2 e3 s3
        cases b with
        | false =>
          rw [if_neg Bool.false_ne_true]
          exact ⟨As2, S2, (ex.trans e2).trans e3, (ex2.trans e2).trans e3, (he.up e2).up e3, s3, Post.up hp2 e3⟩
        | true =>
          rw [if_pos rfl]
          refine ⟨As2, ρ1, S2, he1.up e3, s3, ?_⟩
          have hp3 := Post.up hp2 e3
          dsimp only at hp3
          cases r2 : el ρ1 S2 with
          | err c es S' => rw [r2] at hp3; exact hp3.elim
          | bad => rw [r2] at hp3; exact hp3.elim
          | ok y S3 =>
            rw [r2] at hp3
            dsimp only at hp3
            intro v H3 As3 e4 s4 i4
            have hp4 := Post.up hp3 e4
            cases r3 : getL S3 S1.length with
            | none => rw [r3] at hp4; exact hp4.elim
            | some acc =>
              rw [r3] at hp4
              dsimp only at hp4
              split at hp4
              · rename_i hl
                have exL := ((ex2.trans e2).trans e3).trans e4
                have haL := atL exL
                obtain ⟨a', us, ha', h1, rr⟩ := s4.lst (getL_some r3)
                rw [haL] at ha'; cases ha'
                have ew : Ext H3 As3 (upd H3 L (.lst (us ++ [v]))) As3 := Ext.write s4 haL
                exact ⟨us, h1, szlt (by rw [← rr.len]; exact hl), As3, S3.set S1.length (.lst (acc ++ [y])), (((ex.trans e2).trans e3).trans e4).trans ew, exL.trans ew, (((he.up e2).up e3).up e4).up ew, s4.write haL ⟨_, upd_same, (rr.app (.cons i4 .nil)).up ew⟩, Post.up hp4 ew⟩
              · exact hp4.elim
  · rintro H ⟨As, S, ex, ex2, he, hs, hp⟩
    rw [List.drop_length] at hp
    unfold lcItems at hp
    split at hp
    · exact hp (.ref L) H As (Ext.refl _ _) hs (.ref (atL ex2))
    · exact hp.elim
structure FTs (X : Cx) (g : G) (hx : HX) (W : WX) (ifs : List Expr) (m : MT) : Prop where
  ex : PTs X ifs (ttM g hx W m)
theorem fts_nil : FTs X g hx W [] mYes := ⟨⟨fun pins s σ H Q I ⟨As, ρ, S, he, hs, hp⟩ => pts_nil.run pins s σ H Q I (hp H As (Ext.refl _ _) hs)⟩⟩
theorem fts_one {c : Expr} {m : MT} (h : FT X g hx W c m) : FTs X g hx W [c] m := ⟨pts_one h.can⟩
theorem fe_lc {elt tg iter : Expr} {ifs : List Expr} {scope : Scope} {own : List (Str × Nat)} {pos : Pos} {mi : MI} {tgt : Tgt} {sl : List Nat} {tt : MT} {el : ME} (hc : X.calm = true) (hN : X.N.Nodup) (hi : FI X g hx W tg iter mi) (ok : BlkOk X.N X.env.scope scope own)
    (hg : ∀ (s : Shared) (H : Hp) (C : Addr) (cl : List (Str × Addr)) (fp : List Addr), FG (X.blk s H scope (compEnvC scope cl C X.env) fp) g hx tg sl tgt) (hsl : ∀ i ∈ sl, i ∈ own.map (·.2))
    (ht : ∀ (s : Shared) (H : Hp) (C : Addr) (cl : List (Str × Addr)) (fp : List Addr), FTs (X.blk s H scope (compEnvC scope cl C X.env) fp) g hx W0 ifs tt)
    (he : ∀ (s : Shared) (H : Hp) (C : Addr) (cl : List (Str × Addr)) (fp : List Addr), FE (X.blk s H scope (compEnvC scope cl C X.env) fp) g hx W0 elt el) (hs : ∀ x, foldedSetIterable iter X.env x = pure x := by intro _; rfl) :
    FE X g hx W (.ListComp elt [⟨tg, iter, ifs, 0⟩] scope pos) (mLc (own.map (·.2)) mi tgt tt el) := by
  obtain ⟨hk, ti, pi, si⟩ := hi.ex
  refine ⟨hk, _, pe_lc hc hN pi ok (fun s H C cl fp => (hg s H C cl fp).can) (fun s H C cl fp => (ht s H C cl fp).ex) (fun s H C cl fp => (he s H C cl fp).can) hs, fun σ H As ρ S hE hS Q hp => ?_⟩
  refine si σ H As ρ S hE hS _ ?_
  unfold mLc at hp
  cases r : mi ρ S with
  | err c es S' => rw [r] at hp; exact hp
  | bad => rw [r] at hp; exact hp
  | ok src S1 =>
    rw [r] at hp
    exact fun J H1 As1 e1 s1 so => lc_sound (hE.up e1) s1 hsl so (Post.up hp e1)
theorem fs_setLc {i : Nat} {y : Str} {py : Pos} {elt tg iter : Expr} {ifs : List Expr} {scope : Scope} {own : List (Str × Nat)} {pos spos : Pos} {mi : MI} {tgt : Tgt} {sl : List Nat} {tt : MT} {el : ME} (hc : X.calm = true) (hN : X.N.Nodup)
    (hsw : swapsWith (.ListComp elt [⟨tg, iter, ifs, 0⟩] scope pos) (some (.Name y py)) spos.line X.env = pure true) (hi : FI X g hx W tg iter mi) (ok : BlkOk X.N X.env.scope scope own)
    (hg : ∀ (s : Shared) (H : Hp) (C : Addr) (cl : List (Str × Addr)) (fp : List Addr), FG (X.blk s H scope (compEnvC scope cl C X.env) fp) g hx tg sl tgt) (hsl : ∀ i ∈ sl, i ∈ own.map (·.2))
    (ht : ∀ (s : Shared) (H : Hp) (C : Addr) (cl : List (Str × Addr)) (fp : List Addr), FTs (X.blk s H scope (compEnvC scope cl C X.env) fp) g hx W0 ifs tt)
    (he : ∀ (s : Shared) (H : Hp) (C : Addr) (cl : List (Str × Addr)) (fp : List Addr), FE (X.blk s H scope (compEnvC scope cl C X.env) fp) g hx W0 elt el) (hy : X.N[i]? = some y := by rfl) (hyl : X.env.scope.names.lookup y = some .local := by rfl) (hs : ∀ x, foldedSetIterable iter X.env x = pure x := by intro _; rfl) :
    FS X g hx W (.Assign [.Name y py] (.ListComp elt [⟨tg, iter, ifs, 0⟩] scope pos) spos) (mSet i (mLc (own.map (·.2)) mi tgt tt el)) := by
  obtain ⟨hk, ti, pi, si⟩ := hi.ex
  refine ⟨hk, _, ps_setLc hc hN hy hyl hsw pi ok (fun s H C cl fp => (hg s H C cl fp).can) (fun s H C cl fp => (ht s H C cl fp).ex) (fun s H C cl fp => (he s H C cl fp).can) hs, fun σ H As ρ S hE hS E hp => ?_⟩
  have key : Post g W σ H As (mLc (own.map (·.2)) mi tgt tt el ρ S) fun x H1 => gName i x σ H1 E.nx :=
    Post.stm (P := fun r => PostS g hx W H As r E) hp (fun d S1 hp1 v H1 As1 e1 s1 i1 => hp1 _ H1 As1 e1 s1 ((hE.up e1).setD i i1)) (fun c ds S' q => PostS.err hE q) id
  refine si σ H As ρ S hE hS _ ?_
  unfold mLc at key
  cases r : mi ρ S with
  | err c es S' => rw [r] at key; exact key
  | bad => rw [r] at key; exact key
  | ok src S1 =>
    rw [r] at key
    exact fun J H1 As1 e1 s1 so => lc_sound (hE.up e1) s1 hsl so (Post.up key e1)
/-! ### one of several rules -/
theorem fi_pick {tg e : Expr} {m m1 m2 m3 : MI} (h1 : FI X g hx W tg e m1) (h2 : FI X g hx W tg e m2) (h3 : FI X g hx W tg e m3) (hm : ∀ ρ S, m ρ S = m1 ρ S ∨ m ρ S = m2 ρ S ∨ m ρ S = m3 ρ S) : FI X g hx W tg e m := by
  obtain ⟨hk, t1, p1, s1⟩ := h1.ex
  obtain ⟨_, t2, p2, s2⟩ := h2.ex
  obtain ⟨_, t3, p3, s3⟩ := h3.ex
  refine ⟨hk, fun σ H R => t1 σ H R ∨ t2 σ H R ∨ t3 σ H R, ⟨fun pins s σ H R I h => ?_⟩, fun σ H As ρ S he hs Q hp => ?_⟩
  · rcases h with h | h | h
    · exact p1.run pins s σ H R I h
    · exact p2.run pins s σ H R I h
    · exact p3.run pins s σ H R I h
  · rcases hm ρ S with z | z | z
    · exact .inl (s1 σ H As ρ S he hs Q (by rw [← z]; exact hp))
    · exact .inr (.inl (s2 σ H As ρ S he hs Q (by rw [← z]; exact hp)))
    · exact .inr (.inr (s3 σ H As ρ S he hs Q (by rw [← z]; exact hp)))
/-- for x in a tuple, a list, a text -/
def mIter (m : ME) : MI := fun ρ S => (m ρ S).bind fun d S1 => match d with
  | .tup ds => .ok ⟨ds, fun _ => True⟩ S1
  | .fz ds => .ok ⟨ds, fun _ => True⟩ S1
  | .ref n => match getL S1 n with
    | some ds => .ok ⟨ds, fun S => S[n]? = some (.lst ds)⟩ S1
    | none => .bad
  | .str s => .ok ⟨s.cps.toList.map fun c => .str ⟨#[c]⟩, fun _ => True⟩ S1
  | _ => .bad
theorem fi_any {tg e : Expr} {m : ME} (h : FE X g hx W e m) : FI X g hx W tg e (mIter m) := fi_pick (fi_tup h) (fi_list h) (fi_str h) fun ρ S => by
  unfold mIter mRow mRowL mSigns
  cases r : m ρ S with
  | err c es S' => exact .inl rfl
  | bad => exact .inl rfl
  | ok d S1 =>
    cases d with
    | tup ds => exact .inl rfl
    | fz ds => exact .inr (.inl rfl)
    | ref n => exact .inr (.inl rfl)
    | str s => exact .inr (.inr rfl)
    | _ => exact .inl rfl
end
end FL
end

section
set_option autoImplicit false
/-! extend by a tuple -/
namespace PySem.AutoSeq1
open PySem
set_option maxRecDepth 8000 in
theorem fl_ext_tup (l : Addr) (items : Array Value) (n : Nat) (b : Addr) (items2 : Array Value) (n2 : Nat) (dd : Option Addr) (sl : Array (Option Value)) (hs0 : ¬(!items.isEmpty && Builtin.List.listTooLong (items.size + items2.size)) = true) (hs1 : items.size ≤ sizeLine) (hs2 : items.size + items2.size ≤ sizeLine + 1) :
    Meets (Builtin.«list.extend» ⟨[.ref l, .ref b], []⟩) (fun _ R s => s.heap.get? l = some { cls := .type "list", dict := none, data := .seq items n, slots := #[] } ∧ s.heap.get? b = some { cls := .type "tuple", dict := dd, data := .seq items2 n2, slots := sl } ∧ R (.ok (.ret Value.none)) { s with heap := s.heap.update l (Obj.mapSeq fun x => x ++ items2), toks := s.toks }) :=
  .of_wp fun prog w A R s h => by
    obtain ⟨hp, g, d, tk, os⟩ := s
    obtain ⟨hl, hb, h⟩ := h
    have f1 := idx_int
    have f2 := sub_tuple_tuple
    have f3 := sub_list_list
    have f4 := sub_tuple_list
    have f5 := sub_list_tuple
    have hz' : (items ++ items2).size ≤ sizeLine + 1 := by rw [Array.size_append]; exact hs2
    wp_walk using (wpAny_updateSeq hl rfl (hz := hs1) (_hz' := hz')), wpAny_loadPart' hl, wpAny_loadPart' hb
    exact ⟨_, rfl, h⟩
end PySem.AutoSeq1
namespace FL
open PySem L2
section
variable {X : Cx} {g : G} {hx : HX} {W : WX}
def rExtT (K : PySem.W.Frag) : V → List V → Hp → VK → Prop := fun x vs H Q => ∃ l b xs zs, x = .ref l ∧ vs = [.ref b] ∧ H l = some (.lst xs) ∧ SqT K H b zs ∧ xs.length + zs.length ≤ sizeLine ∧ Q .non (upd H l (.lst (xs ++ zs)))
theorem mt_extT : MtR X "list.extend" (rExtT X.K) := by
  intro pins s σ H x vs v us Q I rx rv h
  obtain ⟨l, b, xs, zs, rfl, rfl, hH, hB, hz, q⟩ := h
  cases rx
  obtain ⟨u, rfl, ru⟩ := vals1 rv
  cases ru
  obtain ⟨hz1, its, n, r, hl, e⟩ := I.lstM hH
  obtain ⟨its2, r2, ⟨o2, e2, hc2, n2, hd2⟩, hz2⟩ := I.tuple hB
  obtain ⟨oc, od, oda, osl⟩ := o2
  dsimp only at hc2 hd2
  subst hc2 hd2
  have hl2 := r2.length
  have hsz : its.toArray.size + its2.toArray.size ≤ sizeLine := by
    rw [List.size_toArray, List.size_toArray, ← hl, ← hl2]
    exact hz
  have hlong : ¬ (!its.toArray.isEmpty && Builtin.List.listTooLong (its.toArray.size + its2.toArray.size)) = true := by
    rw [notLongL hsz, Bool.and_false]
    exact Bool.false_ne_true
  refine PySem.call_meets PySem.F.slot_list_extend ⟨_, e, rfl⟩ PySem.F.entry_list_extend (PySem.F.args_list_extend_2 _ _)
    (PySem.AutoSeq1.fl_ext_tup l its.toArray n b its2.toArray n2 _ _ hlong (by rw [List.size_toArray]; omega) (by omega)) ⟨e, e2, ?_⟩
  refine ⟨.non, _, I.lset (its' := its ++ its2) hH e (by simp) (r.append r2) ?_, rfl, q⟩
  rw [List.length_append]
  exact hz
def rExt2 (K : PySem.W.Frag) : V → List V → Hp → VK → Prop := fun x vs H Q => rExtend x vs H Q ∨ rExtT K x vs H Q
theorem mt_ext2 : MtR X "list.extend" (rExt2 X.K) := MtR.or mt_extend mt_extT
def fExtend : MM := fun o ds S => match o, ds with
  | .ref n, [.ref m] => match getL S n, getL S m with
    | some l, some r => if l.length + r.length ≤ 16777216 then .ok .non (S.set n (.lst (l ++ r))) else .bad
    | _, _ => .bad
  | .ref n, [.tup r] => match getL S n with
    | some l => if l.length + r.length ≤ 16777216 then .ok .non (S.set n (.lst (l ++ r))) else .bad
    | none => .bad
  | _, _ => .bad
theorem ne_extend : NoErrM fExtend := by
  intro o d S c ds S' h
  unfold fExtend at h
  split at h
  · split at h
    · split at h <;> cases h
    · cases h
  · split at h
    · split at h <;> cases h
    · cases h
  · cases h
theorem ms_extend : MSn g (rExt2 g.K) fExtend := by
  intro H As S x xs o ds hs io il Q k ⟨z, S', he⟩
  have hz := he
  unfold fExtend at he
  split at he
  · cases il with
    | cons i1 i2 =>
      cases i2
      split at he
      · rename_i l r q1 q2
        split at he
        · rename_i hl
          cases he
          obtain ⟨a, rfl, ha⟩ := IsRef io
          obtain ⟨b, rfl, hb⟩ := IsRef i1
          obtain ⟨a', us, ha', h1, r1⟩ := hs.lst (getL_some q1)
          obtain ⟨b', ws, hb', h2, r2⟩ := hs.lst (getL_some q2)
          rw [ha] at ha'; cases ha'
          rw [hb] at hb'; cases hb'
          refine .inl ⟨a, b, us, ws, rfl, rfl, h1, h2, szle (by rw [← r1.len, ← r2.len]; exact hl), ?_⟩
          exact k _ _ hz .non _ As (Ext.write hs ha) (hs.write ha ⟨_, upd_same, (r1.app r2).up (Ext.write hs ha)⟩) .non
        · cases he
      · cases he
  · cases il with
    | cons i1 i2 =>
      cases i2
      split at he
      · rename_i l q1
        split at he
        · rename_i hl
          cases he
          obtain ⟨a, rfl, ha⟩ := IsRef io
          obtain ⟨a', us, ha', h1, r1⟩ := hs.lst (getL_some q1)
          rw [ha] at ha'; cases ha'
          cases i1 with
          | tup h2 r2 =>
            refine .inr ⟨a, _, us, _, rfl, rfl, h1, h2.sq, szle (by rw [← r1.len, ← r2.len]; exact hl), ?_⟩
            exact k _ _ hz .non _ As (Ext.write hs ha) (hs.write ha ⟨_, upd_same, (r1.app r2).up (Ext.write hs ha)⟩) .non
        · cases he
      · cases he
  · cases he
theorem mr_extend (hk : X.K = g.K) : MethR X g "list" "extend" fExtend := ⟨_, _, PySem.F.plainAttrs_list, PySem.F.slot_list_extend, PySem.F.type_list_extend, by rw [← hk]; exact mt_ext2, ms_extend, ne_extend⟩
def fPop : MM := fun o ds S => match o, ds with
  | .ref n, [] => match getL S n with
    | some l => match l[l.length - 1]? with
      | some y => .ok y (S.set n (.lst l.dropLast))
      | none => .bad
    | none => .bad
  | _, _ => .bad
theorem ne_pop : NoErrM fPop := by
  intro o d S c ds S' h
  unfold fPop at h
  split at h
  · split at h
    · split at h <;> cases h
    · cases h
  · cases h
theorem IsL.dropLast {K : PySem.W.Frag} {H : Hp} {As : List Addr} {ds : List D} {xs : List V} (h : IsL K H As ds xs) : IsL K H As ds.dropLast xs.dropLast := by
  rw [List.dropLast_eq_take, List.dropLast_eq_take, h.len]
  exact h.take _
theorem ms_pop : MSn g rPop fPop := by
  intro H As S x xs o ds hs io il Q k ⟨z, S', he⟩
  have hz := he
  unfold fPop at he
  split at he
  · cases il
    split at he
    · rename_i l q
      split at he
      · rename_i y hy
        cases he
        obtain ⟨a, rfl, ha⟩ := IsRef io
        obtain ⟨a', us, ha', h1, r⟩ := hs.lst (getL_some q)
        rw [ha] at ha'; cases ha'
        obtain ⟨v, hv, iv⟩ := r.get hy
        refine ⟨a, us, v, rfl, rfl, h1, by rw [← r.len]; exact hv, ?_⟩
        exact k _ _ hz v _ As (Ext.write hs ha) (hs.write ha ⟨_, upd_same, (r.dropLast).up (Ext.write hs ha)⟩) (iv.up (Ext.write hs ha))
      · cases he
    · cases he
  · cases he
theorem mr_pop : MethR X g "list" "pop" fPop := ⟨_, _, PySem.F.plainAttrs_list, PySem.F.slot_list_pop, PySem.F.type_list_pop, mt_pop, ms_pop, ne_pop⟩
def fInsert : MM := fun o ds S => match o, ds with
  | .ref n, [.int i, y] => match getL S n with
    | some l => if l.length < 16777216 ∧ 0 ≤ i ∧ i < 2 ^ 63 then .ok .non (S.set n (.lst (l.take i.toNat ++ [y] ++ l.drop i.toNat))) else .bad
    | none => .bad
  | _, _ => .bad
theorem ne_insert : NoErrM fInsert := by
  intro o d S c ds S' h
  unfold fInsert at h
  split at h
  · split at h
    · split at h <;> cases h
    · cases h
  · cases h
theorem ms_insert : MSn g (fun x vs H Q => ∃ (l : Addr) (xs : List V) (i : Int) (y : V), x = .ref l ∧ vs = [.int i, y] ∧ H l = some (.lst xs) ∧ xs.length < sizeLine ∧ 0 ≤ i ∧ i < 2 ^ 63 ∧ Q .non (upd H l (.lst (xs.take i.toNat ++ [y] ++ xs.drop i.toNat)))) fInsert := by
  intro H As S x xs o ds hs io il Q k ⟨z, S', he⟩
  have hz := he
  unfold fInsert at he
  split at he
  · cases il with
    | cons i1 i2 =>
      cases i2 with
      | cons i2 i3 =>
        cases i3; cases i1
        split at he
        · rename_i l q
          split at he
          · rename_i hl
            cases he
            obtain ⟨a, rfl, ha⟩ := IsRef io
            obtain ⟨a', us, ha', h1, r⟩ := hs.lst (getL_some q)
            rw [ha] at ha'; cases ha'
            refine ⟨a, us, _, _, rfl, rfl, h1, szlt (by rw [← r.len]; exact hl.1), hl.2.1, hl.2.2, ?_⟩
            exact k _ _ hz .non _ As (Ext.write hs ha) (hs.write ha ⟨_, upd_same, (((r.take _).app (.cons i2 .nil)).app (r.drop _)).up (Ext.write hs ha)⟩) .non
          · cases he
        · cases he
  · cases he
theorem mr_insert : MethR X g "list" "insert" fInsert := ⟨_, _, PySem.F.plainAttrs_list, PySem.F.slot_list_insert, PySem.F.type_list_insert, mt_insert, ms_insert, ne_insert⟩
/-- the texts of a row -/
def strsOf : List D → Option (List Str)
  | [] => some []
  | .str s :: r => (strsOf r).map (s :: ·)
  | _ :: _ => none
theorem strsOf_some : ∀ {ds : List D} {ys : List Str}, strsOf ds = some ys → ds = ys.map D.str
  | [], ys, h => by cases h; rfl
  | d :: r, ys, h => by
    cases d with
    | str s =>
      unfold strsOf at h
      cases q : strsOf r with
      | none => rw [q] at h; cases h
      | some zs => rw [q] at h; cases h; rw [strsOf_some q]; rfl
    | _ => cases h
theorem strsOf_map : ∀ ys : List Str, strsOf (ys.map D.str) = some ys
  | [] => rfl
  | y :: ys => by
    show (strsOf (ys.map D.str)).map (y :: ·) = _
    rw [strsOf_map ys]
    rfl
def fJoin : MM := fun o ds S => match o, ds with
  | .str a, [e] => match (rowOf S e).bind strsOf with
    | some ys => if (ys.map (·.length)).sum + ys.length * a.length ≤ 16777216 then .ok (.str (PySem.Txt.join a ys)) S else .bad
    | none => .bad
  | _, _ => .bad
end
end FL
end

section
set_option autoImplicit false
namespace FL
open PySem L2
section
variable {X : Cx} {g : G} {hx : HX} {W : WX}
theorem ne_join : NoErrM fJoin := by
  intro o d S c ds S' h
  unfold fJoin at h
  split at h
  · split at h
    · split at h <;> cases h
    · cases h
  · cases h
theorem mr_join (hk : X.K = g.K) : MethR X g "str" "join" fJoin := ⟨_, _, PySem.F.plainAttrs_str, PySem.F.slot_str_join, PySem.F.type_str_join, mt_join, (by
  intro H As S x xs o ds hs io il Q k ⟨z, S', he⟩
  have hz := he
  unfold fJoin at he
  split at he
  · cases io
    cases il with
    | cons i1 i2 =>
      cases i2
      split at he
      · rename_i ys q
        split at he
        · rename_i hl
          cases he
          obtain ⟨l, q1, q2⟩ := Option.bind_eq_some_iff.mp q
          obtain ⟨p, us, rfl, hq, r⟩ := hs.row q1 i1
          have e1 := strsOf_some q2
          rw [e1] at r
          have e2 := r.strsV
          rw [e2] at hq
          exact ⟨_, p, ys, rfl, rfl, by rw [hk]; exact hq, hl, CSn.pure hs hz k (.str _)⟩
        · cases he
      · cases he
  · cases he), ne_join⟩
def fSplit : MM := fun o ds S => match o, ds with
  | .str a, [.str b] => if (b.length == 0) = false ∧ a.length + 2 ≤ 16777216 then .ok (.ref S.length) (S ++ [.lst ((PySem.Txt.split a b).map D.str)]) else .bad
  | _, _ => .bad
theorem ne_split : NoErrM fSplit := by
  intro o d S c ds S' h
  unfold fSplit at h
  split at h
  · split at h <;> cases h
  · cases h
theorem IsL.strs {K : PySem.W.Frag} {H : Hp} {As : List Addr} : ∀ (ns : List Str), IsL K H As (ns.map D.str) (ns.map V.str)
  | [] => .nil
  | n :: ns => .cons (.str n) (IsL.strs ns)
theorem mr_split : MethR X g "str" "split" fSplit := ⟨_, _, PySem.F.plainAttrs_str, PySem.F.slot_str_split, PySem.F.type_str_split, mt_split, (by
  intro H As S x xs o ds hs io il Q k ⟨z, S', he⟩
  have hz := he
  unfold fSplit at he
  split at he
  · cases io
    cases il with
    | cons i1 i2 =>
      cases i2; cases i1
      split at he
      · rename_i hl
        cases he
        refine ⟨_, _, rfl, rfl, hl.1, szle hl.2, fun p hn => ?_⟩
        exact k _ _ hz (.ref p) _ _ (Ext.new hn) (hs.new hn ⟨_, upd_same, IsL.strs _⟩) (.ref (by rw [← hs.len]; exact List.getElem?_concat_length))
      · cases he
  · cases he), ne_split⟩
def fIndexS : MM := fun o ds S => match o, ds with
  | .str a, [.str b] => match Builtin.Str.occurrences a b 0 a.length 1 with
    | i :: _ => .ok (.int (i : Nat)) S
    | [] => .bad
  | _, _ => .bad
theorem ne_indexS : NoErrM fIndexS := by
  intro o d S c ds S' h
  unfold fIndexS at h
  split at h
  · split at h <;> cases h
  · cases h
theorem mr_indexS : MethR X g "str" "index" fIndexS := ⟨_, _, PySem.F.plainAttrs_str, PySem.F.slot_str_index, PySem.F.type_str_index, mt_sindex, (by
  intro H As S x xs o ds hs io il Q k ⟨z, S', he⟩
  have hz := he
  unfold fIndexS at he
  split at he
  · cases io
    cases il with
    | cons i1 i2 =>
      cases i2; cases i1
      split at he
      · rename_i i rest q
        cases he
        exact ⟨_, _, i, rest, rfl, rfl, q, CSn.pure hs hz k (.int _)⟩
      · cases he
  · cases he), ne_indexS⟩
/-! ### op= -/
def bAddI : D → D → Store → R D
  | .int i, .int j, S => .ok (.int (i + j)) S
  | .str x, .str y, S => if x.length + y.length ≤ 16777216 then .ok (.str (x ++ y)) S else .bad
  | _, _, _ => .bad
theorem ar_add : AugR X g .Add bAddI := ⟨_, OpR.or iop_add iop_add_str, (by
  intro H As S x y d e hs ix iy Q k ⟨z, S', he⟩
  have hz := he
  unfold bAddI at he
  split at he
  · cases he; cases ix; cases iy
    exact .inl ⟨_, _, rfl, rfl, RSn.pure hs hz k (.int _)⟩
  · cases ix; cases iy
    split at he
    · rename_i hl
      cases he
      exact .inr ⟨_, _, rfl, rfl, szle hl, RSn.pure hs hz k (.str _)⟩
    · cases he
  · cases he), by
  intro d e S c ds S' h
  unfold bAddI at h
  split at h
  · cases h
  · split at h <;> cases h
  · cases h⟩
theorem ar_sub : AugR X g .Sub bSub := ⟨_, iop_sub, rs_sub, ne_sub⟩
/-! ### a def at its last level -/
theorem fn_bad {P : Program} {w : World} {mg : Str → Option Value} {base : Heap} {CX : CXT} {k : Nat} {f : Addr} {fd : FuncData} {ps : List Str} : FnOk P w g.K mg base CX k f fd ps (spM g ps.length fun _ _ => .bad) :=
  ⟨fun vs H Q E ⟨_, _, _, _, _, _, h⟩ => h.elim, fun A outer s H args us vs Q E _ _ _ _ ⟨_, _, _, _, _, _, h⟩ => h.elim⟩
/-! ### __init__ of an error: each parameter into its field -/
theorem init1 {C : Addr} {f : Str} {vs : List V} {H : Hp} {Q : VK} {E : XK} {N : List Str} (hN : N.length = 2) (T : OexC g.K C) (no : PySem.W.findIn g.K (.ref C) f = some none) (h : spInit C [f] vs H Q E) :
    tOst g.K f (tVar 0) (tVar 1) { nx := fun _ H' => Q .non H', rt := Q } (L2.start N vs) H := by
  obtain ⟨a, ws, rfl, hl, ha, k⟩ := h
  match ws, hl with
  | [y], _ => exact ⟨y, rfl, .ref a, rfl, a, C, rfl, T, no, .inl ⟨ha, fun dx nd nda => k dx nd nda⟩⟩
theorem init2 {C : Addr} {f f2 : Str} {vs : List V} {H : Hp} {Q : VK} {E : XK} {N : List Str} (hN : N.length = 3) (T : OexC g.K C) (no : PySem.W.findIn g.K (.ref C) f = some none) (no2 : PySem.W.findIn g.K (.ref C) f2 = some none) (h : spInit C [f, f2] vs H Q E) :
    tSeq (tOst g.K f (tVar 0) (tVar 1)) (tOst g.K f2 (tVar 0) (tVar 2)) { nx := fun _ H' => Q .non H', rt := Q } (L2.start N vs) H := by
  obtain ⟨a, ws, rfl, hl, ha, k⟩ := h
  match ws, hl with
  | [y, z], _ =>
    refine ⟨y, rfl, .ref a, rfl, a, C, rfl, T, no, .inl ⟨ha, fun dx nd nda => ?_⟩⟩
    refine ⟨z, rfl, .ref a, rfl, a, C, rfl, T, no2, .inr ⟨dx, [(f, y)], upd_same, by rw [upd_ne nda, upd_same], (by show 1 ≤ 900; decide), ?_⟩⟩
    have e : upd (upd (upd H dx (exd dx [(f, y)])) a (exo a C (some dx))) dx (exd dx [(f2, z), (f, y)]) = upd (upd H dx (exd dx [(f2, z), (f, y)])) a (exo a C (some dx)) := by
      funext b
      by_cases h1 : b = dx
      · subst h1; rw [upd_same, upd_ne nda, upd_same]
      · rw [upd_ne h1]
        by_cases h2 : b = a
        · subst h2; rw [upd_same, upd_same]
        · rw [upd_ne h2, upd_ne h1, upd_ne h2, upd_ne h1]
    show Q .non _
    rw [e]
    exact k dx nd nda
theorem init_len {C : Addr} {names ps : List Str} (h : ps.length = names.length + 1) : ∀ vs H Q E, spInit C names vs H Q E → vs.length = ps.length := fun vs H Q E ⟨a, ws, e, hl, _⟩ => by rw [e, List.length_cons, hl, h]
/-! ### the law's own end -/
theorem law_end {mf : MF} {H : Hp} {a : Addr} {ns : List Int} {Q : VK} {E : XK} (ho : Only H) (hs : SqL g.K H a (ns.map V.int)) (hm : ∃ S', mf [.fz (ns.map D.int)] [] = .ok (.bl true) S') (hq : ∀ H', Q (.bl true) H') : spM g 1 mf [.ref a] H Q E := by
  obtain ⟨S', e⟩ := hm
  refine ⟨[], [.fz (ns.map D.int)], [], .cons (.fz ?_ (IsL.ints ns)) .nil, ⟨rfl, List.nodup_nil, fun n o a h => by simp at h⟩, rfl, ?_⟩
  · rcases hs with (h | ⟨o, h⟩) | h
    · rcases ho a with z | ⟨o, xs, z⟩
      · rw [h] at z; cases z
      · rw [h] at z; cases z
    · exact .inl ⟨o, h⟩
    · exact .inr h
  · rw [e]
    intro v H' As' _ _ i
    cases i
    exact hq H'
/-! ### the facts of classes -/
theorem kit_ref {K : PySem.W.Frag} {D C : Addr} {b : Bool} (h1 : PySem.W.isClsIn K C = true) (h2 : PySem.W.typeIn K (.ref C) = some (.type "type")) (h3 : PySem.W.subIn K (.ref D) (.ref C) = some b) (h4 : PySem.W.subIn K (.ref D) (.ref D) = some true) : PySem.W.kitOne K (.ref D) (.ref C) = some b := by
  unfold PySem.W.kitOne
  split
  · rename_i q
    have e : D = C := Value.ref.inj (beq_iff_eq.mp q)
    subst e
    rw [h4] at h3
    exact h3
  · unfold PySem.W.kitCls
    have h1' : (PySem.W.clsIn K C).isSome = true := h1
    dsimp only
    rw [if_pos (by rw [h1', h2]; rfl)]
    exact h3
theorem kit_type {K : PySem.W.Frag} {D : Addr} {T : String} {b : Bool} (h1 : PySem.W.kitMeta T = true) (h3 : PySem.W.subIn K (.ref D) (.type T) = some b) : PySem.W.kitOne K (.ref D) (.type T) = some b := by
  unfold PySem.W.kitOne
  split
  · rename_i q
    have e := beq_iff_eq.mp q
    cases e
  · unfold PySem.W.kitCls
    dsimp only
    rw [if_pos h1]
    exact h3
theorem exm_ref {K : PySem.W.Frag} {D C : Addr} {b : Bool} (h0 : PySem.W.subIn K (.ref C) (.type "BaseException") = some true) (h1 : PySem.W.isClsIn K C = true) (h2 : PySem.W.typeIn K (.ref C) = some (.type "type")) (h3 : PySem.W.subIn K (.ref D) (.ref C) = some b) : PySem.W.exmOne K (.ref D) (.ref C) = some b := by
  unfold PySem.W.exmOne
  rw [if_pos (by rw [h0]; rfl)]
  unfold PySem.W.kitCls
  have h1' : (PySem.W.clsIn K C).isSome = true := h1
  dsimp only
  rw [if_pos (by rw [h1', h2]; rfl)]
  exact h3
/-- law's: a list of at most 63 ints is handed in, True comes out -/
def spLaw (K : PySem.W.Frag) : Sp := fun vs H Q _ => ∃ (a : Addr) (ns : List Int), vs = [.ref a] ∧ Only H ∧ SqL K H a (ns.map V.int) ∧ ns.length ≤ 63 ∧ ∀ H', Q (.bl true) H'
theorem law_fn {P : Program} {w : World} {K : PySem.W.Frag} {mg : Str → Option Value} {base : Heap} {k : Nat} {f : Addr} {fd : FuncData} {mf : MF} (hg : g.K = K) (ht : ∀ ns : List Int, ns.length ≤ 63 → ∃ S', mf [.fz (ns.map D.int)] [] = .ok (.bl true) S')
    (F : FnOk P w K mg base (L2N.CX P w) k f fd ["script"] (spM g 1 mf)) : FnOk P w K mg base (L2N.CX P w) k f fd ["script"] (spLaw K) :=
  F.imp fun vs H Q E ⟨a, ns, e, ho, hs, hl, hq⟩ => by
    subst e
    exact law_end ho (by rw [hg]; exact hs) (ht ns hl) hq
theorem walk_law {k : Nat} {l : PySem.W.OpenLaw} {q : Program} {loose : List Str} {XP : (Str → Option Value) → Heap → Prop} {YP : World → Heap → Prop} {d : PySem.DefRec} {K : Params → PySem.W.Frag} (hn : l.most = some 63) (hdf : d.params.defaults = []) (hr : Room k callerA)
    (hY : ∀ (w : World) (h : Heap), YP w h → (K w.params).In h)
    (F : ∀ (w : World) (mg : Str → Option Value) (fl : Addr) (h : Heap), (K w.params).In h → h.Ns mainGlobals mg → mg d.name = some (.ref fl) →
      ∃ fdl : FuncData, (∀ (s : Shared) (u : Value), BindsTo s fdl ⟨[u], []⟩ [("script", u)]) ∧ ∀ base : Heap, (K w.params).In base → base.Ns mainGlobals mg → FnOk l.prog w (K w.params) mg base (L2N.CX l.prog w) k fl fdl ["script"] (spLaw (K w.params))) :
    PySem.W.WalkO q loose XP YP l.row.toRowW d [] (fun f vs => PySem.call f vs) := by
  refine L2.walk_of (n := 63) (k := k) (x := "script") (CX := fun w => L2N.CX l.prog w) (sp := fun w => spLaw (K w.params)) hn (by decide) hdf hr hY F (fun w H a ns hl ho hs => ⟨a, ns, rfl, ho, hs, hl, fun _ => rfl⟩) ?_
  intro w H s e s' h
  obtain ⟨_, _, _, _, _, _, _, _, _, _, _, _, z⟩ := h
  exact z
end
end FL
end

section
set_option autoImplicit false
namespace FL
open PySem L2
/-! a statement that is not reached -/
def mBad : MS := fun _ _ => .bad
theorem fs_bad {X : Cx} {g : G} {hx : HX} {W : WX} {st : Stmt} (hk : X.K = g.K) : FS X g hx W st mBad :=
  ⟨hk, fun _ _ _ => False, ⟨fun pins s σ H E I h => h.elim⟩, fun σ H As ρ S he hs E hp => hp⟩
end FL
end

section
set_option autoImplicit false
/-! evaluation of the functions over data by simp: the rest of a run is not looked at before its turn -/
namespace FL
open PySem L2
section
variable {ρ : Rho} {S : Store} {m ma mb mc : ME} {mas mr : MA} {t u : MT} {ms mk : MS} {i : Nat} {d e : D} {ds : List D} {f f' : D → D → Store → R D} {b : Bool}
def kC2 (d : D) : List D → Store → R (List D) := fun ds S => .ok (d :: ds) S
def kC1 (mr : MA) (ρ : Rho) : D → Store → R (List D) := fun d S => (mr ρ S).bind (kC2 d)
@[simp] theorem q_c2 : kC2 d ds S = .ok (d :: ds) S := rfl
@[simp] theorem q_c1 : kC1 mr ρ d S = (mr ρ S).bind (kC2 d) := rfl
def kO1 (f : D → D → Store → R D) (mb : ME) (ρ : Rho) : D → Store → R D := fun d S => (mb ρ S).bind (f d)
@[simp] theorem q_o1 : kO1 f mb ρ d S = (mb ρ S).bind (f d) := rfl
def kB (d : D) (S : Store) : R Bool := match d with
  | .bl b => .ok b S
  | _ => .bad
@[simp] theorem q_b : kB (.bl b) S = .ok b S := rfl
def kTruO (o : Option Bool) (S : Store) : R Bool := match o with
  | some b => .ok b S
  | none => .bad
@[simp] theorem q_truO : kTruO (some b) S = .ok b S := rfl
def kTru (d : D) (S : Store) : R Bool := kTruO (truD d S) S
@[simp] theorem q_tru : kTru d S = kTruO (truD d S) S := rfl
def kNot (b : Bool) (S : Store) : R Bool := .ok (!b) S
@[simp] theorem q_not : kNot b S = .ok (!b) S := rfl
def kAnd (u : MT) (ρ : Rho) (b : Bool) (S : Store) : R Bool := match b with
  | true => u ρ S
  | false => .ok false S
@[simp] theorem q_andt : kAnd u ρ true S = u ρ S := rfl
@[simp] theorem q_andf : kAnd u ρ false S = .ok false S := rfl
def kOr (u : MT) (ρ : Rho) (b : Bool) (S : Store) : R Bool := match b with
  | true => .ok true S
  | false => u ρ S
@[simp] theorem q_ort : kOr u ρ true S = .ok true S := rfl
@[simp] theorem q_orf : kOr u ρ false S = u ρ S := rfl
def kNotV (d : D) (S : Store) : R D := match d with
  | .bl b => .ok (.bl (!b)) S
  | _ => .bad
@[simp] theorem q_notV : kNotV (.bl b) S = .ok (.bl (!b)) S := rfl
def kAndV (mb : ME) (ρ : Rho) (d : D) (S : Store) : R D := match d with
  | .bl true => mb ρ S
  | .bl false => .ok (.bl false) S
  | _ => .bad
@[simp] theorem q_andVt : kAndV mb ρ (.bl true) S = mb ρ S := rfl
@[simp] theorem q_andVf : kAndV mb ρ (.bl false) S = .ok (.bl false) S := rfl
def kOrV (mb : ME) (ρ : Rho) (d : D) (S : Store) : R D := match d with
  | .bl true => .ok (.bl true) S
  | .bl false => mb ρ S
  | _ => .bad
@[simp] theorem q_orVt : kOrV mb ρ (.bl true) S = .ok (.bl true) S := rfl
@[simp] theorem q_orVf : kOrV mb ρ (.bl false) S = mb ρ S := rfl
def kIfE (ma mb : ME) (ρ : Rho) (b : Bool) (S : Store) : R D := match b with
  | true => ma ρ S
  | false => mb ρ S
@[simp] theorem q_ifEt : kIfE ma mb ρ true S = ma ρ S := rfl
@[simp] theorem q_ifEf : kIfE ma mb ρ false S = mb ρ S := rfl
def kTup (ds : List D) (S : Store) : R D := if ds.length ≤ 16777216 then .ok (.tup ds) S else .bad
@[simp] theorem q_tup (h : ds.length ≤ 16777216) : kTup ds S = .ok (.tup ds) S := if_pos h
def kLst (ds : List D) (S : Store) : R D := if ds.length ≤ 16777216 then .ok (.ref S.length) (S ++ [.lst ds]) else .bad
@[simp] theorem q_lst (h : ds.length ≤ 16777216) : kLst ds S = .ok (.ref S.length) (S ++ [.lst ds]) := if_pos h
def kNeg (d : D) (S : Store) : R D := match d with
  | .int i => .ok (.int (-i)) S
  | _ => .bad
@[simp] theorem q_neg {x : Int} : kNeg (.int x) S = .ok (.int (-x)) S := rfl
def kRet (d : D) (S : Store) : RS := .rt d S
@[simp] theorem q_ret : kRet d S = .rt d S := rfl
def kDrop (ρ : Rho) (_ : D) (S : Store) : RS := .nx ρ S
@[simp] theorem q_drop : kDrop ρ d S = .nx ρ S := rfl
def kSet (i : Nat) (ρ : Rho) (d : D) (S : Store) : RS := .nx (ρ.set i (.dat d)) S
@[simp] theorem q_set : kSet i ρ d S = .nx (ρ.set i (.dat d)) S := rfl
def kIf (ms mk : MS) (ρ : Rho) (b : Bool) (S : Store) : RS := match b with
  | true => ms ρ S
  | false => mk ρ S
@[simp] theorem q_ift : kIf ms mk ρ true S = ms ρ S := rfl
@[simp] theorem q_iff : kIf ms mk ρ false S = mk ρ S := rfl
def kAsgO (o : Option Rho) (S : Store) : RS := match o with
  | some ρ' => .nx ρ' S
  | none => .bad
@[simp] theorem q_asgO : kAsgO (some ρ) S = .nx ρ S := rfl
def kAsg (tg : Tgt) (ρ : Rho) (d : D) (S : Store) : RS := kAsgO (tg d ρ S) S
@[simp] theorem q_asg {tg : Tgt} : kAsg tg ρ d S = kAsgO (tg d ρ S) S := rfl
def kMo (g : MM) (mas : MA) (ρ : Rho) (o : D) (S : Store) (b : Bool) : R D := if b = true then (mas ρ S).bind (g o) else .bad
@[simp] theorem q_mo {g : MM} : kMo g mas ρ d S true = (mas ρ S).bind (g d) := rfl
def kMe (T : String) (g : MM) (mas : MA) (ρ : Rho) (o : D) (S : Store) : R D := kMo g mas ρ o S (recvD T S o)
@[simp] theorem q_me {T : String} {g : MM} : kMe T g mas ρ d S = kMo g mas ρ d S (recvD T S d) := rfl
def kS4 (ρ : Rho) (o : Option Store) : RS := match o with
  | some S4 => .nx ρ S4
  | none => .bad
@[simp] theorem q_s4 : kS4 ρ (some S) = .nx ρ S := rfl
def kS3 (ρ : Rho) (d o i : D) (S : Store) : RS := kS4 ρ (setD o i d S)
@[simp] theorem q_s3 {o i : D} : kS3 ρ d o i S = kS4 ρ (setD o i d S) := rfl
def kS2 (mb : ME) (ρ : Rho) (d o : D) (S : Store) : RS := (mb ρ S).stm ρ (kS3 ρ d o)
@[simp] theorem q_s2 {o : D} : kS2 mb ρ d o S = (mb ρ S).stm ρ (kS3 ρ d o) := rfl
def kS1 (ma mb : ME) (ρ : Rho) (d : D) (S : Store) : RS := (ma ρ S).stm ρ (kS2 mb ρ d)
@[simp] theorem q_s1 : kS1 ma mb ρ d S = (ma ρ S).stm ρ (kS2 mb ρ d) := rfl
def kIsO (o : Option Bool) (S : Store) : R D := match o with
  | some b => .ok (.bl b) S
  | none => .bad
@[simp] theorem q_isO : kIsO (some b) S = .ok (.bl b) S := rfl
def kIs (T : String) (d : D) (S : Store) : R D := kIsO ((tyD S d).bind fun t => kitB t T) S
@[simp] theorem q_is {T : String} : kIs T d S = kIsO ((tyD S d).bind fun t => kitB t T) S := rfl
def kRaise (c : Nat) (ρ : Rho) (ds : List D) (S : Store) : RS := .err c ds.reverse ρ S
@[simp] theorem q_raise {c : Nat} : kRaise c ρ ds S = .err c ds.reverse ρ S := rfl
def kCh3 (f' : D → D → Store → R D) (mc : ME) (ρ : Rho) (e z : D) (S : Store) : R D := match z with
  | .bl false => .ok (.bl false) S
  | .bl true => (mc ρ S).bind (f' e)
  | _ => .bad
@[simp] theorem q_ch3t : kCh3 f' mc ρ e (.bl true) S = (mc ρ S).bind (f' e) := rfl
@[simp] theorem q_ch3f : kCh3 f' mc ρ e (.bl false) S = .ok (.bl false) S := rfl
def kCh2 (f f' : D → D → Store → R D) (mc : ME) (ρ : Rho) (d e : D) (S : Store) : R D := (f d e S).bind (kCh3 f' mc ρ e)
@[simp] theorem q_ch2 : kCh2 f f' mc ρ d e S = (f d e S).bind (kCh3 f' mc ρ e) := rfl
def kCh1 (f f' : D → D → Store → R D) (mb mc : ME) (ρ : Rho) (d : D) (S : Store) : R D := (mb ρ S).bind (kCh2 f f' mc ρ d)
@[simp] theorem q_ch1 : kCh1 f f' mb mc ρ d S = (mb ρ S).bind (kCh2 f f' mc ρ d) := rfl
@[simp] theorem ev_chain : mChain f f' ma mb mc ρ S = (ma ρ S).bind (kCh1 f f' mb mc ρ) := by
  unfold mChain; congr 1; funext d S1
  show _ = (mb ρ S1).bind (kCh2 f f' mc ρ d)
  congr 1; funext e S2
  show _ = (f d e S2).bind (kCh3 f' mc ρ e)
  congr 1; funext z S3
  rcases z with _ | ⟨_ | _⟩ | _ | _ | _ | _ | _ <;> rfl
@[simp] theorem ev_var : mVar i ρ S = match ρ[i]? with | some (.dat d) => .ok d S | _ => .bad := rfl
@[simp] theorem ev_c : mC d ρ S = .ok d S := rfl
@[simp] theorem ev_nil : mNil ρ S = .ok [] S := rfl
@[simp] theorem ev_cons : mCons m mr ρ S = (m ρ S).bind (kC1 mr ρ) := rfl
@[simp] theorem ev_op : mOp f ma mb ρ S = (ma ρ S).bind (kO1 f mb ρ) := rfl
@[simp] theorem ev_B : mB m ρ S = (m ρ S).bind kB := rfl
@[simp] theorem ev_tru : mTru m ρ S = (m ρ S).bind kTru := rfl
@[simp] theorem ev_not : mNot t ρ S = (t ρ S).bind kNot := rfl
@[simp] theorem ev_and : mAnd t u ρ S = (t ρ S).bind (kAnd u ρ) := rfl
@[simp] theorem ev_or : mOr t u ρ S = (t ρ S).bind (kOr u ρ) := rfl
@[simp] theorem ev_notV : mNotV m ρ S = (m ρ S).bind kNotV := rfl
@[simp] theorem ev_andV : mAndV ma mb ρ S = (ma ρ S).bind (kAndV mb ρ) := rfl
@[simp] theorem ev_orV : mOrV ma mb ρ S = (ma ρ S).bind (kOrV mb ρ) := rfl
@[simp] theorem ev_ifE : mIfE t ma mb ρ S = (t ρ S).bind (kIfE ma mb ρ) := rfl
@[simp] theorem ev_cb {g : MF} : mCB g mas ρ S = (mas ρ S).bind g := rfl
@[simp] theorem ev_tup : mTup mas ρ S = (mas ρ S).bind kTup := rfl
@[simp] theorem ev_lst : mLst mas ρ S = (mas ρ S).bind kLst := rfl
@[simp] theorem ev_neg : mNeg ma ρ S = (ma ρ S).bind kNeg := rfl
@[simp] theorem ev_next : mNext ρ S = .nx ρ S := rfl
@[simp] theorem ev_break : mBreak ρ S = .bk ρ S := rfl
@[simp] theorem ev_cont : mCont ρ S = .ct ρ S := rfl
@[simp] theorem ev_seq : mSeq ms mk ρ S = (ms ρ S).seq mk := rfl
@[simp] theorem ev_ret : mRet m ρ S = (m ρ S).stm ρ kRet := rfl
@[simp] theorem ev_retN : mRetN ρ S = .rt .non S := rfl
@[simp] theorem ev_drop : mDrop m ρ S = (m ρ S).stm ρ (kDrop ρ) := rfl
@[simp] theorem ev_set : mSet i m ρ S = (m ρ S).stm ρ (kSet i ρ) := rfl
@[simp] theorem ev_if : mIf t ms mk ρ S = (t ρ S).stm ρ (kIf ms mk ρ) := rfl
@[simp] theorem ev_asg {tg : Tgt} : mAsg tg m ρ S = (m ρ S).stm ρ (kAsg tg ρ) := rfl
@[simp] theorem ev_gN : gN i d ρ S = some (ρ.set i (.dat d)) := rfl
@[simp] theorem ev_meth {T : String} {g : MM} : mMeth T g m mas ρ S = (m ρ S).bind (kMe T g mas ρ) := rfl
@[simp] theorem ev_sub : mSub ma mb m ρ S = (m ρ S).stm ρ (kS1 ma mb ρ) := rfl
@[simp] theorem ev_isi {T : String} : mIsi T m ρ S = (m ρ S).bind (kIs T) := rfl
@[simp] theorem ev_raise {c : Nat} : mRaise c mas ρ S = (mas ρ S).stm ρ (kRaise c ρ) := rfl
@[simp] theorem ev_yes : mYes ρ S = .ok true S := rfl
end
/-! loops, defs, handlers -/
def RS.go (r : RS) (k : MS) : RS := match r with
  | .nx ρ S => k ρ S
  | .ct ρ S => k ρ S
  | .bk ρ S => .nx ρ S
  | r => r
def RS.tri (r : RS) (sub : Nat → Option Bool) (i : Nat) (ms : MS) : RS := match r with
  | .err c es ρ' S' => match sub c with
    | some true => unset i (ms (ρ'.set i (.exc c es)) S')
    | some false => .err c es ρ' S'
    | none => .bad
  | r => r
def RS.fin (r : RS) : R D := match r with
  | .nx _ S' => .ok .non S'
  | .rt d S' => .ok d S'
  | .err c es _ S' => .err c es S'
  | _ => .bad
section
variable {ρ : Rho} {S : Store} {k b ms : MS} {t : MT} {d : D} {ds : List D} {n i : Nat} {tg : Tgt} {P : Store → Prop}
@[simp] theorem go_nx : (RS.nx ρ S).go k = k ρ S := rfl
@[simp] theorem go_ct : (RS.ct ρ S).go k = k ρ S := rfl
@[simp] theorem go_bk : (RS.bk ρ S).go k = .nx ρ S := rfl
@[simp] theorem go_rt : (RS.rt d S).go k = .rt d S := rfl
@[simp] theorem go_err {c : Nat} : (RS.err c ds ρ S).go k = .err c ds ρ S := rfl
@[simp] theorem fin_nx : (RS.nx ρ S).fin = .ok .non S := rfl
@[simp] theorem fin_rt : (RS.rt d S).fin = .ok d S := rfl
@[simp] theorem fin_err {c : Nat} : (RS.err c ds ρ S).fin = .err c ds S := rfl
@[simp] theorem tri_nx {sub : Nat → Option Bool} : (RS.nx ρ S).tri sub i k = .nx ρ S := rfl
@[simp] theorem tri_rt {sub : Nat → Option Bool} : (RS.rt d S).tri sub i k = .rt d S := rfl
@[simp] theorem tri_err {sub : Nat → Option Bool} {c : Nat} : (RS.err c ds ρ S).tri sub i k = match sub c with
    | some true => unset i (k (ρ.set i (.exc c ds)) S)
    | some false => .err c ds ρ S
    | none => .bad := rfl
@[simp] theorem uns_nx : unset i (RS.nx ρ S) = .nx ((clr ρ).set i .un) S := rfl
@[simp] theorem uns_rt : unset i (RS.rt d S) = .rt d S := rfl
@[simp] theorem ev_try {sub : Nat → Option Bool} : mTry sub i b ms ρ S = (b ρ S).tri sub i ms := rfl
def kWh (t : MT) (b : MS) (n : Nat) (ρ : Rho) (c : Bool) (S : Store) : RS := match c with
  | true => (b ρ S).go (mWhileN t b n)
  | false => .nx ρ S
@[simp] theorem q_wht : kWh t b n ρ true S = (b ρ S).go (mWhileN t b n) := rfl
@[simp] theorem q_whf : kWh t b n ρ false S = .nx ρ S := rfl
theorem ev_wh : mWhileN t b (n + 1) ρ S = (t ρ S).stm ρ (kWh t b n ρ) := by
  show (t ρ S).stm ρ _ = _
  congr 1
  funext c S1
  cases c <;> rfl
noncomputable def kIt (P : Store → Prop) (tg : Tgt) (b : MS) (ds : List D) (S : Store) (o : Option Rho) : RS := match o with
  | none => .bad
  | some ρ1 => (b ρ1 S).go (mItems P tg b ds)
@[simp] theorem q_it : kIt P tg b ds S (some ρ) = (b ρ S).go (mItems P tg b ds) := rfl
def kA1 (i : Nat) (f : D → D → Store → R D) (ρ : Rho) (x d : D) (S : Store) : RS := (f x d S).stm ρ (kSet i ρ)
@[simp] theorem q_a1 {f : D → D → Store → R D} {x : D} : kA1 i f ρ x d S = (f x d S).stm ρ (kSet i ρ) := rfl
def kAug (i : Nat) (f : D → D → Store → R D) (m : ME) (ρ : Rho) (S : Store) (o : Option Sl) : RS := match o with
  | some (.dat x) => (m ρ S).stm ρ (kA1 i f ρ x)
  | _ => .bad
@[simp] theorem q_aug {m : ME} {f : D → D → Store → R D} {x : D} : kAug i f m ρ S (some (.dat x)) = (m ρ S).stm ρ (kA1 i f ρ x) := rfl
noncomputable def kFor (t : Tgt) (b : MS) (ρ : Rho) (src : Src) (S : Store) : RS := mItems src.guard t b src.items ρ S
@[simp] theorem q_for {src : Src} : kFor tg b ρ src S = mItems src.guard tg b src.items ρ S := rfl
noncomputable def kLc (vs : List Nat) (tg : Tgt) (tt : MT) (el : ME) (ρ : Rho) (src : Src) (S1 : Store) : R D := lcItems src.guard tg tt el S1.length (wipeR ρ vs) src.items (S1 ++ [.lst []])
@[simp] theorem q_lc {vs : List Nat} {tt : MT} {el : ME} {src : Src} : kLc vs tg tt el ρ src S = lcItems src.guard tg tt el S.length (wipeR ρ vs) src.items (S ++ [.lst []]) := rfl
open Classical in
@[simp] theorem ev_i0 : mItems P tg b [] ρ S = if P S then .nx ρ S else .bad := by rw [mItems]
open Classical in
@[simp] theorem ev_i1 : mItems P tg b (d :: ds) ρ S = if P S then kIt P tg b ds S (tg d ρ S) else .bad := by
  rw [mItems]
  show (if P S then _ else _) = _
  split
  · unfold kIt; cases tg d ρ S <;> rfl
  · rfl
@[simp] theorem ev_fn {n : Nat} : mFn n ms ds S = (ms (rho0 n ds) S).fin := rfl
@[simp] theorem ev_aug {m : ME} {f : D → D → Store → R D} : mAug i f m ρ S = kAug i f m ρ S ρ[i]? := rfl
def kRev (d : D) (S1 : Store) : R Src := match d with
  | .tup ds => .ok ⟨ds.reverse, fun _ => True⟩ S1
  | .fz ds => .ok ⟨ds.reverse, fun _ => True⟩ S1
  | .ref n => match getL S1 n with
    | some ds => .ok ⟨ds.reverse, fun S => S[n]? = some (.lst ds)⟩ S1
    | none => .bad
  | _ => .bad
@[simp] theorem ev_rev {m : ME} : mRev m ρ S = (m ρ S).bind kRev := rfl
@[simp] theorem rev_t : kRev (.tup ds) S = .ok ⟨ds.reverse, fun _ => True⟩ S := rfl
def kIter (d : D) (S1 : Store) : R Src := match d with
  | .tup ds => .ok ⟨ds, fun _ => True⟩ S1
  | .fz ds => .ok ⟨ds, fun _ => True⟩ S1
  | .ref n => match getL S1 n with
    | some ds => .ok ⟨ds, fun S => S[n]? = some (.lst ds)⟩ S1
    | none => .bad
  | .str s => .ok ⟨s.cps.toList.map fun c => .str ⟨#[c]⟩, fun _ => True⟩ S1
  | _ => .bad
@[simp] theorem ev_iter {m : ME} : mIter m ρ S = (m ρ S).bind kIter := rfl
@[simp] theorem it_t : kIter (.tup ds) S = .ok ⟨ds, fun _ => True⟩ S := rfl
@[simp] theorem it_f : kIter (.fz ds) S = .ok ⟨ds, fun _ => True⟩ S := rfl
@[simp] theorem it_r : kIter (.ref n) S = match getL S n with | some ds => .ok ⟨ds, fun S => S[n]? = some (.lst ds)⟩ S | none => .bad := rfl
@[simp] theorem it_s {s : Str} : kIter (.str s) S = .ok ⟨s.cps.toList.map fun c => .str ⟨#[c]⟩, fun _ => True⟩ S := rfl
@[simp] theorem ev_lc {vs : List Nat} {mi : MI} {tt : MT} {el : ME} : mLc vs mi tg tt el ρ S = (mi ρ S).bind (kLc vs tg tt el ρ) := rfl
end
/-! on ints -/
section
variable {S : Store} {i j : Int}
@[simp] theorem i_add : bAdd (.int i) (.int j) S = .ok (.int (i + j)) S := rfl
@[simp] theorem i_addI : bAddI (.int i) (.int j) S = .ok (.int (i + j)) S := rfl
@[simp] theorem i_sub : bSub (.int i) (.int j) S = .ok (.int (i - j)) S := rfl
theorem i_mul (h : (i.natAbs < 2 ^ 64 ∨ j.natAbs < 2 ^ 64) ∨ (i.natAbs < 2 ^ 9000 ∧ j.natAbs < 2 ^ 9000)) : bMul (.int i) (.int j) S = .ok (.int (i * j)) S := if_pos h
@[simp] theorem i_mul1 (h : i.natAbs < 2 ^ 64) : bMul (.int i) (.int j) S = .ok (.int (i * j)) S := if_pos (.inl (.inl h))
@[simp] theorem i_mul2 (h : j.natAbs < 2 ^ 64) : bMul (.int i) (.int j) S = .ok (.int (i * j)) S := if_pos (.inl (.inr h))
@[simp] theorem i_mod (h : 0 < j) : bMod (.int i) (.int j) S = .ok (.int (i % j)) S := if_pos h
@[simp] theorem i_div (h : 0 < j) (h2 : j.natAbs ≤ 10 ^ 77) : bDiv (.int i) (.int j) S = .ok (.int (i / j)) S := if_pos ⟨h, Nat.lt_of_le_of_lt h2 (by decide +kernel)⟩
@[simp] theorem i_pow (h : 0 ≤ j) (h1 : j ≤ 1000000) (h2 : i.natAbs < 2 ^ 64) : bPow (.int i) (.int j) S = .ok (.int (i ^ j.toNat)) S := if_pos ⟨h, h1, h2⟩
@[simp] theorem i_eq : bEq (.int i) (.int j) S = .ok (.bl (decide (i = j))) S := rfl
theorem bEq_of {d e : D} {b : Bool} (h : eqD d e = some b) : bEq d e S = .ok (.bl b) S := by unfold bEq; rw [h]
@[simp] theorem i_ne : bNe (.int i) (.int j) S = .ok (.bl (!decide (i = j))) S := rfl
@[simp] theorem i_lt : bLt (.int i) (.int j) S = .ok (.bl (decide (i < j))) S := rfl
@[simp] theorem i_le : bLe (.int i) (.int j) S = .ok (.bl (decide (i ≤ j))) S := rfl
@[simp] theorem i_gt : bGt (.int i) (.int j) S = .ok (.bl (decide (j < i))) S := rfl
@[simp] theorem i_ge : bGe (.int i) (.int j) S = .ok (.bl (decide (j ≤ i))) S := rfl
@[simp] theorem s_eq {a b : Str} : bEq (.str a) (.str b) S = .ok (.bl (decide (a = b))) S := rfl
@[simp] theorem n_is {d : D} : bIsN d .non S = .ok (.bl (isNonD d)) S := by cases d <;> rfl
@[simp] theorem n_isn {d : D} : bNotN d .non S = .ok (.bl (!isNonD d)) S := by cases d <;> rfl
@[simp] theorem nn1 : isNonD .non = true := rfl
@[simp] theorem nn2 : isNonD (.int i) = false := rfl
@[simp] theorem nn3 {ds : List D} : isNonD (.tup ds) = false := rfl
@[simp] theorem nn4 {a : Str} : isNonD (.str a) = false := rfl
@[simp] theorem nn5 {a : Bool} : isNonD (.bl a) = false := rfl
@[simp] theorem f_absI : fAbs [.int i] S = .ok (.int (if i < 0 then -i else i)) S := rfl
@[simp] theorem f_intI : fInt [.int i] S = .ok (.int i) S := rfl
@[simp] theorem f_intB {b : Bool} : fInt [.bl b] S = .ok (.int (if b then 1 else 0)) S := rfl
@[simp] theorem ty_i : tyD S (.int i) = some "int" := rfl
@[simp] theorem ty_b {b : Bool} : tyD S (.bl b) = some "bool" := rfl
@[simp] theorem ty_s {b : Str} : tyD S (.str b) = some "str" := rfl
@[simp] theorem ty_n : tyD S .non = some "NoneType" := rfl
@[simp] theorem ty_t {b : List D} : tyD S (.tup b) = some "tuple" := rfl
@[simp] theorem k_ii : kitB "int" "int" = some true := by decide +kernel
@[simp] theorem k_ib : kitB "int" "bool" = some false := by decide +kernel
@[simp] theorem k_bi : kitB "bool" "int" = some true := by decide +kernel
@[simp] theorem k_bb : kitB "bool" "bool" = some true := by decide +kernel
@[simp] theorem k_it : kitB "int" "tuple" = some false := by decide +kernel
@[simp] theorem k_bt : kitB "bool" "tuple" = some false := by decide +kernel
@[simp] theorem k_st : kitB "str" "tuple" = some false := by decide +kernel
@[simp] theorem k_tt : kitB "tuple" "tuple" = some true := by decide +kernel
@[simp] theorem k_ss : kitB "str" "str" = some true := by decide +kernel
@[simp] theorem k_si : kitB "str" "int" = some false := by decide +kernel
@[simp] theorem k_ni : kitB "NoneType" "int" = some false := by decide +kernel
@[simp] theorem k_ti : kitB "tuple" "int" = some false := by decide +kernel
@[simp] theorem k_lt : kitB "list" "tuple" = some false := by decide +kernel
@[simp] theorem k_ns : kitB "NoneType" "str" = some false := by decide +kernel
@[simp] theorem k_nt : kitB "NoneType" "tuple" = some false := by decide +kernel
@[simp] theorem k_is : kitB "int" "str" = some false := by decide +kernel
@[simp] theorem k_bs : kitB "bool" "str" = some false := by decide +kernel
@[simp] theorem k_ts : kitB "tuple" "str" = some false := by decide +kernel
@[simp] theorem k_tl : kitB "tuple" "list" = some false := by decide +kernel
@[simp] theorem k_ll : kitB "list" "list" = some true := by decide +kernel
@[simp] theorem tr_i : truD (.int i) S = some (i != 0) := rfl
@[simp] theorem tr_b {b : Bool} : truD (.bl b) S = some b := rfl
@[simp] theorem tr_n : truD .non S = some false := rfl
@[simp] theorem tr_t {b : List D} : truD (.tup b) S = some (!b.isEmpty) := rfl
end
@[simp] theorem ev_excF {fn : List Str} {c i : Nat} {f : Str} {ρ : Rho} {S : Store} : mExcF fn c i f ρ S = match ρ[i]? with
  | some (.exc c' es) => if c' = c then (match (fn.zip es).lookup f with
    | some d => .ok d S
    | none => .bad) else .bad
  | _ => .bad := rfl
@[simp] theorem ev_excIs {n i : Nat} {b : Bool} {ρ : Rho} {S : Store} : mExcIs n i b ρ S = match ρ[i]? with
  | some (.exc c _) => if c = n then .ok (.bl b) S else .bad
  | _ => .bad := rfl
/-! the store -/
section
variable {S T J : Store} {o p : O} {n k : Nat} {d : D} {l : List D}
@[simp] theorem st_get0 : getL (S ++ .lst l :: J) S.length = some l := by unfold getL; simp
@[simp] theorem st_getk : getL (S ++ T) (S.length + k) = getL T k := by unfold getL; rw [List.getElem?_append_right (by omega), Nat.add_sub_cancel_left]
@[simp] theorem st_ix0 : (S ++ o :: J)[S.length]? = some o := by simp
@[simp] theorem st_ixk : (S ++ T)[S.length + k]? = T[k]? := by rw [List.getElem?_append_right (by omega), Nat.add_sub_cancel_left]
@[simp] theorem st_set0 : (S ++ o :: J).set S.length p = S ++ p :: J := by simp
@[simp] theorem st_setk : (S ++ T).set (S.length + k) p = S ++ T.set k p := by rw [List.set_append_right _ _ (by omega), Nat.add_sub_cancel_left]
theorem get_lt {l : List D} (h : getL S n = some l) : n < S.length := (List.getElem?_eq_some_iff.mp (getL_some h)).1
@[simp] theorem get_app (h : n < S.length) : getL (S ++ T) n = getL S n := by unfold getL; rw [List.getElem?_append_left h]
@[simp] theorem get_set (h : n < S.length) : getL (S.set n (.lst l)) n = some l := by unfold getL; rw [List.getElem?_set_self h]
@[simp] theorem get_c0 : getL (.lst l :: J) 0 = some l := rfl
@[simp] theorem get_c1 : getL (o :: J) (n + 1) = getL J n := rfl
theorem set_same {l : List D} (h : getL S n = some l) : S.set n (.lst l) = S := by
  apply List.ext_getElem?
  intro i
  by_cases e : n = i
  · subst e; rw [List.getElem?_set_self (get_lt h), getL_some h]
  · rw [List.getElem?_set_ne e]
def kRng1 (ds : List D) (S : Store) : R Src := match ds with
  | [.int n] => if n.natAbs ≤ 16777216 then .ok ⟨(List.range n.toNat).map fun (i : Nat) => .int (i : Int), fun _ => True⟩ S else .bad
  | _ => .bad
@[simp] theorem ev_rng1 {mas : MA} {ρ : Rho} : mRng1 mas ρ S = (mas ρ S).bind kRng1 := rfl
@[simp] theorem k_rngN {k : Nat} (h : k ≤ 16777216) : kRng1 [.int (k : Int)] S = .ok ⟨(List.range k).map fun (i : Nat) => .int (i : Int), fun _ => True⟩ S := if_pos h
@[simp] theorem k_rng {i : Int} (h0 : 0 ≤ i) (h : i ≤ 16777216) : kRng1 [.int i] S = .ok ⟨(List.range i.toNat).map fun (i : Nat) => .int (i : Int), fun _ => True⟩ S := if_pos (by omega)
@[simp] theorem ev_for {mi : MI} {t : Tgt} {b : MS} {ρ : Rho} : mFor mi t b ρ S = (mi ρ S).stm ρ (kFor t b ρ) := rfl
@[simp] theorem recv_l {n : Nat} : recvD "list" S (.ref n) = (getL S n).isSome := by
  unfold recvD getL
  dsimp only
  cases h : S[n]? with
  | none => simp [h]
  | some o => cases o <;> simp [h]
@[simp] theorem gcF_eq {f : MF} {ds : List D} : gcF f ds S = gcR S (f ds S) := rfl
@[simp] theorem gc_ap {J : Store} {d : D} (b : Bel S.length d) : gcR S (.ok d (S ++ J)) = .ok d S := gc_app b
@[simp] theorem bel_i {i : Int} : Bel n (.int i) := by unfold Bel; trivial
@[simp] theorem bel_b {i : Bool} : Bel n (.bl i) := by unfold Bel; trivial
@[simp] theorem bel_s {i : Str} : Bel n (.str i) := by unfold Bel; trivial
@[simp] theorem bel_n : Bel n .non := by unfold Bel; trivial
@[simp] theorem bel_t {l : List D} : Bel n (.tup l) = BelL n l := by unfold Bel; rfl
@[simp] theorem belL_n : BelL n [] := by unfold BelL; trivial
@[simp] theorem belL_c {l : List D} : BelL n (d :: l) = (Bel n d ∧ BelL n l) := by rw [BelL]
@[simp] theorem belL_app {m : List D} : ∀ {l : List D}, BelL n (l ++ m) ↔ BelL n l ∧ BelL n m
  | [] => by simp
  | x :: l => by rw [List.cons_append, belL_c, belL_c, belL_app (l := l), and_assoc]
@[simp] theorem belL_ints : ∀ {l : List Int}, BelL n (l.map .int)
  | [] => belL_n
  | x :: l => by rw [List.map_cons, belL_c]; exact ⟨bel_i, belL_ints⟩
@[simp] theorem belO_l {l : List D} : BelO n (.lst l) = BelL n l := by unfold BelO; rfl
@[simp] theorem gc_self {d : D} (b : Bel S.length d) : gcR S (.ok d S) = .ok d S := gc_same b
theorem gc_set {d : D} {o : O} (b : Bel S.length d) (h : BelO S.length o) : gcR S (.ok d (S.set n o)) = .ok d (S.set n o) := by
  rw [gc_ok ⟨by simp, fun i hi => ?_⟩ b]
  · rw [show S.length = (S.set n o).length by simp, List.take_length]
  · by_cases e : n = i
    · subst e; exact .inr ⟨o, by rw [List.getElem?_set_self hi], h⟩
    · exact .inl (by rw [List.getElem?_set_ne e])
@[simp] theorem gc_e {c : Nat} {es : List D} {J : Store} (b : BelL S.length es) : gcR S (.err c es (S ++ J)) = .err c es S := by rw [gc_err cl_app b, List.take_left]
@[simp] theorem gc_e0 {c : Nat} {es : List D} (b : BelL S.length es) : gcR S (.err c es S) = .err c es S := by rw [gc_err cl_refl b, List.take_length]
theorem x_at {l : List D} {i : Int} {x : D} (h0 : 0 ≤ i) (h : l[i.toNat]? = some x) : atI l i = some x := by
  have hl := (List.getElem?_eq_some_iff.mp h).1
  unfold atI ixN
  rw [if_pos h0, if_pos (by omega)]
  exact h
theorem ixn_at {k : Nat} {i : Int} (h0 : 0 ≤ i) (h : i < k) : ixN k i = some i.toNat := by unfold ixN; rw [if_pos h0, if_pos h]
@[simp] theorem x_0 {x : D} {l : List D} : atI (x :: l) 0 = some x := x_at (by decide) rfl
@[simp] theorem x_1 {x y : D} {l : List D} : atI (x :: y :: l) 1 = some y := x_at (by decide) rfl
@[simp] theorem x_2 {x y z : D} {l : List D} : atI (x :: y :: z :: l) 2 = some z := x_at (by decide) rfl
@[simp] theorem x_3 {x y z w : D} {l : List D} : atI (x :: y :: z :: w :: l) 3 = some w := x_at (by decide) rfl
@[simp] theorem ixn_0 {k : Nat} : ixN (k + 1) 0 = some 0 := ixn_at (by decide) (by omega)
@[simp] theorem ixn_1 {k : Nat} : ixN (k + 1 + 1) 1 = some 1 := ixn_at (by decide) (by omega)
@[simp] theorem ixn_2 {k : Nat} : ixN (k + 1 + 1 + 1) 2 = some 2 := ixn_at (by decide) (by omega)
@[simp] theorem bix_t {l : List D} {i : Int} : bIx (.tup l) (.int i) S = match atI l i with | some z => .ok z S | none => .bad := rfl
@[simp] theorem bix_f {l : List D} {i : Int} : bIx (.fz l) (.int i) S = match atI l i with | some z => .ok z S | none => .bad := rfl
@[simp] theorem bix_r {i : Int} : bIx (.ref n) (.int i) S = match getL S n with | some l => (match atI l i with | some z => .ok z S | none => .bad) | none => .bad := rfl
@[simp] theorem len_t {l : List D} : fLen [.tup l] S = .ok (.int l.length) S := rfl
@[simp] theorem len_f {l : List D} : fLen [.fz l] S = .ok (.int l.length) S := rfl
@[simp] theorem len_r : fLen [.ref n] S = match getL S n with | some l => .ok (.int l.length) S | none => .bad := rfl
@[simp] theorem tup_t {l : List D} : fTup [.tup l] S = .ok (.tup l) S := rfl
@[simp] theorem tup_r : fTup [.ref n] S = match getL S n with | some l => .ok (.tup l) S | none => .bad := rfl
@[simp] theorem tup_f {l : List D} : fTup [.fz l] S = .ok (.tup l) S := rfl
@[simp] theorem set_d {i : Int} : setD (.ref n) (.int i) d S = match getL S n with | some ds => (match ixN ds.length i with | some j => some (S.set n (.lst (ds.set j d))) | none => none) | none => none := rfl
@[simp] theorem add_l {m : Nat} : bAdd (.ref n) (.ref m) S = match getL S n, getL S m with | some xs, some ys => if xs.length + ys.length ≤ 16777216 then .ok (.ref S.length) (S ++ [.lst (xs ++ ys)]) else .bad | _, _ => .bad := rfl
@[simp] theorem add_t {xs ys : List D} : bAdd (.tup xs) (.tup ys) S = if xs.length + ys.length ≤ 16777216 then .ok (.tup (xs ++ ys)) S else .bad := rfl
@[simp] theorem app_r : fAppend (.ref n) [d] S = match getL S n with | some l => if l.length < 16777216 then .ok .non (S.set n (.lst (l ++ [d]))) else .bad | none => .bad := rfl
@[simp] theorem ext_t {r : List D} : fExtend (.ref n) [.tup r] S = match getL S n with | some l => if l.length + r.length ≤ 16777216 then .ok .non (S.set n (.lst (l ++ r))) else .bad | none => .bad := rfl
@[simp] theorem ext_r {m : Nat} : fExtend (.ref n) [.ref m] S = match getL S n, getL S m with | some l, some r => if l.length + r.length ≤ 16777216 then .ok .non (S.set n (.lst (l ++ r))) else .bad | _, _ => .bad := rfl
@[simp] theorem pop_r : fPop (.ref n) [] S = match getL S n with | some l => (match l[l.length - 1]? with | some y => .ok y (S.set n (.lst l.dropLast)) | none => .bad) | none => .bad := rfl
@[simp] theorem tr_r : truD (.ref n) S = match S[n]? with | some (.lst ds) => some (!ds.isEmpty) | some (.dct kvs) => some (!kvs.isEmpty) | _ => none := by
  first
    | rfl
    | (unfold truD
       dsimp only
       cases h : S[n]? with
       | none => rfl
       | some o => cases o <;> rfl)
@[simp] theorem ev_gT {k : Nat} {u : Tgts} {l : List D} {ρ : Rho} : gT k u (.tup l) ρ S = if l.length = k then u l ρ S else none := by rfl
@[simp] theorem ev_gsc {t : Tgt} {u : Tgts} {l : List D} {ρ : Rho} : gsCons t u (d :: l) ρ S = (t d ρ S).bind fun ρ' => u l ρ' S := by
  unfold gsCons; rfl
@[simp] theorem ev_gsn {ρ : Rho} : gsNil [] ρ S = some ρ := rfl
theorem gc_top {b : Bool} {S' : Store} : gcR [] (.ok (.bl b) S') = .ok (.bl b) [] := by
  rw [gc_ok ⟨Nat.zero_le _, fun i hi => absurd hi (Nat.not_lt_zero _)⟩ bel_b]; rfl
theorem lc_pure {tg : Tgt} {el : ME} {n : Nat} {ρ : Rho} (f : D → D) : ∀ (ds acc : List D) (S : Store), (∀ d ∈ ds, ∀ S, ∃ ρ1, tg d ρ S = some ρ1 ∧ el ρ1 S = .ok (f d) S) → getL S n = some acc → acc.length + ds.length ≤ 16777216 →
    lcItems (fun _ => True) tg mYes el n ρ ds S = .ok (.ref n) (S.set n (.lst (acc ++ ds.map f)))
  | [], acc, S, _, g, _ => by
    rw [lcItems, if_pos trivial, List.map_nil, List.append_nil, set_same g]
  | d :: ds, acc, S, h, g, hl => by
    obtain ⟨ρ1, h1, h2⟩ := h d List.mem_cons_self S
    have hl2 : acc.length < 16777216 := by rw [List.length_cons] at hl; omega
    rw [lcItems, if_pos trivial, h1]
    simp only [ev_yes, h2, g, if_pos hl2]
    rw [lc_pure f ds (acc ++ [f d]) (S.set n (.lst (acc ++ [f d]))) (fun x hx => h x (List.mem_cons_of_mem _ hx)) (get_set (get_lt g)) (by rw [List.length_append, List.length_cons, List.length_nil]; rw [List.length_cons] at hl; omega), List.set_set, List.map_cons, List.append_assoc]
    rfl
theorem lc_guard {P : Store → Prop} {tg : Tgt} {el : ME} {n : Nat} {ρ : Rho} (f : D → D) (hP : ∀ S l, P S → P (S.set n (.lst l))) : ∀ (ds acc : List D) (S : Store), P S → (∀ d ∈ ds, ∀ S, ∃ ρ1, tg d ρ S = some ρ1 ∧ el ρ1 S = .ok (f d) S) → getL S n = some acc → acc.length + ds.length ≤ 16777216 →
    lcItems P tg mYes el n ρ ds S = .ok (.ref n) (S.set n (.lst (acc ++ ds.map f)))
  | [], acc, S, p, _, g, _ => by
    rw [lcItems, if_pos p, List.map_nil, List.append_nil, set_same g]
  | d :: ds, acc, S, p, h, g, hl => by
    obtain ⟨ρ1, h1, h2⟩ := h d List.mem_cons_self S
    have hl2 : acc.length < 16777216 := by rw [List.length_cons] at hl; omega
    rw [lcItems, if_pos p, h1]
    simp only [ev_yes, h2, g, if_pos hl2]
    rw [lc_guard f hP ds (acc ++ [f d]) (S.set n (.lst (acc ++ [f d]))) (hP _ _ p) (fun x hx => h x (List.mem_cons_of_mem _ hx)) (get_set (get_lt g)) (by rw [List.length_append, List.length_cons, List.length_nil]; rw [List.length_cons] at hl; omega), List.set_set, List.map_cons, List.append_assoc]
    rfl
end
end FL
end

section
set_option autoImplicit false
/-! defs that never raise, called within a suite -/
namespace FL
open PySem L2 PyProof.Rows
def noX : XK := fun _ _ _ => False
structure FnQ (P : Program) (w : World) (K : PySem.W.Frag) (mg : Str → Option Value) (base : Heap) (k : Nat) (f : Addr) (fd : FuncData) (ps : List Str) (sp : Sp) : Prop where
  len : ∀ vs H Q, sp vs H Q noX → vs.length = ps.length
  run : ∀ (A : Around) (outer : List Env) (s : Shared) (H : Hp) (args : Args) (us : List Value) (vs : List V) (Q : VK), L2H.RoomH k A → Env0 P w K mg base A outer s H → BindsTo s fd args (ps.zip us) → Vals vs us → sp vs H Q noX →
    codeAny (model P w) A (.call (.ref f) args) (CR (L2N.CX P w) outer P w H s Q noX) s
def cxQ (P : Program) (w : World) (K : PySem.W.Frag) (mg : Str → Option Value) (base : Heap) (N : List Str) (qual : Str) (scope : Scope) (f : Addr) (cd : Value) (A : Around) (outer : List Env) (s : Shared) (H : Hp) : Cx :=
  { cxOf (L2N.CX P w) P w K mg base N qual scope f cd A outer s H noX with calm := false }
theorem inv_startQ {P : Program} {w : World} {K : PySem.W.Frag} {mg : Str → Option Value} {base : Heap} {N ps : List Str} {qual : Str} {scope : Scope} {f : Addr} {cd : Value} {A : Around} {outer : List Env} {s s1 : Shared} {H : Hp} {us : List Value} {vs : List V}
    (S : FnScope N ps scope) (e0 : Env0 P w K mg base A outer s H) (hl : vs.length = ps.length) (r : Vals vs us)
    (xc : InCallC s s.heap.objs.size (bindL (envOfC qual scope s.heap.objs.size f cd).kindOf (ps.zip us) fun _ => none) (cellsFrom (s.heap.objs.size + 1) scope.names []) (bindC (envOfC qual scope s.heap.objs.size f cd).kindOf (ps.zip us) fun _ => none) s1) :
    Inv (cxQ P w K mg base N qual scope f cd A outer s H) [] (L2.start N vs) H s1 := by
  have e1 : Env0 P w K mg base { A with handled := none } outer s H := ⟨e0.frames, e0.mod, e0.bs, e0.bsz, e0.funs, e0.frf, e0.hok, e0.bare⟩
  have J : Inv (cxOf (L2N.CX P w) P w K mg base N qual scope f cd { A with handled := none } outer s H noX) [] (L2.start N vs) H s1 := inv_start (A := { A with handled := none }) S rfl e1 hl r xc
  have O : (cxQ P w K mg base N qual scope f cd A outer s H).Ok := ⟨J.ok.mod, J.ok.kind, J.ok.glob, J.ok.blt, J.ok.above, J.ok.inj, J.ok.has, J.ok.cab, (fun z => Bool.noConfusion (show false = true from z)), Around.frames_deeper e0.frames, J.ok.stk, J.ok.exf, J.ok.bs, J.ok.bsz, J.ok.noex, J.ok.exfs, J.ok.funs, J.ok.frf⟩
  exact ⟨O, J.os, J.bare, J.base, J.loc, J.cell, J.free, J.freeC, J.pin, J.hok, J.len⟩
section
variable {P : Program} {w : World} {mg : Str → Option Value} {base : Heap} {g : G}
/-- THE RULE for a def that never raises -/
theorem fn_okQ {x qual : Str} {st : Stmt} {f : Addr} {fd : FuncData} {N ps : List Str} {k : Nat} {ms : MS} (F : Fun g.K x qual st f fd) (Sc : FnScope N ps (defScope st))
    (h : ∀ (cdv : Value) (A : Around) (outer : List Env) (s : Shared) (H : Hp), L2H.RoomH k (A.deeper (envOfC qual (defScope st) s.heap.objs.size f cdv)) → FSs (cxQ P w g.K mg base N qual (defScope st) f cdv A outer s H) g none W0 (defBody st) ms) :
    FnQ P w g.K mg base (k + 1) f fd ps (spM g ps.length (mFn N.length ms)) := by
  obtain ⟨o1, o2, o3, o4, o5, o6, cdv, o7, o8, rfl, lk, hcd⟩ := F.ex
  have len : ∀ vs H Q, spM g ps.length (mFn N.length ms) vs H Q noX → vs.length = ps.length := fun vs H Q ⟨As, ds, S, h1, _, h2, _⟩ => by rw [← h1.len, h2]
  refine ⟨len, fun A outer s H args us vs Q hr e0 hb r hsp => ?_⟩
  have hl := len _ _ _ hsp
  have KX : g.K.In s.heap := e0.mod.kin.keeps fun b o e => (e0.bs b o e).1
  have lm : s.heap.NoLimit := e0.mod.nolimit.keeps fun b o e => (e0.bs b o e).1
  have kinds : ∀ z ∈ ps.zip us, (defScope st).names.lookup z.1 = some .local ∨ ((defScope st).names.lookup z.1 = some .cell ∧ ((cellsFrom (s.heap.objs.size + 1) (defScope st).names []).lookup z.1).isSome = true) := fun ⟨n, v⟩ hz => by
    rcases Sc.par n (List.of_mem_zip hz).1 with q | q
    · exact .inl q
    · exact Or.inr ⟨q, PySem.W.cellsFrom_some _ _ _ (Or.inl q)⟩
  refine codeAny_call_function hr.depth (KX _ _ lk) rfl Sc.co Sc.gen rfl (PySem.W.codeRec_of KX hcd) (hb _ _ _ _ ?_)
  refine wpAny_newFunctionEnv_cells Sc.kind kinds fun env he s1 x => ?_
  subst he
  refine ⟨lm.keeps x.toInCall.keep, codeAny_func ?_⟩
  obtain ⟨As, ds, S, i1, i2, i3, i4⟩ := hsp
  obtain ⟨_, t, pt, sn⟩ := (h cdv A outer s H (hr.deeper _)).ex
  have I : Inv (cxQ P w g.K mg base N qual (defScope st) f cdv A outer s H) [] (L2.start N vs) H s1 := inv_startQ Sc e0 hl r x
  have hq : t { nx := fun _ H' => Q .non H', rt := Q } (L2.start N vs) H := by
    refine sn _ H As (rho0 N.length ds) S (env0 i1) i2 _ ?_
    unfold mFn at i4
    cases r : ms (rho0 N.length ds) S with
    | nx ρ' S' => rw [r] at i4; exact fun σ' H' As' e st1 _ => i4 .non H' As' e st1 .non
    | rt d S' => rw [r] at i4; exact i4
    | err c es ρ' S' => rw [r] at i4; exact fun σ' dd H' As' e st1 _ x => i4 dd H' As' e st1 x
    | bk ρ' S' => rw [r] at i4; exact i4.elim
    | ct ρ' S' => rw [r] at i4; exact i4.elim
    | bad => rw [r] at i4; exact i4.elim
  refine wpAny_mono (pt.run [] s1 (L2.start N vs) H _ I hq) (fun fl s' hs => ?_) fun e s' hs => hs
  have done : ∀ {σ' : L2.St} {H' : Hp} {v : V} {u : Value}, Inv (cxQ P w g.K mg base N qual (defScope st) f cdv A outer s H) [] σ' H' s' → RelV v u → Q v H' → CE outer P w H s Q u s' :=
    fun {σ' H' v u} J rv hq => ⟨v, H', J.os, J.bare, J.base, J.hok, rv, hq⟩
  cases fl with
  | ret u => obtain ⟨v, σ', H', J, rv, q⟩ := hs; exact done J rv q
  | next => obtain ⟨σ', H', J, q⟩ := hs; exact done (v := V.non) (u := Value.none) J rfl q
  | brk => obtain ⟨_, _, _, q⟩ := hs; exact q.elim
  | cont => obtain ⟨_, _, _, q⟩ := hs; exact q.elim
theorem fn_gcQ {f : Addr} {fd : FuncData} {ps : List Str} {k n : Nat} {mf : MF} (F : FnQ P w g.K mg base k f fd ps (spM g n mf)) : FnQ P w g.K mg base k f fd ps (spM g n (gcF mf)) := by
  have im : ∀ vs H Q, spM g n (gcF mf) vs H Q noX → spM g n mf vs H Q noX := fun vs H Q ⟨As, ds, S, h1, h2, h3, h4⟩ => ⟨As, ds, S, h1, h2, h3, ?_⟩
  · exact ⟨fun vs H Q h => F.len vs H Q (im _ _ _ h), fun A outer s H args us vs Q hr e0 hb r h => F.run A outer s H args us vs Q hr e0 hb r (im _ _ _ h)⟩
  · have z := Post.gc (W := fun c d _ H => noX c d H) (σ := []) (Q := Q) (r := mf ds S) h2 (by
      unfold gcF at h4
      cases r : gcR S (mf ds S) with
      | ok d S' => rw [r] at h4; exact h4
      | err c es S' => rw [r] at h4; exact h4
      | bad => rw [r] at h4; exact h4)
    cases r : mf ds S with
    | ok d S' => rw [r] at z; exact z
    | err c es S' => rw [r] at z; exact z
    | bad => rw [r] at z; exact z
end
section
variable {X : Cx} {g : G} {hx : HX} {a b c e : Expr} {pos : Pos} {es : List Expr} {mas : MA}
theorem roomQ {k j : Nat} {A : Around} (r : Room k A) (h : j ≤ k) : L2H.RoomH j A := (L2H.roomH_of r).mono h
theorem unitsH {k : Nat} {A : Around} (r : L2H.RoomH k A) : A.units + 64 < cLine := by have := r.un; omega
theorem roomS {k j : Nat} {A A' : Around} (r : Room k A) (h : j ≤ k) (h1 : A'.depth = A.depth) (h2 : A'.units = A.units) : L2H.RoomH j A' := ⟨by rw [h1]; exact ((L2H.roomH_of r).mono h).dp, by rw [h2]; exact ((L2H.roomH_of r).mono h).un⟩
theorem fe_callQ {f : Addr} {fd : FuncData} {ps : List Str} {k n : Nat} {mf : MF} {x : Str} {p : Pos} (F : FnQ X.prog X.w g.K X.mg X.base k f fd ps (spM g n mf)) (hr : L2H.RoomH k X.A) (hm : X.mg x = some (.ref f)) (hk : PySem.W.keepIn g.K (.ref f) = true) (hb : Binds g.K fd ps [])
    (ha : FA X g hx W0 (e :: es) mas) (hn : ∀ ρ S ds S', mas ρ S = .ok ds S' → ds.length = n) (hg : Gl X x := by rfl) (hdb : (x == ("__debug__" : Str)) = false := by decide) (he : starEach (e :: es) X.env = (false, eval e X.env) :: starEach es X.env := by rfl) (hpl : (backTo pos (starEach es X.env)).any (·.1) = false := by rfl) :
    FE X g hx W0 (.Call (.Name x p) (e :: es) [] pos) (mCB mf mas) := by
  obtain ⟨hK, t, pa, s⟩ := ha.ex
  have F2 : FnQ X.prog X.w X.K X.mg X.base k f fd ps (spM g n mf) := by rw [hK]; exact F
  have hk2 : PySem.W.keepIn X.K (.ref f) = true := by rw [hK]; exact hk
  have hb2 : Binds X.K fd ps [] := by rw [hK]; exact hb
  refine ⟨hK, fun σ H Q => t σ H fun vs H1 => spM g n mf vs H1 Q noX, ⟨fun pins s σ H Q I h => ?_⟩, fun σ H As ρ S he hs Q hp => ?_⟩
  · refine wpAny_Call_Name_kw (ld_glob I hg hm ?_ hdb)
    refine PySem.W.callWith_K (h₀ := X.base) I.ok.mod.kin hk2 (thn (pa.run pos pins s σ H _ I h) fun us s1 ⟨vs, H1, I1, r, q⟩ => ⟨I1.kIn, ?_⟩) he hpl
    have hl : us.length = ps.length := by rw [← r.length]; exact F2.len _ _ _ q
    have bb := hb2 s1 us I1.kIn (by rw [List.append_nil]; exact hl)
    rw [List.append_nil] at bb
    refine wpAny_call (codeAny_mono (F2.run X.A X.stack s1 H1 ⟨us, []⟩ us vs Q hr I1.env0 bb r q) fun r s' hq => ?_)
    cases r with
    | error e =>
      obtain ⟨_, _, _, _, _, _, _, _, _, _, _, _, z⟩ := hq
      exact z.elim
    | ok fl =>
      cases fl with
      | ret u => exact I1.after hq
      | next => exact hq.elim
      | brk => exact hq.elim
      | cont => exact hq.elim
  · unfold mCB at hp
    cases r : mas ρ S with
    | err c es' S' => rw [r] at hp; exact s σ H As ρ S he hs _ (by rw [r]; exact hp)
    | bad => rw [r] at hp; exact hp.elim
    | ok ds S1 =>
      rw [r] at hp
      refine s σ H As ρ S he hs _ ?_
      rw [r]
      intro vs H1 As1 e1 s1 i1
      refine ⟨As1, ds, S1, i1, s1, hn ρ S ds S1 r, ?_⟩
      have hp2 := Post.up hp e1
      rw [bind_ok] at hp2
      cases q : mf ds S1 with
      | ok d S' => rw [q] at hp2; exact hp2
      | err c es' S' => rw [q] at hp2; exact hp2
      | bad => rw [q] at hp2; exact hp2
end
end FL
end

section
set_option autoImplicit false
/-! enumerate over a tuple, a text -/
namespace PySem
theorem fl_enumNew {v : Value} {o : Obj} {Hs : Heap → Prop} (B : Begins v o Hs) :
    Meets (Builtin.«enumerate.__new__» ⟨[.type "enumerate", v], []⟩) (fun _ R s => Hs s.heap ∧
      R (.ok (.ret (.ref (s.heap.push o).objs.size))) { s with heap := (s.heap.push o).push { cls := .type "enumerate", data := .fields #[.none, .bool false, .ref s.heap.objs.size, rawInt 0, .none, .none] } }) :=
  .of_wp fun prog w A R s hh => by
    obtain ⟨hp, gg, dd, tk, os⟩ := s
    obtain ⟨hb, hr⟩ := hh
    have hsub := sub_enumerate
    have qq : ∀ {A2 : Around} {E2 : Value → Shared → Prop} {Q2 : Value → Shared → Prop}, Q2 (.ref hp.objs.size) ⟨hp.push o, gg, dd, tk, os⟩ → wpAny (model prog w) A2 (pyIter v) Q2 E2 ⟨hp, gg, dd, tk, os⟩ :=
      fun z => B.iter prog w _ _ ⟨hp, gg, dd, tk, os⟩ _ hb z
    wp_walk using qq
    refine wpAny_stack_any fun _ => wpAny_pure ?_
    split
    · rename_i c _ _ _ _ _
      cases (c == Value.type "enumerate") <;> (wp_walk using qq; exact ⟨_, rfl, hr⟩)
    · wp_walk using qq
      exact ⟨_, rfl, hr⟩
theorem fl_enum {prog : Program} {w : World} {A : Around} {E : Value → Shared → Prop} {s : Shared} {v : Value} {o : Obj} {Hs : Heap → Prop} {Q : Value → Shared → Prop} (B : Begins v o Hs) (hb : Hs s.heap)
    (h : ∀ h2, IsEnum h2 (s.heap.objs.size + 1) s.heap.objs.size 0 .none → h2.get? s.heap.objs.size = some o → (∀ b u, s.heap.get? b = some u → h2.get? b = some u) → Q (.ref (s.heap.objs.size + 1)) { s with heap := h2 }) :
    wpAny (model prog w) A (call (.type "enumerate") [v]) Q E s := by
  have hz : (s.heap.push o).objs.size = Nat.succ s.heap.objs.size := Heap.size_push ..
  refine callType_new F.called_enumerate (by decide) (F.typeCall_enumerate_1 _) (F.newCall_enumerate_1 _) (fun x => F.args_object_init_2 x _) F.entry_enumerate_new (fl_enumNew B) ⟨hb, ?_⟩
  show _ ∧ _
  have he : IsEnum ((s.heap.push o).push { cls := .type "enumerate", data := .fields #[.none, .bool false, .ref s.heap.objs.size, rawInt 0, .none, .none] }) (s.heap.objs.size + 1) s.heap.objs.size 0 .none := by
    have z := Heap.get?_push_size (s.heap.push o) (o := { cls := .type "enumerate", data := .fields #[.none, .bool false, .ref s.heap.objs.size, rawInt 0, .none, .none] }) rfl
    rw [hz] at z
    exact z
  rw [hz]
  exact ⟨⟨_, he, rfl⟩, h _ he (Heap.get?_push_of_some _ (Heap.get?_push_size _ B.free)) fun b u x => Heap.get?_push_of_some _ (Heap.get?_push_of_some _ x)⟩
end PySem
namespace FL
open PySem L2 PyProof.Rows
/-- the pairs of a source: its items are told by row -/
def ItEn (src : Hp → Prop) (row : Nat → V → Hp → Prop) (n : Nat) : It :=
  ⟨fun i H => i < n ∧ src H, fun i H v H' => ∃ T x, ∃ o : Obj, v = .ref T ∧ H T = none ∧ o.dict = none ∧ H' = upd H T (.frz o (.tup [.int (i : Nat), x])) ∧ row i x H, fun i H => i = n ∧ src H⟩
theorem en_turn {P : Program} {w : World} {K : PySem.W.Frag} {elts : List Expr} {kk : Nat} {tpos : Pos} (e it : Addr) (St0 : Nat → Heap → Prop) (src : Hp → Prop) (row : Nat → V → Hp → Prop) (n : Nat)
    (hcell : ∀ i h, St0 i h → ∃ o, h.get? it = some o ∧ ∀ v, o.data ≠ .cell v) (hat : ∀ i h h', St0 i h → (∀ o, h.get? it = some o → h'.get? it = some o) → St0 i h')
    (hD : ∀ (X : Cx), X.prog = P → X.w = w → X.K = K → X.calm = true → ∀ (pins : List (Addr × Obj)) (s : Shared) (σ : L2.St) (H : Hp), Inv X pins σ H s → src H → ∃ (fp : List Addr) (Pv : Nat → Value → Prop) (St : Nat → Heap → Prop), Draws P w X.A.in1 it fp n Pv St ∧
      (∀ i, St0 i s.heap → St i s.heap) ∧ (∀ i h, St i h → St0 i h) ∧ (∀ b ∈ fp, ∀ old i, St0 i s.heap → IsEnum s.heap e it i old → b ≠ e) ∧ ∀ i x, i < n → Pv i x → ∃ v, row i v H ∧ RelV v x) :
    Turn P w K (.Tuple elts kk tpos) (ItEn src row n) [e, it] e (fun i h => (∃ old, IsEnum h e it ((i : Nat) : Int) old) ∧ St0 i h ∧ e ≠ it) where
  mem := List.mem_cons_self
  obj := fun i h ⟨⟨old, he⟩, hs, _⟩ b hb => by
    rcases List.mem_cons.mp hb with hb | hb
    · subst hb; exact ⟨_, he, fun v q => nomatch q⟩
    · rw [List.mem_singleton.mp hb]; exact hcell i h hs
  keep := fun i h h' ⟨⟨old, he⟩, hs, hne⟩ k => ⟨⟨old, k e List.mem_cons_self _ he⟩, hat i h h' hs fun o q => k it (List.mem_cons_of_mem _ List.mem_cons_self) o q, hne⟩
  item := by
    intro X hP hw hK hc i pins s σ H E I hf st ⟨hi, hsrc⟩
    subst hP hw hK
    obtain ⟨⟨old, he⟩, h0, hne⟩ := st
    obtain ⟨fp, Pv, St, D, hin, hout, hfp, hrow⟩ := hD X rfl rfl rfl hc pins s σ H I hsrc
    have hef : e ∉ fp := fun m => hfp e m old i h0 he rfl
    have hel : e < s.heap.objs.size := by exact Heap.lt_size he
    have hil : it < s.heap.objs.size := by obtain ⟨o, q, _⟩ := hcell i _ h0; exact Heap.lt_size q
    refine wpAny_pyNext_enum_itemD D he (hin i h0) hi hne hef fun x h1 tk hP ho hs1 hT hsz hk => ?_
    refine ⟨_, rfl, wpAny_letOwnedTupleGo_enum (s := { s with heap := h1, toks := tk + 1 }) ho fun h2 he2 sb => ?_⟩
    obtain ⟨v, rv, rx⟩ := hrow i x hi hP
    have hT2 : h2.get? s.heap.objs.size = some { cls := .type "tuple", data := .seq #[.int i tk, x] } := (sb.2 _ (Nat.ne_of_gt hel)).trans hT
    have hnew : H s.heap.objs.size = none := I.hok.fresh (Nat.le_refl _)
    have new : ObjOk X.prog X.w (upd H s.heap.objs.size (.frz { cls := .type "tuple", data := .seq #[.int i tk, x] } (.tup [.int (i : Nat), v]))) h2 s.heap.objs.size (.frz { cls := .type "tuple", data := .seq #[.int i tk, x] } (.tup [.int (i : Nat), v])) :=
      ⟨hT2, by show 2 ≤ sizeLine; decide, [.int i tk, x], .cons ⟨_, rfl⟩ (.cons rx .nil), ⟨_, hT2, rfl, _, rfl⟩⟩
    have I1 : Inv X pins σ (upd H s.heap.objs.size (.frz { cls := .type "tuple", data := .seq #[.int i tk, x] } (.tup [.int (i : Nat), v]))) { s with heap := h2, toks := tk + 1 } :=
      I.turnedNew (ch := [e, it]) (fun b ob hb q => by
        have h1 : b ≠ e := fun z => hb (by rw [z]; exact List.mem_cons_self)
        have h2 : b ≠ it := fun z => hb (by rw [z]; exact List.mem_cons_of_mem _ List.mem_cons_self)
        exact (sb.2 b h1).trans (hk b ob h1 h2 q)) hf (Nat.le_refl _) new
    refine ⟨.ref s.heap.objs.size, _, I1, rfl, ⟨_, v, _, rfl, hnew, rfl, rfl, rv⟩, ⟨⟨x, ?_⟩, hat _ _ _ (hout _ _ hs1) (fun o q => (sb.2 it (Ne.symm hne)).trans q), hne⟩, fun b hb => ?_⟩
    · have up1 : ((i + 1 : Nat) : Int) = (i : Int) + 1 := by omega
      rw [up1]
      exact he2
    · have hlt : b < s.heap.objs.size := by
        rcases List.mem_cons.mp hb with hb | hb
        · subst hb; exact hel
        · rw [List.mem_singleton.mp hb]; exact hil
      rw [upd_ne (Nat.ne_of_lt hlt)]; exact (hf b hb).1
  done := by
    intro X hP hw hK hc i pins s σ H E I hf st ⟨hi, hsrc⟩
    subst hP hw hK
    subst hi
    obtain ⟨⟨old, he⟩, h0, hne⟩ := st
    obtain ⟨fp, Pv, St, D, hin, hout, hfp, hrow⟩ := hD X rfl rfl rfl hc pins s σ H I hsrc
    obtain ⟨f0, f1, f2, f3, f4, f5⟩ := hf it (List.mem_cons_of_mem _ List.mem_cons_self)
    exact wpAny_pyNext_enum_endD D he (hin _ h0) fun h' eb => ⟨rfl, I.turned (t' := s.toks) (fun b o hb q => eb b o hb q) f0 f1 f3 f4 f5⟩
  self := fun A i s Q E st hq => let ⟨⟨_, he⟩, _⟩ := st; wpAny_pyIter_enum he hq
theorem walk_en {src : Hp → Prop} {row : Nat → V → Hp → Prop} {n : Nat} : Walk (ItEn src row n) n src (fun i H v H' => i < n ∧ ∃ T x, ∃ o : Obj, v = .ref T ∧ H T = none ∧ o.dict = none ∧ H' = upd H T (.frz o (.tup [.int (i : Nat), x])) ∧ row i x H) where
  goes := fun i H hi g => ⟨hi, g⟩
  stops := fun H g => ⟨rfl, g⟩
  yields := fun i H v H' hi _ y => ⟨hi, y⟩
/-- the pairs (0, first item), (1, second item) .. -/
def pairsD : Nat → List D → List D
  | _, [] => []
  | k, d :: ds => .tup [.int (k : Nat), d] :: pairsD (k + 1) ds
theorem pairsD_len : ∀ (k : Nat) (ds : List D), (pairsD k ds).length = ds.length
  | _, [] => rfl
  | k, d :: ds => by unfold pairsD; rw [List.length_cons, List.length_cons, pairsD_len (k + 1) ds]
theorem pairsD_get : ∀ (k : Nat) (ds : List D) (i : Nat) (d : D), ds[i]? = some d → (pairsD k ds)[i]? = some (.tup [.int ((k + i : Nat) : Int), d])
  | _, [], _, _, h => by simp at h
  | k, e :: ds, 0, d, h => by simp at h; subst h; rfl
  | k, e :: ds, i + 1, d, h => by
    unfold pairsD
    rw [List.getElem?_cons_succ, pairsD_get (k + 1) ds i d (by simpa using h)]
    congr 5
    omega
section
variable {X : Cx} {g : G} {hx : HX} {W : WX} {e : Expr} {m : ME} {pos p tpos : Pos} {elts : List Expr} {kk : Nat}
def iEnT (K : PySem.W.Frag) (ta : TA) : TI := fun σ H R => ta σ H fun vs H1 => ∃ t xs, vs = [.ref t] ∧ SqT K H1 t xs ∧ R (ItEn (fun H => SqT K H t xs) (fun i x _ => xs[i]? = some x) xs.length) H1
theorem pi_enT {ta : TA} (hg : Gl X "enumerate") (hm : X.mg "enumerate" = none) (ha : PA X [e] ta) (hs : starEach [e] X.env = [(false, eval e X.env)]) : PI X (.Tuple elts kk tpos) (.Call (.Name "enumerate" p) [e] [] pos) (iEnT X.K ta) := by
  constructor
  intro pins s σ H R I hR
  refine Call_ (ld_blt I hg hm boot_enumerate (PyProof.Rows.callWith_type1 (thn (ha.run pos pins s σ H _ I hR) fun us s1 ⟨vs, H1, I1, r1, t, xs, ex, hq, q⟩ => ?_) hs rfl))
  subst ex
  cases r1 with
  | cons r rr =>
    cases rr
    cases r
    obtain ⟨its, rv, ht, hz⟩ := I1.tuple hq
    have htl : t < s1.heap.objs.size := ht.lt
    have hl := rv.length
    refine fl_enum (begins_tuple t its.toArray) (by obtain ⟨o, h1, h2, n, h3⟩ := ht; exact ⟨o, h1, h2, n, h3⟩) fun h2 he hit hk => wpAny_pyIter_enum he ?_
    have I2 : Inv X pins σ H1 { s1 with heap := h2 } := I1.kept (t' := s1.toks) hk
    refine ⟨s1.heap.objs.size + 1, [s1.heap.objs.size + 1, s1.heap.objs.size], _, _, H1, rfl, I2, en_turn (s1.heap.objs.size + 1) s1.heap.objs.size (fun i h => h.IsTupleIter s1.heap.objs.size t i) (fun H => SqT X.K H t xs) (fun i x _ => xs[i]? = some x) xs.length ?_ ?_ ?_, ⟨⟨.none, he⟩, ?_, Nat.succ_ne_self _⟩, fun b hb => ?_, q⟩
    · exact fun i h ⟨o, h1, h2, h3⟩ => ⟨o, h1, fun v z => by rw [h3] at z; cases z⟩
    · exact fun i h h' st k => st.at fun o z => k o z
    · intro Y hP hw hK hc pins2 s2 σ2 Hh J hsq
      obtain ⟨its2, rv2, ht2, hz2⟩ := J.tuple (by rw [hK]; exact hsq)
      have hl2 := rv2.length
      obtain ⟨o2, g1, g2, n2, g3⟩ := ht2
      refine ⟨[s1.heap.objs.size, t], fun i v => its2.toArray[i]? = some v, fun i h => h.IsTupleIter s1.heap.objs.size t i ∧ h.IsTuple t its2.toArray, ?_, fun i st => ⟨st, o2, g1, g2, n2, g3⟩, fun i h st => st.1, ?_, ?_⟩
      · have D := Draws.tuple (prog := X.prog) (w := X.w) (A := Y.A.in1) (J.ok.hd hc) s1.heap.objs.size t (Nat.ne_of_lt htl) its2.toArray
        rw [show its2.toArray.size = xs.length by simp; exact hl2.symm] at D
        exact D
      · intro b hb old i _ _
        have e' : b = s1.heap.objs.size ∨ b = t := by simpa using hb
        rcases e' with z | z
        · rw [z]; exact Nat.ne_of_lt (Nat.lt_succ_self _)
        · rw [z]; exact Nat.ne_of_lt (Nat.lt_succ_of_lt htl)
      · intro i x hi hx
        refine ⟨xs[i]'hi, by simp, ?_⟩
        obtain ⟨u, hu, ru⟩ := rv2.get (List.getElem?_eq_getElem hi)
        have hx' : its2[i]? = some x := by simpa using hx
        rw [hx'] at hu
        cases hu
        exact ru
    · exact ⟨_, hit, rfl, rfl⟩
    · have hle : s1.heap.objs.size ≤ b := by
        rcases List.mem_cons.mp hb with z | z
        · rw [z]; exact Nat.le_succ _
        · rw [List.mem_singleton.mp z]; exact Nat.le_refl _
      exact I1.fpOk hle (I1.hok.fresh hle)
def iEnS (ta : TA) : TI := fun σ H R => ta σ H fun vs H1 => ∃ z : Str, vs = [.str z] ∧ R (ItEn (fun _ => True) (fun i x _ => ∃ c, z.cps[i]? = some c ∧ x = .str ⟨#[c]⟩) z.cps.size) H1
theorem pi_enS {ta : TA} (hg : Gl X "enumerate") (hm : X.mg "enumerate" = none) (ha : PA X [e] ta) (hs : starEach [e] X.env = [(false, eval e X.env)]) : PI X (.Tuple elts kk tpos) (.Call (.Name "enumerate" p) [e] [] pos) (iEnS ta) := by
  constructor
  intro pins s σ H R I hR
  refine Call_ (ld_blt I hg hm boot_enumerate (PyProof.Rows.callWith_type1 (thn (ha.run pos pins s σ H _ I hR) fun us s1 ⟨vs, H1, I1, r1, y, ex, q⟩ => ?_) hs rfl))
  subst ex
  cases r1 with
  | cons r rr =>
    cases rr
    obtain ⟨tk, rfl⟩ := r
    refine fl_enum (begins_text y tk) trivial fun h2 he hit hk => wpAny_pyIter_enum he ?_
    have I2 : Inv X pins σ H1 { s1 with heap := h2 } := I1.kept (t' := s1.toks) hk
    refine ⟨s1.heap.objs.size + 1, [s1.heap.objs.size + 1, s1.heap.objs.size], _, _, H1, rfl, I2, en_turn (s1.heap.objs.size + 1) s1.heap.objs.size (fun i h => h.IsStrIter s1.heap.objs.size (strIterType y) y tk i) (fun _ => True) (fun i x _ => ∃ c, y.cps[i]? = some c ∧ x = .str ⟨#[c]⟩) y.cps.size ?_ ?_ ?_, ⟨⟨.none, he⟩, ?_, Nat.succ_ne_self _⟩, fun b hb => ?_, q⟩
    · exact fun i h ⟨o, h1, h2, h3⟩ => ⟨o, h1, fun v z => by rw [h3] at z; cases z⟩
    · exact fun i h h' ⟨o, h1, h2⟩ k => ⟨o, k o h1, h2⟩
    · intro Y hP hw hK hc pins2 s2 σ2 Hh J _
      refine ⟨[s1.heap.objs.size], fun i v => ∃ c u, y.cps[i]? = some c ∧ v = .str ⟨#[c]⟩ u, fun i h => h.IsStrIter s1.heap.objs.size (strIterType y) y tk i, Draws.text (prog := X.prog) (w := X.w) (A := Y.A.in1) (J.ok.hd hc) s1.heap.objs.size y tk, fun i st => st, fun i h st => st, ?_, ?_⟩
      · intro b hb old i _ _
        rw [List.mem_singleton.mp hb]
        exact Nat.ne_of_lt (Nat.lt_succ_self _)
      · rintro i x hi ⟨c, u, h1, rfl⟩
        exact ⟨.str ⟨#[c]⟩, ⟨c, h1, rfl⟩, ⟨u, rfl⟩⟩
    · exact ⟨_, hit, rfl, rfl⟩
    · have hle : s1.heap.objs.size ≤ b := by
        rcases List.mem_cons.mp hb with z | z
        · rw [z]; exact Nat.le_succ _
        · rw [List.mem_singleton.mp z]; exact Nat.le_refl _
      exact I1.fpOk hle (I1.hok.fresh hle)
def signsD (s : Str) : List D := s.cps.toList.map fun c => .str ⟨#[c]⟩
def mEnT (mas : MA) : MI := fun ρ S => (mas ρ S).bind fun ds S1 => match ds with
  | [.tup ds] => .ok ⟨pairsD 0 ds, fun _ => True⟩ S1
  | _ => .bad
def mEnS (mas : MA) : MI := fun ρ S => (mas ρ S).bind fun ds S1 => match ds with
  | [.str s] => .ok ⟨pairsD 0 (signsD s), fun _ => True⟩ S1
  | _ => .bad
def mEnL (mas : MA) : MI := fun ρ S => (mas ρ S).bind fun ds S1 => match ds with
  | [.ref n] => match getL S1 n with
    | some ds => .ok ⟨pairsD 0 ds, fun S => S[n]? = some (.lst ds)⟩ S1
    | none => .bad
  | _ => .bad
def kEnum (ds : List D) (S1 : Store) : R Src := match ds with
  | [.tup ds] => .ok ⟨pairsD 0 ds, fun _ => True⟩ S1
  | [.str s] => .ok ⟨pairsD 0 (signsD s), fun _ => True⟩ S1
  | [.ref n] => match getL S1 n with
    | some ds => .ok ⟨pairsD 0 ds, fun S => S[n]? = some (.lst ds)⟩ S1
    | none => .bad
  | _ => .bad
def mEnum (mas : MA) : MI := fun ρ S => (mas ρ S).bind kEnum
/-- the new pair is data -/
theorem en_new {H : Hp} {As : List Addr} {S : Store} {T : Addr} {x : V} {d : D} {i : Nat} {o : Obj} (s : StOk g H As S) (hn : H T = none) (hd : o.dict = none) (r : Is g.K H As d x) : Ext H As (upd H T (.frz o (.tup [.int (i : Nat), x]))) As ∧ StOk g (upd H T (.frz o (.tup [.int (i : Nat), x]))) As S ∧ Is g.K (upd H T (.frz o (.tup [.int (i : Nat), x]))) As (.tup [.int (i : Nat), d]) (.ref T) := by
  have ex := Ext.side (u := .frz o (.tup [.int (i : Nat), x])) s hn
  exact ⟨ex, s.side hn, .tup (FzT.of upd_same hd) (.cons (.int _) (.cons (r.up ex) .nil))⟩
section
variable {mas : MA}
theorem fi_enT (hm : X.mg "enumerate" = none) (h : FA X g hx W [e] mas) (hg : Gl X "enumerate" := by rfl) (hs : starEach [e] X.env = [(false, eval e X.env)] := by rfl) : FI X g hx W (.Tuple elts kk tpos) (.Call (.Name "enumerate" p) [e] [] pos) (mEnT mas) := by
  obtain ⟨hk, t, pa, s⟩ := h.ex
  refine ⟨hk, _, pi_enT hg hm pa hs, fun σ H As ρ S he hS Q hp => ?_⟩
  refine s σ H As ρ S he hS _ (PostA.bind (P := fun r => PostI g W σ H As r Q) hp (fun ds S1 hp1 vs H1 As1 e1 s1 i1 => ?_) (fun _ _ _ q => q) id)
  split at hp1
  · rename_i ds
    cases i1 with
    | cons i1 i2 =>
      cases i2
      cases i1 with
      | tup h1 r =>
        rw [hk]
        refine ⟨_, _, rfl, h1.sq, hp1 _ H1 As1 e1 s1 (SrcOk.mk walk_en (by rw [pairsD_len, r.len]) (fun H As S ex _ _ => ex.sqT h1.sq) (fun i H As S x H' ex s2 _ hy => ?_))⟩
        obtain ⟨hi, T, y, o, rfl, hn, ho, rfl, hx⟩ := hy
        obtain ⟨d, hd, iv⟩ := (r.up ex).getV hx
        obtain ⟨q1, q2, q3⟩ := en_new (i := i) s2 hn ho iv
        exact ⟨_, by have z := pairsD_get 0 _ i d hd; rw [Nat.zero_add] at z; exact z, q1, q2, q3⟩
  · exact False.elim hp1
theorem fi_enS (hm : X.mg "enumerate" = none) (h : FA X g hx W [e] mas) (hg : Gl X "enumerate" := by rfl) (hs : starEach [e] X.env = [(false, eval e X.env)] := by rfl) : FI X g hx W (.Tuple elts kk tpos) (.Call (.Name "enumerate" p) [e] [] pos) (mEnS mas) := by
  obtain ⟨hk, t, pa, s⟩ := h.ex
  refine ⟨hk, _, pi_enS hg hm pa hs, fun σ H As ρ S he hS Q hp => ?_⟩
  refine s σ H As ρ S he hS _ (PostA.bind (P := fun r => PostI g W σ H As r Q) hp (fun ds S1 hp1 vs H1 As1 e1 s1 i1 => ?_) (fun _ _ _ q => q) id)
  split at hp1
  · rename_i y
    cases i1 with
    | cons i1 i2 =>
      cases i2
      cases i1
      refine ⟨_, rfl, hp1 _ H1 As1 e1 s1 (SrcOk.mk walk_en (by rw [pairsD_len]; unfold signsD; simp) (fun H As S ex _ _ => trivial) (fun i H As S x H' ex s2 _ hy => ?_))⟩
      obtain ⟨hi, T, z, o, rfl, hn, ho, rfl, c, hc, rfl⟩ := hy
      obtain ⟨q1, q2, q3⟩ := en_new (i := i) s2 hn ho (.str ⟨#[c]⟩)
      refine ⟨_, ?_, q1, q2, q3⟩
      have z := pairsD_get 0 (signsD y) i (.str ⟨#[c]⟩) (by unfold signsD; simp [hc])
      rw [Nat.zero_add] at z
      exact z
  · exact False.elim hp1
def srcL (K : PySem.W.Frag) (l : Addr) (n : Nat) (H : Hp) : Prop := ∃ xs : List V, SqL K H l xs ∧ xs.length = n
def rowL (K : PySem.W.Frag) (l : Addr) (i : Nat) (x : V) (H : Hp) : Prop := ∀ xs : List V, SqL K H l xs → xs[i]? = some x
def iEnL (K : PySem.W.Frag) (ta : TA) : TI := fun σ H R => ta σ H fun vs H1 => ∃ l xs, vs = [.ref l] ∧ SqL K H1 l xs ∧ R (ItEn (srcL K l xs.length) (rowL K l) xs.length) H1
theorem pi_enL {ta : TA} (hg : Gl X "enumerate") (hm : X.mg "enumerate" = none) (ha : PA X [e] ta) (hs : starEach [e] X.env = [(false, eval e X.env)]) : PI X (.Tuple elts kk tpos) (.Call (.Name "enumerate" p) [e] [] pos) (iEnL X.K ta) := by
  constructor
  intro pins s σ H R I hR
  refine Call_ (ld_blt I hg hm boot_enumerate (PyProof.Rows.callWith_type1 (thn (ha.run pos pins s σ H _ I hR) fun us s1 ⟨vs, H1, I1, r1, t, xs, ex, hq, q⟩ => ?_) hs rfl))
  subst ex
  cases r1 with
  | cons r rr =>
    cases rr
    cases r
    obtain ⟨its, rv, ht, hz⟩ := I1.list hq
    have htl : t < s1.heap.objs.size := by obtain ⟨o, n, h1, _⟩ := ht; exact Heap.lt_size h1
    have hl := rv.length
    refine fl_enum (begins_list t its.toArray) ht.isList fun h2 he hit hk => wpAny_pyIter_enum he ?_
    have I2 : Inv X pins σ H1 { s1 with heap := h2 } := I1.kept (t' := s1.toks) hk
    refine ⟨s1.heap.objs.size + 1, [s1.heap.objs.size + 1, s1.heap.objs.size], _, _, H1, rfl, I2, en_turn (s1.heap.objs.size + 1) s1.heap.objs.size (fun i h => h.IsListIter s1.heap.objs.size t i) (srcL X.K t xs.length) (rowL X.K t) xs.length ?_ ?_ ?_, ⟨⟨.none, he⟩, ?_, Nat.succ_ne_self _⟩, fun b hb => ?_, q⟩
    · exact fun i h ⟨o, h1, h2, h3⟩ => ⟨o, h1, fun v z => by rw [h3] at z; cases z⟩
    · exact fun i h h' st k => st.at fun o z => k o z
    · rintro Y hP hw hK hc pins2 s2 σ2 Hh J ⟨ys, hsq, hyl⟩
      obtain ⟨its2, rv2, ht2, hz2⟩ := J.list (by rw [hK]; exact hsq)
      have hl2 := rv2.length
      refine ⟨[s1.heap.objs.size, t], fun i v => its2.toArray[i]? = some v, fun i h => h.IsListIter s1.heap.objs.size t i ∧ h.IsList t its2.toArray, ?_, fun i st => ⟨st, ht2.isList⟩, fun i h st => st.1, ?_, ?_⟩
      · have D := Draws.list (prog := X.prog) (w := X.w) (A := Y.A.in1) (J.ok.hd hc) s1.heap.objs.size t (Nat.ne_of_lt htl) its2.toArray
        rw [show its2.toArray.size = xs.length by simp; rw [← hyl]; exact hl2.symm] at D
        exact D
      · intro b hb old i _ _
        have e' : b = s1.heap.objs.size ∨ b = t := by simpa using hb
        rcases e' with z | z
        · rw [z]; exact Nat.ne_of_lt (Nat.lt_succ_self _)
        · rw [z]; exact Nat.ne_of_lt (Nat.lt_succ_of_lt htl)
      · intro i x hi hx
        have hi' : i < ys.length := by omega
        refine ⟨ys[i]'hi', fun zs hzs => ?_, ?_⟩
        · have e3 : zs = ys := J.list_inj (a := t) (by rw [hK]; exact hzs) (by rw [hK]; exact hsq)
          rw [e3]
          exact List.getElem?_eq_getElem hi'
        · obtain ⟨u, hu, ru⟩ := rv2.get (List.getElem?_eq_getElem hi')
          have hx' : its2[i]? = some x := by simpa using hx
          rw [hx'] at hu
          cases hu
          exact ru
    · exact ⟨_, hit, rfl, rfl⟩
    · have hle : s1.heap.objs.size ≤ b := by
        rcases List.mem_cons.mp hb with z | z
        · rw [z]; exact Nat.le_succ _
        · rw [List.mem_singleton.mp z]; exact Nat.le_refl _
      exact I1.fpOk hle (I1.hok.fresh hle)
theorem fi_enL (hm : X.mg "enumerate" = none) (h : FA X g hx W [e] mas) (hg : Gl X "enumerate" := by rfl) (hs : starEach [e] X.env = [(false, eval e X.env)] := by rfl) : FI X g hx W (.Tuple elts kk tpos) (.Call (.Name "enumerate" p) [e] [] pos) (mEnL mas) := by
  obtain ⟨hk, t, pa, s⟩ := h.ex
  refine ⟨hk, _, pi_enL hg hm pa hs, fun σ H As ρ S he hS Q hp => ?_⟩
  refine s σ H As ρ S he hS _ (PostA.bind (P := fun r => PostI g W σ H As r Q) hp (fun ds S1 hp1 vs H1 As1 e1 s1 i1 => ?_) (fun _ _ _ q => q) id)
  split at hp1
  · rename_i n
    cases i1 with
    | cons i1 i2 =>
      cases i2
      split at hp1
      · rename_i ds hq
        obtain ⟨a, rfl, ha⟩ := IsRef i1
        obtain ⟨a', xs, ha', h1, r⟩ := s1.lst (getL_some hq)
        rw [ha] at ha'
        cases ha'
        refine ⟨_, xs, rfl, .inl (.inl h1), hp1 _ H1 As1 e1 s1 (SrcOk.mk walk_en (by rw [pairsD_len, r.len]) (fun H As S ex s2 hgd => ?_) (fun i H As S x H' ex s2 hgd hy => ?_))⟩
        · obtain ⟨a2, ys, ha2, h2, r2⟩ := s2.lst hgd
          rw [ex.get ha] at ha2
          cases ha2
          exact ⟨ys, .inl (.inl h2), by rw [← r2.len, r.len]⟩
        · obtain ⟨a2, ys, ha2, h2, r2⟩ := s2.lst hgd
          rw [ex.get ha] at ha2
          cases ha2
          obtain ⟨hi, T, y, o, rfl, hn, ho, rfl, hx⟩ := hy
          obtain ⟨d, hd, iv⟩ := r2.getV (hx ys (.inl (.inl h2)))
          obtain ⟨q1, q2, q3⟩ := en_new (i := i) s2 hn ho iv
          exact ⟨_, by have z := pairsD_get 0 _ i d hd; rw [Nat.zero_add] at z; exact z, q1, q2, q3⟩
      · exact False.elim hp1
  · exact False.elim hp1
/-- for k, x in enumerate(..): a tuple, a text, a list -/
theorem fi_enum (hm : X.mg "enumerate" = none) (h : FA X g hx W [e] mas) (hg : Gl X "enumerate" := by rfl) (hs : starEach [e] X.env = [(false, eval e X.env)] := by rfl) : FI X g hx W (.Tuple elts kk tpos) (.Call (.Name "enumerate" p) [e] [] pos) (mEnum mas) :=
  fi_pick (fi_enT hm h hg hs) (fi_enS hm h hg hs) (fi_enL hm h hg hs) fun ρ S => by
    unfold mEnum mEnT mEnS mEnL
    cases r : mas ρ S with
    | err c es S' => exact .inl rfl
    | bad => exact .inl rfl
    | ok ds S1 =>
      show kEnum ds S1 = _ ∨ kEnum ds S1 = _ ∨ kEnum ds S1 = _
      rcases ds with _ | ⟨d, _ | ⟨d2, ds⟩⟩
      · exact .inl rfl
      · cases d with
        | tup ds => exact .inl rfl
        | str s => exact .inr (.inl rfl)
        | ref n => exact .inr (.inr rfl)
        | _ => exact .inl rfl
      · refine .inl ?_
        cases d <;> rfl
end
section
variable {ρ : Rho} {S : Store} {mas : MA} {ds : List D} {n : Nat}
@[simp] theorem ev_enum : mEnum mas ρ S = (mas ρ S).bind kEnum := rfl
@[simp] theorem en_t : kEnum [.tup ds] S = .ok ⟨pairsD 0 ds, fun _ => True⟩ S := rfl
@[simp] theorem en_s {s : Str} : kEnum [.str s] S = .ok ⟨pairsD 0 (signsD s), fun _ => True⟩ S := rfl
@[simp] theorem en_l : kEnum [.ref n] S = match getL S n with | some ds => .ok ⟨pairsD 0 ds, fun S => S[n]? = some (.lst ds)⟩ S | none => .bad := rfl
@[simp] theorem s_ne {a b : Str} : bNe (.str a) (.str b) S = .ok (.bl (!decide (a = b))) S := rfl
end
end
end FL
end

section
set_option autoImplicit false
/-! defs called within a suite, with loops over range; they may call themselves -/
namespace FL
open PySem L2 PyProof.Rows
/-- within a suite: the exception that is handled has no context -/
theorem hot_suite {X : Cx} {a : Addr} {oe : Obj} {cls : Value} {d : Option Addr} {pn : List (Addr × Obj)} (hz : L2N.Zn cls d oe) (hf : ∃ vs, oe.data = .fields vs) : L2H.HotC (X.suite a ((a, oe) :: pn)) := by
  obtain ⟨vs, e⟩ := hf
  exact ⟨(a, oe), ⟨rfl, vs, e, hz.2.2 vs e⟩, List.mem_cons_self⟩
section
variable {P : Program} {w : World} {mg : Str → Option Value} {base : Heap} {g : G}
/-- THE RULE for a def called within a suite -/
theorem fn_okH {x qual : Str} {st : Stmt} {f : Addr} {fd : FuncData} {N ps : List Str} {k : Nat} {ms : MS} (F : Fun g.K x qual st f fd) (Sc : FnScope N ps (defScope st))
    (h : ∀ (cdv : Value) (A : Around) (outer : List Env) (s : Shared) (H : Hp) (E : XK) (p : Addr × Obj), L2H.RoomH k (A.deeper (envOfC qual (defScope st) s.heap.objs.size f cdv)) →
      L2H.HotC (L2H.cxH (L2N.CX P w) P w g.K mg base N qual (defScope st) f cdv A outer s H E p) → FSs (L2H.cxH (L2N.CX P w) P w g.K mg base N qual (defScope st) f cdv A outer s H E p) g none (fun c d _ H' => E c d H') (defBody st) ms) :
    L2H.FnH P w g.K mg base (L2N.CX P w) (k + 1) f fd ps (spM g ps.length (mFn N.length ms)) := by
  obtain ⟨o1, o2, o3, o4, o5, o6, cdv, o7, o8, rfl, lk, hcd⟩ := F.ex
  refine L2H.fn_ofH lk hcd Sc (fun vs H Q E ⟨As, ds, S, h1, _, h2, _⟩ => by rw [← h1.len, h2]) (fun A outer s H vs Q E p hot hr ⟨As, ds, S, h1, h2, h3, h4⟩ => ?_)
  obtain ⟨_, t, pt, sn⟩ := (h cdv A outer s H E p hr ⟨p, ⟨hot.1, hot.2⟩, List.mem_cons_self⟩).ex
  refine ⟨t, pt, sn _ H As (rho0 N.length ds) S (env0 h1) h2 _ ?_⟩
  unfold mFn at h4
  cases r : ms (rho0 N.length ds) S with
  | nx ρ' S' => rw [r] at h4; exact fun σ' H' As' e st1 _ => h4 .non H' As' e st1 .non
  | rt d S' => rw [r] at h4; exact h4
  | err c es ρ' S' => rw [r] at h4; exact fun σ' dd H' As' e st1 _ x => h4 dd H' As' e st1 x
  | bk ρ' S' => rw [r] at h4; exact h4.elim
  | ct ρ' S' => rw [r] at h4; exact h4.elim
  | bad => rw [r] at h4; exact h4.elim
theorem fn_gcH {f : Addr} {fd : FuncData} {ps : List Str} {k n : Nat} {mf : MF} (F : L2H.FnH P w g.K mg base (L2N.CX P w) k f fd ps (spM g n mf)) : L2H.FnH P w g.K mg base (L2N.CX P w) k f fd ps (spM g n (gcF mf)) := by
  have im : ∀ vs H Q E, spM g n (gcF mf) vs H Q E → spM g n mf vs H Q E := fun vs H Q E ⟨As, ds, S, h1, h2, h3, h4⟩ => ⟨As, ds, S, h1, h2, h3, ?_⟩
  · exact ⟨fun vs H Q E h => F.len vs H Q E (im _ _ _ _ h), fun A outer s H args us vs Q E p hr hot hp e0 hb r h => F.run A outer s H args us vs Q E p hr hot hp e0 hb r (im _ _ _ _ h)⟩
  · have z := Post.gc (W := fun c d _ H => E c d H) (σ := []) (Q := Q) (r := mf ds S) h2 (by
      unfold gcF at h4
      cases r : gcR S (mf ds S) with
      | ok d S' => rw [r] at h4; exact h4
      | err c es S' => rw [r] at h4; exact h4
      | bad => rw [r] at h4; exact h4)
    cases r : mf ds S with
    | ok d S' => rw [r] at z; exact z
    | err c es S' => rw [r] at z; exact z
    | bad => rw [r] at z; exact z
theorem fn_badH {k : Nat} {f : Addr} {fd : FuncData} {ps : List Str} : L2H.FnH P w g.K mg base (L2N.CX P w) k f fd ps (spM g ps.length fun _ _ => .bad) :=
  ⟨fun vs H Q E ⟨_, _, _, _, _, _, h⟩ => h.elim, fun A outer s H args us vs Q E p _ _ _ _ _ _ ⟨_, _, _, _, _, _, h⟩ => h.elim⟩
end
section
variable {X : Cx} {g : G} {hx : HX} {W : WX} {a b c e tg : Expr} {ma mb mc m mo : ME} {pos : Pos} {es : List Expr} {mas : MA} {H : Hp} {As : List Addr} {S : Store} {st : Stmt} {sts us : List Stmt} {ms mt mu : MS} {t : MT}
theorem fe_callH {f : Addr} {fd : FuncData} {ps : List Str} {k n : Nat} {mf : MF} {x : Str} {p : Pos} (F : L2H.FnH X.prog X.w g.K X.mg X.base (L2N.CX X.prog X.w) k f fd ps (spM g n mf)) (hr : L2H.RoomH k X.A) (hc : L2H.HotC X) (hm : X.mg x = some (.ref f)) (hk : PySem.W.keepIn g.K (.ref f) = true) (hb : Binds g.K fd ps []) (tk : L2N.Takes X W)
    (ha : FA X g hx W (e :: es) mas) (hn : ∀ ρ S ds S', mas ρ S = .ok ds S' → ds.length = n) (hg : Gl X x := by rfl) (hdb : (x == ("__debug__" : Str)) = false := by decide) (he : starEach (e :: es) X.env = (false, eval e X.env) :: starEach es X.env := by rfl) (hpl : (backTo pos (starEach es X.env)).any (·.1) = false := by rfl) :
    FE X g hx W (.Call (.Name x p) (e :: es) [] pos) (mCB mf mas) := by
  obtain ⟨hK, t, pa, s⟩ := ha.ex
  refine ⟨hK, _, L2H.pe_callH (by rw [hK]; exact F) hr hc hg hm (by rw [hK]; exact hk) (by rw [hK]; exact hb) (fun σ => L2N.passAt tk σ) pa hdb he hpl, fun σ H As ρ S he hs Q hp => ?_⟩
  unfold mCB at hp
  cases r : mas ρ S with
  | err c es' S' => rw [r] at hp; exact s σ H As ρ S he hs _ (by rw [r]; exact hp)
  | bad => rw [r] at hp; exact hp.elim
  | ok ds S1 =>
    rw [r] at hp
    refine s σ H As ρ S he hs _ ?_
    rw [r]
    intro vs H1 As1 e1 s1 i1
    refine ⟨As1, ds, S1, i1, s1, hn ρ S ds S1 r, ?_⟩
    have hp2 := Post.up hp e1
    rw [bind_ok] at hp2
    cases q : mf ds S1 with
    | ok d S' => rw [q] at hp2; exact hp2
    | err c es' S' => rw [q] at hp2; exact hp2
    | bad => rw [q] at hp2; exact hp2
structure FIH (X : Cx) (g : G) (hx : HX) (W : WX) (tg e : Expr) (m : MI) : Prop where
  ex : X.K = g.K ∧ ∃ t, L2H.PIH X tg e t ∧ SnI g hx W t m
theorem fi_range1H {p : Pos} (hm : X.mg "range" = none) (h : FA X g hx W [e] mas) (hg : Gl X "range" := by rfl) (hs : starEach [e] X.env = [(false, eval e X.env)] := by rfl) : FIH X g hx W tg (.Call (.Name "range" p) [e] [] pos) (mRng1 mas) := by
  obtain ⟨hk, t, pa, s⟩ := h.ex
  refine ⟨hk, _, L2H.pi_range1H hg hm pa hs, fun σ H As ρ S he hs Q hp => ?_⟩
  refine s σ H As ρ S he hs _ (PostA.bind (P := fun r => PostI g W σ H As r Q) hp (fun ds S1 hp1 vs H1 As1 e1 s1 i1 => ?_) (fun _ _ _ q => q) id)
  split at hp1
  · split at hp1
    · rename_i n hb
      cases i1 with
      | cons i1 i2 =>
        cases i2; cases i1
        refine ⟨n, rfl, by omega, by omega, hp1 _ H1 As1 e1 s1 (SrcOk.mk (walk_range.mono (Y' := fun i H x H' => (i < n.toNat) ∧ H' = H ∧ x = V.int (0 + (i : Nat))) (fun _ h => h) (fun i H x H' hi _ y => ⟨hi, y⟩)) (by rw [List.length_map, List.length_range]) (fun H As S ex _ _ => trivial) (fun i H As S x H' ex s2 _ hy => ?_))⟩
        obtain ⟨hi, rfl, rfl⟩ := hy
        refine ⟨.int (i : Nat), ?_, Ext.refl _ _, s2, by rw [Int.zero_add]; exact .int _⟩
        rw [List.getElem?_map, List.getElem?_range hi]
        rfl
    · exact False.elim hp1
  · exact False.elim hp1
theorem fs_forH {mi : MI} {tt : Tgt} {sl : List Nat} (hp : PassesOwn (model X.prog X.w) X.A X.env X.xe) (hc : L2H.HotC X) (hi : FIH X g hx W tg e mi) (hg : FG X g hx tg sl tt) (hb : FSs X g hx W sts ms) (hs : ∀ x, foldedSetIterable e X.env x = pure x := by intro _; rfl) :
    FS X g hx W (.For tg e sts [] pos) (mFor mi tt ms) := by
  obtain ⟨hk, ti, pi, si⟩ := hi.ex
  obtain ⟨_, tgt, pg, sg⟩ := hg.ex
  obtain ⟨_, tb, pb, sb⟩ := hb.ex
  refine ⟨hk, _, L2H.ps_forH hp hc pi pg pb hs, fun σ H As ρ S he hs E hp => ?_⟩
  have key : PostI g W σ H As (mi ρ S) fun J H1 => ∃ W : Nat → Nat → L2.St → Hp → Prop, (∃ m, W 0 m σ H1) ∧ ∀ i m σ H, W i m σ H →
      (J.stop i H ∧ E.nx σ H) ∨ (J.go i H ∧ ∃ N : L2.St → Hp → Prop, (∀ σ' H', N σ' H' → ∃ m', m' < m ∧ W (i + 1) m' σ' H') ∧ ∀ x H', J.yld i H x H' → tgt x σ H' fun σ2 H2 => tb { E with nx := N, ct := N, bk := E.nx } σ2 H2) := by
    unfold mFor at hp
    cases r : mi ρ S with
    | err c ds S' => rw [r] at hp; exact PostS.err he hp
    | bad => rw [r] at hp; exact False.elim hp
    | ok src S1 =>
      rw [r, stm_ok] at hp
      intro J H1 As1 e1 st1 ⟨Gd, Y, wk, hG, hY⟩
      refine for_it wk (fun i σ H => ∃ As ρ S, Ext H1 As1 H As ∧ EnvOk g hx H As ρ σ ∧ StOk g H As S ∧ PostS g hx W H As (mItems src.guard tt ms (src.items.drop i) ρ S) E)
        ⟨As1, ρ, S1, Ext.refl _ _, he.up e1, st1, by rw [List.drop_zero]; exact hp.up e1⟩ ?_ ?_ ?_
      · rintro i σ H _ ⟨As, ρ, S, ex, he, hs, hp⟩
        refine hG H As S ex hs ?_
        apply Classical.byContradiction
        intro hn
        cases z : src.items.drop i with
        | nil => rw [z] at hp; unfold mItems at hp; rw [if_neg hn] at hp; exact hp
        | cons d ds => rw [z] at hp; unfold mItems at hp; rw [if_neg hn] at hp; exact hp
      · rintro i x σ H H' hi ⟨As, ρ, S, ex, he, hs, hp⟩ hy
        have hgd : src.guard S := by
          apply Classical.byContradiction
          intro hn
          rw [List.drop_eq_getElem_cons hi] at hp
          unfold mItems at hp
          rw [if_neg hn] at hp
          exact hp
        obtain ⟨d, hd, e2, s2, i2⟩ := hY i H As S x H' ex hs hgd hy
        have hdd : src.items.drop i = d :: src.items.drop (i + 1) := by
          rw [List.drop_eq_getElem_cons hi]
          obtain ⟨_, z⟩ := List.getElem?_eq_some_iff.mp hd
          rw [z]
        rw [hdd] at hp
        unfold mItems at hp
        rw [if_pos hgd] at hp
        cases q : tt d ρ S with
        | none => rw [q] at hp; exact False.elim hp
        | some ρ1 =>
          rw [q] at hp
          dsimp only at hp
          refine sg x σ H' As d ρ S ρ1 (he.up e2) s2 i2 q _ fun σ1 he1 _ => ?_
          refine sb σ1 H' As ρ1 S he1 s2 _ ?_
          have hp2 := hp.up e2
          have ex2 := ex.trans e2
          cases r : ms ρ1 S with
          | nx ρ' S' => rw [r] at hp2; exact fun σ' H'' As' e3 st3 v3 => ⟨As', ρ', S', ex2.trans e3, v3, st3, hp2.up e3⟩
          | ct ρ' S' => rw [r] at hp2; exact fun σ' H'' As' e3 st3 v3 => ⟨As', ρ', S', ex2.trans e3, v3, st3, hp2.up e3⟩
          | bk ρ' S' => rw [r] at hp2; exact hp2
          | rt d S' => rw [r] at hp2; exact hp2
          | err c ds ρ' S' => rw [r] at hp2; exact hp2
          | bad => rw [r] at hp2; exact hp2
      · rintro σ H ⟨As, ρ, S, ex, he, hs, hp⟩
        rw [List.drop_length] at hp
        unfold mItems at hp
        split at hp
        · exact hp σ H As (Ext.refl _ _) hs he
        · exact False.elim hp
  exact si σ H As ρ S he hs _ key
end
end FL
end

section
set_option autoImplicit false
/-! x < y of ints and booleans -/
namespace FL
open PySem L2 PyProof.Rows
theorem g_lt_bi (p : Bool) (b : Int) (u : Tok) : Gives (Builtin.«int.__lt__» ⟨[.bool p, .int b u], []⟩) (.val (Value.bool (decide ((if p = true then (1 : Int) else 0) < b)))) :=
  .of_wp fun M A E s Q h => by obtain ⟨s1, s2, s3, s4, s5⟩ := s; wp_walk; exact ⟨_, rfl, h⟩
theorem g_gt_bi (p : Bool) (b : Int) (u : Tok) : Gives (Builtin.«int.__gt__» ⟨[.bool p, .int b u], []⟩) (.val (Value.bool (decide ((if p = true then (1 : Int) else 0) > b)))) :=
  .of_wp fun M A E s Q h => by obtain ⟨s1, s2, s3, s4, s5⟩ := s; wp_walk; exact ⟨_, rfl, h⟩
section
variable {prog : Program} {w : World} {A : Around} {E : Value → Shared → Prop} {s : Shared}
theorem lt_bi {p : Bool} {b : Int} {u : Tok} {Q : Value → Shared → Prop} (h : Q (.bool (decide ((if p = true then (1 : Int) else 0) < b))) s) : wpAny (model prog w) A (compareOp .Lt (.bool p) (.int b u)) Q E s := by
  show wpAny _ A (richCompare .Lt _ _) Q E s
  exact SeqAt.rc_left_or (typeIs_bool' s p) (typeIs_int s b u) (by decide) F.sub_int_bool F.slot_bool_lt (call_gives F.slot_bool_lt rfl F.entry_int_lt (F.args_int_lt_2 _ _) (g_lt_bi p b u) ⟨nofun, h⟩) (.inl rfl)
theorem lt_ib {p : Bool} {b : Int} {u : Tok} {Q : Value → Shared → Prop} (h : Q (.bool (decide (b < (if p = true then (1 : Int) else 0)))) s) : wpAny (model prog w) A (compareOp .Lt (.int b u) (.bool p)) Q E s := by
  show wpAny _ A (richCompare .Lt _ _) Q E s
  exact SeqAt.rc_sub_first_or (typeIs_int s b u) (typeIs_bool' s p) (by decide) F.sub_bool_int F.slot_bool_gt (call_gives F.slot_bool_gt rfl F.entry_int_gt (F.args_int_gt_2 _ _) (g_gt_bi p b u) ⟨nofun, h⟩) (.inl rfl)
end
def numV : V → Option Int
  | .int i => some i
  | .bl b => some (if b = true then 1 else 0)
  | _ => none
def numD : D → Option Int
  | .int i => some i
  | .bl b => some (if b = true then 1 else 0)
  | _ => none
def rLtN : R2 := fun x y H Q => ∃ i j, numV x = some i ∧ numV y = some j ∧ Q (.bl (decide (i < j))) H
theorem op_ltN {X : Cx} : OpR X (compareOp .Lt) rLtN := by
  intro pins s σ H x y v u Q I rx ry ⟨i, j, hi, hj, q⟩
  have fin : EP X pins σ Q (.bool (decide (i < j))) s := ⟨.bl _, H, I, rfl, q⟩
  cases x with
  | int a =>
    cases hi
    obtain ⟨t, rfl⟩ := rx
    cases y with
    | int b => cases hj; obtain ⟨t', rfl⟩ := ry; exact PyProof.Rows.lt_int fin
    | bl b => cases hj; cases ry; exact lt_ib fin
    | _ => cases hj
  | bl a =>
    cases hi
    cases rx
    cases y with
    | int b => cases hj; obtain ⟨t', rfl⟩ := ry; exact lt_bi fin
    | bl b => cases hj; cases ry; exact lt_bool fin
    | _ => cases hj
  | _ => cases hi
def bLtN (d e : D) (S : Store) : R D := match numD d, numD e with
  | some i, some j => .ok (.bl (decide (i < j))) S
  | _, _ => .bad
theorem num_is {K : PySem.W.Frag} {H : Hp} {As : List Addr} {d : D} {x : V} {i : Int} (h : Is K H As d x) (e : numD d = some i) : numV x = some i := by
  cases d with
  | int a => cases h; exact e
  | bl a => cases h; exact e
  | _ => cases e
theorem rs_ltN {g : G} : RSn g rLtN bLtN := by
  intro H As S x y d e hs ix iy Q k ⟨z, S', he⟩
  have hz := he
  unfold bLtN at he
  split at he
  · rename_i i j q1 q2
    cases he
    exact ⟨i, j, num_is ix q1, num_is iy q2, RSn.pure hs hz k (.bl _)⟩
  · cases he
theorem ne_ltN : NoErr bLtN := by intro d e S c ds S' h; unfold bLtN at h; split at h <;> cases h
theorem cr_ltN {X : Cx} {g : G} : CmpR X g .Lt bLtN := ⟨_, op_ltN, rs_ltN, ne_ltN⟩
section
variable {S : Store} {i j : Int} {a b : Bool}
@[simp] theorem ltN_ii : bLtN (.int i) (.int j) S = .ok (.bl (decide (i < j))) S := rfl
@[simp] theorem ltN_bi : bLtN (.bl a) (.int j) S = .ok (.bl (decide ((if a = true then 1 else 0) < j))) S := rfl
@[simp] theorem ltN_ib : bLtN (.int i) (.bl b) S = .ok (.bl (decide (i < (if b = true then 1 else 0)))) S := rfl
@[simp] theorem ltN_bb : bLtN (.bl a) (.bl b) S = .ok (.bl (decide ((if a = true then (1 : Int) else 0) < (if b = true then 1 else 0)))) S := rfl
end
end FL
end

section
set_option autoImplicit false
/-! try: .. except A: .. except B: .. (no names) -/
namespace FL
open PySem L2 PyProof.Rows
/-- one clause: its class over the classes by number, its suite -/
abbrev Arm := (Nat → Option Bool) × MS
/-- behind a suite without a name -/
def calmR : RS → RS
  | .nx ρ S => .nx (clr ρ) S
  | .bk ρ S => .bk (clr ρ) S
  | .ct ρ S => .ct (clr ρ) S
  | .rt d S => .rt d S
  | _ => .bad
def mArms (c : Nat) (es : List D) (ρ : Rho) (S : Store) : List Arm → RS
  | [] => .err c es ρ S
  | a :: r => match a.1 c with
    | some true => calmR (a.2 ρ S)
    | some false => mArms c es ρ S r
    | none => .bad
def mTryU (arms : List Arm) (mb : MS) : MS := fun ρ S => match mb ρ S with
  | .err c es ρ' S' => mArms c es ρ' S' arms
  | r => r
section
variable {X : Cx} {g : G} {W : WX} {H : Hp} {As : List Addr} {pos : Pos}
inductive ArmsOk (X : Cx) (g : G) : List ExceptHandler → List Arm → List (Value × (Addr → Value → Option Addr → TS)) → Prop
  | nil : ArmsOk X g [] [] []
  | cons {x : Str} {np pos' : Pos} {cV : Value} {sub : Nat → Option Bool} {ms : MS} {b₀ : Stmt} {suite : List Stmt} {hds : List ExceptHandler} {arms : List Arm} {l : List (Value × (Addr → Value → Option Addr → TS))} (hc : Names X x cV)
      (hsub : ∀ c b, sub c = some b → PySem.W.exmOne g.K (.ref (g.ec c)) cV = some b)
      (hsu : ∀ (a : Addr) (oe : Obj) (cls : Value) (d : Option Addr) (pn : List (Addr × Obj)), L2N.Zn cls d oe → (∃ vs, oe.data = .fields vs) → FSs (X.suite a ((a, oe) :: pn)) g (some (a, cls, d)) W0 (b₀ :: suite) ms) (r : ArmsOk X g hds arms l) :
      ArmsOk X g (.ExceptHandler (some (.Name x np)) none (b₀ :: suite) pos' :: hds) ((sub, ms) :: arms) ((cV, fun a cls d => tM g (some (a, cls, d)) W0 ms) :: l)
theorem ArmsOk.hds {hs : List ExceptHandler} {arms : List Arm} {l : List (Value × (Addr → Value → Option Addr → TS))} (h : ArmsOk X g hs arms l) : L2N.HdsOk X hs l := by
  induction h with
  | nil => exact .nil
  | cons hc hsub hsu r ih => exact .cons hc (fun a oe cls d pn hz hf => (hsu a oe cls d pn hz hf).can) ih
theorem arms_sound {hs : List ExceptHandler} {arms : List Arm} {l : List (Value × (Addr → Value → Option Addr → TS))} (h : ArmsOk X g hs arms l) (hK : X.K = g.K) {c : Nat} {es : List D} {ρ : Rho} {S : Store} {σ : L2.St} {dd : Option Addr} {E : Ends}
    (s1 : StOk g H As S) (v1 : EnvOk g none H As ρ σ) (x1 : ExcOk g H As c es dd) (hp : PostS g none W H As (mArms c es ρ S arms) E) : wMany X.K W E l (.ref (g.ec c)) dd σ H := by
  induction h with
  | nil => exact hp σ dd H As (Ext.refl _ _) s1 v1 x1
  | @cons x np pos' cV sub ms b₀ suite hds arms l hc hsub hsu r ih =>
    unfold mArms at hp
    dsimp only at hp
    cases q : sub c with
    | none => rw [q] at hp; exact hp.elim
    | some b =>
      rw [q] at hp
      refine ⟨b, by rw [hK]; exact hsub c b q, fun hb1 a na => ?_, fun hb0 => ?_⟩
      · subst hb1
        dsimp only at hp
        refine ⟨As, ρ, S, v1.none_any _, s1, ?_⟩
        cases r2 : ms ρ S with
        | nx ρ2 S2 => rw [r2] at hp; exact fun σ2 H2 As2 e2 st2 v2 => hp σ2 H2 As2 e2 st2 v2.clr
        | bk ρ2 S2 => rw [r2] at hp; exact fun σ2 H2 As2 e2 st2 v2 => hp σ2 H2 As2 e2 st2 v2.clr
        | ct ρ2 S2 => rw [r2] at hp; exact fun σ2 H2 As2 e2 st2 v2 => hp σ2 H2 As2 e2 st2 v2.clr
        | rt d S2 => rw [r2] at hp; exact hp
        | err c2 es2 ρ2 S2 => rw [r2] at hp; exact hp.elim
        | bad => rw [r2] at hp; exact hp.elim
      · subst hb0
        exact ih hp
theorem fs_tryU {body : List Stmt} {h₀ : ExceptHandler} {hds : List ExceptHandler} {arms : List Arm} {l : List (Value × (Addr → Value → Option Addr → TS))} {mb : MS} (hK : X.K = g.K) (hs : X.stack = X.env :: X.outer) (hf : X.env.frame = some X.env.locals) (tk : L2N.Takes X W)
    (hb : ∀ (W : WX) (pn : List (Addr × Obj)) (xe : Value → Shared → Prop), L2N.Takes (X.tr pn xe) W → PassesOwn (model X.prog X.w) X.A X.env xe → FSs (X.tr pn xe) g none W body mb)
    (hh : ArmsOk X g (h₀ :: hds) arms l) : FS X g none W (.Try body (h₀ :: hds) [] [] pos) (mTryU arms mb) := by
  refine ⟨hK, _, L2N.ps_try_many (tb := fun W => tM g none W mb) hs hf tk (fun W pn xe tk' po => (hb W pn xe tk' po).can) hh.hds, fun σ H As ρ S he hst E hp => ?_⟩
  refine ⟨As, ρ, S, he, hst, ?_⟩
  unfold mTryU at hp
  cases r : mb ρ S with
  | nx ρ' S' => rw [r] at hp; exact hp
  | bk ρ' S' => rw [r] at hp; exact hp
  | ct ρ' S' => rw [r] at hp; exact hp
  | rt d S' => rw [r] at hp; exact hp
  | bad => rw [r] at hp; exact hp
  | err c es ρ' S' =>
    rw [r] at hp
    intro σ' dd H' As' e1 s1 v1 x1
    exact arms_sound hh hK s1 v1 x1 (hp.up e1)
end
end FL
end

section
set_option autoImplicit false
/-! instances: o.f, o.f = e, C(..), o.m(..) -/
namespace FL
open PySem L2 PyProof.Rows
def putD (f : Str) (d : D) : List (Str × D) → List (Str × D)
  | [] => [(f, d)]
  | (k, x) :: r => if k = f then (k, d) :: r else (k, x) :: putD f d r
section
variable {K : PySem.W.Frag} {H : Hp} {As : List Addr}
theorem fld_get {f : Str} {d : D} : ∀ {fs : List (Str × D)} {xs : List (Str × V)}, fs.map (·.1) = xs.map (·.1) → IsL K H As (fs.map (·.2)) (xs.map (·.2)) → fs.lookup f = some d → ∃ v, xs.lookup f = some v ∧ Is K H As d v
  | [], _, _, _, h => by cases h
  | (k, x) :: fs, [], h, _, _ => by cases h
  | (k, x) :: fs, (k2, y) :: xs, h, .cons r1 r2, q => by
    have e : k = k2 := (List.cons.inj h).1
    have h2 : fs.map (·.1) = xs.map (·.1) := (List.cons.inj h).2
    subst e
    simp only [List.lookup_cons] at q ⊢
    cases z : f == k with
    | true => rw [z] at q; cases q; exact ⟨y, rfl, r1⟩
    | false => rw [z] at q; exact fld_get h2 r2 q
theorem fld_put {f : Str} {d : D} {v : V} (i : Is K H As d v) : ∀ {fs : List (Str × D)} {xs : List (Str × V)}, fs.map (·.1) = xs.map (·.1) → IsL K H As (fs.map (·.2)) (xs.map (·.2)) →
    (putD f d fs).map (·.1) = (putF f v xs).map (·.1) ∧ IsL K H As ((putD f d fs).map (·.2)) ((putF f v xs).map (·.2))
  | [], [], _, _ => ⟨rfl, .cons i .nil⟩
  | [], _ :: _, h, _ => by cases h
  | _ :: _, [], h, _ => by cases h
  | (k, x) :: fs, (k2, y) :: xs, h, .cons r1 r2 => by
    have e : k = k2 := (List.cons.inj h).1
    have h2 : fs.map (·.1) = xs.map (·.1) := (List.cons.inj h).2
    subst e
    unfold putD putF
    by_cases z : k = f
    · rw [if_pos z, if_pos z]; exact ⟨h, .cons i r2⟩
    · rw [if_neg z, if_neg z]
      obtain ⟨q1, q2⟩ := fld_put i h2 r2
      exact ⟨by rw [List.map_cons, List.map_cons, q1], .cons r1 q2⟩
theorem fld_len {fs : List (Str × D)} {xs : List (Str × V)} (h : fs.map (·.1) = xs.map (·.1)) : fs.length = xs.length := by
  have := congrArg List.length h
  rwa [List.length_map, List.length_map] at this
theorem fld_none {f : Str} : ∀ {fs : List (Str × D)} {xs : List (Str × V)}, fs.map (·.1) = xs.map (·.1) → fs.lookup f = none → xs.lookup f = none
  | [], [], _, _ => rfl
  | [], _ :: _, h, _ => by cases h
  | _ :: _, [], h, _ => by cases h
  | (k, x) :: fs, (k2, y) :: xs, h, q => by
    have e : k = k2 := (List.cons.inj h).1
    have h2 : fs.map (·.1) = xs.map (·.1) := (List.cons.inj h).2
    subst e
    simp only [List.lookup_cons] at q ⊢
    cases z : f == k with
    | true => rw [z] at q; cases q
    | false => rw [z] at q; exact fld_none h2 q
end
def kFld (cls : List Nat) (f : Str) (d : D) (S : Store) : R D := match d with
  | .ref n => match S[n]? with
    | some (.ins c fs) => if c ∈ cls then (match fs.lookup f with
      | some x => .ok x S
      | none => .bad) else .bad
    | _ => .bad
  | _ => .bad
def mFld (cls : List Nat) (f : Str) (m : ME) : ME := fun ρ S => (m ρ S).bind (kFld cls f)
def setFld (cls : List Nat) (f : Str) (o d : D) (S : Store) : Option Store := match o with
  | .ref n => match S[n]? with
    | some (.ins c fs) => if c ∈ cls ∧ fs.length < 900 then some (S.set n (.ins c (putD f d fs))) else none
    | _ => none
  | _ => none
def mFldSet (cls : List Nat) (f : Str) (mo m : ME) : MS := fun ρ S => (m ρ S).stm ρ fun d S1 => (mo ρ S1).stm ρ fun o S2 => match setFld cls f o d S2 with
  | some S3 => .nx ρ S3
  | none => .bad
section
variable {X : Cx} {g : G} {hx : HX} {W : WX} {o e value : Expr} {m mo : ME} {f : Str} {pos pos' : Pos} {H : Hp} {As : List Addr} {S : Store}
/-- the classes that have the field -/
def FldCls (g : G) (cls : List Nat) (f : Str) : Prop := ∀ c ∈ cls, Cls g.K (g.ic c) ∧ NoAttr g.K (g.ic c) f
theorem StOk.ins (s : StOk g H As S) {n c : Nat} {fs : List (Str × D)} (h : S[n]? = some (.ins c fs)) : ∃ a dx xs, As[n]? = some a ∧ H a = some (.ins (g.ic c) dx xs) ∧ fs.map (·.1) = xs.map (·.1) ∧ IsL g.K H As (fs.map (·.2)) (xs.map (·.2)) := by
  obtain ⟨a, ha, dx, xs, h1, h2, h3⟩ := s.at h
  exact ⟨a, dx, xs, ha, h1, h2, h3⟩
theorem fe_fld {cls : List Nat} (hC : FldCls g cls f) (he : FE X g hx W e m) (hb : attributeBase e f X.env (eval e X.env) = eval e X.env := by rfl) : FE X g hx W (.Attribute e f pos) (mFld cls f m) := by
  obtain ⟨hk, t, p, s⟩ := he.ex
  refine ⟨hk, _, pe_fld p hb, fun σ H As ρ S he hs Q hp => ?_⟩
  refine s σ H As ρ S he hs _ (Post.bind (P := fun r => Post g W σ H As r Q) hp (fun d S1 hp1 v H1 As1 e1 s1 i1 => ?_) (fun _ _ _ q => q) id)
  unfold kFld at hp1
  split at hp1
  · rename_i n
    split at hp1
    · rename_i c fs q
      split at hp1
      · rename_i hc
        split at hp1
        · rename_i x hl
          obtain ⟨a, rfl, ha⟩ := IsRef i1
          obtain ⟨a', dx, xs, ha', h1, h2, h3⟩ := s1.ins q
          rw [ha] at ha'
          cases ha'
          obtain ⟨v, q1, q2⟩ := fld_get h2 h3 hl
          rw [hk]
          exact ⟨a, _, dx, xs, v, rfl, h1, (hC c hc).1, (hC c hc).2, q1, hp1 v H1 As1 e1 s1 q2⟩
        · exact hp1.elim
      · exact hp1.elim
    · exact hp1.elim
  · exact hp1.elim
theorem fs_fld {cls : List Nat} (hC : FldCls g cls f) (ho : FE X g hx W o mo) (hv : FE X g hx W value m) (hs : swapsWith value (some (.Attribute o f pos')) pos.line X.env = pure false := by rfl) : FS X g hx W (.Assign [.Attribute o f pos'] value pos) (mFldSet cls f mo m) := by
  obtain ⟨hk, t, p, s⟩ := hv.ex
  obtain ⟨_, t1, p1, s1⟩ := ho.ex
  refine ⟨hk, _, ps_fld p1 p hs, fun σ H As ρ S he hst E hp => ?_⟩
  refine s σ H As ρ S he hst _ (Post.stm (P := fun r => PostS g hx W H As r E) hp (fun d S1 hp1 v H1 As1 e1 s2 i1 => ?_) (fun c ds S' q => PostS.err he q) id)
  refine s1 σ H1 As1 ρ S1 (he.up e1) s2 _ (Post.stm (P := fun r => PostS g hx W H1 As1 r E) (hp1.up e1) (fun ov S2 hp2 u H2 As2 e2 s3 i2 => ?_) (fun c ds S' q => PostS.err (he.up e1) q) id)
  have hp3 := hp2.up e2
  cases z : setFld cls f ov d S2 with
  | none => rw [z] at hp3; exact hp3.elim
  | some S3 =>
    rw [z] at hp3
    unfold setFld at z
    split at z
    · rename_i n
      split at z
      · rename_i c fs q
        split at z
        · rename_i hc
          cases z
          obtain ⟨a, rfl, ha⟩ := IsRef i2
          obtain ⟨a', dx, xs, ha', h1, h2, h3⟩ := s3.ins q
          rw [ha] at ha'
          cases ha'
          rw [hk]
          have ew : Ext H2 As2 (upd H2 a (.ins (g.ic c) dx (putF f v xs))) As2 := Ext.write s3 ha
          obtain ⟨q1, q2⟩ := fld_put (f := f) (i1.up e2) h2 h3
          have r : ObjRel g (upd H2 a (.ins (g.ic c) dx (putF f v xs))) As2 (.ins c (putD f d fs)) a := ⟨dx, _, upd_same, q1, q2.up ew⟩
          exact ⟨a, _, dx, xs, rfl, h1, (hC c hc.1).1, (hC c hc.1).2, by rw [← fld_len h2]; omega, hp3 σ _ As2 ew (s3.write ha r) (((he.up e1).up e2).up ew)⟩
        · cases z
      · cases z
    · cases z
end
end FL
end

section
set_option autoImplicit false
/-! instances: C(..), o.m(..) -/
namespace FL
open PySem L2 PyProof.Rows
section
variable {X : Cx} {k : Nat} {f C : Addr} {fd : FuncData} {ps : List Str} {sp : Sp} {E : L2.St → XK} {x m : Str} {p pos apos : Pos} {e o : Expr} {es : List Expr} {ta : TE} {t : TA}
def tMethN (C : Addr) (m : Str) (sp : Sp) (E : L2.St → XK) (ta : TE) (t : TA) : TE := fun σ H Q => ta σ H fun x H1 => ∃ a dx fs, x = .ref a ∧ H1 a = some (.ins C dx fs) ∧ fs.lookup m = none ∧ t σ H1 fun vs H2 => sp (.ref a :: vs) H2 Q (E σ)
theorem pe_methN {pl : Sem Bool} (he : PE X o ta) (c : Cls X.K C) (hm : Meth X.K C m f) (F : FnOk X.prog X.w X.K X.mg X.base (L2N.CX X.prog X.w) k f fd ps sp) (hr : Room k X.A) (hb : Binds X.K fd ps []) (hx : ∀ σ, PassesAt (L2N.CX X.prog X.w) X σ (E σ)) (ha : PA X (e :: es) t)
    (hst : starEach (e :: es) X.env = (false, eval e X.env) :: starEach es X.env) (hpl : (backTo pos (starEach es X.env)).any (·.1) = false)
    (ht : eval (.Call (.Attribute o m apos) (e :: es) [] pos) X.env = (do
      let ov ← eval o X.env
      standAt apos.atName
      let (f, first) ← holding [ov] (getMethod ov m pl)
      callWith pos f first (backTo pos (starEach (e :: es) X.env)) (backToKw pos (keywordEach [] X.env)))) :
    PE X (.Call (.Attribute o m apos) (e :: es) [] pos) (tMethN C m sp E ta t) := by
  constructor
  intro pins s σ H Q I h
  refine PySem.W.methodCall_KW (pl := pl) (thn (he.run pins s σ H _ I h) fun u s1 ⟨x, H1, I1, rx, a, dx, fs, ex, ea, l, q⟩ => ?_) ht
  subst ex
  obtain rfl : u = Value.ref a := rx
  refine getmeth_ok I1 ea c hm l ?_
  refine PySem.W.callWith_K (first := [.ref a]) (h₀ := X.base) I.ok.mod.kin hm.kp (thn (ha.run pos pins s1 σ H1 _ I1 q) fun us s2 ⟨vs, H2, I2, r, q2⟩ => ⟨I2.kIn, ?_⟩) hst hpl
  exact run_fnSD (us := .ref a :: us) (vs := .ref a :: vs) (dvs := []) F hr hb .nil (hx σ) I2 (.cons rfl r) (by rw [List.append_nil]; exact q2)
theorem pe_methN0 {pl : Sem Bool} (he : PE X o ta) (c : Cls X.K C) (hm : Meth X.K C m f) (F : FnOk X.prog X.w X.K X.mg X.base (L2N.CX X.prog X.w) k f fd ps sp) (hr : Room k X.A) (hb : Binds X.K fd ps []) (hx : ∀ σ, PassesAt (L2N.CX X.prog X.w) X σ (E σ))
    (ht : eval (.Call (.Attribute o m apos) [] [] pos) X.env = (do
      let ov ← eval o X.env
      standAt apos.atName
      let (f, first) ← holding [ov] (getMethod ov m pl)
      callWith pos f first (backTo pos (starEach [] X.env)) (backToKw pos (keywordEach [] X.env)))) :
    PE X (.Call (.Attribute o m apos) [] [] pos) (tMethN C m sp E ta tNil) := by
  constructor
  intro pins s σ H Q I h
  refine PySem.W.methodCall_KW (pl := pl) (thn (he.run pins s σ H _ I h) fun u s1 ⟨x, H1, I1, rx, a, dx, fs, ex, ea, l, q⟩ => ?_) ht
  subst ex
  obtain rfl : u = Value.ref a := rx
  refine getmeth_ok I1 ea c hm l ?_
  exact PySem.W.callWith_K0 (first := [.ref a]) I1.kIn hm.kp (run_fnSD (us := [.ref a]) (vs := [.ref a]) (dvs := []) F hr hb .nil (hx σ) I1 (.cons rfl .nil) q)
def tMakeN (C : Addr) (sp : Sp) (E : L2.St → XK) (t : TA) : TE := fun σ H Q => t σ H fun vs H1 => ∀ x dx, H1 x = none → H1 dx = none → dx ≠ x →
  sp (.ref x :: vs) (upd (upd H1 dx (.own x)) x (.ins C dx [])) (fun v H2 => v = .non ∧ Q (.ref x) H2) (E σ)
theorem run_makeN {pins : List (Addr × Obj)} {σ : L2.St} {H : Hp} {s : Shared} {Q : VK} {us : List Value} {vs : List V} (M : Mk X.K C f) (F : FnOk X.prog X.w X.K X.mg X.base (L2N.CX X.prog X.w) k f fd ps sp) (hr : Room (k + 1) X.A) (hb : Binds X.K fd ps [])
    (hx : PassesAt (L2N.CX X.prog X.w) X σ (E σ)) (I : Inv X pins σ H s) (r : Vals vs us)
    (h : ∀ x dx, H x = none → H dx = none → dx ≠ x → sp (.ref x :: vs) (upd (upd H dx (.own x)) x (.ins C dx [])) (fun v H2 => v = .non ∧ Q (.ref x) H2) (E σ)) :
    wpAny (model X.prog X.w) X.A (call (.ref C) us) (EP X pins σ Q) X.xe s := by
  have up1 : s.heap.objs.size ≤ s.heap.objs.size + 1 := Nat.le_succ _
  have spn := h (s.heap.objs.size + 1) s.heap.objs.size (I.hok.fresh up1) (I.hok.fresh (Nat.le_refl _)) (Nat.ne_of_lt (Nat.lt_succ_self _))
  have I2 := Inv.made (C := C) I
  have rr : Vals (V.ref (s.heap.objs.size + 1) :: vs) (Value.ref (s.heap.objs.size + 1) :: us) := .cons rfl r
  have ln : (Value.ref (s.heap.objs.size + 1) :: us ++ []).length = ps.length := by
    have z := rr.length
    rw [F.len _ _ _ _ spn] at z
    rw [List.append_nil]; exact z.symm
  have bb := hb _ (Value.ref (s.heap.objs.size + 1) :: us) I2.kIn ln
  rw [List.append_nil] at bb
  refine wpAny_call (make_map (f := f) I.kIn M.makes M.init (beq_iff_eq.mp M.fn) (codeAny_mono (F.run _ X.stack _ _ ⟨Value.ref (s.heap.objs.size + 1) :: us, []⟩ (Value.ref (s.heap.objs.size + 1) :: us) _ _ (E σ) (hr.make C us [])
    (I2.env0.make C us []) bb rr spn) fun r s' hq => ?_))
  cases r with
  | error er => exact hx pins _ _ er s' I2 hq
  | ok fl =>
    cases fl with
    | next => exact hq.elim
    | brk => exact hq.elim
    | cont => exact hq.elim
    | ret u =>
      obtain ⟨v, H', I3, rv, ev, q3⟩ := I2.after hq
      subst ev
      exact ⟨rv, ⟨V.ref (s.heap.objs.size + 1), H', I3, rfl, q3⟩⟩
theorem pe_makeN (M : Mk X.K C f) (F : FnOk X.prog X.w X.K X.mg X.base (L2N.CX X.prog X.w) k f fd ps sp) (hr : Room (k + 1) X.A) (hg : Gl X x) (hm : X.mg x = some (.ref C)) (hb : Binds X.K fd ps []) (hx : ∀ σ, PassesAt (L2N.CX X.prog X.w) X σ (E σ))
    (ha : PA X (e :: es) t) (hdb : (x == ("__debug__" : Str)) = false) (he : starEach (e :: es) X.env = (false, eval e X.env) :: starEach es X.env) (hpl : (backTo pos (starEach es X.env)).any (·.1) = false) :
    PE X (.Call (.Name x p) (e :: es) [] pos) (tMakeN C sp E t) := by
  constructor
  intro pins s σ H Q I h
  refine wpAny_Call_Name_kw (ld_glob I hg hm ?_ hdb)
  refine PySem.W.callWith_K (h₀ := X.base) I.ok.mod.kin M.kp (thn (ha.run pos pins s σ H _ I h) fun us s1 ⟨vs, H1, I1, r, q⟩ => ⟨I1.kIn, ?_⟩) he hpl
  exact run_makeN M F hr hb (hx σ) I1 r q
theorem pe_makeN0 (M : Mk X.K C f) (F : FnOk X.prog X.w X.K X.mg X.base (L2N.CX X.prog X.w) k f fd ps sp) (hr : Room (k + 1) X.A) (hg : Gl X x) (hm : X.mg x = some (.ref C)) (hb : Binds X.K fd ps []) (hx : ∀ σ, PassesAt (L2N.CX X.prog X.w) X σ (E σ)) (hdb : (x == ("__debug__" : Str)) = false) :
    PE X (.Call (.Name x p) [] [] pos) (tMakeN C sp E tNil) := by
  constructor
  intro pins s σ H Q I h
  refine wpAny_Call_Name_kw (ld_glob I hg hm ?_ hdb)
  exact PySem.W.callWith_K0 I.kIn M.kp (run_makeN (us := []) M F hr hb (hx σ) I .nil h)
end
/-! ### over data -/
def kMake (c : Nat) (mf : MF) (ds : List D) (S : Store) : R D := match mf (.ref S.length :: ds) (S ++ [.ins c []]) with
  | .ok .non S2 => .ok (.ref S.length) S2
  | .err c' es S2 => .err c' es S2
  | _ => .bad
def mMake (c : Nat) (mf : MF) (mas : MA) : ME := fun ρ S => (mas ρ S).bind (kMake c mf)
def kIMe (c : Nat) (m : Str) (mf : MF) (mas : MA) (ρ : Rho) (o : D) (S : Store) : R D := match o with
  | .ref n => match S[n]? with
    | some (.ins c' fs) => if c' = c ∧ fs.lookup m = none then (mas ρ S).bind fun ds S2 => mf (.ref n :: ds) S2 else .bad
    | _ => .bad
  | _ => .bad
/-- o.m(..), o an instance of the class c, its method answers as mf -/
def mIMeth (c : Nat) (m : Str) (mf : MF) (mo : ME) (mas : MA) : ME := fun ρ S => (mo ρ S).bind (kIMe c m mf mas ρ)
section
variable {X : Cx} {g : G} {hx : HX} {W : WX} {f : Addr} {fd : FuncData} {ps : List Str} {x m : Str} {p pos apos : Pos} {e o : Expr} {es : List Expr} {mo : ME} {mas : MA} {mf : MF} {c k n : Nat}
theorem make_sound {t : TA} (hK : X.K = g.K) (s : SnA g hx W t mas) (hn : ∀ ρ S ds S', mas ρ S = .ok ds S' → ds.length = n) : Sn g hx W (tMakeN (g.ic c) (spM g (n + 1) mf) (WE W) t) (mMake c mf mas) := by
  intro σ H As ρ S he hs Q hp
  unfold mMake at hp
  cases r : mas ρ S with
  | err c es' S' => rw [r] at hp; exact s σ H As ρ S he hs _ (by rw [r]; exact hp)
  | bad => rw [r] at hp; exact hp.elim
  | ok ds S1 =>
    rw [r] at hp
    refine s σ H As ρ S he hs _ ?_
    rw [r]
    intro vs H1 As1 e1 s1 i1 a dx na nd hne
    have hp2 := Post.up hp e1
    rw [bind_ok] at hp2
    have ex1 : Ext H1 As1 (upd H1 dx (.own a)) As1 := Ext.side s1 nd
    have s2 : StOk g (upd H1 dx (.own a)) As1 S1 := s1.side nd
    have na2 : (upd H1 dx (.own a)) a = none := by rw [upd_ne (Ne.symm hne)]; exact na
    have ex2 : Ext (upd H1 dx (.own a)) As1 (upd (upd H1 dx (.own a)) a (.ins (g.ic c) dx [])) (As1 ++ [a]) := Ext.new na2
    have s3 : StOk g (upd (upd H1 dx (.own a)) a (.ins (g.ic c) dx [])) (As1 ++ [a]) (S1 ++ [.ins c []]) := s2.new na2 ⟨dx, [], upd_same, rfl, .nil⟩
    have ex := ex1.trans ex2
    have ha : (As1 ++ [a])[S1.length]? = some a := by rw [← s1.len]; exact List.getElem?_concat_length
    refine ⟨As1 ++ [a], .ref S1.length :: ds, S1 ++ [.ins c []], .cons (.ref ha) (i1.up ex), s3, by rw [List.length_cons, hn ρ S ds S1 r], ?_⟩
    unfold kMake at hp2
    cases q : mf (.ref S1.length :: ds) (S1 ++ [.ins c []]) with
    | err c' es' S' => rw [q] at hp2; exact fun dd H' As' e' s' x' => hp2 dd H' As' (ex.trans e') s' x'
    | bad => rw [q] at hp2; exact hp2.elim
    | ok d S' =>
      rw [q] at hp2
      cases d with
      | non => exact fun v H' As' e' s' i' => ⟨by cases i'; rfl, hp2 (.ref a) H' As' (ex.trans e') s' (.ref (e'.get ha))⟩
      | _ => exact hp2.elim
theorem fe_make (M : Mk g.K (g.ic c) f) (F : FnOk X.prog X.w g.K X.mg X.base (L2N.CX X.prog X.w) k f fd ps (spM g (n + 1) mf)) (hr : Room (k + 1) X.A) (hm : X.mg x = some (.ref (g.ic c))) (hb : Binds g.K fd ps []) (tk : L2N.Takes X W)
    (ha : FA X g hx W (e :: es) mas) (hn : ∀ ρ S ds S', mas ρ S = .ok ds S' → ds.length = n) (hg : Gl X x := by rfl) (hdb : (x == ("__debug__" : Str)) = false := by decide) (he : starEach (e :: es) X.env = (false, eval e X.env) :: starEach es X.env := by rfl) (hpl : (backTo pos (starEach es X.env)).any (·.1) = false := by rfl) :
    FE X g hx W (.Call (.Name x p) (e :: es) [] pos) (mMake c mf mas) := by
  obtain ⟨hK, t, pa, s⟩ := ha.ex
  exact ⟨hK, _, pe_makeN (by rw [hK]; exact M) (by rw [hK]; exact F) hr hg hm (by rw [hK]; exact hb) (fun σ => L2N.passAt tk σ) pa hdb he hpl, make_sound hK s hn⟩
theorem fe_make0 (M : Mk g.K (g.ic c) f) (F : FnOk X.prog X.w g.K X.mg X.base (L2N.CX X.prog X.w) k f fd ps (spM g 1 mf)) (hr : Room (k + 1) X.A) (hm : X.mg x = some (.ref (g.ic c))) (hb : Binds g.K fd ps []) (tk : L2N.Takes X W) (hK : X.K = g.K) (hg : Gl X x := by rfl) (hdb : (x == ("__debug__" : Str)) = false := by decide) :
    FE X g hx W (.Call (.Name x p) [] [] pos) (mMake c mf mNil) :=
  ⟨hK, _, pe_makeN0 (by rw [hK]; exact M) (by rw [hK]; exact F) hr hg hm (by rw [hK]; exact hb) (fun σ => L2N.passAt tk σ) hdb, make_sound (n := 0) hK (fun σ H As ρ S he hs Q hp => hp [] H As (Ext.refl _ _) hs .nil) na_nil⟩
theorem imeth_sound {to : TE} {t : TA} (hK : X.K = g.K) (so : Sn g hx W to mo) (s : SnA g hx W t mas) (hn : ∀ ρ S ds S', mas ρ S = .ok ds S' → ds.length = n) : Sn g hx W (tMethN (g.ic c) m (spM g (n + 1) mf) (WE W) to t) (mIMeth c m mf mo mas) := by
  intro σ H As ρ S he hs Q hp
  refine so σ H As ρ S he hs _ (Post.bind (P := fun r => Post g W σ H As r Q) hp (fun d S1 hp1 v H1 As1 e1 s1 i1 => ?_) (fun _ _ _ q => q) id)
  unfold kIMe at hp1
  split at hp1
  · rename_i nn
    split at hp1
    · rename_i c' fs q
      split at hp1
      · rename_i hc
        obtain ⟨hc1, hc2⟩ := hc
        subst hc1
        obtain ⟨a, rfl, ha⟩ := IsRef i1
        obtain ⟨a', dx, xs, ha', h1, h2, h3⟩ := s1.ins q
        rw [ha] at ha'
        cases ha'
        refine ⟨a, dx, xs, rfl, h1, fld_none h2 hc2, ?_⟩
        cases r : mas ρ S1 with
        | err c es' S' => rw [r] at hp1; exact s σ H1 As1 ρ S1 (he.up e1) s1 _ (by rw [r]; exact fun dd H' As' e' s' x' => hp1 dd H' As' (e1.trans e') s' x')
        | bad => rw [r] at hp1; exact hp1.elim
        | ok ds S2 =>
          rw [r] at hp1
          refine s σ H1 As1 ρ S1 (he.up e1) s1 _ ?_
          rw [r]
          intro vs H2 As2 e2 s2 i2
          refine ⟨As2, .ref nn :: ds, S2, .cons (.ref (e2.get ha)) i2, s2, by rw [List.length_cons, hn ρ S1 ds S2 r], ?_⟩
          have hp3 := Post.up hp1 (e1.trans e2)
          rw [bind_ok] at hp3
          cases z : mf (.ref nn :: ds) S2 with
          | ok d S' => rw [z] at hp3; exact hp3
          | err c es' S' => rw [z] at hp3; exact hp3
          | bad => rw [z] at hp3; exact hp3
      · exact hp1.elim
    · exact hp1.elim
  · exact hp1.elim
theorem fe_imeth {pl : Sem Bool} (he : FE X g hx W o mo) (cl : Cls g.K (g.ic c)) (hm : Meth g.K (g.ic c) m f) (F : FnOk X.prog X.w g.K X.mg X.base (L2N.CX X.prog X.w) k f fd ps (spM g (n + 1) mf)) (hr : Room k X.A) (hb : Binds g.K fd ps []) (tk : L2N.Takes X W)
    (ha : FA X g hx W (e :: es) mas) (hn : ∀ ρ S ds S', mas ρ S = .ok ds S' → ds.length = n) (hst : starEach (e :: es) X.env = (false, eval e X.env) :: starEach es X.env := by rfl) (hpl : (backTo pos (starEach es X.env)).any (·.1) = false := by rfl)
    (ht : eval (.Call (.Attribute o m apos) (e :: es) [] pos) X.env = (do
      let ov ← eval o X.env
      standAt apos.atName
      let (f, first) ← holding [ov] (getMethod ov m pl)
      callWith pos f first (backTo pos (starEach (e :: es) X.env)) (backToKw pos (keywordEach [] X.env))) := by rfl) :
    FE X g hx W (.Call (.Attribute o m apos) (e :: es) [] pos) (mIMeth c m mf mo mas) := by
  obtain ⟨hK, t, pa, s⟩ := ha.ex
  obtain ⟨_, to, po, so⟩ := he.ex
  exact ⟨hK, _, pe_methN (pl := pl) po (by rw [hK]; exact cl) (by rw [hK]; exact hm) (by rw [hK]; exact F) hr (by rw [hK]; exact hb) (fun σ => L2N.passAt tk σ) pa hst hpl ht, imeth_sound hK so s hn⟩
theorem fe_imeth0 {pl : Sem Bool} (he : FE X g hx W o mo) (cl : Cls g.K (g.ic c)) (hm : Meth g.K (g.ic c) m f) (F : FnOk X.prog X.w g.K X.mg X.base (L2N.CX X.prog X.w) k f fd ps (spM g 1 mf)) (hr : Room k X.A) (hb : Binds g.K fd ps []) (tk : L2N.Takes X W)
    (ht : eval (.Call (.Attribute o m apos) [] [] pos) X.env = (do
      let ov ← eval o X.env
      standAt apos.atName
      let (f, first) ← holding [ov] (getMethod ov m pl)
      callWith pos f first (backTo pos (starEach [] X.env)) (backToKw pos (keywordEach [] X.env))) := by rfl) :
    FE X g hx W (.Call (.Attribute o m apos) [] [] pos) (mIMeth c m mf mo mNil) := by
  obtain ⟨hK, to, po, so⟩ := he.ex
  exact ⟨hK, _, pe_methN0 (pl := pl) po (by rw [hK]; exact cl) (by rw [hK]; exact hm) (by rw [hK]; exact F) hr (by rw [hK]; exact hb) (fun σ => L2N.passAt tk σ) ht, imeth_sound (n := 0) hK so (fun σ H As ρ S he hs Q hp => hp [] H As (Ext.refl _ _) hs .nil) na_nil⟩
end
section
variable {ρ : Rho} {S : Store} {m mo : ME} {mas : MA} {mf : MF} {c n : Nat} {cls : List Nat} {f : Str} {ds : List D} {d : D}
@[simp] theorem ev_fld : mFld cls f m ρ S = (m ρ S).bind (kFld cls f) := rfl
@[simp] theorem ev_make : mMake c mf mas ρ S = (mas ρ S).bind (kMake c mf) := rfl
@[simp] theorem ev_imeth : mIMeth c f mf mo mas ρ S = (mo ρ S).bind (kIMe c f mf mas ρ) := rfl
def kF3 (ρ : Rho) (o : Option Store) : RS := match o with
  | some S3 => .nx ρ S3
  | none => .bad
@[simp] theorem q_f3 : kF3 ρ (some S) = .nx ρ S := rfl
def kF2 (cls : List Nat) (f : Str) (ρ : Rho) (d o : D) (S : Store) : RS := kF3 ρ (setFld cls f o d S)
@[simp] theorem q_f2 {o : D} : kF2 cls f ρ d o S = kF3 ρ (setFld cls f o d S) := rfl
def kF1 (cls : List Nat) (f : Str) (mo : ME) (ρ : Rho) (d : D) (S : Store) : RS := (mo ρ S).stm ρ (kF2 cls f ρ d)
@[simp] theorem q_f1 : kF1 cls f mo ρ d S = (mo ρ S).stm ρ (kF2 cls f ρ d) := rfl
@[simp] theorem ev_fldset : mFldSet cls f mo m ρ S = (m ρ S).stm ρ (kF1 cls f mo ρ) := rfl
end
end FL
end

section
set_option autoImplicit false
/-! dicts with int and text keys: {}, d[k], d[k] = v, k in d, d.get(k, x) -/
namespace FL
open PySem L2 PyProof.Rows
def kD : D → Option Key
  | .int i => some (.inl i)
  | .str s => some (.inr s)
  | _ => none
def valD (kvs : List (Key × D)) (k : Key) : Option D := (kvs.find? fun kv => decide (kv.1 = k)).map (·.2)
def putKD (kvs : List (Key × D)) (k : Key) (d : D) : List (Key × D) :=
  if (kvs.any fun kv => decide (kv.1 = k)) = true then kvs.map (fun kv => if kv.1 = k then (kv.1, d) else kv) else kvs ++ [(k, d)]
section
variable {K : PySem.W.Frag} {H : Hp} {As : List Addr}
def KRel (K : PySem.W.Frag) (H : Hp) (As : List Addr) (kvs : List (Key × D)) (kxs : List (Key × V)) : Prop := kvs.map (·.1) = kxs.map (·.1) ∧ IsL K H As (kvs.map (·.2)) (kxs.map (·.2))
theorem kD_is {d : D} {x : V} {k : Key} (h : Is K H As d x) (e : kD d = some k) : x = kV k := by
  cases d with
  | int i => cases h; cases e; rfl
  | str s => cases h; cases e; rfl
  | _ => cases e
theorem KRel.val (k : Key) : ∀ {kvs : List (Key × D)} {kxs : List (Key × V)}, KRel K H As kvs kxs → (valD kvs k = none ∧ valV kxs k = none) ∨ ∃ d v, valD kvs k = some d ∧ valV kxs k = some v ∧ Is K H As d v
  | [], [], _ => .inl ⟨rfl, rfl⟩
  | [], _ :: _, h => by cases h.1
  | _ :: _, [], h => by cases h.1
  | (a, d) :: kvs, (b, v) :: kxs, ⟨h1, h2⟩ => by
    have e : a = b := (List.cons.inj h1).1
    have h1' : kvs.map (·.1) = kxs.map (·.1) := (List.cons.inj h1).2
    subst e
    cases h2 with
    | cons r1 r2 =>
      by_cases z : a = k
      · refine .inr ⟨d, v, ?_, valV_pos z, r1⟩
        simp [valD, List.find?_cons, z]
      · have e1 : valD ((a, d) :: kvs) k = valD kvs k := by simp [valD, List.find?_cons, z]
        have e2 : valV ((a, v) :: kxs) k = valV kxs k := valV_neg z
        rw [e1, e2]
        exact KRel.val k ⟨h1', r2⟩
theorem KRel.any (k : Key) : ∀ {kvs : List (Key × D)} {kxs : List (Key × V)}, KRel K H As kvs kxs → (kvs.any fun kv => decide (kv.1 = k)) = (kxs.any fun kv => decide (kv.1 = k))
  | [], [], _ => rfl
  | [], _ :: _, h => by cases h.1
  | _ :: _, [], h => by cases h.1
  | (a, d) :: kvs, (b, v) :: kxs, ⟨h1, h2⟩ => by
    have e : a = b := (List.cons.inj h1).1
    have h1' : kvs.map (·.1) = kxs.map (·.1) := (List.cons.inj h1).2
    subst e
    cases h2 with
    | cons r1 r2 =>
      rw [List.any_cons, List.any_cons, KRel.any k ⟨h1', r2⟩]
theorem KRel.map (k : Key) {d : D} {v : V} (i : Is K H As d v) : ∀ {kvs : List (Key × D)} {kxs : List (Key × V)}, KRel K H As kvs kxs → KRel K H As (kvs.map (fun kv => if kv.1 = k then (kv.1, d) else kv)) (kxs.map (fun kv => if kv.1 = k then (kv.1, v) else kv))
  | [], [], _ => ⟨rfl, .nil⟩
  | [], _ :: _, h => by cases h.1
  | _ :: _, [], h => by cases h.1
  | (a, x) :: kvs, (b, y) :: kxs, ⟨h1, h2⟩ => by
    have e : a = b := (List.cons.inj h1).1
    have h1' : kvs.map (·.1) = kxs.map (·.1) := (List.cons.inj h1).2
    subst e
    cases h2 with
    | cons r1 r2 =>
      obtain ⟨q1, q2⟩ := KRel.map k i ⟨h1', r2⟩
      by_cases z : a = k
      · rw [List.map_cons, List.map_cons, if_pos z, if_pos z]
        exact ⟨by rw [List.map_cons, List.map_cons, q1], .cons i q2⟩
      · rw [List.map_cons, List.map_cons, if_neg z, if_neg z]
        exact ⟨by rw [List.map_cons, List.map_cons, q1], .cons r1 q2⟩
theorem KRel.put (k : Key) {d : D} {v : V} (i : Is K H As d v) {kvs : List (Key × D)} {kxs : List (Key × V)} (h : KRel K H As kvs kxs) : KRel K H As (putKD kvs k d) (putK kxs k v) := by
  unfold putKD putK
  rw [h.any k]
  split
  · exact h.map k i
  · refine ⟨by rw [List.map_append, List.map_append, h.1]; rfl, ?_⟩
    rw [List.map_append, List.map_append]
    exact IsL.app h.2 (.cons i .nil)
theorem KRel.len {kvs : List (Key × D)} {kxs : List (Key × V)} (h : KRel K H As kvs kxs) : kvs.length = kxs.length := by
  have := congrArg List.length h.1
  rwa [List.length_map, List.length_map] at this
end
section
variable {X : Cx} {g : G} {hx : HX} {W : WX} {o i e value : Expr} {m mo mi mx : ME} {pos pos' : Pos} {H : Hp} {As : List Addr} {S : Store}
theorem StOk.dct (s : StOk g H As S) {n : Nat} {kvs : List (Key × D)} (h : S[n]? = some (.dct kvs)) : ∃ a kxs, As[n]? = some a ∧ H a = some (.dK kxs) ∧ KRel g.K H As kvs kxs := by
  obtain ⟨a, ha, kxs, h1, h2, h3⟩ := s.at h
  exact ⟨a, kxs, ha, h1, h2, h3⟩
def mDNew : ME := fun _ S => .ok (.ref S.length) (S ++ [.dct []])
theorem fe_dnew (hk : X.K = g.K) : FE X g hx W (.Dict [] [] pos) mDNew := ⟨hk, _, pe_dnewK, fun σ H As ρ S he hs Q hp p hn => by
  have ex : Ext H As (upd H p (.dK [])) (As ++ [p]) := Ext.new hn
  exact hp (.ref p) _ _ ex (hs.new hn ⟨[], upd_same, rfl, .nil⟩) (.ref (by rw [← hs.len]; exact List.getElem?_concat_length))⟩
def kDG2 (d e : D) (S : Store) : R D := match d, kD e with
  | .ref n, some k => (match S[n]? with
    | some (.dct kvs) => (match valD kvs k with
      | some x => .ok x S
      | none => .bad)
    | _ => .bad)
  | _, _ => .bad
def mDGet (mo mi : ME) : ME := fun ρ S => (mo ρ S).bind fun d S1 => (mi ρ S1).bind fun e S2 => kDG2 d e S2
theorem fe_dget (hu : X.A.units + 64 < cLine) (ho : FE X g hx W o mo) (hi : FE X g hx W i mi) (hs : NoSl i := by intro _ _; rfl) : FE X g hx W (.Subscript o i pos) (mDGet mo mi) := by
  obtain ⟨hk, t, p, s⟩ := ho.ex
  obtain ⟨_, t1, p1, s1⟩ := hi.ex
  refine ⟨hk, _, pe_dget (by omega) p p1 hs, fun σ H As ρ S he hst Q hp => ?_⟩
  refine s σ H As ρ S he hst _ (Post.bind (P := fun r => Post g W σ H As r Q) hp (fun d S1 hp1 v H1 As1 e1 s2 i1 => ?_) (fun _ _ _ q => q) id)
  refine s1 σ H1 As1 ρ S1 (he.up e1) s2 _ (Post.bind (P := fun r => Post g W σ H1 As1 r Q) (hp1.up e1) (fun e S2 hp2 u H2 As2 e2 s3 i2 => ?_) (fun _ _ _ q => q) id)
  have hp3 := Post.up hp2 e2
  unfold kDG2 at hp3
  split at hp3
  · rename_i n k hkd
    split at hp3
    · rename_i kvs q
      split at hp3
      · rename_i x hv
        have i1' := i1.up e2
        obtain ⟨a, rfl, ha⟩ := IsRef i1'
        obtain ⟨a', kxs, ha', h1, r⟩ := s3.dct q
        rw [ha] at ha'
        cases ha'
        rcases r.val k with ⟨z, _⟩ | ⟨d', v', z1, z2, z3⟩
        · rw [z] at hv; cases hv
        · rw [z1] at hv
          cases hv
          have ek := kD_is i2 hkd
          subst ek
          exact ⟨a, v', rfl, .inl ⟨kxs, k, .of h1, rfl, z2.symm⟩, hp3 v' H2 As2 (Ext.refl _ _) s3 z3⟩
      · exact hp3.elim
    · exact hp3.elim
  · exact hp3.elim
def setKD (o i d : D) (S : Store) : Option Store := match o, kD i with
  | .ref n, some k => (match S[n]? with
    | some (.dct kvs) => if kvs.length < 16777216 then some (S.set n (.dct (putKD kvs k d))) else none
    | _ => none)
  | _, _ => none
def mDPut (mo mi m : ME) : MS := fun ρ S => (m ρ S).stm ρ fun d S1 => (mo ρ S1).stm ρ fun o S2 => (mi ρ S2).stm ρ fun i S3 => match setKD o i d S3 with
  | some S4 => .nx ρ S4
  | none => .bad
theorem fs_dput (hu : X.A.units + 64 < cLine) (ho : FE X g hx W o mo) (hi : FE X g hx W i mi) (hv : FE X g hx W value m) (hs : swapsWith value (some (.Subscript o i pos')) pos.line X.env = pure false := by rfl) : FS X g hx W (.Assign [.Subscript o i pos'] value pos) (mDPut mo mi m) := by
  obtain ⟨hk, t, p, s⟩ := hv.ex
  obtain ⟨_, t1, p1, s1⟩ := ho.ex
  obtain ⟨_, t2, p2, s2⟩ := hi.ex
  refine ⟨hk, _, ps_dput (by omega) p1 p2 p hs, fun σ H As ρ S he hst E hp => ?_⟩
  refine s σ H As ρ S he hst _ (Post.stm (P := fun r => PostS g hx W H As r E) hp (fun d S1 hp1 v H1 As1 e1 q1 i1 => ?_) (fun c ds S' q => PostS.err he q) id)
  refine s1 σ H1 As1 ρ S1 (he.up e1) q1 _ (Post.stm (P := fun r => PostS g hx W H1 As1 r E) (hp1.up e1) (fun ov S2 hp2 u H2 As2 e2 q2 i2 => ?_) (fun c ds S' q => PostS.err (he.up e1) q) id)
  refine s2 σ H2 As2 ρ S2 ((he.up e1).up e2) q2 _ (Post.stm (P := fun r => PostS g hx W H2 As2 r E) (hp2.up e2) (fun iv S3 hp3 u3 H3 As3 e3 q3 i3 => ?_) (fun c ds S' q => PostS.err ((he.up e1).up e2) q) id)
  have hp4 := hp3.up e3
  cases z : setKD ov iv d S3 with
  | none => rw [z] at hp4; exact hp4.elim
  | some S4 =>
    rw [z] at hp4
    unfold setKD at z
    split at z
    · rename_i n k hkd
      split at z
      · rename_i kvs q
        split at z
        · rename_i hl
          cases z
          obtain ⟨a, rfl, ha⟩ := IsRef (i2.up e3)
          obtain ⟨a', kxs, ha', h1, r⟩ := q3.dct q
          rw [ha] at ha'
          cases ha'
          have ek := kD_is i3 hkd
          subst ek
          have ew : Ext H3 As3 (upd H3 a (.dK (putK kxs k v))) As3 := Ext.write q3 ha
          have r2 := r.put k ((i1.up e2).up e3)
          exact ⟨a, _, rfl, .inl ⟨kxs, k, h1, rfl, szlt (by rw [← r.len]; exact hl), rfl⟩, hp4 σ _ As3 ew (q3.write ha ⟨_, upd_same, r2.1, r2.2.up ew⟩) ((((he.up e1).up e2).up e3).up ew)⟩
        · cases z
      · cases z
    · cases z
/-! ### one of two rules -/
theorem fe_pick {m1 m2 : ME} (h1 : FE X g hx W e m1) (h2 : FE X g hx W e m2) (hm : ∀ ρ S, m ρ S = m1 ρ S ∨ m ρ S = m2 ρ S) : FE X g hx W e m := by
  obtain ⟨hk, t1, p1, s1⟩ := h1.ex
  obtain ⟨_, t2, p2, s2⟩ := h2.ex
  refine ⟨hk, fun σ H Q => t1 σ H Q ∨ t2 σ H Q, ⟨fun pins s σ H Q I h => ?_⟩, fun σ H As ρ S he hs Q hp => ?_⟩
  · rcases h with h | h
    · exact p1.run pins s σ H Q I h
    · exact p2.run pins s σ H Q I h
  · rcases hm ρ S with z | z
    · exact .inl (s1 σ H As ρ S he hs Q (by rw [← z]; exact hp))
    · exact .inr (s2 σ H As ρ S he hs Q (by rw [← z]; exact hp))
theorem fs_pick {st : Stmt} {ms m1 m2 : MS} (h1 : FS X g hx W st m1) (h2 : FS X g hx W st m2) (hm : ∀ ρ S, ms ρ S = m1 ρ S ∨ ms ρ S = m2 ρ S) : FS X g hx W st ms := by
  obtain ⟨hk, t1, p1, s1⟩ := h1.ex
  obtain ⟨_, t2, p2, s2⟩ := h2.ex
  refine ⟨hk, fun E σ H => t1 E σ H ∨ t2 E σ H, ⟨fun pins s σ H E I h => ?_⟩, fun σ H As ρ S he hs E hp => ?_⟩
  · rcases h with h | h
    · exact p1.run pins s σ H E I h
    · exact p2.run pins s σ H E I h
  · rcases hm ρ S with z | z
    · exact .inl (s1 σ H As ρ S he hs E (by rw [← z]; exact hp))
    · exact .inr (s2 σ H As ρ S he hs E (by rw [← z]; exact hp))
/-! ### k in d -/
def hasD (e d : D) (S : Store) : Option Bool := match d, kD e with
  | .ref n, some k => (match S[n]? with
    | some (.dct kvs) => some (valD kvs k).isSome
    | _ => none)
  | _, _ => none
def bInD (e d : D) (S : Store) : R D := match hasD e d S with
  | some b => .ok (.bl b) S
  | none => .bad
def bNotInD (e d : D) (S : Store) : R D := match hasD e d S with
  | some b => .ok (.bl (!b)) S
  | none => .bad
theorem hasD_sound {d e : D} {x y : V} {b : Bool} (s3 : StOk g H As S) (ix : Is g.K H As e x) (iy : Is g.K H As d y) (h : hasD e d S = some b) : ∃ a ov, y = .ref a ∧ DGet H a x ov ∧ ov.isSome = b := by
  unfold hasD at h
  split at h
  · rename_i n k hkd
    split at h
    · rename_i kvs q
      cases h
      obtain ⟨a, rfl, ha⟩ := IsRef iy
      obtain ⟨a', kxs, ha', h1, r⟩ := s3.dct q
      rw [ha] at ha'
      cases ha'
      have ek := kD_is ix hkd
      subst ek
      refine ⟨a, valV kxs k, rfl, .inl ⟨kxs, k, .of h1, rfl, rfl⟩, ?_⟩
      rcases r.val k with ⟨z1, z2⟩ | ⟨d', v', z1, z2, z3⟩
      · rw [z1, z2]; rfl
      · rw [z1, z2]; rfl
    · cases h
  · cases h
theorem sn_in {t t1 : TE} (s : Sn g hx W t mi) (s1 : Sn g hx W t1 mo) : Sn g hx W (tDIn t t1) (mOp bInD mi mo) := fun σ H As ρ S he hst Q hp => by
  refine s σ H As ρ S he hst _ (Post.bind (P := fun r => Post g W σ H As r Q) hp (fun d S1 hp1 v H1 As1 e1 s2 i1 => ?_) (fun _ _ _ q => q) id)
  refine s1 σ H1 As1 ρ S1 (he.up e1) s2 _ (Post.bind (P := fun r => Post g W σ H1 As1 r Q) (hp1.up e1) (fun e S2 hp2 u H2 As2 e2 s3 i2 => ?_) (fun _ _ _ q => q) id)
  have hp3 := Post.up hp2 e2
  unfold bInD at hp3
  cases z : hasD d e S2 with
  | none => rw [z] at hp3; exact hp3.elim
  | some b =>
    rw [z] at hp3
    obtain ⟨a, ov, q1, q2, q3⟩ := hasD_sound s3 (i1.up e2) i2 z
    exact ⟨a, ov, q1, q2, by rw [q3]; exact hp3 (.bl b) H2 As2 (Ext.refl _ _) s3 (.bl b)⟩
theorem sn_notin {t t1 : TE} (s : Sn g hx W t mi) (s1 : Sn g hx W t1 mo) : Sn g hx W (tDNotIn t t1) (mOp bNotInD mi mo) := fun σ H As ρ S he hst Q hp => by
  refine s σ H As ρ S he hst _ (Post.bind (P := fun r => Post g W σ H As r Q) hp (fun d S1 hp1 v H1 As1 e1 s2 i1 => ?_) (fun _ _ _ q => q) id)
  refine s1 σ H1 As1 ρ S1 (he.up e1) s2 _ (Post.bind (P := fun r => Post g W σ H1 As1 r Q) (hp1.up e1) (fun e S2 hp2 u H2 As2 e2 s3 i2 => ?_) (fun _ _ _ q => q) id)
  have hp3 := Post.up hp2 e2
  unfold bNotInD at hp3
  cases z : hasD d e S2 with
  | none => rw [z] at hp3; exact hp3.elim
  | some b =>
    rw [z] at hp3
    obtain ⟨a, ov, q1, q2, q3⟩ := hasD_sound s3 (i1.up e2) i2 z
    exact ⟨a, ov, q1, q2, by rw [q3]; exact hp3 (.bl (!b)) H2 As2 (Ext.refl _ _) s3 (.bl _)⟩
theorem fe_inD (hu : X.A.units + 64 < cLine) (hi : FE X g hx W i mi) (ho : FE X g hx W o mo) (hb : behindInMarks .In o = false := by rfl) : FE X g hx W (.Compare i [.In] [o] pos) (mOp bInD mi mo) := by
  obtain ⟨hk, t, p, s⟩ := hi.ex
  obtain ⟨_, t1, p1, s1⟩ := ho.ex
  exact ⟨hk, _, pe_cmp (pc_din (by omega) p p1) hb, sn_in s s1⟩
theorem fe_notInD (hu : X.A.units + 64 < cLine) (hi : FE X g hx W i mi) (ho : FE X g hx W o mo) (hb : behindInMarks .NotIn o = false := by rfl) : FE X g hx W (.Compare i [.NotIn] [o] pos) (mOp bNotInD mi mo) := by
  obtain ⟨hk, t, p, s⟩ := hi.ex
  obtain ⟨_, t1, p1, s1⟩ := ho.ex
  exact ⟨hk, _, pe_cmp (pc_dnotin (by omega) p p1) hb, sn_notin s s1⟩
theorem ft_inD (hu : X.A.units + 64 < cLine) (hi : FE X g hx W i mi) (ho : FE X g hx W o mo) (hb : behindInMarks .In o = false := by rfl) : FT X g hx W (.Compare i [.In] [o] pos) (mB (mOp bInD mi mo)) := by
  obtain ⟨hk, t, p, s⟩ := hi.ex
  obtain ⟨_, t1, p1, s1⟩ := ho.ex
  exact ⟨hk, _, pt_cmp (pc_din (by omega) p p1) hb, SnT.B (sn_in s s1)⟩
theorem ft_notInD (hu : X.A.units + 64 < cLine) (hi : FE X g hx W i mi) (ho : FE X g hx W o mo) (hb : behindInMarks .NotIn o = false := by rfl) : FT X g hx W (.Compare i [.NotIn] [o] pos) (mB (mOp bNotInD mi mo)) := by
  obtain ⟨hk, t, p, s⟩ := hi.ex
  obtain ⟨_, t1, p1, s1⟩ := ho.ex
  exact ⟨hk, _, pt_cmp (pc_dnotin (by omega) p p1) hb, SnT.B (sn_notin s s1)⟩
end
end FL
end

section
set_option autoImplicit false
/-! try: .. except A as x: .. except B as y: .. -/
namespace FL
open PySem L2 PyProof.Rows PXN
abbrev Cl3 := Nat × Value × (Addr → Value → Option Addr → TS)
def endsN (D : Ends) (i : Nat) : Ends := { nx := fun σ H => D.nx (σ.set i none) H, rt := D.rt, bk := fun σ H => D.bk (σ.set i none) H, ct := fun σ H => D.ct (σ.set i none) H }
/-- what the clauses wish of an exception of the body -/
def wNamed (K : PySem.W.Frag) (Wout : WX) (D : Ends) : List Cl3 → WX
  | [] => Wout
  | (i, c, ts) :: r => fun cls d σ H => ∃ b, PySem.W.exmOne K cls c = some b ∧ (b = true → ∀ a, H a = none → ts a cls d (endsN D i) (σ.set i (some (.ref a))) H) ∧ (b = false → wNamed K Wout D r cls d σ H)
inductive HdNs (X : Cx) : List ExceptHandler → List Cl3 → Prop
  | nil : HdNs X [] []
  | cons {x n : Str} {i : Nat} {c : Value} {ts : Addr → Value → Option Addr → TS} {b₀ : Stmt} {suite : List Stmt} {np pos' : Pos} {hds : List ExceptHandler} {l : List Cl3} (hi : X.N[i]? = some n) (hln : X.env.kindOf n = some .local) (hc : Names X x c)
      (hsu : ∀ (a : Addr) (oe : Obj) (cls : Value) (d : Option Addr) (pn : List (Addr × Obj)), L2N.Zn cls d oe → (∃ vs, oe.data = .fields vs) → PSs (X.suite a ((a, oe) :: pn)) (b₀ :: suite) (ts a cls d)) (r : HdNs X hds l) :
      HdNs X (.ExceptHandler (some (.Name x np)) (some n) (b₀ :: suite) pos' :: hds) ((i, c, ts) :: l)
section
variable {X : Cx} {body : List Stmt} {h₀ : ExceptHandler} {hds : List ExceptHandler} {l : List Cl3} {pos : Pos} {tb : WX → TS} {Wout : WX}
theorem ps_tryN (hs : X.stack = X.env :: X.outer) (hf : X.env.frame = some X.env.locals) (hN : X.N.Nodup) (tk : L2N.Takes X Wout)
    (hb : ∀ (W : WX) (pn : List (Addr × Obj)) (xe : Value → Shared → Prop), L2N.Takes (X.tr pn xe) W → PassesOwn (model X.prog X.w) X.A X.env xe → PSs (X.tr pn xe) body (tb W))
    (hh : HdNs X (h₀ :: hds) l) : PS X (.Try body (h₀ :: hds) [] [] pos) (fun D σ H => tb (wNamed X.K Wout D l) D σ H) := by
  constructor
  intro pins s σ H D I h
  have okX := I.ok
  have frs0 : X.A.frames = some (X.env :: X.outer) := by rw [okX.frames, hs]
  refine wpAny_Try_except ?_
  refine wpAny_mono ((hb (wNamed X.K Wout D l) (X.pn ++ pins) (fun e t1 => wpAny (model X.prog X.w) X.A (noteFrame e X.env) (fun _ t2 => wpAny (model X.prog X.w) X.A (setFlight e none) (fun _ t3 =>
    wpAny (model X.prog X.w) X.A (handleBy e X.env (h₀ :: hds)) (SP X pins D) X.xe t3) X.xe t2) X.xe t1) (fun u s' air => ?_) PassesOwn.looking).run [] s σ H D (I.toTry _) h) (fun f s1 out => ?_) (fun e s1 q => q)
  · obtain ⟨a, B, sI, pin2, σ', H', cls, d, rfl, J0, nb, up, sky, na, os, ag, wish⟩ := air
    have J : Inv X pins σ' H' sI := J0.ofTry okX
    have sky' : L2.Sky B (X.env :: X.outer) a (L2N.Zn cls d) X.env.locals s'.heap := by rw [← hs]; exact sky
    show wpAny (model X.prog X.w) X.A (noteFrame (.ref a) X.env) _ _ _
    refine L2N.Sky.land L2N.Zn.steady frs0 hf sky' fun h3 fl3 up3 => ?_
    have J3 : Inv X pins σ' H' { s' with heap := h3 } := J.landed nb fl3.1 (up.trans up3) os ag
    obtain ⟨oe3, vs3, at3, z3, dat3⟩ := fl3.there
    have noFr : a ∉ frs (X.env :: X.outer) := fun hm => by
      obtain ⟨_, o', e', hnf⟩ := fl3.2.2.1.mem hm
      rw [at3] at e'; cases e'
      exact hnf _ dat3
    have neL : a ≠ X.env.locals := fun z => noFr (List.mem_filterMap.mpr ⟨X.env, List.mem_cons_self, by rw [hf, z]⟩)
    have neF : a ∉ X.fs := fun hm => by
      obtain ⟨e, he, q⟩ := List.mem_filterMap.mp hm
      exact noFr (List.mem_filterMap.mpr ⟨e, List.mem_cons_of_mem _ he, q⟩)
    have S3 := J3.suite at3 dat3 na neL neF
    have go : ∀ {hs2 : List ExceptHandler} {l2 : List Cl3}, HdNs X hs2 l2 → wNamed X.K Wout D l2 cls d σ' H' → wpAny (model X.prog X.w) X.A (handleBy (.ref a) X.env hs2) (SP X pins D) X.xe { s' with heap := h3 } := by
      intro hs2 l2 hk
      induction hk with
      | nil =>
        intro w
        refine wpAny_handleBy_nil ?_
        obtain ⟨k1, k2, k3, oe, vs, T, oT, ts', he, hz, hd, g1, hr⟩ := id fl3
        unfold PySem.passOn
        refine wpAny_bind (wpAny_field he hd g1 ?_)
        rw [if_neg (show ¬ ((Value.ref T == Value.none) = true) by simp)]
        have up4 : wpAny (model X.prog X.w) X.A (setFlight (.ref a) X.env.frame) (fun _ s4 => wpAny (model X.prog X.w) X.A (throw (.ref a) : Sem Flow) (SP X pins D) X.xe s4) X.xe { s' with heap := h3 } := by
          rw [hf]
          refine HandSPX.setFlight_upZ fl3 fun h4 hh4 u4 => wpAny_throw (tk _ _ ?_)
          exact ⟨a, B, sI, pins, σ', H', cls, d, rfl, J, nb, (up.trans up3).trans u4, .inr (.inr (by rw [hs]; exact hh4)), na, os, ag, w⟩
        first
          | exact wpAny_bind (wpAny_pure (wpAny_bind up4))
          | exact wpAny_bind up4
      | @cons x n i c ts b₀ suite np pos' hd2 l3 hi hln hc hsu r ih =>
        intro w
        obtain ⟨b, hb1, yes, no⟩ := w
        have hloc : Loc X.env.scope n := .inl hln
        refine wpAny_handleBy_cons (codeAny_handlers_test ?_) (by intro q; cases q)
        have LT : PySem.W.Looks (model X.prog X.w) h3 (typeOf (.ref a)) cls := fun A Q E s k q => wpAny_typeOf_ref (k _ _ at3) (by rw [z3.1]; exact q)
        have LM := PySem.W.exm_one (M := model X.prog X.w) (J3.kIn) LT hb1
        have asks : ∀ {Q : Value → Shared → Prop} {E : Value → Shared → Prop}, Q c { s' with heap := h3 } → wpAny (model X.prog X.w) (X.A.mark (some (.ref a))) (eval (.Name x np) X.env) Q E { s' with heap := h3 } := fun {Q E} q => by
          obtain ⟨hg, hdbg, hm | ⟨hm, hv, hnn⟩⟩ := hc
          · exact ld_glob (X := X.suite a ((a, oe3) :: (X.pn ++ pins))) S3 hg hm q hdbg
          · exact ld_blt (X := X.suite a ((a, oe3) :: (X.pn ++ pins))) S3 hg hm hv q hnn hdbg
        refine asks (LM.here ?_)
        cases b with
        | false =>
          show wpAny _ X.A (handleBy (.ref a) X.env hd2) _ _ _
          exact ih (no rfl)
        | true =>
          refine codeAny_handlers_suite_as ?_
          refine HandSPX.lands_againZ fl3 fun h4 fl4 up4 => ?_
          have J4 : Inv X pins σ' H' { s' with heap := h4 } := J.landed nb fl4.1 ((up.trans up3).trans up4) os ag
          obtain ⟨oe4, vs4, at4, z4, dat4⟩ := fl4.there
          have S4 := J4.suite at4 dat4 na neL neF
          refine store_ok (X := X.suite a ((a, oe4) :: (X.pn ++ pins))) (v := .ref a) S4 hN hi hloc rfl (fun s5 S5 => ?_) (.inr hln)
          refine wpAny_mono ((hsu a oe4 cls d (X.pn ++ pins) z4 ⟨_, dat4⟩).run [] s5 _ H' _ S5 (yes rfl a na)) (fun f s6 out => ?_) (fun _ _ z => z.elim)
          have gone : ∀ {σ6 : L2.St} {H6 : Hp} {Q : Shared → Prop}, Inv (X.suite a ((a, oe4) :: (X.pn ++ pins))) [] σ6 H6 s6 → (∀ s7, Inv X pins (σ6.set i none) H6 s7 → Q s7) →
              wpAny (model X.prog X.w) X.A (do bindName X.env n .none; unbindBehindTheSuite X.env n pos') (fun _ s7 => Q s7) X.xe s6 := fun {σ6 H6 Q} S6 hq => gone_ok (S6.unsuite okX) hN hi hln hq
          cases f with
          | next => obtain ⟨σ6, H6, S6, q6⟩ := out; exact gone S6 fun s7 J7 => ⟨_, _, J7, q6⟩
          | brk => obtain ⟨σ6, H6, S6, q6⟩ := out; exact gone S6 fun s7 J7 => ⟨_, _, J7, q6⟩
          | cont => obtain ⟨σ6, H6, S6, q6⟩ := out; exact gone S6 fun s7 J7 => ⟨_, _, J7, q6⟩
          | ret u => obtain ⟨v6, σ6, H6, S6, r6, q6⟩ := out; exact gone S6 fun s7 J7 => ⟨_, _, _, J7, r6, q6⟩
    exact go hh wish
  · cases f with
    | next => obtain ⟨σ', H', J', q⟩ := out; exact wpAny_execs_nil ⟨σ', H', J'.ofTry okX, q⟩
    | brk => obtain ⟨σ', H', J', q⟩ := out; exact ⟨σ', H', J'.ofTry okX, q⟩
    | cont => obtain ⟨σ', H', J', q⟩ := out; exact ⟨σ', H', J'.ofTry okX, q⟩
    | ret u => obtain ⟨v, σ', H', J', r, q⟩ := out; exact ⟨v, σ', H', J'.ofTry okX, r, q⟩
end
/-! ### over data -/
abbrev ArmN := Nat × (Nat → Option Bool) × MS
def mArmsN (c : Nat) (es : List D) (ρ : Rho) (S : Store) : List ArmN → RS
  | [] => .err c es ρ S
  | (i, sub, ms) :: r => match sub c with
    | some true => unset i (ms (ρ.set i (.exc c es)) S)
    | some false => mArmsN c es ρ S r
    | none => .bad
def RS.triN (r : RS) (arms : List ArmN) : RS := match r with
  | .err c es ρ' S' => mArmsN c es ρ' S' arms
  | r => r
def mTryN (arms : List ArmN) (mb : MS) : MS := fun ρ S => (mb ρ S).triN arms
section
variable {X : Cx} {g : G} {W : WX} {H : Hp} {As : List Addr} {pos : Pos}
inductive ArmsN (X : Cx) (g : G) : List ExceptHandler → List ArmN → List Cl3 → Prop
  | nil : ArmsN X g [] [] []
  | cons {x n : Str} {i : Nat} {np pos' : Pos} {cV : Value} {sub : Nat → Option Bool} {ms : MS} {b₀ : Stmt} {suite : List Stmt} {hds : List ExceptHandler} {arms : List ArmN} {l : List Cl3} (hc : Names X x cV)
      (hsub : ∀ c b, sub c = some b → PySem.W.exmOne g.K (.ref (g.ec c)) cV = some b)
      (hsu : ∀ (a : Addr) (oe : Obj) (cls : Value) (d : Option Addr) (pn : List (Addr × Obj)), L2N.Zn cls d oe → (∃ vs, oe.data = .fields vs) → FSs (X.suite a ((a, oe) :: pn)) g (some (a, cls, d)) W0 (b₀ :: suite) ms) (r : ArmsN X g hds arms l)
      (hi : X.N[i]? = some n := by rfl) (hln : X.env.kindOf n = some .local := by rfl) :
      ArmsN X g (.ExceptHandler (some (.Name x np)) (some n) (b₀ :: suite) pos' :: hds) ((i, sub, ms) :: arms) ((i, cV, fun a cls d => tM g (some (a, cls, d)) W0 ms) :: l)
theorem ArmsN.hds {hs : List ExceptHandler} {arms : List ArmN} {l : List Cl3} (h : ArmsN X g hs arms l) : HdNs X hs l := by
  induction h with
  | nil => exact .nil
  | cons hc hsub hsu r hi hln ih => exact .cons hi hln hc (fun a oe cls d pn hz hf => (hsu a oe cls d pn hz hf).can) ih
theorem armsN_sound {hs : List ExceptHandler} {arms : List ArmN} {l : List Cl3} (h : ArmsN X g hs arms l) (hK : X.K = g.K) {c : Nat} {es : List D} {ρ : Rho} {S : Store} {σ : L2.St} {dd : Option Addr} {E : Ends}
    (s1 : StOk g H As S) (v1 : EnvOk g none H As ρ σ) (x1 : ExcOk g H As c es dd) (hp : PostS g none W H As (mArmsN c es ρ S arms) E) : wNamed X.K W E l (.ref (g.ec c)) dd σ H := by
  induction h with
  | nil => exact hp σ dd H As (Ext.refl _ _) s1 v1 x1
  | @cons x n i np pos' cV sub ms b₀ suite hds arms l hc hsub hsu r hi hln ih =>
    unfold mArmsN at hp
    cases q : sub c with
    | none => rw [q] at hp; exact hp.elim
    | some b =>
      rw [q] at hp
      refine ⟨b, by rw [hK]; exact hsub c b q, fun hb1 a na => ?_, fun hb0 => ?_⟩
      · subst hb1
        dsimp only at hp
        refine ⟨As, ρ.set i (.exc c es), S, (v1.none_any _).set i ⟨a, dd, rfl, rfl, x1⟩, s1, ?_⟩
        cases r2 : ms (ρ.set i (.exc c es)) S with
        | nx ρ2 S2 => rw [r2] at hp; exact fun σ2 H2 As2 e2 st2 v2 => hp _ H2 As2 e2 st2 (v2.clr.setU i none)
        | bk ρ2 S2 => rw [r2] at hp; exact fun σ2 H2 As2 e2 st2 v2 => hp _ H2 As2 e2 st2 (v2.clr.setU i none)
        | ct ρ2 S2 => rw [r2] at hp; exact fun σ2 H2 As2 e2 st2 v2 => hp _ H2 As2 e2 st2 (v2.clr.setU i none)
        | rt d S2 => rw [r2] at hp; exact hp
        | err c2 es2 ρ2 S2 => rw [r2] at hp; exact hp.elim
        | bad => rw [r2] at hp; exact hp.elim
      · subst hb0
        exact ih hp
theorem fs_tryN {body : List Stmt} {h₀ : ExceptHandler} {hds : List ExceptHandler} {arms : List ArmN} {l : List Cl3} {mb : MS} (hK : X.K = g.K) (hs : X.stack = X.env :: X.outer) (hf : X.env.frame = some X.env.locals) (hN : X.N.Nodup) (tk : L2N.Takes X W)
    (hb : ∀ (W : WX) (pn : List (Addr × Obj)) (xe : Value → Shared → Prop), L2N.Takes (X.tr pn xe) W → PassesOwn (model X.prog X.w) X.A X.env xe → FSs (X.tr pn xe) g none W body mb)
    (hh : ArmsN X g (h₀ :: hds) arms l) : FS X g none W (.Try body (h₀ :: hds) [] [] pos) (mTryN arms mb) := by
  refine ⟨hK, _, ps_tryN (tb := fun W => tM g none W mb) hs hf hN tk (fun W pn xe tk' po => (hb W pn xe tk' po).can) hh.hds, fun σ H As ρ S he hst E hp => ?_⟩
  refine ⟨As, ρ, S, he, hst, ?_⟩
  unfold mTryN at hp
  cases r : mb ρ S with
  | nx ρ' S' => rw [r] at hp; exact hp
  | bk ρ' S' => rw [r] at hp; exact hp
  | ct ρ' S' => rw [r] at hp; exact hp
  | rt d S' => rw [r] at hp; exact hp
  | bad => rw [r] at hp; exact hp
  | err c es ρ' S' =>
    rw [r] at hp
    intro σ' dd H' As' e1 s1 v1 x1
    exact armsN_sound hh hK s1 v1 x1 (PostS.up hp e1)
end
section
variable {ρ : Rho} {S : Store} {arms : List ArmN} {mb : MS} {d : D} {c : Nat} {es : List D}
@[simp] theorem ev_tryN : mTryN arms mb ρ S = (mb ρ S).triN arms := rfl
@[simp] theorem triN_nx : (RS.nx ρ S).triN arms = .nx ρ S := rfl
@[simp] theorem triN_rt : (RS.rt d S).triN arms = .rt d S := rfl
@[simp] theorem triN_err : (RS.err c es ρ S).triN arms = mArmsN c es ρ S arms := rfl
@[simp] theorem armsN_nil : mArmsN c es ρ S [] = .err c es ρ S := rfl
@[simp] theorem armsN_cons {i : Nat} {sub : Nat → Option Bool} {ms : MS} : mArmsN c es ρ S ((i, sub, ms) :: arms) = match sub c with
    | some true => unset i (ms (ρ.set i (.exc c es)) S)
    | some false => mArmsN c es ρ S arms
    | none => .bad := rfl
end
end FL
end

section
set_option autoImplicit false
/-! sum, sorted, max, min of lists of ints; range as a value; d.get, d.setdefault; o.f op= e; tuples of the module -/
namespace FL
open PySem L2 PyProof.Rows
def intsOf : List D → Option (List Int)
  | [] => some []
  | .int i :: r => (intsOf r).map (i :: ·)
  | _ :: _ => none
theorem intsOf_some : ∀ {ds : List D} {ys : List Int}, intsOf ds = some ys → ds = ys.map D.int
  | [], ys, h => by cases h; rfl
  | d :: r, ys, h => by
    cases d with
    | int s =>
      unfold intsOf at h
      cases q : intsOf r with
      | none => rw [q] at h; cases h
      | some zs => rw [q] at h; cases h; rw [intsOf_some q]; rfl
    | _ => cases h
@[simp] theorem intsOf_map : ∀ ys : List Int, intsOf (ys.map D.int) = some ys
  | [] => rfl
  | y :: ys => by
    show (intsOf (ys.map D.int)).map (y :: ·) = _
    rw [intsOf_map ys]
    rfl
def lstOf (S : Store) : D → Option (List D)
  | .fz ds => some ds
  | .ref n => getL S n
  | _ => none
/-! ### a row in order -/
def insI (x : Int) : List Int → List Int
  | [] => [x]
  | y :: r => if x ≤ y then x :: y :: r else y :: insI x r
def srtI : List Int → List Int
  | [] => []
  | x :: r => insI x (srtI r)
theorem insI_perm (x : Int) : ∀ l : List Int, (insI x l).Perm (x :: l)
  | [] => List.Perm.refl _
  | y :: r => by
    unfold insI
    split
    · exact List.Perm.refl _
    · exact ((insI_perm x r).cons y).trans (List.Perm.swap x y r)
theorem srtI_perm : ∀ l : List Int, (srtI l).Perm l
  | [] => List.Perm.refl _
  | x :: r => (insI_perm x (srtI r)).trans ((srtI_perm r).cons x)
theorem insI_pw (x : Int) : ∀ l : List Int, l.Pairwise (· ≤ ·) → (insI x l).Pairwise (· ≤ ·)
  | [], _ => by simp [insI]
  | y :: r, h => by
    unfold insI
    rw [List.pairwise_cons] at h
    split
    · rename_i hxy
      refine List.pairwise_cons.mpr ⟨fun z hz => ?_, List.pairwise_cons.mpr h⟩
      rcases List.mem_cons.mp hz with hz | hz
      · rw [hz]; exact hxy
      · exact Int.le_trans hxy (h.1 z hz)
    · rename_i hxy
      refine List.pairwise_cons.mpr ⟨fun z hz => ?_, insI_pw x r h.2⟩
      rcases List.mem_cons.mp ((insI_perm x r).mem_iff.mp hz) with hz | hz
      · rw [hz]; omega
      · exact h.1 z hz
theorem srtI_pw : ∀ l : List Int, (srtI l).Pairwise (· ≤ ·)
  | [] => List.Pairwise.nil
  | x :: r => insI_pw x _ (srtI_pw r)
theorem srt_uniq : ∀ {a b : List Int}, a.Perm b → a.Pairwise (· ≤ ·) → b.Pairwise (· ≤ ·) → a = b
  | [], b, h, _, _ => (List.nil_perm.mp h).symm
  | x :: a, [], h, _, _ => absurd h.length_eq (by simp)
  | x :: a, y :: b, h, h1, h2 => by
    rw [List.pairwise_cons] at h1 h2
    have e : x = y := by
      have m1 : y ∈ x :: a := h.mem_iff.mpr List.mem_cons_self
      have m2 : x ∈ y :: b := h.mem_iff.mp List.mem_cons_self
      have a1 : x ≤ y := by
        rcases List.mem_cons.mp m1 with z | z
        · omega
        · exact h1.1 y z
      have a2 : y ≤ x := by
        rcases List.mem_cons.mp m2 with z | z
        · omega
        · exact h2.1 x z
      omega
    subst e
    rw [srt_uniq ((List.perm_cons x).mp h) h1.2 h2.2]
def maxI : List Int → Int
  | [] => 0
  | [x] => x
  | x :: r => if maxI r < x then x else maxI r
def minI : List Int → Int
  | [] => 0
  | [x] => x
  | x :: r => if x < minI r then x else minI r
theorem maxI_spec : ∀ l : List Int, l ≠ [] → maxI l ∈ l ∧ ∀ y ∈ l, y ≤ maxI l
  | [], h => absurd rfl h
  | [x], _ => ⟨by simp [maxI], fun y hy => by rw [List.mem_singleton.mp hy]; simp [maxI]⟩
  | x :: y :: r, _ => by
    obtain ⟨h1, h2⟩ := maxI_spec (y :: r) (by simp)
    have e : maxI (x :: y :: r) = if maxI (y :: r) < x then x else maxI (y :: r) := rfl
    rw [e]
    split
    · rename_i hlt
      exact ⟨List.mem_cons_self, fun z hz => by
        rcases List.mem_cons.mp hz with hz | hz
        · omega
        · have := h2 z hz; omega⟩
    · rename_i hlt
      exact ⟨List.mem_cons_of_mem _ h1, fun z hz => by
        rcases List.mem_cons.mp hz with hz | hz
        · omega
        · exact h2 z hz⟩
theorem minI_spec : ∀ l : List Int, l ≠ [] → minI l ∈ l ∧ ∀ y ∈ l, minI l ≤ y
  | [], h => absurd rfl h
  | [x], _ => ⟨by simp [minI], fun y hy => by rw [List.mem_singleton.mp hy]; simp [minI]⟩
  | x :: y :: r, _ => by
    obtain ⟨h1, h2⟩ := minI_spec (y :: r) (by simp)
    have e : minI (x :: y :: r) = if x < minI (y :: r) then x else minI (y :: r) := rfl
    rw [e]
    split
    · rename_i hlt
      exact ⟨List.mem_cons_self, fun z hz => by
        rcases List.mem_cons.mp hz with hz | hz
        · omega
        · have := h2 z hz; omega⟩
    · rename_i hlt
      exact ⟨List.mem_cons_of_mem _ h1, fun z hz => by
        rcases List.mem_cons.mp hz with hz | hz
        · omega
        · exact h2 z hz⟩
section
variable {X : Cx} {g : G} {hx : HX} {W : WX} {H : Hp} {As : List Addr} {S : Store}
theorem StOk.lstOf (s : StOk g H As S) {e : D} {y : V} {ds : List D} (h : lstOf S e = some ds) (iy : Is g.K H As e y) : ∃ p xs, y = .ref p ∧ SqL g.K H p xs ∧ IsL g.K H As ds xs := by
  unfold FL.lstOf at h
  split at h
  · cases h
    cases iy with
    | fz h1 r => exact ⟨_, _, rfl, h1.sq, r⟩
  · obtain ⟨a, rfl, ha⟩ := IsRef iy
    obtain ⟨a', xs, ha', h1, r⟩ := s.lst (getL_some h)
    rw [ha] at ha'; cases ha'
    exact ⟨_, _, rfl, SqL.of h1, r⟩
  · cases h
/-- one row of ints -/
theorem one_ints {ds : List D} {xs : List V} {d : D} {ns : List Int} (hs : StOk g H As S) (il : IsL g.K H As [d] xs) (q : (FL.lstOf S d).bind intsOf = some ns) : ∃ p, xs = [.ref p] ∧ SqL g.K H p (ns.map V.int) := by
  cases il with
  | cons i1 i2 =>
    cases i2
    obtain ⟨l, q1, q2⟩ := Option.bind_eq_some_iff.mp q
    obtain ⟨p, us, rfl, hq, r⟩ := hs.lstOf q1 i1
    have e1 := intsOf_some q2
    rw [e1] at r
    rw [r.intsV] at hq
    exact ⟨p, rfl, hq⟩
def fSum : MF := fun ds S => match ds with
  | [d] => match (lstOf S d).bind intsOf with
    | some ns => .ok (.int ns.sum) S
    | none => .bad
  | _ => .bad
theorem br_sum (hk : X.K = g.K) (hc : X.calm = true) : BltR X g "sum" fSum := ⟨_, _, cr_sum hc, by decide +kernel, (by
  intro H As S xs ds hs il Q k ⟨z, S', he⟩
  have hz := he
  unfold fSum at he
  split at he
  · split at he
    · rename_i ns q
      cases he
      obtain ⟨p, rfl, hq⟩ := one_ints (ds := []) hs il q
      exact ⟨p, ns, rfl, by rw [hk]; exact hq, CSn.pure hs hz k (.int _)⟩
    · cases he
  · cases he), (by intro d S c ds S' h; unfold fSum at h; split at h <;> (try cases h); split at h <;> cases h)⟩
def fMaxL : MF := fun ds S => match ds with
  | [d] => match (lstOf S d).bind intsOf with
    | some ns => if ns = [] then .bad else .ok (.int (maxI ns)) S
    | none => .bad
  | _ => .bad
def fMinL : MF := fun ds S => match ds with
  | [d] => match (lstOf S d).bind intsOf with
    | some ns => if ns = [] then .bad else .ok (.int (minI ns)) S
    | none => .bad
  | _ => .bad
theorem br_maxL (hk : X.K = g.K) (hc : X.calm = true) : BltR X g "max" fMaxL := ⟨_, _, cr_max hc, by decide +kernel, (by
  intro H As S xs ds hs il Q k ⟨z, S', he⟩
  have hz := he
  unfold fMaxL at he
  split at he
  · split at he
    · rename_i ns q
      split at he
      · cases he
      · rename_i hne
        cases he
        obtain ⟨p, rfl, hq⟩ := one_ints (ds := []) hs il q
        refine ⟨p, ns, rfl, by rw [hk]; exact hq, List.length_pos_iff.mpr hne, fun m hm hle => ?_⟩
        obtain ⟨h1, h2⟩ := maxI_spec ns hne
        have e : m = maxI ns := by have := h2 m hm; have := hle _ h1; omega
        rw [e]
        exact CSn.pure hs hz k (.int _)
    · cases he
  · cases he), (by
  intro d S c ds S' h
  unfold fMaxL at h
  split at h
  · split at h
    · split at h <;> cases h
    · cases h
  · cases h)⟩
theorem br_minL (hk : X.K = g.K) (hc : X.calm = true) : BltR X g "min" fMinL := ⟨_, _, cr_min hc, by decide +kernel, (by
  intro H As S xs ds hs il Q k ⟨z, S', he⟩
  have hz := he
  unfold fMinL at he
  split at he
  · split at he
    · rename_i ns q
      split at he
      · cases he
      · rename_i hne
        cases he
        obtain ⟨p, rfl, hq⟩ := one_ints (ds := []) hs il q
        refine ⟨p, ns, rfl, by rw [hk]; exact hq, List.length_pos_iff.mpr hne, fun m hm hle => ?_⟩
        obtain ⟨h1, h2⟩ := minI_spec ns hne
        have e : m = minI ns := by have := h2 m hm; have := hle _ h1; omega
        rw [e]
        exact CSn.pure hs hz k (.int _)
    · cases he
  · cases he), (by
  intro d S c ds S' h
  unfold fMinL at h
  split at h
  · split at h
    · split at h <;> cases h
    · cases h
  · cases h)⟩
def fSorted : MF := fun ds S => match ds with
  | [d] => match (lstOf S d).bind intsOf with
    | some ns => .ok (.ref S.length) (S ++ [.lst ((srtI ns).map .int)])
    | none => .bad
  | _ => .bad
theorem br_sorted (hk : X.K = g.K) : BltR X g "sorted" fSorted := ⟨_, _, cr_sortedI, by decide +kernel, (by
  intro H As S xs ds hs il Q k ⟨z, S', he⟩
  have hz := he
  unfold fSorted at he
  split at he
  · split at he
    · rename_i ns q
      cases he
      obtain ⟨p, rfl, hq⟩ := one_ints (ds := []) hs il q
      refine ⟨p, ns, rfl, by rw [hk]; exact hq, fun ns' p' hp hpw hn => ?_⟩
      have e : ns' = srtI ns := srt_uniq (hp.trans (srtI_perm ns).symm) hpw (srtI_pw ns)
      subst e
      have ex : Ext H As (upd H p' (.lst ((srtI ns).map V.int))) (As ++ [p']) := Ext.new hn
      exact k _ _ hz _ _ _ ex (hs.new hn ⟨_, upd_same, IsL.ints _⟩) (.ref (by rw [← hs.len]; exact List.getElem?_concat_length))
    · cases he
  · cases he), (by intro d S c ds S' h; unfold fSorted at h; split at h <;> (try cases h); split at h <;> cases h)⟩
/-! ### range as a value -/
def rgD (a b : Int) : List D := (List.range (b - a).toNat).map fun i => D.int (a + (i : Nat))
theorem isL_rg (a b : Int) : IsL g.K H As (rgD a b) (rgV a b) := by
  unfold rgD rgV
  have h : ∀ l : List Nat, IsL g.K H As (l.map fun i => D.int (a + (i : Nat))) (l.map fun i => V.int (a + (i : Nat))) := by
    intro l
    induction l with
    | nil => exact .nil
    | cons x l ih => exact .cons (.int _) ih
  exact h _
def kRg (a b : D) (S : Store) : Option (List D) := match a, b with
  | .int i, .int j => if i.natAbs ≤ 8388608 ∧ j.natAbs ≤ 8388608 then some (rgD i j) else none
  | _, _ => none
def kTupRg (a b : D) (S : Store) : R D := match kRg a b S with
  | some l => .ok (.tup l) S
  | none => .bad
def kLstRg (a b : D) (S : Store) : R D := match kRg a b S with
  | some l => .ok (.ref S.length) (S ++ [.lst l])
  | none => .bad
def mTupRg1 (ma : ME) : ME := fun ρ S => (ma ρ S).bind fun d S1 => kTupRg (.int 0) d S1
def mTupRg2 (ma mb : ME) : ME := fun ρ S => (ma ρ S).bind fun d S1 => (mb ρ S1).bind fun e S2 => kTupRg d e S2
def mLstRg1 (ma : ME) : ME := fun ρ S => (ma ρ S).bind fun d S1 => kLstRg (.int 0) d S1
def mLstRg2 (ma mb : ME) : ME := fun ρ S => (ma ρ S).bind fun d S1 => (mb ρ S1).bind fun e S2 => kLstRg d e S2
theorem tupRg_sound {σ : L2.St} {Q : VK} {a b : D} {x y : V} (hs : StOk g H As S) (ia : Is g.K H As a x) (ib : Is g.K H As b y) (hp : Post g W σ H As (kTupRg a b S) Q) : ∃ i j, x = .int i ∧ y = .int j ∧ RgOk i j ∧ ∀ q (o : Obj), H q = none → o.dict = none → Q (.ref q) (upd H q (.frz o (.tup (rgV i j)))) := by
  unfold kTupRg kRg at hp
  cases ia <;> cases ib <;> try exact hp.elim
  rename_i i j
  dsimp only at hp
  split at hp
  · rename_i l q
    split at q
    · rename_i hb
      cases q
      exact ⟨i, j, rfl, rfl, ⟨by omega, by omega, by omega, by omega, by omega⟩, fun p o hn hd => hp _ _ As (Ext.side hs hn) (hs.side hn) (.tup (FzT.of upd_same hd) (isL_rg _ _))⟩
    · cases q
  · exact hp.elim
theorem lstRg_sound {σ : L2.St} {Q : VK} {a b : D} {x y : V} (hs : StOk g H As S) (ia : Is g.K H As a x) (ib : Is g.K H As b y) (hp : Post g W σ H As (kLstRg a b S) Q) : ∃ i j, x = .int i ∧ y = .int j ∧ RgOk i j ∧ ∀ q, H q = none → Q (.ref q) (upd H q (.lst (rgV i j))) := by
  unfold kLstRg kRg at hp
  cases ia <;> cases ib <;> try exact hp.elim
  rename_i i j
  dsimp only at hp
  split at hp
  · rename_i l q
    split at q
    · rename_i hb
      cases q
      refine ⟨i, j, rfl, rfl, ⟨by omega, by omega, by omega, by omega, by omega⟩, fun p hn => ?_⟩
      have ex : Ext H As (upd H p (.lst (rgV i j))) (As ++ [p]) := Ext.new hn
      exact hp _ _ _ ex (hs.new hn ⟨_, upd_same, isL_rg _ _⟩) (.ref (by rw [← hs.len]; exact List.getElem?_concat_length))
    · cases q
  · exact hp.elim
variable {a b e : Expr} {ma mb m : ME} {p p2 pos pos2 : Pos}
theorem fe_tupRg1 (hc : X.calm = true) (hm : X.mg "tuple" = none) (hm2 : X.mg "range" = none) (ha : FE X g hx W a ma) (hg : Gl X "tuple" := by rfl) (hg2 : Gl X "range" := by rfl)
    (n1 : starEach [a] X.env = (false, eval a X.env) :: starEach [] X.env := by rfl) (n2 : starEach [Expr.Call (.Name "range" p2) [a] [] pos2] X.env = (false, eval (.Call (.Name "range" p2) [a] [] pos2) X.env) :: starEach [] X.env := by rfl) :
    FE X g hx W (.Call (.Name "tuple" p) [.Call (.Name "range" p2) [a] [] pos2] [] pos) (mTupRg1 ma) := by
  obtain ⟨hk, t, pa, s⟩ := ha.ex
  refine ⟨hk, _, pe_tupRgF hc hg hm (prg_1 hg2 hm2 pa n1) n2, fun σ H As ρ S he hs Q hp => ?_⟩
  refine s σ H As ρ S he hs _ (Post.bind (P := fun r => Post g W σ H As r Q) hp (fun d S1 hp1 v H1 As1 e1 s1 i1 => ?_) (fun _ _ _ q => q) id)
  obtain ⟨i, j, q1, q2, q3, q4⟩ := tupRg_sound s1 (.int 0) i1 (hp1.up e1)
  cases q1
  exact ⟨j, q2, q3, q4⟩
theorem fe_tupRg2 (hc : X.calm = true) (hm : X.mg "tuple" = none) (hm2 : X.mg "range" = none) (ha : FE X g hx W a ma) (hb : FE X g hx W b mb) (hg : Gl X "tuple" := by rfl) (hg2 : Gl X "range" := by rfl)
    (n1 : starEach [a, b] X.env = (false, eval a X.env) :: starEach [b] X.env := by rfl) (n3 : starEach [b] X.env = (false, eval b X.env) :: starEach [] X.env := by rfl) (n4 : (backTo pos2 (starEach [b] X.env)).any (·.1) = false := by rfl)
    (n2 : starEach [Expr.Call (.Name "range" p2) [a, b] [] pos2] X.env = (false, eval (.Call (.Name "range" p2) [a, b] [] pos2) X.env) :: starEach [] X.env := by rfl) :
    FE X g hx W (.Call (.Name "tuple" p) [.Call (.Name "range" p2) [a, b] [] pos2] [] pos) (mTupRg2 ma mb) := by
  obtain ⟨hk, t, pa, s⟩ := ha.ex
  obtain ⟨_, t2, pb, s2⟩ := hb.ex
  refine ⟨hk, _, pe_tupRgF hc hg hm (prg_2 hg2 hm2 pa pb n1 n3 n4) n2, fun σ H As ρ S he hs Q hp => ?_⟩
  refine s σ H As ρ S he hs _ (Post.bind (P := fun r => Post g W σ H As r Q) hp (fun d S1 hp1 v H1 As1 e1 s1 i1 => ?_) (fun _ _ _ q => q) id)
  refine s2 σ H1 As1 ρ S1 (he.up e1) s1 _ (Post.bind (P := fun r => Post g W σ H1 As1 r Q) (hp1.up e1) (fun d2 S2 hp2 v2 H2 As2 e2 s3 i2 => ?_) (fun _ _ _ q => q) id)
  exact tupRg_sound s3 (i1.up e2) i2 (hp2.up e2)
theorem fe_lstRg1 (hc : X.calm = true) (hm : X.mg "list" = none) (hm2 : X.mg "range" = none) (ha : FE X g hx W a ma) (hg : Gl X "list" := by rfl) (hg2 : Gl X "range" := by rfl)
    (n1 : starEach [a] X.env = (false, eval a X.env) :: starEach [] X.env := by rfl) (n2 : starEach [Expr.Call (.Name "range" p2) [a] [] pos2] X.env = (false, eval (.Call (.Name "range" p2) [a] [] pos2) X.env) :: starEach [] X.env := by rfl) :
    FE X g hx W (.Call (.Name "list" p) [.Call (.Name "range" p2) [a] [] pos2] [] pos) (mLstRg1 ma) := by
  obtain ⟨hk, t, pa, s⟩ := ha.ex
  refine ⟨hk, _, pe_listRg hc hg hm (prg_1 hg2 hm2 pa n1) n2, fun σ H As ρ S he hs Q hp => ?_⟩
  refine s σ H As ρ S he hs _ (Post.bind (P := fun r => Post g W σ H As r Q) hp (fun d S1 hp1 v H1 As1 e1 s1 i1 => ?_) (fun _ _ _ q => q) id)
  obtain ⟨i, j, q1, q2, q3, q4⟩ := lstRg_sound s1 (.int 0) i1 (hp1.up e1)
  cases q1
  exact ⟨j, q2, q3, q4⟩
theorem fe_lstRg2 (hc : X.calm = true) (hm : X.mg "list" = none) (hm2 : X.mg "range" = none) (ha : FE X g hx W a ma) (hb : FE X g hx W b mb) (hg : Gl X "list" := by rfl) (hg2 : Gl X "range" := by rfl)
    (n1 : starEach [a, b] X.env = (false, eval a X.env) :: starEach [b] X.env := by rfl) (n3 : starEach [b] X.env = (false, eval b X.env) :: starEach [] X.env := by rfl) (n4 : (backTo pos2 (starEach [b] X.env)).any (·.1) = false := by rfl)
    (n2 : starEach [Expr.Call (.Name "range" p2) [a, b] [] pos2] X.env = (false, eval (.Call (.Name "range" p2) [a, b] [] pos2) X.env) :: starEach [] X.env := by rfl) :
    FE X g hx W (.Call (.Name "list" p) [.Call (.Name "range" p2) [a, b] [] pos2] [] pos) (mLstRg2 ma mb) := by
  obtain ⟨hk, t, pa, s⟩ := ha.ex
  obtain ⟨_, t2, pb, s2⟩ := hb.ex
  refine ⟨hk, _, pe_listRg hc hg hm (prg_2 hg2 hm2 pa pb n1 n3 n4) n2, fun σ H As ρ S he hs Q hp => ?_⟩
  refine s σ H As ρ S he hs _ (Post.bind (P := fun r => Post g W σ H As r Q) hp (fun d S1 hp1 v H1 As1 e1 s1 i1 => ?_) (fun _ _ _ q => q) id)
  refine s2 σ H1 As1 ρ S1 (he.up e1) s1 _ (Post.bind (P := fun r => Post g W σ H1 As1 r Q) (hp1.up e1) (fun d2 S2 hp2 v2 H2 As2 e2 s3 i2 => ?_) (fun _ _ _ q => q) id)
  exact lstRg_sound s3 (i1.up e2) i2 (hp2.up e2)
end
end FL
end

section
set_option autoImplicit false
/-! d.get, d.setdefault; o.f op= e; constants that are tuples -/
namespace FL
open PySem L2 PyProof.Rows
section
variable {X : Cx} {g : G} {hx : HX} {W : WX} {H : Hp} {As : List Addr} {S : Store} {o i x e value : Expr} {m mo mi mx : ME} {pos pos' apos tpos : Pos}
def isDct (S : Store) : D → Bool
  | .ref n => match S[n]? with
    | some (.dct _) => true
    | _ => false
  | _ => false
theorem isDct_sound {d : D} {v : V} (s : StOk g H As S) (iv : Is g.K H As d v) (h : isDct S d = true) : ∃ a, v = .ref a ∧ IsD H a := by
  unfold isDct at h
  split at h
  · split at h
    · rename_i n kvs q
      obtain ⟨a, rfl, ha⟩ := IsRef iv
      obtain ⟨a', kxs, ha', h1, r⟩ := s.dct q
      rw [ha] at ha'; cases ha'
      exact ⟨a, rfl, .inl ⟨kxs, .of h1⟩⟩
    · cases h
  · cases h
def kGet3 (d e : D) (z : D) (S : Store) : R D := match d, kD e with
  | .ref n, some k => (match S[n]? with
    | some (.dct kvs) => .ok ((valD kvs k).getD z) S
    | _ => .bad)
  | _, _ => .bad
def kGet2 (mx : ME) (ρ : Rho) (d e : D) (S : Store) : R D := (mx ρ S).bind (kGet3 d e)
def kGet1 (mi mx : ME) (ρ : Rho) (d : D) (S : Store) : R D := if isDct S d = true then (mi ρ S).bind (kGet2 mx ρ d) else .bad
/-- d.get(k, x) -/
def mDGet2 (mo mi mx : ME) : ME := fun ρ S => (mo ρ S).bind (kGet1 mi mx ρ)
theorem fe_dget2 (hu : X.A.units + 64 < cLine) (ho : FE X g hx W o mo) (hi : FE X g hx W i mi) (hz : FE X g hx W x mx) (m : M2 X o "get" apos i x pos := by exact ⟨by rfl, by rfl, by rfl, by rfl⟩) : FE X g hx W (.Call (.Attribute o "get" apos) [i, x] [] pos) (mDGet2 mo mi mx) := by
  obtain ⟨hk, t, p, s⟩ := ho.ex
  obtain ⟨_, t1, p1, s1⟩ := hi.ex
  obtain ⟨_, t2, p2, s2⟩ := hz.ex
  refine ⟨hk, _, pe_dget2 (by omega) p p1 p2 m, fun σ H As ρ S he hst Q hp => ?_⟩
  refine s σ H As ρ S he hst _ (Post.bind (P := fun r => Post g W σ H As r Q) hp (fun d S1 hp1 v H1 As1 e1 q1 i1 => ?_) (fun _ _ _ q => q) id)
  unfold kGet1 at hp1
  split at hp1
  · rename_i hd
    obtain ⟨a, rfl, hia⟩ := isDct_sound q1 i1 hd
    refine ⟨a, rfl, hia, ?_⟩
    refine s1 σ H1 As1 ρ S1 (he.up e1) q1 _ (Post.bind (P := fun r => Post g W σ H1 As1 r Q) (Post.up hp1 e1) (fun e S2 hp2 u H2 As2 e2 q2 i2 => ?_) (fun _ _ _ q => q) id)
    refine s2 σ H2 As2 ρ S2 ((he.up e1).up e2) q2 _ (Post.bind (P := fun r => Post g W σ H2 As2 r Q) (Post.up hp2 e2) (fun z S3 hp3 u3 H3 As3 e3 q3 i3 => ?_) (fun _ _ _ q => q) id)
    have hp4 := Post.up hp3 e3
    unfold kGet3 at hp4
    split at hp4
    · rename_i n k hkd
      split at hp4
      · rename_i kvs qq
        obtain ⟨a', z1, ha⟩ := IsRef ((i1.up e2).up e3)
        cases z1
        obtain ⟨a', kxs, ha', h1, r⟩ := q3.dct qq
        rw [ha] at ha'; cases ha'
        have ek := kD_is (i2.up e3) hkd
        subst ek
        refine ⟨valV kxs k, .inl ⟨kxs, k, .of h1, rfl, rfl⟩, ?_⟩
        rcases r.val k with ⟨z1, z2⟩ | ⟨d', v', z1, z2, z3⟩
        · rw [z1] at hp4; rw [z2]; exact hp4 u3 H3 As3 (Ext.refl _ _) q3 i3
        · rw [z1] at hp4; rw [z2]; exact hp4 v' H3 As3 (Ext.refl _ _) q3 z3
      · exact hp4.elim
    · exact hp4.elim
  · exact hp1.elim
def kSD3 (d e : D) (z : D) (S : Store) : R D := match d, kD e with
  | .ref n, some k => (match S[n]? with
    | some (.dct kvs) => if kvs.length < 16777216 then (match valD kvs k with
      | some v => .ok v S
      | none => .ok z (S.set n (.dct (putKD kvs k z)))) else .bad
    | _ => .bad)
  | _, _ => .bad
def kSD2 (mx : ME) (ρ : Rho) (d e : D) (S : Store) : R D := (mx ρ S).bind (kSD3 d e)
def kSD1 (mi mx : ME) (ρ : Rho) (d : D) (S : Store) : R D := if isDct S d = true then (mi ρ S).bind (kSD2 mx ρ d) else .bad
/-- d.setdefault(k, x) -/
def mDSet2 (mo mi mx : ME) : ME := fun ρ S => (mo ρ S).bind (kSD1 mi mx ρ)
theorem fe_dset2 (ho : FE X g hx W o mo) (hi : FE X g hx W i mi) (hz : FE X g hx W x mx) (m : M2 X o "setdefault" apos i x pos := by exact ⟨by rfl, by rfl, by rfl, by rfl⟩) : FE X g hx W (.Call (.Attribute o "setdefault" apos) [i, x] [] pos) (mDSet2 mo mi mx) := by
  obtain ⟨hk, t, p, s⟩ := ho.ex
  obtain ⟨_, t1, p1, s1⟩ := hi.ex
  obtain ⟨_, t2, p2, s2⟩ := hz.ex
  refine ⟨hk, _, pe_dsetd p p1 p2 m, fun σ H As ρ S he hst Q hp => ?_⟩
  refine s σ H As ρ S he hst _ (Post.bind (P := fun r => Post g W σ H As r Q) hp (fun d S1 hp1 v H1 As1 e1 q1 i1 => ?_) (fun _ _ _ q => q) id)
  unfold kSD1 at hp1
  split at hp1
  · rename_i hd
    obtain ⟨a, rfl, hia⟩ := isDct_sound q1 i1 hd
    refine ⟨a, rfl, hia, ?_⟩
    refine s1 σ H1 As1 ρ S1 (he.up e1) q1 _ (Post.bind (P := fun r => Post g W σ H1 As1 r Q) (Post.up hp1 e1) (fun e S2 hp2 u H2 As2 e2 q2 i2 => ?_) (fun _ _ _ q => q) id)
    refine s2 σ H2 As2 ρ S2 ((he.up e1).up e2) q2 _ (Post.bind (P := fun r => Post g W σ H2 As2 r Q) (Post.up hp2 e2) (fun z S3 hp3 u3 H3 As3 e3 q3 i3 => ?_) (fun _ _ _ q => q) id)
    have hp4 := Post.up hp3 e3
    unfold kSD3 at hp4
    split at hp4
    · rename_i n k hkd
      split at hp4
      · rename_i kvs qq
        split at hp4
        · rename_i hl
          obtain ⟨a', z1, ha⟩ := IsRef ((i1.up e2).up e3)
          cases z1
          obtain ⟨a', kxs, ha', h1, r⟩ := q3.dct qq
          rw [ha] at ha'; cases ha'
          have ek := kD_is (i2.up e3) hkd
          subst ek
          refine ⟨kxs, k, h1, rfl, szlt (by rw [← r.len]; exact hl), fun v hv => ?_, fun hv => ?_⟩
          · rcases r.val k with ⟨z1, z2⟩ | ⟨d', v', z1, z2, z3⟩
            · rw [z2] at hv; cases hv
            · rw [z2] at hv; cases hv
              rw [z1] at hp4
              exact hp4 v H3 As3 (Ext.refl _ _) q3 z3
          · rcases r.val k with ⟨z1, z2⟩ | ⟨d', v', z1, z2, z3⟩
            · rw [z1] at hp4
              have ew : Ext H3 As3 (upd H3 a (.dK (putK kxs k u3))) As3 := Ext.write q3 ha
              have r2 := r.put k i3
              exact hp4 u3 _ As3 ew (q3.write ha ⟨_, upd_same, r2.1, r2.2.up ew⟩) (i3.up ew)
            · rw [z2] at hv; cases hv
        · exact hp4.elim
      · exact hp4.elim
    · exact hp4.elim
  · exact hp1.elim
/-! ### o.f op= e -/
structure FAugR (X : Cx) (g : G) (op : Operator) (f : D → D → Store → R D) : Prop where
  ex : ∃ r, InOp X op r ∧ RSn g r f ∧ NoErr f
def kFA3 (f : Str) (n c : Nat) (ρ : Rho) (z : D) (S : Store) : RS := match S[n]? with
  | some (.ins c' fs) => if c' = c ∧ fs.length < 900 then .nx ρ (S.set n (.ins c' (putD f z fs))) else .bad
  | _ => .bad
def kFA2 (fa : D → D → Store → R D) (f : Str) (n c : Nat) (ρ : Rho) (x d : D) (S : Store) : RS := (fa x d S).stm ρ (kFA3 f n c ρ)
def kFA1 (cls : List Nat) (f : Str) (fa : D → D → Store → R D) (m : ME) (ρ : Rho) (o : D) (S : Store) : RS := match o with
  | .ref n => (match S[n]? with
    | some (.ins c fs) => if c ∈ cls then (match fs.lookup f with
      | some x => (m ρ S).stm ρ (kFA2 fa f n c ρ x)
      | none => .bad) else .bad
    | _ => .bad)
  | _ => .bad
def mFldAug (cls : List Nat) (f : Str) (fa : D → D → Store → R D) (mo m : ME) : MS := fun ρ S => (mo ρ S).stm ρ (kFA1 cls f fa m ρ)
theorem fs_fldaug {cls : List Nat} {f : Str} {op : Operator} {fa : D → D → Store → R D} (hC : FldCls g cls f) (ar : FAugR X g op fa) (ho : FE X g hx W o mo) (hv : FE X g hx W value m) : FS X g hx W (.AugAssign (.Attribute o f tpos) op value pos) (mFldAug cls f fa mo m) := by
  obtain ⟨r, z1, z2, z3⟩ := ar.ex
  obtain ⟨hk, t, p, s⟩ := ho.ex
  obtain ⟨_, t1, p1, s1⟩ := hv.ex
  refine ⟨hk, _, ps_fldaug p p1 z1, fun σ H As ρ S he hst E hp => ?_⟩
  refine s σ H As ρ S he hst _ (Post.stm (P := fun r => PostS g hx W H As r E) hp (fun ov S1 hp1 v H1 As1 e1 q1 i1 => ?_) (fun c ds S' q => PostS.err he q) id)
  unfold kFA1 at hp1
  split at hp1
  · rename_i n
    split at hp1
    · rename_i c fs qq
      split at hp1
      · rename_i hc
        split at hp1
        · rename_i x hl
          obtain ⟨a, rfl, ha⟩ := IsRef i1
          obtain ⟨a', dx, xs, ha', h1, h2, h3⟩ := q1.ins qq
          rw [ha] at ha'; cases ha'
          obtain ⟨w, w1, w2⟩ := fld_get h2 h3 hl
          rw [hk]
          refine ⟨a, _, dx, xs, w, rfl, h1, (hC c hc).1, (hC c hc).2, w1, ?_⟩
          refine s1 σ H1 As1 ρ S1 (he.up e1) q1 _ (Post.stm (P := fun r => PostS g hx W H1 As1 r E) (hp1.up e1) (fun d S2 hp2 u H2 As2 e2 q2 i2 => ?_) (fun c ds S' q => PostS.err (he.up e1) q) id)
          have hp3 := hp2.up e2
          unfold kFA2 at hp3
          cases y : fa x d S2 with
          | err c' ds' S3 => exact absurd y (z3 x d S2 c' ds' S3)
          | bad => rw [y] at hp3; exact hp3.elim
          | ok z S3 =>
            rw [y] at hp3
            refine z2 H2 As2 S2 w u x d q2 (w2.up e2) i2 _ (fun z' S' q' => ?_) ⟨z, S3, y⟩
            rw [y] at q'; cases q'
            intro zv H3 As3 e3 q3 i3
            have hp4 := hp3.up e3
            rw [stm_ok] at hp4
            unfold kFA3 at hp4
            split at hp4
            · rename_i c' fs' q4
              split at hp4
              · rename_i hcc
                obtain ⟨hc1, hlt⟩ := hcc
                subst hc1
                have ha3 := e3.get (e2.get ha)
                obtain ⟨a', dx', xs', ha', h1', h2', h3'⟩ := q3.ins q4
                rw [ha3] at ha'; cases ha'
                have ew : Ext H3 As3 (upd H3 a (.ins (g.ic c') dx' (putF f zv xs'))) As3 := Ext.write q3 ha3
                obtain ⟨y1, y2⟩ := fld_put (f := f) i3 h2' h3'
                have rr : ObjRel g (upd H3 a (.ins (g.ic c') dx' (putF f zv xs'))) As3 (.ins c' (putD f z fs')) a := ⟨dx', _, upd_same, y1, y2.up ew⟩
                exact ⟨dx', xs', h1', by rw [← fld_len h2']; omega, hp4 σ _ As3 ew (q3.write ha3 rr) ((((he.up e1).up e2).up e3).up ew)⟩
              · exact hp4.elim
            · exact hp4.elim
        · exact hp1.elim
      · exact hp1.elim
    · exact hp1.elim
  · exact hp1.elim
theorem fa_add : FAugR X g .Add bAddI := ⟨fun x y H Q => rAdd x y H Q ∨ rAddS x y H Q, (by
  rintro pins s σ H x y u v Q I rx ry (h | h)
  · exact in_add pins s σ H x y u v Q I rx ry h
  · exact in_addS pins s σ H x y u v Q I rx ry h), (by
  intro H As S x y d e hs ix iy Q k ⟨z, S', he⟩
  have hz := he
  unfold bAddI at he
  split at he
  · cases he; cases ix; cases iy
    exact .inl ⟨_, _, rfl, rfl, RSn.pure hs hz k (.int _)⟩
  · cases ix; cases iy
    split at he
    · rename_i hl
      cases he
      exact .inr ⟨_, _, rfl, rfl, szle hl, RSn.pure hs hz k (.str _)⟩
    · cases he
  · cases he), by
  intro d e S c ds S' h
  unfold bAddI at h
  split at h
  · cases h
  · split at h <;> cases h
  · cases h⟩
theorem fa_sub : FAugR X g .Sub bSub := ⟨rSub, in_sub, (by
  intro H As S x y d e hs ix iy Q k ⟨z, S', he⟩
  have hz := he
  unfold bSub at he
  split at he
  · cases he; cases ix; cases iy
    exact ⟨_, _, rfl, rfl, RSn.pure hs hz k (.int _)⟩
  · cases he), ne_sub⟩
/-! ### the module's constants -/
mutual
inductive CV (K : PySem.W.Frag) : D → Value → Prop
  | int {i : Int} {t : Tok} : CV K (.int i) (.int i t)
  | str {s : Str} {t : Tok} : CV K (.str s) (.str s t)
  | bl {b : Bool} : CV K (.bl b) (.bool b)
  | non : CV K .non .none
  | tup {a : Addr} {o : Obj} {its : Array Value} {n : Nat} {ds : List D} (h : K.lookup a = some o) (h1 : o.cls = .type "tuple") (h0 : o.dict = none) (h2 : o.data = .seq its n) (h3 : its.size ≤ sizeLine) (r : CVs K ds its.toList) : CV K (.tup ds) (.ref a)
inductive CVs (K : PySem.W.Frag) : List D → List Value → Prop
  | nil : CVs K [] []
  | cons {d : D} {v : Value} {ds : List D} {vs : List Value} : CV K d v → CVs K ds vs → CVs K (d :: ds) (v :: vs)
end
mutual
theorem CV.is {K : PySem.W.Frag} : ∀ (d : D) (v : Value), CV K d v → ∃ x, RelV x v ∧ ∀ H As, Is K H As d x
  | .int i, _, h => by cases h; exact ⟨.int i, ⟨_, rfl⟩, fun _ _ => .int _⟩
  | .str s, _, h => by cases h; exact ⟨.str s, ⟨_, rfl⟩, fun _ _ => .str _⟩
  | .bl b, _, h => by cases h; exact ⟨.bl b, rfl, fun _ _ => .bl _⟩
  | .non, _, h => by cases h; exact ⟨.non, rfl, fun _ _ => .non⟩
  | .tup ds, _, h => by
    cases h with
    | tup h h1 h0 h2 h3 r =>
      obtain ⟨xs, r1, r2⟩ := CVs.is ds _ r
      exact ⟨.ref _, rfl, fun H As => .tup (.inr ⟨_, _, _, h, h1, h0, h2, h3, r1⟩) (r2 H As)⟩
  | .fz _, _, h => by cases h
  | .ref _, _, h => by cases h
theorem CVs.is {K : PySem.W.Frag} : ∀ (ds : List D) (vs : List Value), CVs K ds vs → ∃ xs, Vals xs vs ∧ ∀ H As, IsL K H As ds xs
  | [], _, h => by cases h; exact ⟨[], .nil, fun _ _ => .nil⟩
  | d :: ds, _, h => by
    cases h with
    | cons a b =>
      obtain ⟨x, r1, r2⟩ := CV.is d _ a
      obtain ⟨xs, q1, q2⟩ := CVs.is ds _ b
      exact ⟨x :: xs, .cons r1 q1, fun H As => .cons (r2 H As) (q2 H As)⟩
end
theorem fe_cst {d : D} {n : Str} (hk : X.K = g.K) (hm : ∃ v, X.mg n = some v ∧ CV g.K d v) (hg : Gl X n := by rfl) (hd : (n == ("__debug__" : Str)) = false := by decide) : FE X g hx W (.Name n pos) (mC d) := by
  obtain ⟨v, h, c⟩ := hm
  obtain ⟨x, r, h2⟩ := CV.is d v c
  exact ⟨hk, _, pe_glob hg h (v := x) r hd, fun σ H As ρ S he hs Q hp => hp x H As (Ext.refl _ _) hs (h2 _ _)⟩
end
section
variable {ρ : Rho} {S : Store} {m mo mi mx : ME} {d e : D}
@[simp] theorem ev_dget2 : mDGet2 mo mi mx ρ S = (mo ρ S).bind (kGet1 mi mx ρ) := rfl
@[simp] theorem ev_dset2 : mDSet2 mo mi mx ρ S = (mo ρ S).bind (kSD1 mi mx ρ) := rfl
@[simp] theorem ev_fldaug {cls : List Nat} {f : Str} {fa : D → D → Store → R D} : mFldAug cls f fa mo m ρ S = (mo ρ S).stm ρ (kFA1 cls f fa m ρ) := rfl
end
end FL
end

section
set_option autoImplicit false
/-! t.index, t * n, xs * n -/
namespace FL
open PySem L2 PyProof.Rows
/-- the first place of d -/
def idxD (d : D) : List D → Option Nat
  | [] => none
  | e :: r => if eqF e d = true then some 0 else (idxD d r).map (· + 1)
theorem idxD_spec {d : D} : ∀ {ds : List D} {j : Nat}, idxD d ds = some j → ∃ e, ds[j]? = some e ∧ eqF e d = true ∧ ∀ (m : Nat) (e' : D), m < j → ds[m]? = some e' → eqF e' d = false
  | [], j, h => by cases h
  | e :: r, j, h => by
    unfold idxD at h
    split at h
    · rename_i he
      cases h
      exact ⟨e, rfl, he, fun m e' hm => absurd hm (Nat.not_lt_zero _)⟩
    · rename_i he
      cases q : idxD d r with
      | none => rw [q] at h; cases h
      | some k =>
        rw [q] at h
        cases h
        obtain ⟨e2, h1, h2, h3⟩ := idxD_spec q
        refine ⟨e2, by simpa using h1, h2, fun m e' hm hq => ?_⟩
        cases m with
        | zero =>
          simp at hq
          subst hq
          simpa using he
        | succ m => exact h3 m e' (Nat.lt_of_succ_lt_succ hm) (by simpa using hq)
section
variable {X : Cx} {g : G} {hx : HX} {W : WX} {H : Hp} {As : List Addr} {S : Store} {o e a b : Expr} {es : List Expr} {ma mb mo : ME} {mas : MA} {pos apos : Pos}
def kIxT2 (o : List D) (ds : List D) (S : Store) : R D := match ds with
  | [d] => if flatD d = true ∧ o.all flatD = true then (match idxD d o with
    | some j => .ok (.int (j : Nat)) S
    | none => .bad) else .bad
  | _ => .bad
def kIxT1 (mas : MA) (ρ : Rho) (o : D) (S : Store) : R D := match o with
  | .tup l => (mas ρ S).bind (kIxT2 l)
  | _ => .bad
def mIxT (mo : ME) (mas : MA) : ME := fun ρ S => (mo ρ S).bind (kIxT1 mas ρ)
theorem eqFVr {d e : D} {x y : V} (h : Is g.K H As d x) (h2 : Is g.K H As e y) (f : flatD d = true) (f2 : flatD e = true) : eqV y x = eqF e d := by
  cases h <;> cases h2 <;> first | rfl | (simp [flatD] at f f2)
theorem fe_ixT (ho : FE X g hx W o mo) (ha : FA X g hx W [e] mas)
    (hbase : attributeBase o "index" X.env (eval o X.env) = eval o X.env := by rfl)
    (hfew : ((backTo pos (starEach [e] X.env)).all (fun x => !x.1) && (backToKw pos (keywordEach [] X.env)).all (fun x => x.1.isSome)
      && decide ([e].length + ([] : List Keyword).length + (if ([] : List Keyword).isEmpty then 0 else 1) < 30)) = true := by rfl)
    (hline : (apos.endLine == pos.line) = true := by rfl) (hs : starEach [e] X.env = (false, eval e X.env) :: starEach [] X.env := by rfl) (hplain : (backTo pos (starEach [] X.env)).any (·.1) = false := by rfl) :
    FE X g hx W (.Call (.Attribute o "index" apos) [e] [] pos) (mIxT mo mas) := by
  obtain ⟨hk, to, po, so⟩ := ho.ex
  obtain ⟨_, t, pa, sa⟩ := ha.ex
  refine ⟨hk, _, pe_tupM PySem.F.slot_tuple_index PySem.F.type_tuple_index mt_indexT po pa hbase hfew hline hs hplain, fun σ H As ρ S he hst Q hp => ?_⟩
  refine so σ H As ρ S he hst _ (Post.bind (P := fun r => Post g W σ H As r Q) hp (fun d S1 hp1 v H1 As1 e1 q1 i1 => ?_) (fun _ _ _ q => q) id)
  rw [hk]
  cases i1 with
  | tup h1 r =>
    refine ⟨⟨_, _, rfl, h1⟩, ?_⟩
    refine sa σ H1 As1 ρ S1 (he.up e1) q1 _ (PostA.bind (P := fun r => Post g W σ H1 As1 r Q) (Post.up hp1 e1) (fun ds S2 hp2 vs H2 As2 e2 q2 i2 => ?_) (fun _ _ _ q => q) id)
    have hp3 := Post.up hp2 e2
    unfold kIxT2 at hp3
    split at hp3
    · rename_i d
      split at hp3
      · rename_i hf
        split at hp3
        · rename_i j hj
          cases i2 with
          | cons i2 i3 =>
            cases i3
            obtain ⟨d', w1, w2, w3⟩ := idxD_spec hj
            have r2 := r.up e2
            obtain ⟨z, hz, iz⟩ := r2.get w1
            have fz := List.all_eq_true.mp hf.2
            refine ⟨_, _, _, j, z, rfl, rfl, (e2.fzt h1).sq, flatIs i2 hf.1, flatIsL r2 hf.2, hz, ?_, fun m z' hm hz' => ?_, hp3 _ H2 As2 (Ext.refl _ _) q2 (.int _)⟩
            · rw [eqFVr i2 iz hf.1 (fz _ (List.mem_of_getElem? w1))]; exact w2
            · obtain ⟨d2, w4, w5⟩ := r2.getV hz'
              rw [eqFVr i2 w5 hf.1 (fz _ (List.mem_of_getElem? w4))]
              exact w3 m d2 hm w4
        · exact hp3.elim
      · exact hp3.elim
    · exact hp3.elim
  | _ => exact hp1.elim
/-! ### repeats -/
def repD (k : Int) (l : List D) : List D := (List.replicate k.toNat l).flatten
theorem IsL.rep {K : PySem.W.Frag} {ds : List D} {xs : List V} (h : IsL K H As ds xs) : ∀ n : Nat, IsL K H As (List.replicate n ds).flatten (List.replicate n xs).flatten
  | 0 => .nil
  | n + 1 => by
    rw [List.replicate_succ, List.replicate_succ, List.flatten_cons, List.flatten_cons]
    exact h.app (IsL.rep h n)
def bMulR : D → D → Store → R D
  | .tup l, .int k, S => if -1000000 ≤ k ∧ k ≤ 1000 ∧ l.length ≤ 1000 then .ok (.tup (repD k l)) S else .bad
  | .ref n, .int k, S => match getL S n with
    | some l => if -1000000 ≤ k ∧ k ≤ 1000 ∧ l.length ≤ 1000 then .ok (.ref S.length) (S ++ [.lst (repD k l)]) else .bad
    | none => .bad
  | d, e, S => bMul d e S
theorem ne_mulR : NoErr bMulR := by
  intro d e S c ds S' h
  unfold bMulR at h
  split at h
  · split at h <;> cases h
  · split at h
    · split at h <;> cases h
    · cases h
  · exact ne_mul d e S c ds S' h
def rMulR (K : PySem.W.Frag) : R2 := fun x y H Q => rMul2 x y H Q ∨ rRepF K x y H Q ∨ rRep x y H Q
theorem op_mulR : OpR X (binaryOp .Mult) (rMulR X.K) := op_mul2.or (op_repF.or op_rep)
theorem rep_one {l : List D} {k : Int} (h : l = [] ∨ k = 1) : repD k l = l := by
  unfold repD
  rcases h with h | h
  · subst h; simp
  · subst h; simp
theorem rs_mulR : RSn g (rMulR g.K) bMulR := by
  intro H As S x y d e hs ix iy Q k ⟨z, S', he⟩
  have hz := he
  unfold bMulR at he
  split at he
  · cases iy
    split at he
    · rename_i hc
      cases he
      cases ix with
      | tup h1 r =>
        refine .inr (.inl ⟨_, _, _, rfl, rfl, h1.sq, hc.1, hc.2.1, by rw [← r.len]; exact hc.2.2, fun hw => ?_, fun hw p o hp hd => ?_⟩)
        · refine RSn.pure hs hz k (.tup h1 ?_)
          rw [rep_one (by
            rcases hw with e | e
            · left
              subst e
              cases r
              rfl
            · exact .inr e)]
          exact r
        · exact k _ _ hz (.ref p) _ As (Ext.side hs hp) (hs.side hp) (.tup (FzT.of upd_same hd) ((r.rep _).up (Ext.side hs hp)))
    · cases he
  · rename_i nn kk
    cases iy
    split at he
    · rename_i l q
      split at he
      · rename_i hc
        cases he
        obtain ⟨a, rfl, ha⟩ := IsRef ix
        obtain ⟨a', xs, ha', h1, r⟩ := hs.lst (getL_some q)
        rw [ha] at ha'; cases ha'
        refine .inr (.inr ⟨_, _, _, rfl, rfl, h1, by omega, by omega, ?_, fun p hp => ?_⟩)
        · rw [← r.len, sizeLine_eq]
          have a0 : kk.toNat ≤ 1000 := by have := hc.2.1; omega
          have a1 : l.length * kk.toNat ≤ 1000 * 1000 := Nat.mul_le_mul hc.2.2 a0
          exact Nat.le_trans a1 (by decide)
        · have ex : Ext H As (upd H p (.lst (List.replicate kk.toNat xs).flatten)) (As ++ [p]) := Ext.new hp
          exact k _ _ hz (.ref p) _ _ ex (hs.new hp ⟨_, upd_same, (r.rep _).up ex⟩) (.ref (by rw [← hs.len]; exact List.getElem?_concat_length))
      · cases he
    · cases he
  · exact .inl (rs_mul H As S x y _ _ hs ix iy Q (fun z' S'' h => k z' S'' (by rw [← h]; exact hz.trans he.symm)) ⟨z, S', he⟩)
theorem f_mulR (ha : FE X g hx W a ma) (hb : FE X g hx W b mb) : FE X g hx W (.BinOp a .Mult b pos) (mOp bMulR ma mb) := f_op (by have := ha.ex.1; rw [← this]; exact op_mulR) rs_mulR ne_mulR ha hb
end
section
variable {S : Store} {mo : ME} {mas : MA} {ρ : Rho}
@[simp] theorem ev_ixT : mIxT mo mas ρ S = (mo ρ S).bind (kIxT1 mas ρ) := rfl
@[simp] theorem q_ixT {l : List D} : kIxT1 mas ρ (.tup l) S = (mas ρ S).bind (kIxT2 l) := rfl
end
end FL
end

section
set_option autoImplicit false
/-! x.index(y): a text, a tuple, a list -/
namespace FL
open PySem L2 PyProof.Rows
def fIndexL : MM := fun o ds S => match o, ds with
  | .ref n, [d] => match getL S n with
    | some l => if flatD d = true ∧ l.all flatD = true then (match idxD d l with
      | some j => .ok (.int (j : Nat)) S
      | none => .bad) else .bad
    | none => .bad
  | _, _ => .bad
theorem ne_indexL : NoErrM fIndexL := by
  intro o d S c ds S' h
  unfold fIndexL at h
  split at h
  · split at h
    · split at h
      · split at h <;> cases h
      · cases h
    · cases h
  · cases h
section
variable {X : Cx} {g : G} {hx : HX} {W : WX} {H : Hp} {As : List Addr} {S : Store} {o e a b : Expr} {es : List Expr} {ma mb mo : ME} {mas : MA} {pos apos : Pos}
theorem mr_indexL (hk : X.K = g.K) : MethR X g "list" "index" fIndexL := ⟨_, _, PySem.F.plainAttrs_list, PySem.F.slot_list_index, PySem.F.type_list_index, mt_index, (by
  rw [hk]
  intro H As S x xs o ds hs io il Q k ⟨z, S', he⟩
  have hz := he
  unfold fIndexL at he
  split at he
  · cases il with
    | cons i1 i2 =>
      cases i2
      split at he
      · rename_i l q
        split at he
        · rename_i hf
          split at he
          · rename_i j hj
            cases he
            obtain ⟨a, rfl, ha⟩ := IsRef io
            obtain ⟨a', us, ha', h1, r⟩ := hs.lst (getL_some q)
            rw [ha] at ha'; cases ha'
            obtain ⟨d', w1, w2, w3⟩ := idxD_spec hj
            obtain ⟨z, hz2, iz⟩ := r.get w1
            have fz := List.all_eq_true.mp hf.2
            refine ⟨_, _, _, j, z, rfl, rfl, SqL.of h1, flatIs i1 hf.1, flatIsL r hf.2, hz2, ?_, fun m z' hm hz' => ?_, CSn.pure hs hz k (.int _)⟩
            · rw [eqFVr i1 iz hf.1 (fz _ (List.mem_of_getElem? w1))]; exact w2
            · obtain ⟨d2, w4, w5⟩ := r.getV hz'
              rw [eqFVr i1 w5 hf.1 (fz _ (List.mem_of_getElem? w4))]
              exact w3 m d2 hm w4
          · cases he
        · cases he
      · cases he
  · cases he), ne_indexL⟩
def kIxA1 (mas : MA) (ρ : Rho) (o : D) (S : Store) : R D := match o with
  | .str _ => kMe "str" fIndexS mas ρ o S
  | .tup l => (mas ρ S).bind (kIxT2 l)
  | o => kMe "list" fIndexL mas ρ o S
def mIxA (mo : ME) (mas : MA) : ME := fun ρ S => (mo ρ S).bind (kIxA1 mas ρ)
theorem fe_ixA (ho : FE X g hx W o mo) (ha : FA X g hx W [e] mas)
    (hbase : attributeBase o "index" X.env (eval o X.env) = eval o X.env := by rfl)
    (hfew : ((backTo pos (starEach [e] X.env)).all (fun x => !x.1) && (backToKw pos (keywordEach [] X.env)).all (fun x => x.1.isSome)
      && decide ([e].length + ([] : List Keyword).length + (if ([] : List Keyword).isEmpty then 0 else 1) < 30)) = true := by rfl)
    (hline : (apos.endLine == pos.line) = true := by rfl) (hs : starEach [e] X.env = (false, eval e X.env) :: starEach [] X.env := by rfl) (hplain : (backTo pos (starEach [] X.env)).any (·.1) = false := by rfl) :
    FE X g hx W (.Call (.Attribute o "index" apos) [e] [] pos) (mIxA mo mas) :=
  fe_pick (fe_pick (m := fun ρ S => (mo ρ S).bind fun o S1 => match o with
      | .tup l => (mas ρ S1).bind (kIxT2 l)
      | o => kMe "str" fIndexS mas ρ o S1) (fe_meth mr_indexS ho ha hbase hfew hline hs hplain) (fe_ixT ho ha hbase hfew hline hs hplain) fun ρ S => by
    show (mo ρ S).bind _ = mMeth "str" fIndexS mo mas ρ S ∨ (mo ρ S).bind _ = mIxT mo mas ρ S
    rw [ev_meth, ev_ixT]
    cases r : mo ρ S with
    | err c es S' => exact .inl rfl
    | bad => exact .inl rfl
    | ok d S1 =>
      cases d with
      | tup l => exact .inr rfl
      | _ => exact .inl rfl) (fe_meth (mr_indexL ho.ex.1) ho ha hbase hfew hline hs hplain) fun ρ S => by
    show (mo ρ S).bind _ = (mo ρ S).bind _ ∨ (mo ρ S).bind _ = mMeth "list" fIndexL mo mas ρ S
    rw [ev_meth]
    cases r : mo ρ S with
    | err c es S' => exact .inl rfl
    | bad => exact .inl rfl
    | ok d S1 =>
      cases d with
      | tup l => exact .inl rfl
      | str s => exact .inl rfl
      | _ => exact .inr rfl
end
section
variable {S : Store} {mo : ME} {mas : MA} {ρ : Rho}
@[simp] theorem ev_ixA : mIxA mo mas ρ S = (mo ρ S).bind (kIxA1 mas ρ) := rfl
@[simp] theorem q_ixA {l : List D} : kIxA1 mas ρ (.tup l) S = (mas ρ S).bind (kIxT2 l) := rfl
@[simp] theorem q_ixAs {l : Str} : kIxA1 mas ρ (.str l) S = kMe "str" fIndexS mas ρ (.str l) S := rfl
end
end FL
end

section
set_option autoImplicit false
/-! loops over data by their invariants -/
namespace FL
open PySem L2
/-- the step of a loop goes on -/
def RS.Goes (r : RS) (I : Rho → Store → Prop) : Prop := ∃ ρ S, (r = .nx ρ S ∨ r = .ct ρ S) ∧ I ρ S
/-- the loop ends by itself -/
def RS.Nx (r : RS) (I : Rho → Store → Prop) : Prop := ∃ ρ S, r = .nx ρ S ∧ I ρ S
/-- it ends by itself or returns -/
def RS.NxR (r : RS) (I : Rho → Store → Prop) (Q : D → Store → Prop) : Prop := (∃ ρ S, r = .nx ρ S ∧ I ρ S) ∨ ∃ d S, r = .rt d S ∧ Q d S
theorem goes_nx {ρ : Rho} {S : Store} {I : Rho → Store → Prop} (h : I ρ S) : (RS.nx ρ S).Goes I := ⟨ρ, S, .inl rfl, h⟩
theorem goes_ct {ρ : Rho} {S : Store} {I : Rho → Store → Prop} (h : I ρ S) : (RS.ct ρ S).Goes I := ⟨ρ, S, .inr rfl, h⟩
theorem RS.Nx.imp {r : RS} {I J : Rho → Store → Prop} (h : r.Nx I) (k : ∀ ρ S, I ρ S → J ρ S) : r.Nx J := let ⟨ρ, S, e, q⟩ := h; ⟨ρ, S, e, k ρ S q⟩
section
variable {P : Store → Prop} {tg : Tgt} {b : MS}
theorem items_ix (L : List D) (I : Nat → Rho → Store → Prop)
    (h : ∀ i d, L[i]? = some d → ∀ ρ S, I i ρ S → P S ∧ ∃ ρ1, tg d ρ S = some ρ1 ∧ (b ρ1 S).Goes (I (i + 1))) (hP : ∀ ρ S, I L.length ρ S → P S) {ρ : Rho} {S : Store} (h0 : I 0 ρ S) : (mItems P tg b L ρ S).Nx (I L.length) := by
  have key : ∀ (n i : Nat), L.length - i = n → i ≤ L.length → ∀ ρ S, I i ρ S → (mItems P tg b (L.drop i) ρ S).Nx (I L.length) := by
    intro n
    induction n with
    | zero =>
      intro i hn hi ρ S hI
      have e : i = L.length := by omega
      subst e
      rw [List.drop_length, ev_i0, if_pos (hP ρ S hI)]
      exact ⟨ρ, S, rfl, hI⟩
    | succ n ih =>
      intro i hn hi ρ S hI
      have hlt : i < L.length := by omega
      obtain ⟨p, ρ1, e1, ρ2, S2, e2, hI2⟩ := h i L[i] (List.getElem?_eq_getElem hlt) ρ S hI
      rw [List.drop_eq_getElem_cons hlt, ev_i1, if_pos p, e1]
      show ((b ρ1 S).go _).Nx _
      rcases e2 with e2 | e2
      · rw [e2]; exact ih (i + 1) (by omega) (by omega) ρ2 S2 hI2
      · rw [e2]; exact ih (i + 1) (by omega) (by omega) ρ2 S2 hI2
  have := key _ 0 rfl (Nat.zero_le _) ρ S h0
  rwa [List.drop_zero] at this
theorem items_N {k : Nat} (L : List D) (I : Nat → Rho → Store → Prop)
    (h : ∀ i d, L[i]? = some d → ∀ ρ S, I i ρ S → P S ∧ (b (ρ.set k (.dat d)) S).Goes (I (i + 1))) (hP : ∀ ρ S, I L.length ρ S → P S) {ρ : Rho} {S : Store} (h0 : I 0 ρ S) : (mItems P (gN k) b L ρ S).Nx (I L.length) :=
  items_ix L I (fun i d e ρ S hI => let ⟨p, q⟩ := h i d e ρ S hI; ⟨p, _, rfl, q⟩) hP h0
theorem items_T {k : Nat} (L : List D) (I : Nat → Rho → Store → Prop)
    (h : ∀ i d, L[i]? = some d → ∀ ρ S, I i ρ S → (b (ρ.set k (.dat d)) S).Goes (I (i + 1))) {ρ : Rho} {S : Store} (h0 : I 0 ρ S) : (mItems (fun _ => True) (gN k) b L ρ S).Nx (I L.length) :=
  items_N L I (fun i d e ρ S hI => ⟨trivial, h i d e ρ S hI⟩) (fun _ _ _ => trivial) h0
/-- for k in range(n) -/
theorem rng_T {k : Nat} (n : Nat) (I : Nat → Rho → Store → Prop)
    (h : ∀ i, i < n → ∀ ρ S, I i ρ S → (b (ρ.set k (.dat (.int (i : Nat)))) S).Goes (I (i + 1))) {ρ : Rho} {S : Store} (h0 : I 0 ρ S) : (mItems (fun _ => True) (gN k) b ((List.range n).map fun (i : Nat) => D.int (i : Int)) ρ S).Nx (I n) := by
  have z := items_T (b := b) (k := k) ((List.range n).map fun (i : Nat) => D.int (i : Int)) I (fun i d e ρ S hI => by
    rw [List.getElem?_map] at e
    cases q : (List.range n)[i]? with
    | none => rw [q] at e; cases e
    | some j =>
      rw [q] at e
      cases e
      obtain ⟨hl, he⟩ := List.getElem?_eq_some_iff.mp q
      rw [List.getElem_range] at he
      subst he
      exact h i (by simpa using hl) ρ S hI) h0
  rwa [List.length_map, List.length_range] at z
/-- for k in range(a, a + n) -/
theorem rng2_T {k : Nat} (a : Int) (n : Nat) (I : Nat → Rho → Store → Prop)
    (h : ∀ i, i < n → ∀ ρ S, I i ρ S → (b (ρ.set k (.dat (.int (a + (i : Nat))))) S).Goes (I (i + 1))) {ρ : Rho} {S : Store} (h0 : I 0 ρ S) : (mItems (fun _ => True) (gN k) b ((List.range n).map fun (i : Nat) => D.int (a + (i : Int))) ρ S).Nx (I n) := by
  have z := items_T (b := b) (k := k) ((List.range n).map fun (i : Nat) => D.int (a + (i : Int))) I (fun i d e ρ S hI => by
    rw [List.getElem?_map] at e
    cases q : (List.range n)[i]? with
    | none => rw [q] at e; cases e
    | some j =>
      rw [q] at e
      cases e
      obtain ⟨hl, he⟩ := List.getElem?_eq_some_iff.mp q
      rw [List.getElem_range] at he
      subst he
      exact h i (by simpa using hl) ρ S hI) h0
  rwa [List.length_map, List.length_range] at z
end
/-! ### comprehensions over data -/
theorem lc_filt {P : Store → Prop} {tg : Tgt} {tt : MT} {el : ME} {n : Nat} {ρ : Rho} (p : D → Bool) (f : D → D) (hP : ∀ S l, P S → P (S.set n (.lst l))) : ∀ (ds acc : List D) (S : Store), P S → (∀ d ∈ ds, ∀ S, ∃ ρ1, tg d ρ S = some ρ1 ∧ tt ρ1 S = .ok (p d) S ∧ (p d = true → el ρ1 S = .ok (f d) S)) → getL S n = some acc → acc.length + ds.length ≤ 16777216 →
    lcItems P tg tt el n ρ ds S = .ok (.ref n) (S.set n (.lst (acc ++ (ds.filter p).map f)))
  | [], acc, S, pS, _, g, _ => by
    rw [lcItems, if_pos pS, List.filter_nil, List.map_nil, List.append_nil, set_same g]
  | d :: ds, acc, S, pS, h, g, hl => by
    obtain ⟨ρ1, h1, h2, h3⟩ := h d List.mem_cons_self S
    have hl2 : acc.length < 16777216 := by rw [List.length_cons] at hl; omega
    rw [lcItems, if_pos pS, h1]
    simp only [h2]
    cases e : p d with
    | false =>
      simp only []
      rw [lc_filt p f hP ds acc S pS (fun x hx => h x (List.mem_cons_of_mem _ hx)) g (by rw [List.length_cons] at hl; omega), List.filter_cons, e]
      first | done | rfl
    | true =>
      simp only [h3 e, g, if_pos hl2]
      rw [lc_filt p f hP ds (acc ++ [f d]) (S.set n (.lst (acc ++ [f d]))) (hP _ _ pS) (fun x hx => h x (List.mem_cons_of_mem _ hx)) (get_set (get_lt g)) (by rw [List.length_append, List.length_cons, List.length_nil]; rw [List.length_cons] at hl; omega), List.set_set, List.filter_cons, e, if_pos rfl, List.map_cons, List.append_assoc]
      rfl
/-! ### rows of ints -/
@[simp] theorem idx_int {x : Int} : ∀ {l : List Int}, idxD (.int x) (l.map .int) = l.findIdx? (fun y => y == x)
  | [] => rfl
  | y :: l => by
    rw [List.map_cons]
    unfold idxD
    rw [List.findIdx?_cons]
    show (if (y == x) = true then _ else _) = _
    rw [idx_int (l := l)]
@[simp] theorem flat_ints : ∀ {l : List Int}, (l.map D.int).all flatD = true
  | [] => rfl
  | y :: l => by rw [List.map_cons, List.all_cons, flat_ints]; rfl
theorem in_ints {x : Int} : ∀ {l : List Int}, inD (.int x) (l.map .int) = decide (x ∈ l)
  | [] => rfl
  | y :: l => by
    unfold inD
    rw [List.map_cons, List.any_cons]
    have ih := in_ints (x := x) (l := l)
    unfold inD at ih
    rw [ih]
    show ((y == x) || decide (x ∈ l)) = _
    by_cases h : y = x
    · subst h; simp
    · have h2 : ¬ x = y := fun e => h e.symm
      simp [h, h2]
@[simp] theorem bIn_t {S : Store} {x : Int} {l : List Int} : bIn (.int x) (.tup (l.map .int)) S = .ok (.bl (decide (x ∈ l))) S := by
  unfold bIn inB
  show (match (if flatD (.int x) = true ∧ (l.map D.int).all flatD = true then some (inD (.int x) (l.map D.int)) else none) with | some b => R.ok (D.bl b) S | none => R.bad) = _
  rw [if_pos ⟨rfl, flat_ints⟩, in_ints]
theorem bNotIn_r {S : Store} {x : Int} {l : List Int} {n : Nat} (h : getL S n = some (l.map .int)) : bNotIn (.int x) (.ref n) S = .ok (.bl (!decide (x ∈ l))) S := by
  unfold bNotIn inB
  show (match (match getL S n with | some ds => if flatD (.int x) = true ∧ ds.all flatD = true then some (inD (.int x) ds) else none | none => none) with | some b => R.ok (D.bl (!b)) S | none => R.bad) = _
  rw [h]
  show (match (if flatD (.int x) = true ∧ (l.map D.int).all flatD = true then some (inD (.int x) (l.map D.int)) else none) with | some b => R.ok (D.bl (!b)) S | none => R.bad) = _
  rw [if_pos ⟨rfl, flat_ints⟩, in_ints]
@[simp] theorem q_ixT2 {S : Store} {x : Int} {l : List Int} : kIxT2 (l.map .int) [.int x] S = match l.findIdx? (fun y => y == x) with
    | some j => .ok (.int (j : Nat)) S
    | none => .bad := by
  unfold kIxT2
  show (if flatD (.int x) = true ∧ (l.map D.int).all flatD = true then (match idxD (.int x) (l.map .int) with | some j => R.ok (D.int (j : Nat)) S | none => R.bad) else R.bad) = _
  rw [if_pos ⟨rfl, flat_ints⟩, idx_int]
theorem at_ints {l : List Int} {i : Nat} {x : Int} (h : l[i]? = some x) : atI (l.map D.int) (i : Int) = some (.int x) := x_at (by omega) (by rw [Int.toNat_natCast, List.getElem?_map, h]; rfl)
theorem at_last {l : List D} {x : D} (h : l[l.length - 1]? = some x) : atI l (-1) = some x := by
  have hl := (List.getElem?_eq_some_iff.mp h).1
  unfold atI ixN
  rw [if_neg (by omega), if_pos (by omega)]
  show l[(-1 + (l.length : Int)).toNat]? = _
  rw [show (-1 + (l.length : Int)).toNat = l.length - 1 by omega]
  exact h
@[simp] theorem f_max2I {i j : Int} {S : Store} : fMax2 [.int i, .int j] S = .ok (.int (if j > i then j else i)) S := rfl
@[simp] theorem f_min2I {i j : Int} {S : Store} : fMin2 [.int i, .int j] S = .ok (.int (if j < i then j else i)) S := rfl
@[simp] theorem f_sortR {n : Nat} {S : Store} : fSorted [.ref n] S = match (getL S n).bind intsOf with
    | some ns => .ok (.ref S.length) (S ++ [.lst ((srtI ns).map .int)])
    | none => .bad := rfl
@[simp] theorem f_sumR {n : Nat} {S : Store} : fSum [.ref n] S = match (getL S n).bind intsOf with
    | some ns => .ok (.int ns.sum) S
    | none => .bad := rfl
end FL
end

section
namespace K34
open PySem L2 FL
noncomputable def b_is_int : MS :=
 (mRet (mAndV (mIsi "int" (mVar 0)) (mNotV (mIsi "bool" (mVar 0)))))
noncomputable def m_is_int : MF := gcF (mFn 1 b_is_int)
noncomputable def b_is_int_in : MS :=
 (mRet (mAndV (mCB m_is_int (mCons (mVar 0) mNil)) (mChain bLe bLe (mVar 1) (mVar 0) (mVar 2))))
noncomputable def m_is_int_in : MF := gcF (mFn 3 b_is_int_in)
noncomputable def lb_is_ascending_0 : MS :=
 (mIf (mNot (mB (mOp bLt (mOp bIx (mVar 0) (mOp bSub (mVar 1) (mC (.int 1)))) (mOp bIx (mVar 0) (mVar 1))))) (mRet (mC (.bl false))) mNext)
noncomputable def l_is_ascending_1 : MS :=
 (mFor (mRng2 (mCons (mC (.int 1)) (mCons (mCB fLen (mCons (mVar 0) mNil)) mNil))) (gN 1) lb_is_ascending_0)
noncomputable def b_is_ascending : MS :=
 (mSeq l_is_ascending_1
 (mRet (mC (.bl true))))
noncomputable def m_is_ascending : MF := gcF (mFn 2 b_is_ascending)
noncomputable def lb_check_wire_0 : MS :=
 (mIf (mNot (mTru (mCB m_is_int_in (mCons (mOp bIx (mVar 0) (mVar 1)) (mCons (mC (.int 0)) (mCons (mOp bIx (mC (.tup [(.int 20), (.int 20), (.int 6), (.int 4)])) (mVar 1)) mNil)))))) (mRaise 1 (mCons (mVar 1) mNil)) mNext)
noncomputable def b_check_wire : MS :=
 (mFor (mRng1 (mCons (mCB fLen (mCons (mC (.tup [(.int 20), (.int 20), (.int 6), (.int 4)])) mNil)) mNil)) (gN 1) lb_check_wire_0)
noncomputable def m_check_wire : MF := gcF (mFn 2 b_check_wire)
noncomputable def lb__are_tries_0 : MS :=
 (mIf (mNot (mTru (mCB m_is_int_in (mCons (mVar 1) (mCons (mC (.int 0)) (mCons (mC (.int 90)) mNil)))))) (mRet (mC (.bl false))) mNext)
noncomputable def l__are_tries_1 : MS :=
 (mFor (mIter (mVar 0)) (gN 1) lb__are_tries_0)
noncomputable def b__are_tries : MS :=
 (mSeq (mIf (mOr (mNot (mTru (mIsi "tuple" (mVar 0)))) (mNot (mB (mChain bLe bLe (mC (.int 1)) (mCB fLen (mCons (mVar 0) mNil)) (mC (.int 8)))))) (mRet (mC (.bl false))) mNext)
 (mSeq l__are_tries_1
 (mRet (mAndV (mOp bEq (mOp bIx (mVar 0) (mC (.int 0))) (mC (.int 0))) (mCB m_is_ascending (mCons (mVar 0) mNil))))))
noncomputable def m__are_tries : MF := gcF (mFn 2 b__are_tries)
noncomputable def b_check_plan : MS :=
 (mSeq (mAsg (gT 2 (gsCons (gN 1) (gsCons (gN 2) gsNil))) (mVar 0))
 (mSeq (mIf (mNot (mTru (mCB m__are_tries (mCons (mVar 1) mNil)))) (mRaise 2 (mCons (mC (.int 0)) mNil)) mNext)
 (mIf (mNot (mTru (mCB m_is_int_in (mCons (mVar 2) (mCons (mOp bIx (mVar 1) (mNeg (mC (.int 1)))) (mCons (mC (.int 140)) mNil)))))) (mRaise 2 (mCons (mC (.int 1)) mNil)) mNext)))
noncomputable def m_check_plan : MF := gcF (mFn 3 b_check_plan)
noncomputable def b_check_memory : MS :=
 (mSeq (mAsg (gT 3 (gsCons (gN 1) (gsCons (gN 2) (gsCons (gN 3) gsNil)))) (mVar 0))
 (mSeq (mIf (mNot (mTru (mCB m_is_int_in (mCons (mVar 1) (mCons (mC (.int 0)) (mCons (mC (.int 200)) mNil)))))) (mRaise 3 (mCons (mC (.int 0)) mNil)) mNext)
 (mSeq (mIf (mNot (mTru (mIsi "bool" (mVar 2)))) (mRaise 3 (mCons (mC (.int 1)) mNil)) mNext)
 (mIf (mNot (mTru (mCB m_is_int_in (mCons (mVar 3) (mCons (mC (.int 0)) (mCons (mC (.int 3)) mNil)))))) (mRaise 3 (mCons (mC (.int 2)) mNil)) mNext))))
noncomputable def m_check_memory : MF := gcF (mFn 4 b_check_memory)
noncomputable def lb_is_fate_0 : MS :=
 (mSeq (mIf (mNot (mTru (mCB m_is_int_in (mCons (mOp bIx (mVar 0) (mVar 2)) (mCons (mC (.int 0)) (mCons (mVar 1) mNil)))))) (mRet (mC (.bl false))) mNext)
 (mIf (mAnd (mB (mOp bGt (mVar 2) (mC (.int 0)))) (mB (mOp bLt (mOp bIx (mVar 0) (mVar 2)) (mOp bIx (mVar 0) (mOp bSub (mVar 2) (mC (.int 1))))))) (mRet (mC (.bl false))) mNext))
noncomputable def l_is_fate_1 : MS :=
 (mFor (mRng1 (mCons (mCB fLen (mCons (mVar 0) mNil)) mNil)) (gN 2) lb_is_fate_0)
noncomputable def b_is_fate : MS :=
 (mSeq (mIf (mNot (mTru (mIsi "tuple" (mVar 0)))) (mRet (mC (.bl false))) mNext)
 (mSeq l_is_fate_1
 (mRet (mC (.bl true)))))
noncomputable def m_is_fate : MF := gcF (mFn 3 b_is_fate)
noncomputable def lb__are_fates_0 : MS :=
 (mIf (mNot (mTru (mCB m_is_fate (mCons (mVar 3) (mCons (mVar 2) mNil))))) (mRet (mC (.bl false))) mNext)
noncomputable def l__are_fates_1 : MS :=
 (mFor (mIter (mVar 0)) (gN 3) lb__are_fates_0)
noncomputable def b__are_fates : MS :=
 (mSeq (mIf (mOr (mNot (mTru (mIsi "tuple" (mVar 0)))) (mB (mOp bGt (mCB fLen (mCons (mVar 0) mNil)) (mVar 1)))) (mRet (mC (.bl false))) mNext)
 (mSeq l__are_fates_1
 (mRet (mC (.bl true)))))
noncomputable def m__are_fates : MF := gcF (mFn 4 b__are_fates)
noncomputable def c_lost_count_0 : ME :=
 (mLc [1] (mIter (mVar 0)) (gN 1) (mB (mOp bEq (mCB fLen (mCons (mVar 1) mNil)) (mC (.int 0)))) (mVar 1))
noncomputable def b_lost_count : MS :=
 (mRet (mCB fLen (mCons c_lost_count_0 mNil)))
noncomputable def m_lost_count : MF := gcF (mFn 2 b_lost_count)
noncomputable def c_extra_count_0 : ME :=
 (mLc [1] (mIter (mVar 0)) (gN 1) (mB (mOp bGt (mCB fLen (mCons (mVar 1) mNil)) (mC (.int 0)))) (mOp bSub (mCB fLen (mCons (mVar 1) mNil)) (mC (.int 1))))
noncomputable def b_extra_count : MS :=
 (mRet (mCB fSum (mCons c_extra_count_0 mNil)))
noncomputable def m_extra_count : MF := gcF (mFn 2 b_extra_count)
noncomputable def b__is_affordable : MS :=
 (mRet (mAndV (mOp bLe (mCB m_lost_count (mCons (mVar 1) mNil)) (mOp bIx (mVar 0) (mC (.int 2)))) (mOp bLe (mCB m_extra_count (mCons (mVar 1) mNil)) (mOp bIx (mVar 0) (mC (.int 3))))))
noncomputable def m__is_affordable : MF := gcF (mFn 2 b__is_affordable)
noncomputable def lb__are_crashes_0 : MS :=
 (mIf (mNot (mTru (mCB m_is_int_in (mCons (mVar 2) (mCons (mC (.int 0)) (mCons (mC (.int 400)) mNil)))))) (mRet (mC (.bl false))) mNext)
noncomputable def l__are_crashes_1 : MS :=
 (mFor (mIter (mVar 0)) (gN 2) lb__are_crashes_0)
noncomputable def b__are_crashes : MS :=
 (mSeq (mIf (mOr (mNot (mTru (mIsi "tuple" (mVar 0)))) (mB (mOp bGt (mCB fLen (mCons (mVar 0) mNil)) (mVar 1)))) (mRet (mC (.bl false))) mNext)
 (mSeq l__are_crashes_1
 (mRet (mCB m_is_ascending (mCons (mVar 0) mNil)))))
noncomputable def m__are_crashes : MF := gcF (mFn 3 b__are_crashes)
noncomputable def b_check_run : MS :=
 (mSeq (mAsg (gT 3 (gsCons (gN 4) (gsCons (gN 5) (gsCons (gN 6) gsNil)))) (mVar 3))
 (mSeq (mIf (mOr (mNot (mTru (mCB m__are_fates (mCons (mVar 4) (mCons (mCB fLen (mCons (mOp bIx (mVar 1) (mC (.int 0))) mNil)) (mCons (mOp bIx (mVar 0) (mC (.int 0))) mNil)))))) (mNot (mTru (mCB m__is_affordable (mCons (mVar 0) (mCons (mVar 4) mNil)))))) (mRaise 4 (mCons (mC (.int 0)) mNil)) mNext)
 (mSeq (mIf (mOr (mNot (mTru (mCB m__are_fates (mCons (mVar 5) (mCons (mC (.int 40)) (mCons (mOp bIx (mVar 0) (mC (.int 1))) mNil)))))) (mNot (mTru (mCB m__is_affordable (mCons (mVar 0) (mCons (mOp bAdd (mVar 4) (mVar 5)) mNil)))))) (mRaise 4 (mCons (mC (.int 1)) mNil)) mNext)
 (mIf (mNot (mTru (mCB m__are_crashes (mCons (mVar 6) (mCons (mOp bIx (mVar 2) (mC (.int 2))) mNil))))) (mRaise 4 (mCons (mC (.int 2)) mNil)) mNext))))
noncomputable def m_check_run : MF := gcF (mFn 7 b_check_run)
noncomputable def b_fate_of : MS :=
 (mSeq (mIf (mB (mOp bLt (mVar 1) (mCB fLen (mCons (mVar 0) mNil)))) (mRet (mOp bIx (mVar 0) (mVar 1))) mNext)
 (mRet (mTup (mCons (mC (.int 0)) mNil))))
noncomputable def m_fate_of : MF := gcF (mFn 2 b_fate_of)
noncomputable def b_CallPlay____init__ : MS :=
 (mSeq (mFldSet [5] "tries" (mVar 0) (mOp bIx (mVar 2) (mC (.int 0))))
 (mSeq (mFldSet [5] "until" (mVar 0) (mOp bIx (mVar 2) (mC (.int 1))))
 (mSeq (mFldSet [5] "keep" (mVar 0) (mOp bIx (mVar 3) (mC (.int 0))))
 (mSeq (mFldSet [5] "durable" (mVar 0) (mOp bIx (mVar 3) (mC (.int 1))))
 (mSeq (mFldSet [5] "asks" (mVar 0) (mOp bIx (mVar 4) (mC (.int 0))))
 (mSeq (mFldSet [5] "tells" (mVar 0) (mOp bIx (mVar 4) (mC (.int 1))))
 (mSeq (mFldSet [5] "crashes" (mVar 0) (mOp bIx (mVar 4) (mC (.int 2))))
 (mSeq (mFldSet [5] "stops" (mVar 0) (mVar 5))
 (mSeq (mFldSet [5] "last" (mVar 0) (mCB fMax2 (mCons (mOp bIx (mVar 2) (mC (.int 1))) (mCons (mOp bAdd (mOp bAdd (mOp bIx (mOp bIx (mVar 2) (mC (.int 0))) (mNeg (mC (.int 1)))) (mOp bIx (mVar 1) (mC (.int 0)))) (mOp bIx (mVar 1) (mC (.int 1)))) mNil))))
 (mSeq (mIf (mB (mOp bGt (mCB fLen (mCons (mOp bIx (mVar 4) (mC (.int 2))) mNil)) (mC (.int 0)))) (mFldSet [5] "last" (mVar 0) (mCB fMax2 (mCons (mFld [5] "last" (mVar 0)) (mCons (mOp bIx (mOp bIx (mVar 4) (mC (.int 2))) (mNeg (mC (.int 1)))) mNil)))) mNext)
 (mSeq (mFldSet [5] "arriving" (mVar 0) mDNew)
 (mSeq (mFldSet [5] "hearing" (mVar 0) mDNew)
 (mSeq (mFldSet [5] "done_at" (mVar 0) (mC .non))
 (mSeq (mFldSet [5] "told" (mVar 0) (mC (.int 0)))
 (mSeq (mFldSet [5] "has_answer" (mVar 0) (mC (.bl false)))
 (mSeq (mFldSet [5] "waiting" (mVar 0) (mC .non))
 (mSeq (mFldSet [5] "stopped_at" (mVar 0) (mC .non))
 (mFldSet [5] "history" (mVar 0) (mLst mNil)))))))))))))))))))
noncomputable def m_CallPlay____init__ : MF := id (mFn 6 b_CallPlay____init__)
noncomputable def q_CallPlay__play_tell_0 : MS :=
 (mIf (mOr (mB (mOp bIsN (mFld [5] "done_at" (mVar 0)) (mC .non))) (mB (mOp bGt (mOp bSub (mVar 1) (mFld [5] "done_at" (mVar 0))) (mFld [5] "keep" (mVar 0))))) (mSeq (mSet 2 (mC (.str "do")))
 (mFldSet [5] "done_at" (mVar 0) (mVar 1))) mNext)
noncomputable def lb_CallPlay__play_tell_0 : MS :=
 (mDrop (mMeth "list" fAppend (mDSet2 (mFld [5] "hearing" (mVar 0)) (mOp bAdd (mVar 1) (mVar 4)) (mLst mNil)) (mCons (mVar 3) mNil)))
noncomputable def l_CallPlay__play_tell_1 : MS :=
 (mFor (mIter (mCB m_fate_of (mCons (mFld [5] "tells" (mVar 0)) (mCons (mVar 3) mNil)))) (gN 4) lb_CallPlay__play_tell_0)
noncomputable def b_CallPlay__play_tell : MS :=
 (mSeq (mSet 2 (mC (.str "again")))
 (mSeq q_CallPlay__play_tell_0
 (mSeq (mSet 3 (mFld [5] "told" (mVar 0)))
 (mSeq (mFldAug [5] "told" bAddI (mVar 0) (mC (.int 1)))
 (mSeq (mDrop (mMeth "list" fAppend (mFld [5] "history" (mVar 0)) (mCons (mTup (mCons (mVar 1) (mCons (mVar 2) (mCons (mVar 3) mNil)))) mNil)))
 (mSeq (mIf (mAnd (mTru (mFld [5] "stops" (mVar 0))) (mB (mOp bGe (mVar 3) (mCB fLen (mCons (mFld [5] "tells" (mVar 0)) mNil))))) (mSeq (mFldSet [5] "waiting" (mVar 0) (mTup (mCons (mC (.str "tell")) (mCons (mVar 3) mNil))))
 mRetN) mNext)
 l_CallPlay__play_tell_1))))))
noncomputable def m_CallPlay__play_tell : MF := id (mFn 5 b_CallPlay__play_tell)
noncomputable def lb_CallPlay__play_arrivals_0 : MS :=
 (mSeq (mDrop (mMeth "list" fAppend (mFld [5] "history" (mVar 0)) (mCons (mTup (mCons (mVar 1) (mCons (mC (.str "arrive")) (mCons (mVar 2) mNil)))) mNil)))
 (mSeq (mDrop (mIMeth 5 "play_tell" m_CallPlay__play_tell (mVar 0) (mCons (mVar 1) mNil)))
 (mIf (mB (mOp bNotN (mFld [5] "waiting" (mVar 0)) (mC .non))) mRetN mNext)))
noncomputable def b_CallPlay__play_arrivals : MS :=
 (mFor (mIter (mDGet2 (mFld [5] "arriving" (mVar 0)) (mVar 1) (mLst mNil))) (gN 2) lb_CallPlay__play_arrivals_0)
noncomputable def m_CallPlay__play_arrivals : MF := id (mFn 3 b_CallPlay__play_arrivals)
noncomputable def lb_CallPlay__play_ask_0 : MS :=
 (mDrop (mMeth "list" fAppend (mDSet2 (mFld [5] "arriving" (mVar 0)) (mOp bAdd (mVar 1) (mVar 3)) (mLst mNil)) (mCons (mVar 2) mNil)))
noncomputable def l_CallPlay__play_ask_1 : MS :=
 (mFor (mIter (mCB m_fate_of (mCons (mFld [5] "asks" (mVar 0)) (mCons (mVar 2) mNil)))) (gN 3) lb_CallPlay__play_ask_0)
noncomputable def b_CallPlay__play_ask : MS :=
 (mSeq (mSet 2 (mIxA (mFld [5] "tries" (mVar 0)) (mCons (mVar 1) mNil)))
 (mSeq (mDrop (mMeth "list" fAppend (mFld [5] "history" (mVar 0)) (mCons (mTup (mCons (mVar 1) (mCons (mC (.str "ask")) (mCons (mVar 2) mNil)))) mNil)))
 (mSeq (mIf (mAnd (mTru (mFld [5] "stops" (mVar 0))) (mB (mOp bGe (mVar 2) (mCB fLen (mCons (mFld [5] "asks" (mVar 0)) mNil))))) (mSeq (mFldSet [5] "waiting" (mVar 0) (mTup (mCons (mC (.str "ask")) (mCons (mVar 2) mNil))))
 mRetN) mNext)
 l_CallPlay__play_ask_1)))
noncomputable def m_CallPlay__play_ask : MF := id (mFn 4 b_CallPlay__play_ask)
noncomputable def b_CallPlay__play_crash : MS :=
 (mSeq (mDrop (mMeth "list" fAppend (mFld [5] "history" (mVar 0)) (mCons (mTup (mCons (mVar 1) (mCons (mC (.str "crash")) (mCons (mNeg (mC (.int 1))) mNil)))) mNil)))
 (mIf (mNot (mTru (mFld [5] "durable" (mVar 0)))) (mFldSet [5] "done_at" (mVar 0) (mC .non)) mNext))
noncomputable def m_CallPlay__play_crash : MF := id (mFn 2 b_CallPlay__play_crash)
noncomputable def lb_CallPlay__play_replies_0 : MS :=
 (mSeq (mSet 3 (mC (.str "late")))
 (mSeq (mIf (mAnd (mNot (mTru (mFld [5] "has_answer" (mVar 0)))) (mB (mOp bLe (mVar 1) (mFld [5] "until" (mVar 0))))) (mSeq (mSet 3 (mC (.str "hear")))
 (mFldSet [5] "has_answer" (mVar 0) (mC (.bl true)))) mNext)
 (mDrop (mMeth "list" fAppend (mFld [5] "history" (mVar 0)) (mCons (mTup (mCons (mVar 1) (mCons (mVar 3) (mCons (mVar 2) mNil)))) mNil)))))
noncomputable def b_CallPlay__play_replies : MS :=
 (mFor (mIter (mDGet2 (mFld [5] "hearing" (mVar 0)) (mVar 1) (mLst mNil))) (gN 2) lb_CallPlay__play_replies_0)
noncomputable def m_CallPlay__play_replies : MF := id (mFn 4 b_CallPlay__play_replies)
noncomputable def q_CallPlay__play_tick_0 : MS :=
 (mIf (mB (mOp bIn (mVar 1) (mFld [5] "crashes" (mVar 0)))) (mDrop (mIMeth 5 "play_crash" m_CallPlay__play_crash (mVar 0) (mCons (mVar 1) mNil))) mNext)
noncomputable def q_CallPlay__play_tick_1 : MS :=
 (mIf (mAnd (mB (mOp bIn (mVar 1) (mFld [5] "tries" (mVar 0)))) (mNot (mTru (mFld [5] "has_answer" (mVar 0))))) (mDrop (mIMeth 5 "play_ask" m_CallPlay__play_ask (mVar 0) (mCons (mVar 1) mNil))) mNext)
noncomputable def q_CallPlay__play_tick_2 : MS :=
 (mIf (mB (mOp bIsN (mFld [5] "waiting" (mVar 0)) (mC .non))) (mDrop (mIMeth 5 "play_arrivals" m_CallPlay__play_arrivals (mVar 0) (mCons (mVar 1) mNil))) mNext)
noncomputable def q_CallPlay__play_tick_3 : MS :=
 (mIf (mB (mOp bIsN (mFld [5] "waiting" (mVar 0)) (mC .non))) (mDrop (mIMeth 5 "play_replies" m_CallPlay__play_replies (mVar 0) (mCons (mVar 1) mNil))) mNext)
noncomputable def q_CallPlay__play_tick_4 : MS :=
 (mIf (mAnd (mB (mOp bIsN (mFld [5] "waiting" (mVar 0)) (mC .non))) (mAnd (mB (mOp bEq (mVar 1) (mFld [5] "until" (mVar 0)))) (mNot (mTru (mFld [5] "has_answer" (mVar 0)))))) (mDrop (mMeth "list" fAppend (mFld [5] "history" (mVar 0)) (mCons (mTup (mCons (mVar 1) (mCons (mC (.str "give up")) (mCons (mNeg (mC (.int 1))) mNil)))) mNil))) mNext)
noncomputable def b_CallPlay__play_tick : MS :=
 (mSeq q_CallPlay__play_tick_0
 (mSeq q_CallPlay__play_tick_1
 (mSeq q_CallPlay__play_tick_2
 (mSeq q_CallPlay__play_tick_3
 q_CallPlay__play_tick_4))))
noncomputable def m_CallPlay__play_tick : MF := id (mFn 2 b_CallPlay__play_tick)
noncomputable def lb_CallPlay__play_all_0 : MS :=
 (mSeq (mDrop (mIMeth 5 "play_tick" m_CallPlay__play_tick (mVar 0) (mCons (mVar 1) mNil)))
 (mIf (mB (mOp bNotN (mFld [5] "waiting" (mVar 0)) (mC .non))) (mSeq (mFldSet [5] "stopped_at" (mVar 0) (mVar 1))
 mRetN) mNext))
noncomputable def b_CallPlay__play_all : MS :=
 (mFor (mRng1 (mCons (mOp bAdd (mFld [5] "last" (mVar 0)) (mC (.int 1))) mNil)) (gN 1) lb_CallPlay__play_all_0)
noncomputable def m_CallPlay__play_all : MF := id (mFn 2 b_CallPlay__play_all)
noncomputable def b_played_log : MS :=
 (mSeq (mSet 4 (mMake 5 m_CallPlay____init__ (mCons (mVar 0) (mCons (mVar 1) (mCons (mVar 2) (mCons (mVar 3) (mCons (mC (.bl false)) mNil)))))))
 (mSeq (mDrop (mIMeth 5 "play_all" m_CallPlay__play_all (mVar 4) mNil))
 (mRet (mCB fTup (mCons (mFld [5] "history" (mVar 4)) mNil)))))
noncomputable def m_played_log : MF := gcF (mFn 5 b_played_log)
noncomputable def b_play_call : MS :=
 (mSeq (mDrop (mCB m_check_wire (mCons (mVar 0) mNil)))
 (mSeq (mDrop (mCB m_check_plan (mCons (mVar 1) mNil)))
 (mSeq (mDrop (mCB m_check_memory (mCons (mVar 2) mNil)))
 (mSeq (mDrop (mCB m_check_run (mCons (mVar 0) (mCons (mVar 1) (mCons (mVar 2) (mCons (mVar 3) mNil))))))
 (mRet (mCB m_played_log (mCons (mVar 0) (mCons (mVar 1) (mCons (mVar 2) (mCons (mVar 3) mNil))))))))))
noncomputable def m_play_call : MF := gcF (mFn 4 b_play_call)
noncomputable def c_ticks_of_0 : ME :=
 (mLc [2] (mIter (mVar 0)) (gN 2) (mB (mOp bEq (mOp bIx (mVar 2) (mC (.int 1))) (mVar 1))) (mOp bIx (mVar 2) (mC (.int 0))))
noncomputable def b_ticks_of : MS :=
 (mRet (mGc (mCB fTup (mCons c_ticks_of_0 mNil))))
noncomputable def m_ticks_of : MF := gcF (mFn 3 b_ticks_of)
noncomputable def b_done_ticks : MS :=
 (mRet (mCB m_ticks_of (mCons (mVar 0) (mCons (mC (.str "do")) mNil))))
noncomputable def m_done_ticks : MF := gcF (mFn 1 b_done_ticks)
noncomputable def b_arrivals : MS :=
 (mRet (mCB m_ticks_of (mCons (mVar 0) (mCons (mC (.str "arrive")) mNil))))
noncomputable def m_arrivals : MF := gcF (mFn 1 b_arrivals)
noncomputable def b_answer_tick : MS :=
 (mSeq (mSet 1 (mCB m_ticks_of (mCons (mVar 0) (mCons (mC (.str "hear")) mNil))))
 (mSeq (mIf (mB (mOp bEq (mCB fLen (mCons (mVar 1) mNil)) (mC (.int 0)))) (mRet (mC .non)) mNext)
 (mRet (mOp bIx (mVar 1) (mC (.int 0))))))
noncomputable def m_answer_tick : MF := gcF (mFn 2 b_answer_tick)
noncomputable def b_gap_of : MS :=
 (mSeq (mSet 1 (mCB m_arrivals (mCons (mVar 0) mNil)))
 (mSeq (mIf (mB (mOp bEq (mCB fLen (mCons (mVar 1) mNil)) (mC (.int 0)))) (mRet (mC (.int 0))) mNext)
 (mRet (mOp bSub (mOp bIx (mVar 1) (mNeg (mC (.int 1)))) (mOp bIx (mVar 1) (mC (.int 0)))))))
noncomputable def m_gap_of : MF := gcF (mFn 2 b_gap_of)
noncomputable def b__law_cell : MS :=
 (mSeq (mIf (mB (mOp bLt (mVar 1) (mCB fLen (mCons (mVar 0) mNil)))) (mRet (mOp bIx (mVar 0) (mVar 1))) mNext)
 (mSeq (mIf (mB (mOp bEq (mCB fLen (mCons (mVar 0) mNil)) (mC (.int 0)))) (mRet (mOp bAdd (mOp bMul (mC (.int 7)) (mVar 1)) (mC (.int 1)))) mNext)
 (mRet (mOp bAdd (mOp bAdd (mOp bMul (mOp bIx (mVar 0) (mOp bMod (mCB fInt (mCons (mVar 1) mNil)) (mCB fLen (mCons (mVar 0) mNil)))) (mC (.int 31))) (mOp bMul (mC (.int 7)) (mVar 1))) (mC (.int 1))))))
noncomputable def m__law_cell : MF := gcF (mFn 2 b__law_cell)
noncomputable def lb__law_row_0 : MS :=
 (mSeq (mDrop (mMeth "list" fAppend (mVar 4) (mCons (mOp bMod (mCB fInt (mCons (mVar 5) mNil)) (mVar 6)) mNil)))
 (mSet 5 (mOp bDiv (mVar 5) (mVar 6))))
noncomputable def l__law_row_1 : MS :=
 (mFor (mIter (mVar 2)) (gN 6) lb__law_row_0)
noncomputable def lb__law_row_2 : MS :=
 (mSeq (mSet 8 (mOp bMod (mCB fInt (mCons (mOp bAdd (mOp bAdd (mOp bMul (mVar 3) (mC (.int 48271))) (mOp bMul (mOp bAdd (mOp bMul (mC (.int 64)) (mVar 1)) (mVar 7)) (mC (.int 69621)))) (mC (.int 11))) mNil)) (mC (.int 2147483647))))
 (mSeq (mSet 9 (mOp bMod (mCB fInt (mCons (mOp bAdd (mOp bAdd (mOp bMul (mVar 8) (mC (.int 40692))) (mOp bDiv (mVar 8) (mC (.int 9)))) (mOp bMul (mVar 7) (mC (.int 7919)))) mNil)) (mC (.int 2147483399))))
 (mDrop (mMeth "list" fAppend (mVar 4) (mCons (mOp bMod (mCB fInt (mCons (mOp bDiv (mVar 9) (mC (.int 7))) mNil)) (mOp bIx (mVar 2) (mVar 7))) mNil)))))
noncomputable def l__law_row_3 : MS :=
 (mFor (mRng1 (mCons (mCB fLen (mCons (mVar 2) mNil)) mNil)) (gN 7) lb__law_row_2)
noncomputable def b__law_row : MS :=
 (mSeq (mSet 3 (mCB m__law_cell (mCons (mVar 0) (mCons (mVar 1) mNil))))
 (mSeq (mSet 4 (mLst mNil))
 (mSeq (mIf (mB (mOp bGe (mVar 3) (mOp bPow (mC (.int 10)) (mC (.int 18))))) (mSeq (mSet 5 (mOp bSub (mVar 3) (mOp bPow (mC (.int 10)) (mC (.int 18)))))
 (mSeq l__law_row_1
 (mRet (mVar 4)))) mNext)
 (mSeq l__law_row_3
 (mRet (mVar 4))))))
noncomputable def m__law_row : MF := id (mFn 10 b__law_row)
noncomputable def b__law_wire : MS :=
 (mSeq (mSet 1 (mCB m__law_row (mCons (mVar 0) (mCons (mC (.int 0)) (mCons (mLst (mCons (mC (.int 4)) (mCons (mC (.int 21)) (mCons (mC (.int 21)) (mCons (mC (.int 7)) (mCons (mC (.int 5)) (mCons (mC (.int 4)) (mCons (mC (.int 4)) mNil)))))))) mNil)))))
 (mSeq (mIf (mB (mOp bLt (mOp bIx (mVar 1) (mC (.int 0))) (mC (.int 2)))) (mRet (mTup (mCons (mOp bIx (mVar 1) (mC (.int 1))) (mCons (mOp bIx (mVar 1) (mC (.int 2))) (mCons (mOp bIx (mVar 1) (mC (.int 3))) (mCons (mOp bIx (mVar 1) (mC (.int 4))) mNil)))))) mNext)
 (mRet (mTup (mCons (mOp bIx (mVar 1) (mC (.int 5))) (mCons (mOp bIx (mVar 1) (mC (.int 6))) (mCons (mOp bMod (mCB fInt (mCons (mOp bIx (mVar 1) (mC (.int 3))) mNil)) (mC (.int 4))) (mCons (mOp bMod (mCB fInt (mCons (mOp bIx (mVar 1) (mC (.int 4))) mNil)) (mC (.int 3))) mNil))))))))
noncomputable def m__law_wire : MF := gcF (mFn 2 b__law_wire)
noncomputable def lb__law_plan_0 : MS :=
 (mSeq (mSet 6 (mOp bSub (mOp bSub (mC (.int 90)) (mOp bSub (mOp bSub (mVar 3) (mC (.int 1))) (mVar 5))) (mOp bIx (mVar 4) (mOp bSub (mVar 5) (mC (.int 1))))))
 (mSeq (mSet 7 (mOp bMod (mCB fInt (mCons (mOp bIx (mVar 2) (mOp bAdd (mC (.int 1)) (mVar 5))) mNil)) (mVar 6)))
 (mSeq (mIf (mB (mOp bEq (mOp bIx (mVar 2) (mC (.int 1))) (mC (.int 1)))) (mSet 7 (mOp bMod (mCB fInt (mCons (mOp bIx (mVar 2) (mOp bAdd (mC (.int 1)) (mVar 5))) mNil)) (mCB fMin2 (mCons (mC (.int 4)) (mCons (mVar 6) mNil))))) mNext)
 (mSeq (mIf (mB (mOp bEq (mOp bIx (mVar 2) (mC (.int 1))) (mC (.int 2)))) (mSet 7 (mOp bMod (mCB fInt (mCons (mOp bIx (mVar 2) (mOp bAdd (mC (.int 1)) (mVar 5))) mNil)) (mCB fMin2 (mCons (mC (.int 12)) (mCons (mVar 6) mNil))))) mNext)
 (mDrop (mMeth "list" fAppend (mVar 4) (mCons (mOp bAdd (mOp bAdd (mOp bIx (mVar 4) (mOp bSub (mVar 5) (mC (.int 1)))) (mC (.int 1))) (mVar 7)) mNil)))))))
noncomputable def l__law_plan_1 : MS :=
 (mFor (mRng2 (mCons (mC (.int 1)) (mCons (mVar 3) mNil))) (gN 5) lb__law_plan_0)
noncomputable def b__law_plan : MS :=
 (mSeq (mSet 2 (mCB m__law_row (mCons (mVar 0) (mCons (mC (.int 1)) (mCons (mLst (mCons (mC (.int 8)) (mCons (mC (.int 3)) (mCons (mC (.int 90)) (mCons (mC (.int 90)) (mCons (mC (.int 90)) (mCons (mC (.int 90)) (mCons (mC (.int 90)) (mCons (mC (.int 90)) (mCons (mC (.int 90)) (mCons (mC (.int 4)) (mCons (mC (.int 141)) (mCons (mC (.int 8)) (mCons (mC (.int 3)) mNil)))))))))))))) mNil)))))
 (mSeq (mSet 3 (mOp bAdd (mC (.int 1)) (mOp bIx (mVar 2) (mC (.int 0)))))
 (mSeq (mSet 4 (mLst (mCons (mC (.int 0)) mNil)))
 (mSeq l__law_plan_1
 (mSeq (mSet 8 (mOp bIx (mVar 4) (mOp bSub (mVar 3) (mC (.int 1)))))
 (mSeq (mSet 9 (mOp bAdd (mVar 8) (mOp bMod (mCB fInt (mCons (mOp bIx (mVar 2) (mC (.int 10))) mNil)) (mOp bSub (mC (.int 141)) (mVar 8)))))
 (mSeq (mIf (mB (mOp bGt (mOp bIx (mVar 2) (mC (.int 9))) (mC (.int 1)))) (mSeq (mSet 9 (mOp bSub (mOp bAdd (mOp bAdd (mOp bAdd (mOp bIx (mVar 4) (mOp bMod (mCB fInt (mCons (mOp bIx (mVar 2) (mC (.int 11))) mNil)) (mVar 3))) (mOp bIx (mVar 1) (mC (.int 0)))) (mOp bIx (mVar 1) (mC (.int 1)))) (mOp bIx (mVar 2) (mC (.int 12)))) (mC (.int 1))))
 (mSeq (mIf (mB (mOp bLt (mVar 9) (mVar 8))) (mSet 9 (mVar 8)) mNext)
 (mIf (mB (mOp bGt (mVar 9) (mC (.int 140)))) (mSet 9 (mC (.int 140))) mNext))) mNext)
 (mRet (mTup (mCons (mCB fTup (mCons (mVar 4) mNil)) (mCons (mVar 9) mNil)))))))))))
noncomputable def m__law_plan : MF := gcF (mFn 10 b__law_plan)
noncomputable def b__law_memory : MS :=
 (mSeq (mSet 3 (mCB m__law_row (mCons (mVar 0) (mCons (mC (.int 2)) (mCons (mLst (mCons (mC (.int 4)) (mCons (mC (.int 201)) (mCons (mC (.int 2)) (mCons (mC (.int 4)) (mCons (mC (.int 8)) (mCons (mC (.int 3)) (mCons (mC (.int 2)) mNil)))))))) mNil)))))
 (mSeq (mSet 4 (mOp bIx (mVar 3) (mC (.int 1))))
 (mSeq (mIf (mB (mOp bGt (mOp bIx (mVar 3) (mC (.int 0))) (mC (.int 1)))) (mSeq (mSet 4 (mOp bSub (mOp bAdd (mOp bAdd (mOp bIx (mOp bIx (mVar 2) (mC (.int 0))) (mOp bMod (mCB fInt (mCons (mOp bIx (mVar 3) (mC (.int 4))) mNil)) (mCB fLen (mCons (mOp bIx (mVar 2) (mC (.int 0))) mNil)))) (mOp bIx (mVar 1) (mC (.int 0)))) (mOp bIx (mVar 3) (mC (.int 5)))) (mC (.int 1))))
 (mSeq (mIf (mAnd (mB (mOp bEq (mOp bIx (mVar 3) (mC (.int 6))) (mC (.int 1)))) (mB (mOp bEq (mOp bIx (mVar 3) (mC (.int 0))) (mC (.int 3))))) (mSet 4 (mOp bSub (mOp bAdd (mOp bAdd (mOp bIx (mVar 1) (mC (.int 0))) (mOp bIx (mVar 1) (mC (.int 1)))) (mOp bIx (mVar 3) (mC (.int 5)))) (mC (.int 1)))) mNext)
 (mIf (mB (mOp bLt (mVar 4) (mC (.int 0)))) (mSet 4 (mC (.int 0))) mNext))) mNext)
 (mRet (mTup (mCons (mVar 4) (mCons (mOp bEq (mOp bIx (mVar 3) (mC (.int 2))) (mC (.int 0))) (mCons (mOp bIx (mVar 3) (mC (.int 3))) mNil))))))))
noncomputable def m__law_memory : MF := gcF (mFn 5 b__law_memory)
noncomputable def lb__law_fate_0 : MS :=
 (mSeq (mSet 7 (mOp bMod (mCB fInt (mCons (mOp bIx (mVar 0) (mOp bAdd (mC (.int 2)) (mVar 6))) mNil)) (mOp bAdd (mVar 1) (mC (.int 1)))))
 (mSeq (mIf (mB (mOp bEq (mOp bIx (mVar 0) (mC (.int 7))) (mC (.int 1)))) (mSet 7 (mC (.int 0))) mNext)
 (mSeq (mIf (mB (mOp bEq (mOp bIx (mVar 0) (mC (.int 7))) (mC (.int 2)))) (mSet 7 (mVar 1)) mNext)
 (mDrop (mMeth "list" fAppend (mVar 5) (mCons (mVar 7) mNil))))))
noncomputable def l__law_fate_1 : MS :=
 (mFor (mRng1 (mCons (mVar 4) mNil)) (gN 6) lb__law_fate_0)
noncomputable def c__law_fate_2 : ME :=
 (mLc [7] (mIter (mVar 5)) (gN 7) mYes (mCB fInt (mCons (mVar 7) mNil)))
noncomputable def b__law_fate : MS :=
 (mSeq (mIf (mAnd (mB (mOp bLt (mOp bIx (mVar 0) (mC (.int 0))) (mC (.int 2)))) (mB (mOp bGt (mVar 2) (mC (.int 0))))) (mRet (mTup mNil)) mNext)
 (mSeq (mSet 4 (mC (.int 1)))
 (mSeq (mIf (mOr (mB (mOp bEq (mOp bIx (mVar 0) (mC (.int 0))) (mC (.int 2)))) (mB (mOp bEq (mOp bIx (mVar 0) (mC (.int 0))) (mC (.int 3))))) (mSet 4 (mOp bAdd (mC (.int 1)) (mCB fMin2 (mCons (mCB fInt (mCons (mVar 3) mNil)) (mCons (mOp bAdd (mC (.int 1)) (mCB fInt (mCons (mOp bIx (mVar 0) (mC (.int 1))) mNil))) mNil))))) mNext)
 (mSeq (mSet 5 (mLst mNil))
 (mSeq l__law_fate_1
 (mRet (mCB fTup (mCons (mCB fSorted (mCons c__law_fate_2 mNil)) mNil))))))))
noncomputable def m__law_fate : MF := gcF (mFn 8 b__law_fate)
noncomputable def lb__law_run_0 : MS :=
 (mSeq (mSet 12 (mCB m__law_fate (mCons (mCB m__law_row (mCons (mVar 0) (mCons (mOp bAdd (mOp bAdd (mC (.int 4)) (mOp bMul (mC (.int 8)) (mVar 9))) (mVar 11)) (mCons (mVar 5) mNil)))) (mCons (mOp bIx (mVar 1) (mVar 9)) (mCons (mVar 6) (mCons (mVar 7) mNil))))))
 (mSeq (mIf (mB (mOp bEq (mCB fLen (mCons (mVar 12) mNil)) (mC (.int 0)))) (mSet 6 (mOp bSub (mVar 6) (mC (.int 1)))) (mSet 7 (mOp bSub (mOp bAdd (mVar 7) (mC (.int 1))) (mCB fLen (mCons (mVar 12) mNil)))))
 (mDrop (mMeth "list" fAppend (mOp bIx (mVar 8) (mVar 9)) (mCons (mVar 12) mNil)))))
noncomputable def l__law_run_1 : MS :=
 (mFor (mRng1 (mCons (mVar 10) mNil)) (gN 11) lb__law_run_0)
noncomputable def lb__law_run_2 : MS :=
 (mSeq (mSet 10 (mOp bIx (mVar 4) (mVar 9)))
 (mSeq (mIf (mAnd (mB (mOp bEq (mVar 9) (mC (.int 0)))) (mB (mOp bGt (mVar 10) (mCB fLen (mCons (mOp bIx (mVar 2) (mC (.int 0))) mNil))))) (mSet 10 (mCB fLen (mCons (mOp bIx (mVar 2) (mC (.int 0))) mNil))) mNext)
 l__law_run_1))
noncomputable def l__law_run_3 : MS :=
 (mFor (mRng1 (mCons (mC (.int 2)) mNil)) (gN 9) lb__law_run_2)
noncomputable def lb__law_run_4 : MS :=
 (mSeq (mSet 15 (mOp bIx (mVar 14) (mVar 11)))
 (mSeq (mIf (mB (mOp bEq (mOp bIx (mVar 4) (mC (.int 3))) (mC (.int 1)))) (mSet 15 (mOp bMod (mCB fInt (mCons (mVar 15) mNil)) (mC (.int 120)))) mNext)
 (mIf (mB (mOp bNotIn (mVar 15) (mVar 13))) (mDrop (mMeth "list" fAppend (mVar 13) (mCons (mVar 15) mNil))) mNext)))
noncomputable def l__law_run_5 : MS :=
 (mFor (mRng1 (mCons (mOp bMod (mCB fInt (mCons (mOp bIx (mVar 4) (mC (.int 2))) mNil)) (mOp bAdd (mVar 3) (mC (.int 1)))) mNil)) (gN 11) lb__law_run_4)
noncomputable def c__law_run_6 : ME :=
 (mLc [15] (mIter (mVar 13)) (gN 15) mYes (mCB fInt (mCons (mVar 15) mNil)))
noncomputable def b__law_run : MS :=
 (mSeq (mSet 4 (mCB m__law_row (mCons (mVar 0) (mCons (mC (.int 3)) (mCons (mLst (mCons (mC (.int 9)) (mCons (mC (.int 14)) (mCons (mC (.int 4)) (mCons (mC (.int 2)) mNil))))) mNil)))))
 (mSeq (mSet 5 (mLst (mCons (mC (.int 8)) (mCons (mC (.int 4)) (mCons (mC (.int 21)) (mCons (mC (.int 21)) (mCons (mC (.int 21)) (mCons (mC (.int 21)) (mCons (mC (.int 21)) (mCons (mC (.int 4)) mNil))))))))))
 (mSeq (mSet 6 (mOp bIx (mVar 1) (mC (.int 2))))
 (mSeq (mSet 7 (mOp bIx (mVar 1) (mC (.int 3))))
 (mSeq (mSet 8 (mLst (mCons (mLst mNil) (mCons (mLst mNil) mNil))))
 (mSeq l__law_run_3
 (mSeq (mSet 13 (mLst mNil))
 (mSeq (mSet 14 (mCB m__law_row (mCons (mVar 0) (mCons (mC (.int 25)) (mCons (mLst (mCons (mC (.int 401)) (mCons (mC (.int 401)) (mCons (mC (.int 401)) mNil)))) mNil)))))
 (mSeq l__law_run_5
 (mRet (mTup (mCons (mCB fTup (mCons (mOp bIx (mVar 8) (mC (.int 0))) mNil)) (mCons (mCB fTup (mCons (mOp bIx (mVar 8) (mC (.int 1))) mNil)) (mCons (mCB fTup (mCons (mCB fSorted (mCons c__law_run_6 mNil)) mNil)) mNil))))))))))))))
noncomputable def m__law_run : MF := gcF (mFn 16 b__law_run)
noncomputable def b__law_fate_at : MS :=
 (mSeq (mIf (mB (mOp bLt (mVar 1) (mCB fLen (mCons (mVar 0) mNil)))) (mRet (mOp bIx (mVar 0) (mVar 1))) mNext)
 (mRet (mTup (mCons (mC (.int 0)) mNil))))
noncomputable def m__law_fate_at : MF := gcF (mFn 2 b__law_fate_at)
noncomputable def q__law_play_0 : MS :=
 (mIf (mB (mOp bIn (mVar 11) (mOp bIx (mVar 3) (mC (.int 2))))) (mSeq (mDrop (mMeth "list" fAppend (mVar 4) (mCons (mTup (mCons (mVar 11) (mCons (mC (.str "crash")) (mCons (mNeg (mC (.int 1))) mNil)))) mNil)))
 (mIf (mNot (mTru (mOp bIx (mVar 2) (mC (.int 1))))) (mSet 7 (mC .non)) mNext)) mNext)
noncomputable def lb__law_play_0 : MS :=
 (mDrop (mMeth "list" fAppend (mVar 5) (mCons (mTup (mCons (mOp bAdd (mVar 11) (mVar 13)) (mCons (mVar 12) mNil))) mNil)))
noncomputable def l__law_play_1 : MS :=
 (mFor (mIter (mCB m__law_fate_at (mCons (mOp bIx (mVar 3) (mC (.int 0))) (mCons (mVar 12) mNil)))) (gN 13) lb__law_play_0)
noncomputable def q__law_play_1 : MS :=
 (mIf (mAnd (mB (mOp bIn (mVar 11) (mOp bIx (mVar 1) (mC (.int 0))))) (mNot (mTru (mVar 8)))) (mSeq (mSet 12 (mIxA (mOp bIx (mVar 1) (mC (.int 0))) (mCons (mVar 11) mNil)))
 (mSeq (mDrop (mMeth "list" fAppend (mVar 4) (mCons (mTup (mCons (mVar 11) (mCons (mC (.str "ask")) (mCons (mVar 12) mNil)))) mNil)))
 l__law_play_1)) mNext)
noncomputable def lb__law_play_2 : MS :=
 (mDrop (mMeth "list" fAppend (mVar 6) (mCons (mTup (mCons (mOp bAdd (mVar 11) (mVar 13)) (mCons (mVar 9) mNil))) mNil)))
noncomputable def l__law_play_3 : MS :=
 (mFor (mIter (mCB m__law_fate_at (mCons (mOp bIx (mVar 3) (mC (.int 1))) (mCons (mVar 9) mNil)))) (gN 13) lb__law_play_2)
noncomputable def lb__law_play_4 : MS :=
 (mIf (mB (mOp bEq (mOp bIx (mVar 14) (mC (.int 0))) (mVar 11))) (mSeq (mDrop (mMeth "list" fAppend (mVar 4) (mCons (mTup (mCons (mVar 11) (mCons (mC (.str "arrive")) (mCons (mOp bIx (mVar 14) (mC (.int 1))) mNil)))) mNil)))
 (mSeq (mSet 15 (mC (.str "again")))
 (mSeq (mIf (mOr (mB (mOp bIsN (mVar 7) (mC .non))) (mB (mOp bGt (mOp bSub (mVar 11) (mVar 7)) (mOp bIx (mVar 2) (mC (.int 0)))))) (mSeq (mSet 15 (mC (.str "do")))
 (mSet 7 (mVar 11))) mNext)
 (mSeq (mDrop (mMeth "list" fAppend (mVar 4) (mCons (mTup (mCons (mVar 11) (mCons (mVar 15) (mCons (mVar 9) mNil)))) mNil)))
 (mSeq l__law_play_3
 (mSet 9 (mOp bAdd (mVar 9) (mC (.int 1))))))))) mNext)
noncomputable def l__law_play_5 : MS :=
 (mFor (mIter (mVar 5)) (gN 14) lb__law_play_4)
noncomputable def lb__law_play_6 : MS :=
 (mIf (mAnd (mB (mOp bEq (mOp bIx (mVar 14) (mC (.int 0))) (mVar 11))) (mAnd (mNot (mTru (mVar 8))) (mB (mOp bLe (mVar 11) (mOp bIx (mVar 1) (mC (.int 1))))))) (mSeq (mDrop (mMeth "list" fAppend (mVar 4) (mCons (mTup (mCons (mVar 11) (mCons (mC (.str "hear")) (mCons (mOp bIx (mVar 14) (mC (.int 1))) mNil)))) mNil)))
 (mSet 8 (mC (.bl true)))) (mIf (mB (mOp bEq (mOp bIx (mVar 14) (mC (.int 0))) (mVar 11))) (mDrop (mMeth "list" fAppend (mVar 4) (mCons (mTup (mCons (mVar 11) (mCons (mC (.str "late")) (mCons (mOp bIx (mVar 14) (mC (.int 1))) mNil)))) mNil))) mNext))
noncomputable def l__law_play_7 : MS :=
 (mFor (mIter (mVar 6)) (gN 14) lb__law_play_6)
noncomputable def q__law_play_2 : MS :=
 (mIf (mAnd (mB (mOp bEq (mVar 11) (mOp bIx (mVar 1) (mC (.int 1))))) (mNot (mTru (mVar 8)))) (mDrop (mMeth "list" fAppend (mVar 4) (mCons (mTup (mCons (mVar 11) (mCons (mC (.str "give up")) (mCons (mNeg (mC (.int 1))) mNil)))) mNil))) mNext)
noncomputable def lb__law_play_8 : MS :=
 (mSeq q__law_play_0
 (mSeq q__law_play_1
 (mSeq l__law_play_5
 (mSeq l__law_play_7
 q__law_play_2))))
noncomputable def l__law_play_9 : MS :=
 (mFor (mRng1 (mCons (mVar 10) mNil)) (gN 11) lb__law_play_8)
noncomputable def c__law_play_10 : ME :=
 (mLc [11] (mIter (mOp bIx (mVar 3) (mC (.int 2)))) (gN 11) (mB (mOp bGe (mVar 11) (mVar 10))) (mTup (mCons (mVar 11) (mCons (mC (.str "crash")) (mCons (mNeg (mC (.int 1))) mNil)))))
noncomputable def b__law_play : MS :=
 (mSeq (mSet 4 (mLst mNil))
 (mSeq (mSet 5 (mLst mNil))
 (mSeq (mSet 6 (mLst mNil))
 (mSeq (mSet 7 (mC .non))
 (mSeq (mSet 8 (mC (.bl false)))
 (mSeq (mSet 9 (mC (.int 0)))
 (mSeq (mSet 10 (mOp bAdd (mC (.int 1)) (mCB fMax2 (mCons (mCB fInt (mCons (mOp bIx (mVar 1) (mC (.int 1))) mNil)) (mCons (mOp bAdd (mOp bAdd (mCB fInt (mCons (mOp bIx (mOp bIx (mVar 1) (mC (.int 0))) (mOp bSub (mCB fLen (mCons (mOp bIx (mVar 1) (mC (.int 0))) mNil)) (mC (.int 1)))) mNil)) (mOp bIx (mVar 0) (mC (.int 0)))) (mOp bIx (mVar 0) (mC (.int 1)))) mNil)))))
 (mSeq l__law_play_9
 (mRet (mCB fTup (mCons (mOp bAdd (mVar 4) c__law_play_10) mNil)))))))))))
noncomputable def m__law_play : MF := gcF (mFn 16 b__law_play)
noncomputable def b__law_same (mself : MF) : MS :=
 (mSeq (mIf (mTru (mIsi "tuple" (mVar 1))) (mSeq (mIf (mOr (mNot (mTru (mIsi "tuple" (mVar 0)))) (mB (mOp bNe (mCB fLen (mCons (mVar 0) mNil)) (mCB fLen (mCons (mVar 1) mNil))))) (mRet (mC (.bl false))) mNext)
 (mSeq (mFor (mRng1 (mCons (mCB fLen (mCons (mVar 1) mNil)) mNil)) (gN 2) (mIf (mNot (mTru (mCB mself (mCons (mOp bIx (mVar 0) (mVar 2)) (mCons (mOp bIx (mVar 1) (mVar 2)) mNil))))) (mRet (mC (.bl false))) mNext))
 (mRet (mC (.bl true))))) mNext)
 (mSeq (mIf (mB (mOp bIsN (mVar 1) (mC .non))) (mRet (mOp bIsN (mVar 0) (mC .non))) mNext)
 (mSeq (mIf (mTru (mIsi "bool" (mVar 1))) (mRet (mAndV (mIsi "bool" (mVar 0)) (mOp bEq (mVar 0) (mVar 1)))) mNext)
 (mSeq (mIf (mTru (mIsi "int" (mVar 1))) (mRet (mAndV (mIsi "int" (mVar 0)) (mAndV (mNotV (mIsi "bool" (mVar 0))) (mOp bEq (mVar 0) (mVar 1))))) mNext)
 (mRet (mAndV (mIsi "str" (mVar 0)) (mOp bEq (mVar 0) (mVar 1))))))))
noncomputable def m__law_same : Nat → MF
  | 0 => fun _ _ => .bad
  | n + 1 => gcF (mFn 3 (b__law_same (m__law_same n)))
noncomputable def c__law_is_right_0 : ME :=
 (mLc [10] (mIter (mVar 4)) (gN 10) (mB (mOp bEq (mOp bIx (mVar 10) (mC (.int 1))) (mC (.str "hear")))) (mOp bIx (mVar 10) (mC (.int 0))))
noncomputable def c__law_is_right_1 : ME :=
 (mLc [10] (mIter (mVar 4)) (gN 10) (mB (mOp bEq (mOp bIx (mVar 10) (mC (.int 1))) (mC (.str "arrive")))) (mOp bIx (mVar 10) (mC (.int 0))))
noncomputable def c__law_is_right_2 : ME :=
 (mLc [10] (mIter (mVar 4)) (gN 10) (mB (mOp bEq (mOp bIx (mVar 10) (mC (.int 1))) (mC (.str "do")))) (mOp bIx (mVar 10) (mC (.int 0))))
noncomputable def b__law_is_right : MS :=
 (mSeq (mSet 4 (mCB m__law_play (mCons (mVar 0) (mCons (mVar 1) (mCons (mVar 2) (mCons (mVar 3) mNil))))))
 (mSeq (mSet 5 (mCB m_play_call (mCons (mVar 0) (mCons (mVar 1) (mCons (mVar 2) (mCons (mVar 3) mNil))))))
 (mSeq (mIf (mNot (mTru (mCB (m__law_same 4) (mCons (mVar 5) (mCons (mVar 4) mNil))))) (mRet (mC (.bl false))) mNext)
 (mSeq (mSet 6 c__law_is_right_0)
 (mSeq (mSet 7 (mC .non))
 (mSeq (mIf (mB (mOp bGt (mCB fLen (mCons (mVar 6) mNil)) (mC (.int 0)))) (mSet 7 (mOp bIx (mVar 6) (mC (.int 0)))) mNext)
 (mSeq (mSet 8 c__law_is_right_1)
 (mSeq (mSet 9 (mC (.int 0)))
 (mSeq (mIf (mB (mOp bGt (mCB fLen (mCons (mVar 8) mNil)) (mC (.int 0)))) (mSet 9 (mOp bSub (mOp bIx (mVar 8) (mOp bSub (mCB fLen (mCons (mVar 8) mNil)) (mC (.int 1)))) (mOp bIx (mVar 8) (mC (.int 0))))) mNext)
 (mSeq (mIf (mOr (mNot (mTru (mCB (m__law_same 4) (mCons (mCB m_answer_tick (mCons (mVar 5) mNil)) (mCons (mVar 7) mNil))))) (mNot (mTru (mCB (m__law_same 4) (mCons (mCB m_gap_of (mCons (mVar 5) mNil)) (mCons (mVar 9) mNil)))))) (mRet (mC (.bl false))) mNext)
 (mSeq (mIf (mNot (mTru (mCB (m__law_same 4) (mCons (mCB m_arrivals (mCons (mVar 5) mNil)) (mCons (mCB fTup (mCons (mVar 8) mNil)) mNil))))) (mRet (mC (.bl false))) mNext)
 (mRet (mCB (m__law_same 4) (mCons (mCB m_done_ticks (mCons (mVar 5) mNil)) (mCons (mGc (mCB fTup (mCons c__law_is_right_2 mNil))) mNil)))))))))))))))
noncomputable def m__law_is_right : MF := gcF (mFn 11 b__law_is_right)
noncomputable def b_law : MS :=
 (mSeq (mSet 1 (mCB m__law_wire (mCons (mVar 0) mNil)))
 (mSeq (mSet 2 (mCB m__law_plan (mCons (mVar 0) (mCons (mVar 1) mNil))))
 (mSeq (mSet 3 (mCB m__law_memory (mCons (mVar 0) (mCons (mVar 1) (mCons (mVar 2) mNil)))))
 (mSeq (mSet 4 (mCB m__law_run (mCons (mVar 0) (mCons (mVar 1) (mCons (mVar 2) (mCons (mOp bIx (mVar 3) (mC (.int 2))) mNil))))))
 (mSeq (mSet 5 (mCB m__law_row (mCons (mVar 0) (mCons (mC (.int 26)) (mCons (mLst (mCons (mC (.int 9)) (mCons (mC (.int 14)) (mCons (mC (.int 4)) (mCons (mC (.int 4)) mNil))))) mNil)))))
 (mSeq (mSet 6 (mTup (mCons (mSl (mOp bIx (mVar 4) (mC (.int 0))) mNoP (mP (mOp bIx (mVar 5) (mC (.int 0))))) (mCons (mSl (mOp bIx (mVar 4) (mC (.int 1))) mNoP (mP (mOp bIx (mVar 5) (mC (.int 1))))) (mCons (mSl (mOp bIx (mVar 4) (mC (.int 2))) mNoP (mP (mOp bIx (mVar 5) (mC (.int 2))))) mNil)))))
 (mSeq (mSet 7 (mTup (mCons (mOp bIx (mVar 3) (mC (.int 0))) (mCons (mNotV (mOp bIx (mVar 3) (mC (.int 1)))) (mCons (mOp bIx (mVar 3) (mC (.int 2))) mNil)))))
 (mSeq (mIf (mAnd (mB (mOp bEq (mOp bIx (mVar 5) (mC (.int 3))) (mC (.int 1)))) (mB (mOp bLt (mOp bIx (mVar 3) (mC (.int 0))) (mC (.int 200))))) (mSet 7 (mTup (mCons (mOp bAdd (mOp bIx (mVar 3) (mC (.int 0))) (mC (.int 1))) (mCons (mOp bIx (mVar 3) (mC (.int 1))) (mCons (mOp bIx (mVar 3) (mC (.int 2))) mNil))))) mNext)
 (mSeq (mIf (mAnd (mB (mOp bEq (mOp bIx (mVar 5) (mC (.int 3))) (mC (.int 2)))) (mB (mOp bGt (mOp bIx (mVar 3) (mC (.int 0))) (mC (.int 0))))) (mSet 7 (mTup (mCons (mOp bSub (mOp bIx (mVar 3) (mC (.int 0))) (mC (.int 1))) (mCons (mOp bIx (mVar 3) (mC (.int 1))) (mCons (mOp bIx (mVar 3) (mC (.int 2))) mNil))))) mNext)
 (mSeq (mIf (mNot (mTru (mCB m__law_is_right (mCons (mVar 1) (mCons (mVar 2) (mCons (mVar 3) (mCons (mVar 4) mNil))))))) (mRet (mC (.bl false))) mNext)
 (mSeq (mIf (mOr (mNot (mTru (mCB m__law_is_right (mCons (mVar 1) (mCons (mVar 2) (mCons (mVar 3) (mCons (mVar 6) mNil))))))) (mNot (mTru (mCB m__law_is_right (mCons (mVar 1) (mCons (mVar 2) (mCons (mVar 7) (mCons (mVar 4) mNil)))))))) (mRet (mC (.bl false))) mNext)
 (mRet (mCB (m__law_same 4) (mCons (mCB m_play_call (mCons (mVar 1) (mCons (mVar 2) (mCons (mVar 3) (mCons (mVar 4) mNil))))) (mCons (mCB m__law_play (mCons (mVar 1) (mCons (mVar 2) (mCons (mVar 3) (mCons (mVar 4) mNil))))) mNil)))))))))))))))
noncomputable def m_law : MF := gcF (mFn 8 b_law)
end K34
end

section
section
namespace K34
open PySem L2 FL
/-! ### draws out of the script -/
theorem t_cell (ns : List Int) (k : Int) (hk : 0 ≤ k) (hk2 : k.natAbs ≤ 1000) : ∃ c : Int, ∀ S, m__law_cell [.fz (ns.map .int), .int k] S = .ok (.int c) S := by
  by_cases h : k < ns.length
  · refine ⟨ns[k.toNat]'(by omega), fun S => ?_⟩
    have e : atI (ns.map D.int) k = some (.int (ns[k.toNat]'(by omega))) := x_at hk (by simp [show k.toNat < ns.length by omega])
    simp [m__law_cell, rho0, b__law_cell, h, e]
  · by_cases h0 : ns.length = 0
    · refine ⟨7 * k + 1, fun S => ?_⟩
      have hk3 : ¬ k < 0 := by omega
      simp [m__law_cell, rho0, b__law_cell, h0, hk3]
    · have hm : 0 ≤ k % ns.length ∧ k % ns.length < ns.length := ⟨Int.emod_nonneg _ (by omega), Int.emod_lt_of_pos _ (by omega)⟩
      have hp : (0 : Int) < ns.length := by omega
      refine ⟨ns[(k % ns.length).toNat]'(by omega) * 31 + 7 * k + 1, fun S => ?_⟩
      have e : atI (ns.map D.int) (k % ns.length) = some (.int (ns[(k % ns.length).toNat]'(by omega))) := x_at hm.1 (by simp [show (k % ns.length).toNat < ns.length by omega])
      have h0' : ¬ (ns.length : Int) = 0 := by omega
      have e2 : ∀ S, bMod (.int k) (.int ns.length) S = .ok (.int (k % ns.length)) S := fun S => i_mod hp
      simp [m__law_cell, rho0, b__law_cell, h, h0, h0', e, e2]
/-- a row of draws, each below its size -/
def Row (sizes vs : List Int) : Prop := vs.length = sizes.length ∧ ∀ i : Nat, ∀ v s : Int, vs[i]? = some v → sizes[i]? = some s → 0 ≤ v ∧ v < s
theorem t_row (ns : List Int) (k : Int) (hk : 0 ≤ k) (hk2 : k.natAbs ≤ 1000) (sizes : List Int) (hs : ∀ s ∈ sizes, 0 < s ∧ s.natAbs ≤ 1000) (hl : sizes.length ≤ 100) (S : Store) (n : Nat) (g : getL S n = some (sizes.map .int)) :
    ∃ vs, Row sizes vs ∧ m__law_row [.fz (ns.map .int), .int k, .ref n] S = .ok (.ref S.length) (S ++ [.lst (vs.map .int)]) := by
  obtain ⟨c, hc⟩ := t_cell ns k hk hk2
  have gs : ∀ i : Nat, ∀ s : Int, sizes[i]? = some s → 0 < s ∧ s.natAbs ≤ 1000 := fun i s h => hs s (List.mem_of_getElem? h)
  have hn : n < S.length := get_lt g
  have gg : ∀ J, getL (S ++ J) n = some (sizes.map .int) := fun J => by rw [get_app hn]; exact g
  have ms : ∀ {i : Nat} {d : D}, (sizes.map D.int)[i]? = some d → ∃ s : Int, sizes[i]? = some s ∧ d = .int s := fun {i d} e => by
    rw [List.getElem?_map] at e
    cases q : sizes[i]? with
    | none => rw [q] at e; cases e
    | some s => rw [q] at e; cases e; exact ⟨s, rfl, rfl⟩
  have nxt : ∀ {vs : List Int} {i : Nat} {s x : Int}, vs.length = i → (∀ j : Nat, ∀ v s : Int, vs[j]? = some v → sizes[j]? = some s → 0 ≤ v ∧ v < s) → sizes[i]? = some s → 0 ≤ x → x < s → ∀ j : Nat, ∀ v s : Int, (vs ++ [x])[j]? = some v → sizes[j]? = some s → 0 ≤ v ∧ v < s := by
    intro vs i s x h1 h2 h3 h4 h5 j v s' hv hs'
    by_cases hj : j < vs.length
    · rw [List.getElem?_append_left hj] at hv; exact h2 j v s' hv hs'
    · by_cases hj2 : j = vs.length
      · subst hj2
        rw [List.getElem?_concat_length] at hv
        cases hv
        rw [h1, h3] at hs'
        cases hs'
        exact ⟨h4, h5⟩
      · rw [List.getElem?_append_right (by omega)] at hv
        have : ¬ (j - vs.length < 1) := by omega
        simp [List.getElem?_cons, show j - vs.length ≠ 0 by omega] at hv
  obtain ⟨I, hI⟩ : ∃ I : Sl → Nat → Rho → Store → Prop, I = fun z i ρ S' => ∃ (vs : List Int) (y5 y6 y7 y8 y9 : Sl), vs.length = i ∧ (∀ j : Nat, ∀ v s : Int, vs[j]? = some v → sizes[j]? = some s → 0 ≤ v ∧ v < s) ∧ S' = S ++ [.lst (vs.map .int)] ∧ ρ = [.dat (.fz (ns.map .int)), .dat (.int k), .dat (.ref n), .dat (.int c), .dat (.ref S.length), y5, y6, y7, y8, y9] ∧ (z = .un ∨ ∃ x, y5 = .dat (.int x)) := ⟨_, rfl⟩
  have fin : ∀ {r : RS} {z : Sl}, r.Nx (I z sizes.length) → ∃ vs y5 y6 y7 y8 y9, Row sizes vs ∧ r = .nx [.dat (.fz (ns.map .int)), .dat (.int k), .dat (.ref n), .dat (.int c), .dat (.ref S.length), y5, y6, y7, y8, y9] (S ++ [.lst (vs.map .int)]) := by
    rintro r z ⟨ρ, S', rfl, q⟩
    rw [hI] at q
    obtain ⟨vs, y5, y6, y7, y8, y9, h1, h2, rfl, rfl, _⟩ := q
    exact ⟨vs, _, _, _, _, _, ⟨h1, h2⟩, rfl⟩
  by_cases h : 1000000000000000000 ≤ c
  · have w : (l__law_row_1 [.dat (.fz (ns.map .int)), .dat (.int k), .dat (.ref n), .dat (.int c), .dat (.ref S.length), .dat (.int (c - 1000000000000000000)), .un, .un, .un, .un] (S ++ [.lst []])).Nx (I (.dat .non) sizes.length) := by
      simp only [l__law_row_1, ev_for, ev_iter, ev_var, List.getElem?_cons_succ, List.getElem?_cons_zero, bind_ok, it_r, gg, stm_ok, q_for]
      have z := items_N (b := lb__law_row_0) (k := 6) (P := fun S' => S'[n]? = some (.lst (sizes.map D.int))) (sizes.map .int) (I (.dat .non)) (ρ := [.dat (.fz (ns.map .int)), .dat (.int k), .dat (.ref n), .dat (.int c), .dat (.ref S.length), .dat (.int (c - 1000000000000000000)), .un, .un, .un, .un]) (S := S ++ [.lst []])
        (fun i d e ρ S' q => by
          rw [hI] at q
          obtain ⟨vs, y5, y6, y7, y8, y9, h1, h2, rfl, rfl, hz⟩ := q
          obtain ⟨x, rfl⟩ := hz.resolve_left (by intro h; cases h)
          obtain ⟨s, hs1, rfl⟩ := ms e
          obtain ⟨p1, p2⟩ := gs i s hs1
          refine ⟨by rw [List.getElem?_append_left hn]; exact getL_some g, ?_⟩
          have hl2 : vs.length < 16777216 := by
            have := (List.getElem?_eq_some_iff.mp hs1).1
            omega
          have p3 : s.natAbs ≤ 10 ^ 77 := by omega
          simp [lb__law_row_0, p1, p3, hl2]
          refine goes_nx ?_
          rw [hI]
          exact ⟨vs ++ [x % s], _, _, _, _, _, by simp [h1], nxt h1 h2 hs1 (Int.emod_nonneg _ (by omega)) (Int.emod_lt_of_pos _ p1), by simp, rfl, .inr ⟨_, rfl⟩⟩)
        (fun ρ S' q => by
          rw [hI] at q
          obtain ⟨vs, y5, y6, y7, y8, y9, h1, h2, rfl, rfl, hz⟩ := q
          rw [List.getElem?_append_left hn]; exact getL_some g) (by rw [hI]; exact ⟨[], _, _, _, _, _, rfl, by simp, rfl, rfl, .inr ⟨_, rfl⟩⟩)
      rwa [List.length_map] at z
    obtain ⟨vs, y5, y6, y7, y8, y9, hv, e⟩ := fin w
    refine ⟨vs, hv, ?_⟩
    simp [m__law_row, rho0, b__law_row, hc, h, e]
  · have w : (l__law_row_3 [.dat (.fz (ns.map .int)), .dat (.int k), .dat (.ref n), .dat (.int c), .dat (.ref S.length), .un, .un, .un, .un, .un] (S ++ [.lst []])).Nx (I .un sizes.length) := by
      have hl3 : sizes.length ≤ 16777216 := by omega
      simp [l__law_row_3, gg, hl3]
      refine rng_T (b := lb__law_row_2) sizes.length (I .un) (fun i hi ρ S' q => ?_) (by rw [hI]; exact ⟨[], _, _, _, _, _, rfl, by simp, rfl, rfl, .inl rfl⟩)
      rw [hI] at q
      obtain ⟨vs, y5, y6, y7, y8, y9, h1, h2, rfl, rfl, hz⟩ := q
      obtain ⟨s, hs1⟩ : ∃ s, sizes[i]? = some s := ⟨_, List.getElem?_eq_getElem hi⟩
      obtain ⟨p1, p2⟩ := gs i s hs1
      have hl2 : vs.length < 16777216 := by omega
      have e1 := at_ints hs1
      have hm : ∀ x : Int, (x % 2147483647).natAbs < 18446744073709551616 := fun x => by omega
      have hi2 : (i : Int).natAbs < 18446744073709551616 := by omega
      simp [lb__law_row_2, gg, e1, p1, hl2, hm, hi2]
      refine goes_nx ?_
      rw [hI]
      exact ⟨vs ++ [_], _, _, _, _, _, by simp [h1], nxt h1 h2 hs1 (Int.emod_nonneg _ (by omega)) (Int.emod_lt_of_pos _ p1), by simp; rfl, rfl, .inl rfl⟩
    obtain ⟨vs, y5, y6, y7, y8, y9, hv, e⟩ := fin w
    refine ⟨vs, hv, ?_⟩
    simp [m__law_row, rho0, b__law_row, hc, h, e]
end K34
end

section
namespace K34
open PySem L2 FL
abbrev tI (l : List Int) : D := .tup (l.map .int)
abbrev tF (l : List (List Int)) : D := .tup (l.map tI)
structure Wire where
  o : Int
  b : Int
  l : Int
  d : Int
def Wire.D (w : Wire) : D := .tup [.int w.o, .int w.b, .int w.l, .int w.d]
structure Wire.Ok (w : Wire) : Prop where
  o : 0 ≤ w.o ∧ w.o ≤ 20
  b : 0 ≤ w.b ∧ w.b ≤ 20
  l : 0 ≤ w.l ∧ w.l ≤ 6
  d : 0 ≤ w.d ∧ w.d ≤ 4
theorem row_at {sizes vs : List Int} (h : Row sizes vs) (i : Nat) {v s : Int} (h1 : vs[i]? = some v) (h2 : sizes[i]? = some s) : 0 ≤ v ∧ v < s := h.2 i v s h1 h2
theorem t_wire (ns : List Int) (S : Store) : ∃ w : Wire, w.Ok ∧ m__law_wire [.fz (ns.map .int)] S = .ok w.D S := by
  obtain ⟨vs, hv, e⟩ := t_row ns 0 (by decide) (by decide) [4, 21, 21, 7, 5, 4, 4] (by decide) (by decide) (S ++ [.lst [.int 4, .int 21, .int 21, .int 7, .int 5, .int 4, .int 4]]) S.length (by simp)
  obtain ⟨h1, h2⟩ := hv
  match vs, h1 with
  | [v0, v1, v2, v3, v4, v5, v6], _ =>
    have b0 := h2 0 v0 4 rfl rfl
    have b1 := h2 1 v1 21 rfl rfl
    have b2 := h2 2 v2 21 rfl rfl
    have b3 := h2 3 v3 7 rfl rfl
    have b4 := h2 4 v4 5 rfl rfl
    have b5 := h2 5 v5 4 rfl rfl
    have b6 := h2 6 v6 4 rfl rfl
    have x4 : ∀ {a b c d e f g : D}, atI [a, b, c, d, e, f, g] 4 = some e := x_at (by decide) rfl
    have x5 : ∀ {a b c d e f g : D}, atI [a, b, c, d, e, f, g] 5 = some f := x_at (by decide) rfl
    have x6 : ∀ {a b c d e f g : D}, atI [a, b, c, d, e, f, g] 6 = some g := x_at (by decide) rfl
    by_cases h : v0 < 2
    · refine ⟨⟨v1, v2, v3, v4⟩, ⟨?_, ?_, ?_, ?_⟩, ?_⟩ <;> (try dsimp only) <;> (try omega)
      simp at e
      simp [m__law_wire, rho0, b__law_wire, e, h, x4, x5, x6, Wire.D]
    · refine ⟨⟨v5, v6, v3 % 4, v4 % 3⟩, ⟨?_, ?_, ?_, ?_⟩, ?_⟩ <;> (try dsimp only) <;> (try omega)
      simp at e
      simp [m__law_wire, rho0, b__law_wire, e, h, x4, x5, x6, Wire.D]
/-! ### the plan -/
structure Plan where
  tries : List Int
  u : Int
def Plan.D (p : Plan) : D := .tup [tI p.tries, .int p.u]
structure Plan.Ok (p : Plan) : Prop where
  head : p.tries[0]? = some 0
  len : p.tries.length ≤ 8
  rng : ∀ x ∈ p.tries, 0 ≤ x ∧ x ≤ 90
  asc : ∀ (i : Nat) (x y : Int), p.tries[i]? = some x → p.tries[i + 1]? = some y → x < y
  last : ∀ x, p.tries[p.tries.length - 1]? = some x → x ≤ p.u
  u : p.u ≤ 140
theorem Plan.Ok.pos {p : Plan} (h : p.Ok) : 0 < p.tries.length := (List.getElem?_eq_some_iff.mp h.head).1
end K34
end

section
namespace K34
open PySem L2 FL
structure Tr (m : Int) (i : Nat) (ts : List Int) : Prop where
  len : ts.length = i + 1
  head : ts[0]? = some 0
  rng : ∀ (j : Nat) (x : Int), ts[j]? = some x → 0 ≤ x ∧ x ≤ 90 - (m - 1 - j)
  asc : ∀ (j : Nat) (x y : Int), ts[j]? = some x → ts[j + 1]? = some y → x < y
theorem Tr.next {m : Int} {i : Nat} {ts : List Int} (h : Tr m i ts) {p x : Int} (hp : ts[i]? = some p) (h1 : p < x) (h2 : x ≤ 90 - (m - 1 - (i + 1 : Nat))) : Tr m (i + 1) (ts ++ [x]) := by
  have hl := h.len
  have hp0 := (h.rng i p hp).1
  refine ⟨by simp [hl], ?_, fun j y hj => ?_, fun j y z hy hz => ?_⟩
  · rw [List.getElem?_append_left (by omega)]; exact h.head
  · by_cases hj2 : j < ts.length
    · rw [List.getElem?_append_left hj2] at hj; exact h.rng j y hj
    · have : j = ts.length := by
        have := (List.getElem?_eq_some_iff.mp hj).1
        rw [List.length_append] at this
        simp at this
        omega
      subst this
      rw [List.getElem?_concat_length] at hj
      cases hj
      rw [hl]
      exact ⟨by omega, h2⟩
  · have hb := (List.getElem?_eq_some_iff.mp hz).1
    rw [List.length_append] at hb
    simp at hb
    rw [List.getElem?_append_left (by omega)] at hy
    by_cases hj2 : j + 1 < ts.length
    · rw [List.getElem?_append_left hj2] at hz; exact h.asc j y z hy hz
    · have : j + 1 = ts.length := by omega
      rw [this, List.getElem?_concat_length] at hz
      cases hz
      have : j = i := by omega
      subst this
      rw [hp] at hy
      cases hy
      exact h1
theorem t_plan_l (a w : D) (m : Int) (hm : 1 ≤ m ∧ m ≤ 8) (S T : Store) (r : Nat) (vs : List Int) (hr : r < S.length) (g : getL S r = some (vs.map .int)) (v1 : Int) (h1 : vs[1]? = some v1) (hv : ∀ i : Nat, i < 7 → ∃ x, vs[2 + i]? = some x ∧ 0 ≤ x) :
    (l__law_plan_1 [.dat a, .dat w, .dat (.ref r), .dat (.int m), .dat (.ref S.length), .un, .un, .un, .un, .un] (S ++ [.lst [.int 0]])).Nx fun ρ S' => ∃ ts y5 y6 y7, Tr m (m - 1).toNat ts ∧ ρ = [.dat a, .dat w, .dat (.ref r), .dat (.int m), .dat (.ref S.length), y5, y6, y7, .un, .un] ∧ S' = S ++ [.lst (ts.map .int)] := by
  obtain ⟨I, hI⟩ : ∃ I : Nat → Rho → Store → Prop, I = fun i ρ S' => ∃ ts y5 y6 y7, Tr m i ts ∧ ρ = [.dat a, .dat w, .dat (.ref r), .dat (.int m), .dat (.ref S.length), y5, y6, y7, .un, .un] ∧ S' = S ++ [.lst (ts.map .int)] := ⟨_, rfl⟩
  rw [show (fun (ρ : Rho) (S' : Store) => ∃ ts y5 y6 y7, Tr m (m - 1).toNat ts ∧ ρ = [.dat a, .dat w, .dat (.ref r), .dat (.int m), .dat (.ref S.length), y5, y6, y7, .un, .un] ∧ S' = S ++ [.lst (ts.map .int)]) = I (m - 1).toNat by rw [hI]]
  have gg : ∀ J, getL (S ++ J) r = some (vs.map .int) := fun J => by rw [get_app hr]; exact g
  have hb : m.natAbs ≤ 16777216 := by omega
  have tr0 : Tr m 0 [0] := by
    refine ⟨rfl, rfl, fun j x hj => ?_, fun j x y hx hy => ?_⟩
    · cases j with
      | zero => simp at hj; omega
      | succ j => simp at hj
    · cases j <;> simp at hy
  simp only [l__law_plan_1, ev_for, mRng2, ev_cons, ev_c, q_c1, ev_var, List.getElem?_cons_succ, List.getElem?_cons_zero, bind_ok, ev_nil, q_c2, stm_ok, q_for, if_pos (show (1 : Int).natAbs ≤ 16777216 ∧ m.natAbs ≤ 16777216 from ⟨by decide, hb⟩)]
  refine rng2_T (b := lb__law_plan_0) 1 (m - 1).toNat I (fun i hi ρ S' q => ?_) (by rw [hI]; exact ⟨[0], _, _, _, tr0, rfl, rfl⟩)
  · rw [hI] at q
    obtain ⟨ts, y5, y6, y7, tr, rfl, rfl⟩ := q
    have hl := tr.len
    obtain ⟨p, hp⟩ : ∃ p, ts[i]? = some p := ⟨_, List.getElem?_eq_getElem (by omega)⟩
    obtain ⟨hp0, hp1⟩ := tr.rng i p hp
    obtain ⟨x, hx, hx0⟩ := hv i (by omega)
    have e1 := at_ints hp
    have e1' : atI (ts.map D.int) (1 + (i : Int) - 1) = some (.int p) := by
      rw [show 1 + (i : Int) - 1 = i by omega]; exact e1
    have e2 : atI (vs.map D.int) (1 + (1 + (i : Int))) = some (.int x) := by
      rw [show (1 : Int) + (1 + (i : Int)) = ((2 + i : Nat) : Int) by omega]
      exact at_ints hx
    have e3 : atI (vs.map D.int) 1 = some (.int v1) := at_ints h1
    obtain ⟨room, hroom⟩ : ∃ room, room = 90 - (m - 1 - (1 + (i : Int))) - p := ⟨_, rfl⟩
    have hrm : 0 < room := by omega
    have hl2 : ts.length < 16777216 := by omega
    have key : ∀ s : Int, 0 ≤ s → s < room → Tr m (i + 1) (ts ++ [p + 1 + s]) := fun s h0 h1 => tr.next hp (by omega) (by omega)
    have mod1 : 0 ≤ x % room ∧ x % room < room := ⟨Int.emod_nonneg _ (by omega), Int.emod_lt_of_pos _ hrm⟩
    have hmn : ∀ c : Int, 0 < c → ∃ q, (if room < c then room else c) = q ∧ 0 < q ∧ q ≤ room := fun c hc => ⟨_, rfl, by split <;> omega, by split <;> omega⟩
    obtain ⟨q4, hq4, hq41, hq42⟩ := hmn 4 (by decide)
    obtain ⟨q12, hq12, hq121, hq122⟩ := hmn 12 (by decide)
    have mod4 : 0 ≤ x % q4 ∧ x % q4 < q4 := ⟨Int.emod_nonneg _ (by omega), Int.emod_lt_of_pos _ hq41⟩
    have mod12 : 0 ≤ x % q12 ∧ x % q12 < q12 := ⟨Int.emod_nonneg _ (by omega), Int.emod_lt_of_pos _ hq121⟩
    by_cases c1 : v1 = 1
    · simp [lb__law_plan_0, gg, e1', e2, e3, ← hroom, hrm, hq4, hq12, hq41, hq121, c1, hl2]
      refine goes_nx ?_
      rw [hI]
      exact ⟨_, _, _, _, key _ mod4.1 (by omega), rfl, by simp⟩
    · by_cases c2 : v1 = 2
      · simp [lb__law_plan_0, gg, e1', e2, e3, ← hroom, hrm, hq4, hq12, hq41, hq121, c1, c2, hl2]
        refine goes_nx ?_
        rw [hI]
        exact ⟨_, _, _, _, key _ mod12.1 (by omega), rfl, by simp⟩
      · simp [lb__law_plan_0, gg, e1', e2, e3, ← hroom, hrm, hq4, hq12, hq41, hq121, c1, c2, hl2]
        refine goes_nx ?_
        rw [hI]
        exact ⟨_, _, _, _, key _ mod1.1 (by omega), rfl, by simp⟩
end K34
end

section
namespace K34
open PySem L2 FL
theorem t_plan (ns : List Int) (w : Wire) (hw : w.Ok) (S : Store) : ∃ p : Plan, p.Ok ∧ m__law_plan [.fz (ns.map .int), w.D] S = .ok p.D S := by
  obtain ⟨vs, hv, e⟩ := t_row ns 1 (by decide) (by decide) [8, 3, 90, 90, 90, 90, 90, 90, 90, 4, 141, 8, 3] (by decide) (by decide) (S ++ [.lst [.int 8, .int 3, .int 90, .int 90, .int 90, .int 90, .int 90, .int 90, .int 90, .int 4, .int 141, .int 8, .int 3]]) S.length (by simp)
  obtain ⟨h1, h2⟩ := hv
  match vs, h1 with
  | [v0, v1, v2, v3, v4, v5, v6, v7, v8, v9, v10, v11, v12], _ =>
    have b0 := h2 0 v0 8 rfl rfl
    have b9 := h2 9 v9 4 rfl rfl
    have b10 := h2 10 v10 141 rfl rfl
    have b11 := h2 11 v11 8 rfl rfl
    have b12 := h2 12 v12 3 rfl rfl
    have x9 : atI [D.int v0, .int v1, .int v2, .int v3, .int v4, .int v5, .int v6, .int v7, .int v8, .int v9, .int v10, .int v11, .int v12] 9 = some (.int v9) := x_at (by decide) rfl
    have x10 : atI [D.int v0, .int v1, .int v2, .int v3, .int v4, .int v5, .int v6, .int v7, .int v8, .int v9, .int v10, .int v11, .int v12] 10 = some (.int v10) := x_at (by decide) rfl
    have x11 : atI [D.int v0, .int v1, .int v2, .int v3, .int v4, .int v5, .int v6, .int v7, .int v8, .int v9, .int v10, .int v11, .int v12] 11 = some (.int v11) := x_at (by decide) rfl
    have x12 : atI [D.int v0, .int v1, .int v2, .int v3, .int v4, .int v5, .int v6, .int v7, .int v8, .int v9, .int v10, .int v11, .int v12] 12 = some (.int v12) := x_at (by decide) rfl
    obtain ⟨ρ', S', el, ts, y5, y6, y7, tr, rfl, rfl⟩ := t_plan_l (.fz (ns.map .int)) w.D (1 + v0) (by omega) (S ++ [.lst [.int 8, .int 3, .int 90, .int 90, .int 90, .int 90, .int 90, .int 90, .int 90, .int 4, .int 141, .int 8, .int 3], .lst [.int v0, .int v1, .int v2, .int v3, .int v4, .int v5, .int v6, .int v7, .int v8, .int v9, .int v10, .int v11, .int v12]]) [] (S.length + 1) [v0, v1, v2, v3, v4, v5, v6, v7, v8, v9, v10, v11, v12] (by simp) (by simp) v1 rfl (fun i hi => by
      match i, hi with
      | 0, _ => exact ⟨v2, rfl, (h2 2 v2 90 rfl rfl).1⟩
      | 1, _ => exact ⟨v3, rfl, (h2 3 v3 90 rfl rfl).1⟩
      | 2, _ => exact ⟨v4, rfl, (h2 4 v4 90 rfl rfl).1⟩
      | 3, _ => exact ⟨v5, rfl, (h2 5 v5 90 rfl rfl).1⟩
      | 4, _ => exact ⟨v6, rfl, (h2 6 v6 90 rfl rfl).1⟩
      | 5, _ => exact ⟨v7, rfl, (h2 7 v7 90 rfl rfl).1⟩
      | 6, _ => exact ⟨v8, rfl, (h2 8 v8 90 rfl rfl).1⟩)
    have hl := tr.len
    have hl' : (ts.length : Int) = 1 + v0 := by omega
    obtain ⟨la, hla⟩ : ∃ la, ts[ts.length - 1]? = some la := ⟨_, List.getElem?_eq_getElem (by omega)⟩
    have rla := tr.rng _ _ hla
    have ela : atI (ts.map D.int) v0 = some (.int la) := by
      rw [show v0 = ((ts.length - 1 : Nat) : Int) by omega]
      exact at_ints hla
    have ela' : atI (ts.map D.int) (1 + v0 - 1) = some (.int la) := by
      rw [show 1 + v0 - 1 = v0 by omega]; exact ela
    have m1 : 0 ≤ v11 % (1 + v0) ∧ v11 % (1 + v0) < 1 + v0 := ⟨Int.emod_nonneg _ (by omega), Int.emod_lt_of_pos _ (by omega)⟩
    obtain ⟨tj, htj⟩ : ∃ tj, ts[(v11 % (1 + v0)).toNat]? = some tj := ⟨_, List.getElem?_eq_getElem (by omega)⟩
    have rtj := tr.rng _ _ htj
    have etj : atI (ts.map D.int) (v11 % (1 + v0)) = some (.int tj) := by
      have z := at_ints htj
      rwa [Int.toNat_of_nonneg m1.1] at z
    have m2 : 0 ≤ v10 % (141 - la) ∧ v10 % (141 - la) < 141 - la := ⟨Int.emod_nonneg _ (by omega), Int.emod_lt_of_pos _ (by omega)⟩
    have p1 : 0 < 1 + v0 := by omega
    have p2 : la < 141 := by omega
    obtain ⟨w0, w1, w2, w3⟩ := hw
    have mk : ∀ u : Int, la ≤ u → u ≤ 140 → Plan.Ok ⟨ts, u⟩ := fun u hu1 hu2 => {
      head := tr.head
      len := by show ts.length ≤ 8; omega
      rng := fun x hx => by
        obtain ⟨j, hj⟩ := List.mem_iff_getElem?.mp hx
        have z := tr.rng j x hj
        have hj2 : j < ts.length := (List.getElem?_eq_some_iff.mp hj).1
        omega
      asc := tr.asc
      last := fun x hx => by
        have hx' : ts[ts.length - 1]? = some x := hx
        rw [hla] at hx'; cases hx'; exact hu1
      u := hu2 }
    simp [Wire.D] at e el
    have hl3 : ts.length ≤ 16777216 := by omega
    have f1 := ela'
    have fin : ∀ u : Int, gcR S (.ok (.tup [.tup (ts.map .int), .int u]) (S ++ [.lst [.int 8, .int 3, .int 90, .int 90, .int 90, .int 90, .int 90, .int 90, .int 90, .int 4, .int 141, .int 8, .int 3], .lst [.int v0, .int v1, .int v2, .int v3, .int v4, .int v5, .int v6, .int v7, .int v8, .int v9, .int v10, .int v11, .int v12], .lst (ts.map .int)])) = .ok (.tup [.tup (ts.map .int), .int u]) S := fun u => gc_ap (by simp)
    by_cases c9 : 1 < v9
    · by_cases c1 : tj + w.o + w.b + v12 - 1 < la
      · refine ⟨⟨ts, la⟩, mk _ (by omega) (by omega), ?_⟩
        have c2 : ¬ 140 < la := by omega
        simp [m__law_plan, rho0, b__law_plan, e, el, f1, x9, x10, x11, x12, etj, p1, p2, c9, c1, c2, Wire.D, Plan.D]
      · by_cases c2 : 140 < tj + w.o + w.b + v12 - 1
        · refine ⟨⟨ts, 140⟩, mk _ (by omega) (by omega), ?_⟩
          simp [m__law_plan, rho0, b__law_plan, e, el, f1, x9, x10, x11, x12, etj, p1, p2, c9, c1, c2, Wire.D, Plan.D]
        · refine ⟨⟨ts, tj + w.o + w.b + v12 - 1⟩, mk _ (by omega) (by omega), ?_⟩
          simp [m__law_plan, rho0, b__law_plan, e, el, f1, x9, x10, x11, x12, etj, p1, p2, c9, c1, c2, Wire.D, Plan.D]
    · refine ⟨⟨ts, la + v10 % (141 - la)⟩, mk _ (by omega) (by omega), ?_⟩
      simp [m__law_plan, rho0, b__law_plan, e, el, f1, x9, x10, x11, x12, etj, p1, p2, c9, Wire.D, Plan.D]
/-! ### the memory -/
structure Mem where
  k : Int
  d : Bool
  c : Int
def Mem.D (m : Mem) : D := .tup [.int m.k, .bl m.d, .int m.c]
structure Mem.Ok (m : Mem) : Prop where
  k : 0 ≤ m.k ∧ m.k ≤ 200
  c : 0 ≤ m.c ∧ m.c ≤ 3
theorem t_memory (ns : List Int) (w : Wire) (hw : w.Ok) (p : Plan) (hp : p.Ok) (S : Store) : ∃ m : Mem, m.Ok ∧ m__law_memory [.fz (ns.map .int), w.D, p.D] S = .ok m.D S := by
  obtain ⟨vs, hv, e⟩ := t_row ns 2 (by decide) (by decide) [4, 201, 2, 4, 8, 3, 2] (by decide) (by decide) (S ++ [.lst [.int 4, .int 201, .int 2, .int 4, .int 8, .int 3, .int 2]]) S.length (by simp)
  obtain ⟨h1, h2⟩ := hv
  match vs, h1 with
  | [v0, v1, v2, v3, v4, v5, v6], _ =>
    have b0 := h2 0 v0 4 rfl rfl
    have b1 := h2 1 v1 201 rfl rfl
    have b3 := h2 3 v3 4 rfl rfl
    have b4 := h2 4 v4 8 rfl rfl
    have b5 := h2 5 v5 3 rfl rfl
    have x4 : ∀ {a b c d e f g : D}, atI [a, b, c, d, e, f, g] 4 = some e := x_at (by decide) rfl
    have x5 : ∀ {a b c d e f g : D}, atI [a, b, c, d, e, f, g] 5 = some f := x_at (by decide) rfl
    have x6 : ∀ {a b c d e f g : D}, atI [a, b, c, d, e, f, g] 6 = some g := x_at (by decide) rfl
    have hpos := hp.pos
    have hlen := hp.len
    have m1 : 0 ≤ v4 % (p.tries.length : Int) ∧ v4 % (p.tries.length : Int) < p.tries.length := ⟨Int.emod_nonneg _ (by omega), Int.emod_lt_of_pos _ (by omega)⟩
    obtain ⟨tj, htj⟩ : ∃ tj, p.tries[(v4 % (p.tries.length : Int)).toNat]? = some tj := ⟨_, List.getElem?_eq_getElem (by omega)⟩
    have rtj := hp.rng tj (List.mem_of_getElem? htj)
    have etj : atI (p.tries.map D.int) (v4 % (p.tries.length : Int)) = some (.int tj) := by
      have z := at_ints htj
      rwa [Int.toNat_of_nonneg m1.1] at z
    have em : ∀ S, bMod (.int v4) (.int (p.tries.length : Int)) S = .ok (.int (v4 % (p.tries.length : Int))) S := fun S => i_mod (by omega)
    obtain ⟨w0, w1, w2, w3⟩ := hw
    simp [Wire.D, Plan.D] at e
    by_cases c0 : 1 < v0
    · by_cases c6 : v6 = 1 ∧ v0 = 3
      · obtain ⟨c6a, c6b⟩ := c6
        by_cases cn : w.o + w.b + v5 - 1 < 0
        · refine ⟨⟨0, decide (v2 = 0), v3⟩, ⟨by dsimp only; omega, by dsimp only; omega⟩, ?_⟩
          simp [m__law_memory, rho0, b__law_memory, e, x4, x5, x6, em, etj, c0, c6a, c6b, cn, Wire.D, Plan.D, Mem.D]
        · refine ⟨⟨w.o + w.b + v5 - 1, decide (v2 = 0), v3⟩, ⟨by dsimp only; omega, by dsimp only; omega⟩, ?_⟩
          simp [m__law_memory, rho0, b__law_memory, e, x4, x5, x6, em, etj, c0, c6a, c6b, cn, Wire.D, Plan.D, Mem.D]
      · have c6' : ∀ (S : Store) (ρ : Rho) , True := fun _ _ => trivial
        by_cases cn : tj + w.o + v5 - 1 < 0
        · refine ⟨⟨0, decide (v2 = 0), v3⟩, ⟨by dsimp only; omega, by dsimp only; omega⟩, ?_⟩
          by_cases c6a : v6 = 1
          · have c6b : ¬ v0 = 3 := fun h => c6 ⟨c6a, h⟩
            simp [m__law_memory, rho0, b__law_memory, e, x4, x5, x6, em, etj, c0, c6a, c6b, cn, Wire.D, Plan.D, Mem.D]
          · simp [m__law_memory, rho0, b__law_memory, e, x4, x5, x6, em, etj, c0, c6a, cn, Wire.D, Plan.D, Mem.D]
        · refine ⟨⟨tj + w.o + v5 - 1, decide (v2 = 0), v3⟩, ⟨by dsimp only; omega, by dsimp only; omega⟩, ?_⟩
          by_cases c6a : v6 = 1
          · have c6b : ¬ v0 = 3 := fun h => c6 ⟨c6a, h⟩
            simp [m__law_memory, rho0, b__law_memory, e, x4, x5, x6, em, etj, c0, c6a, c6b, cn, Wire.D, Plan.D, Mem.D]
          · simp [m__law_memory, rho0, b__law_memory, e, x4, x5, x6, em, etj, c0, c6a, cn, Wire.D, Plan.D, Mem.D]
    · refine ⟨⟨v1, decide (v2 = 0), v3⟩, ⟨by dsimp only; omega, by dsimp only; omega⟩, ?_⟩
      simp [m__law_memory, rho0, b__law_memory, e, x4, x5, x6, c0, Wire.D, Plan.D, Mem.D]
end K34
end

section
namespace K34
open PySem L2 FL
structure Fate (most : Int) (f : List Int) : Prop where
  pw : f.Pairwise (· ≤ ·)
  rng : ∀ x ∈ f, 0 ≤ x ∧ x ≤ most
theorem fate_nil {most : Int} : Fate most [] := ⟨List.Pairwise.nil, by simp⟩
theorem t_fate_l (rw most lo ex cp : Int) (S : Store) (r : Nat) (row : List Int) (hr : r < S.length) (g : getL S r = some (row.map .int)) (hrow : Row [8, 4, 21, 21, 21, 21, 21, 4] row) (hm : 0 ≤ most ∧ most ≤ 1000) (hc : 0 ≤ cp ∧ cp ≤ 5) :
    (l__law_fate_1 [.dat (.ref r), .dat (.int most), .dat (.int lo), .dat (.int ex), .dat (.int cp), .dat (.ref S.length), .un, .un] (S ++ [.lst []])).Nx fun ρ S' => ∃ (os : List Int) (y6 y7 : Sl), os.length = cp.toNat ∧ (∀ x ∈ os, 0 ≤ x ∧ x ≤ most) ∧ ρ = [.dat (.ref r), .dat (.int most), .dat (.int lo), .dat (.int ex), .dat (.int cp), .dat (.ref S.length), y6, y7] ∧ S' = S ++ [.lst (os.map .int)] := by
  obtain ⟨I, hI⟩ : ∃ I : Nat → Rho → Store → Prop, I = fun i ρ S' => ∃ (os : List Int) (y6 y7 : Sl), os.length = i ∧ (∀ x ∈ os, 0 ≤ x ∧ x ≤ most) ∧ ρ = [.dat (.ref r), .dat (.int most), .dat (.int lo), .dat (.int ex), .dat (.int cp), .dat (.ref S.length), y6, y7] ∧ S' = S ++ [.lst (os.map .int)] := ⟨_, rfl⟩
  refine RS.Nx.imp (I := I cp.toNat) ?_ (fun ρ S' q => by rw [hI] at q; exact q)
  have gg : ∀ J, getL (S ++ J) r = some (row.map .int) := fun J => by rw [get_app hr]; exact g
  obtain ⟨h1, h2⟩ := hrow
  match row, h1 with
  | [r0, r1, r2, r3, r4, r5, r6, r7], _ =>
    have x7 : atI [D.int r0, .int r1, .int r2, .int r3, .int r4, .int r5, .int r6, .int r7] 7 = some (.int r7) := x_at (by decide) rfl
    simp [l__law_fate_1, hc.1, show cp ≤ 16777216 by omega]
    refine rng_T (b := lb__law_fate_0) cp.toNat I (fun i hi ρ S' q => ?_) (by rw [hI]; exact ⟨[], _, _, rfl, by simp, rfl, rfl⟩)
    rw [hI] at q
    obtain ⟨os, y6, y7, q1, q2, rfl, rfl⟩ := q
    obtain ⟨x, hx, hx0⟩ : ∃ x, [r0, r1, r2, r3, r4, r5, r6, r7][2 + i]? = some x ∧ 0 ≤ x := by
      match i, (show i < 5 by omega) with
      | 0, _ => exact ⟨r2, rfl, (h2 2 r2 21 rfl rfl).1⟩
      | 1, _ => exact ⟨r3, rfl, (h2 3 r3 21 rfl rfl).1⟩
      | 2, _ => exact ⟨r4, rfl, (h2 4 r4 21 rfl rfl).1⟩
      | 3, _ => exact ⟨r5, rfl, (h2 5 r5 21 rfl rfl).1⟩
      | 4, _ => exact ⟨r6, rfl, (h2 6 r6 21 rfl rfl).1⟩
    have e2 : atI ([r0, r1, r2, r3, r4, r5, r6, r7].map D.int) (2 + (i : Int)) = some (.int x) := by
      rw [show (2 : Int) + (i : Int) = ((2 + i : Nat) : Int) by omega]
      exact at_ints hx
    simp at gg e2
    have hl2 : os.length < 16777216 := by omega
    have hm1 : 0 < most + 1 := by omega
    have md : 0 ≤ x % (most + 1) ∧ x % (most + 1) < most + 1 := ⟨Int.emod_nonneg _ (by omega), Int.emod_lt_of_pos _ hm1⟩
    have key : ∀ z, 0 ≤ z → z ≤ most → ∀ x ∈ os ++ [z], 0 ≤ x ∧ x ≤ most := fun z h0 h1 x hx => by
      rcases List.mem_append.mp hx with h | h
      · exact q2 x h
      · rw [List.mem_singleton.mp h]; exact ⟨h0, h1⟩
    have emd : ∀ S, bMod (.int x) (.int (most + 1)) S = .ok (.int (x % (most + 1))) S := fun S => i_mod hm1
    by_cases c1 : r7 = 1
    · subst c1
      simp [lb__law_fate_0, gg, e2, x7, emd, hl2]
      refine goes_nx ?_
      rw [hI]
      exact ⟨os ++ [0], _, _, by simp [q1], key 0 (by omega) (by omega), rfl, by simp⟩
    · by_cases c2 : r7 = 2
      · subst c2
        simp [lb__law_fate_0, gg, e2, x7, emd, hl2]
        refine goes_nx ?_
        rw [hI]
        exact ⟨os ++ [most], _, _, by simp [q1], key most (by omega) (by omega), rfl, by simp⟩
      · simp [lb__law_fate_0, gg, e2, x7, emd, c1, c2, hl2]
        refine goes_nx ?_
        rw [hI]
        exact ⟨os ++ [_], _, _, by simp [q1], key _ md.1 (by omega), rfl, by simp⟩
/-- sorted([int(x) for x in xs]) -/
theorem lc_ints {n m k : Nat} {ρ : Rho} {os : List Int} {S : Store} (hk : k < ρ.length) (hn : n < m) (g : getL S n = some (os.map .int)) (g2 : getL S m = some []) (hl : os.length ≤ 1000) :
    lcItems (fun S => S[n]? = some (.lst (os.map .int))) (gN k) mYes (mCB fInt (mCons (mVar k) mNil)) m ρ (os.map .int) S = .ok (.ref m) (S.set m (.lst (os.map .int))) := by
  have z := lc_guard (P := fun S => S[n]? = some (.lst (os.map D.int))) (tg := gN k) (el := mCB fInt (mCons (mVar k) mNil)) (n := m) (ρ := ρ) id (fun S l h => by rw [List.getElem?_set_ne (by omega)]; exact h) (os.map .int) [] S (getL_some g) (fun d hd S => by
    obtain ⟨x, hx, rfl⟩ := List.mem_map.mp hd
    exact ⟨_, rfl, by simp [List.getElem?_set_self hk]⟩) g2 (by simp; omega)
  simpa using z
theorem t_fate (most lo ex : Int) (S : Store) (r : Nat) (row : List Int) (g : getL S r = some (row.map .int)) (hrow : Row [8, 4, 21, 21, 21, 21, 21, 4] row) (hm : 0 ≤ most ∧ most ≤ 1000) (hx : 0 ≤ ex ∧ ex ≤ 4) :
    ∃ f, Fate most f ∧ (f = [] → 0 < lo) ∧ (f.length : Int) ≤ ex + 1 ∧ m__law_fate [.ref r, .int most, .int lo, .int ex] S = .ok (tI f) S := by
  have hr := get_lt g
  have gg : ∀ J, getL (S ++ J) r = some (row.map .int) := fun J => by rw [get_app hr]; exact g
  have hrow' := hrow
  obtain ⟨h1, h2⟩ := hrow'
  match row, h1 with
  | [r0, r1, r2, r3, r4, r5, r6, r7], _ =>
    have b1 := h2 1 r1 4 rfl rfl
    simp at gg
    have g0 := g
    simp at g0
    by_cases c0 : r0 < 2 ∧ 0 < lo
    · refine ⟨[], fate_nil, fun _ => c0.2, by simp; omega, ?_⟩
      simp [m__law_fate, rho0, b__law_fate, g0, c0.1, c0.2, tI]
    · have key : ∀ cp : Int, 0 ≤ cp → cp ≤ 5 → ∀ os : List Int, os.length = cp.toNat → (∀ x ∈ os, 0 ≤ x ∧ x ≤ most) → Fate most (srtI os) ∧ ((srtI os).length : Int) = cp := fun cp hc0 hc1 os h1 h2 => by
        have hp := srtI_perm os
        exact ⟨⟨srtI_pw os, fun x hx => h2 x (hp.mem_iff.mp hx)⟩, by rw [hp.length_eq]; omega⟩
      have run : ∀ cp : Int, 0 ≤ cp → cp ≤ 5 → ∃ f, Fate most f ∧ (f.length : Int) = cp ∧ ∃ S' y6 y7, (l__law_fate_1 [.dat (.ref r), .dat (.int most), .dat (.int lo), .dat (.int ex), .dat (.int cp), .dat (.ref S.length), .un, .un] (S ++ [.lst []])) = .nx [.dat (.ref r), .dat (.int most), .dat (.int lo), .dat (.int ex), .dat (.int cp), .dat (.ref S.length), y6, y7] S' ∧
          gcR S (((mRet (mCB fTup (mCons (mCB fSorted (mCons c__law_fate_2 mNil)) mNil))) [.dat (.ref r), .dat (.int most), .dat (.int lo), .dat (.int ex), .dat (.int cp), .dat (.ref S.length), y6, y7] S').fin) = .ok (tI f) S := fun cp hc0 hc1 => by
        obtain ⟨ρ', S', e, os, y6, y7, q1, q2, rfl, rfl⟩ := t_fate_l r0 most lo ex cp S r _ hr g hrow hm ⟨hc0, hc1⟩
        obtain ⟨k1, k2⟩ := key cp hc0 hc1 os q1 q2
        refine ⟨srtI os, k1, k2, _, y6, y7, e, ?_⟩
        have z := lc_ints (n := S.length) (m := S.length + 1) (k := 7) (ρ := wipeR [.dat (.ref r), .dat (.int most), .dat (.int lo), .dat (.int ex), .dat (.int cp), .dat (.ref S.length), y6, y7] [7]) (os := os) (S := S ++ [.lst (os.map .int), .lst []]) (by simp [wipeR]) (by omega) (by simp) (by simp) (by omega)
        simp at z
        simp [c__law_fate_2, z, tI]
      have done_ : ∀ cp : Int, 1 ≤ cp → cp ≤ ex + 1 → cp ≤ 5 → (∀ f : List Int, ∀ S' : Store, ∀ y6 y7, (l__law_fate_1 [.dat (.ref r), .dat (.int most), .dat (.int lo), .dat (.int ex), .dat (.int cp), .dat (.ref S.length), .un, .un] (S ++ [.lst []])) = .nx [.dat (.ref r), .dat (.int most), .dat (.int lo), .dat (.int ex), .dat (.int cp), .dat (.ref S.length), y6, y7] S' →
          gcR S (((mRet (mCB fTup (mCons (mCB fSorted (mCons c__law_fate_2 mNil)) mNil))) [.dat (.ref r), .dat (.int most), .dat (.int lo), .dat (.int ex), .dat (.int cp), .dat (.ref S.length), y6, y7] S').fin) = .ok (tI f) S → m__law_fate [.ref r, .int most, .int lo, .int ex] S = .ok (tI f) S) →
          ∃ f, Fate most f ∧ (f = [] → 0 < lo) ∧ (f.length : Int) ≤ ex + 1 ∧ m__law_fate [.ref r, .int most, .int lo, .int ex] S = .ok (tI f) S := fun cp h1 h2 h3 k => by
        obtain ⟨f, f1, f2, S', y6, y7, e, e2⟩ := run cp (by omega) h3
        exact ⟨f, f1, fun hf => (by subst hf; simp at f2; omega), by omega, k f S' y6 y7 e e2⟩
      by_cases c2 : r0 = 2 ∨ r0 = 3
      · obtain ⟨cp, hcp⟩ : ∃ cp, cp = 1 + (if 1 + r1 < ex then 1 + r1 else ex) := ⟨_, rfl⟩
        have c3 : ¬ r0 < 2 := by omega
        refine done_ cp (by rw [hcp]; split <;> omega) (by rw [hcp]; split <;> omega) (by rw [hcp]; split <;> omega) (fun f S' y6 y7 e e2 => ?_)
        rcases c2 with c2 | c2
        · subst c2
          simp [m__law_fate, rho0, b__law_fate, g0, ← hcp, e]
          simpa using e2
        · subst c2
          simp [m__law_fate, rho0, b__law_fate, g0, ← hcp, e]
          simpa using e2
      · have c2a : ¬ r0 = 2 := fun h => c2 (.inl h)
        have c2b : ¬ r0 = 3 := fun h => c2 (.inr h)
        refine done_ 1 (by omega) (by omega) (by omega) (fun f S' y6 y7 e e2 => ?_)
        by_cases c3 : r0 < 2
        · have c4 : ¬ 0 < lo := fun h2 => c0 ⟨c3, h2⟩
          simp [m__law_fate, rho0, b__law_fate, g0, c2a, c2b, c3, c4, e]
          simpa using e2
        · simp [m__law_fate, rho0, b__law_fate, g0, c2a, c2b, c3, e]
          simpa using e2
end K34
end

section
namespace K34
open PySem L2 FL
/-! ### the run -/
def lostI : List (List Int) → Int
  | [] => 0
  | f :: r => (if f = [] then 1 else 0) + lostI r
def extraI : List (List Int) → Int
  | [] => 0
  | f :: r => (if f = [] then 0 else (f.length : Int) - 1) + extraI r
theorem lost_app : ∀ a b : List (List Int), lostI (a ++ b) = lostI a + lostI b
  | [], b => by simp [lostI]
  | f :: a, b => by rw [List.cons_append, lostI, lostI, lost_app a b]; omega
theorem extra_app : ∀ a b : List (List Int), extraI (a ++ b) = extraI a + extraI b
  | [], b => by simp [extraI]
  | f :: a, b => by rw [List.cons_append, extraI, extraI, extra_app a b]; omega
theorem lost_nn : ∀ a : List (List Int), 0 ≤ lostI a
  | [] => by simp [lostI]
  | f :: a => by rw [lostI]; have := lost_nn a; split <;> omega
theorem extra_nn : ∀ a : List (List Int), 0 ≤ extraI a
  | [] => by simp [extraI]
  | f :: a => by
    rw [extraI]; have := extra_nn a
    split
    · omega
    · rename_i h
      have : 0 < f.length := List.length_pos_iff.mpr h
      omega
structure RAcc (w : Wire) (A B : List (List Int)) (lo ex : Int) : Prop where
  fa : ∀ f ∈ A, Fate w.o f
  fb : ∀ f ∈ B, Fate w.b f
  elo : lo = w.l - lostI (A ++ B)
  elo0 : 0 ≤ lo
  eex : ex = w.d - extraI (A ++ B)
  eex0 : 0 ≤ ex
theorem RAcc.a {w : Wire} {A B : List (List Int)} {lo ex : Int} (h : RAcc w A B lo ex) {f : List Int} (hf : Fate w.o f) (h1 : f = [] → 0 < lo) (h2 : (f.length : Int) ≤ ex + 1) : RAcc w (A ++ [f]) B (if f = [] then lo - 1 else lo) (if f = [] then ex else ex + 1 - f.length) := by
  obtain ⟨a, b, c, d, e, g⟩ := h
  rw [lost_app] at c
  rw [extra_app] at e
  refine ⟨fun x hx => ?_, b, ?_, ?_, ?_, ?_⟩
  · rcases List.mem_append.mp hx with h | h
    · exact a x h
    · rw [List.mem_singleton.mp h]; exact hf
  · rw [lost_app, lost_app]; simp only [lostI]; split <;> omega
  · split
    · rename_i z; have := h1 z; omega
    · exact d
  · rw [extra_app, extra_app]; simp only [extraI]; split <;> omega
  · split <;> omega
theorem RAcc.b {w : Wire} {A B : List (List Int)} {lo ex : Int} (h : RAcc w A B lo ex) {f : List Int} (hf : Fate w.b f) (h1 : f = [] → 0 < lo) (h2 : (f.length : Int) ≤ ex + 1) : RAcc w A (B ++ [f]) (if f = [] then lo - 1 else lo) (if f = [] then ex else ex + 1 - f.length) := by
  obtain ⟨a, b, c, d, e, g⟩ := h
  rw [lost_app] at c
  rw [extra_app] at e
  refine ⟨a, fun x hx => ?_, ?_, ?_, ?_, ?_⟩
  · rcases List.mem_append.mp hx with h | h
    · exact b x h
    · rw [List.mem_singleton.mp h]; exact hf
  · rw [lost_app, lost_app]; simp only [lostI]; split <;> omega
  · split
    · rename_i z; have := h1 z; omega
    · exact d
  · rw [extra_app, extra_app]; simp only [extraI]; split <;> omega
  · split <;> omega
abbrev s8 : List Int := [8, 4, 21, 21, 21, 21, 21, 4]
/-- the store of _law_run -/
abbrev RunS (S : Store) (c4 cnt : List Int) (A B : List (List Int)) (J : Store) : Store :=
  S ++ (.lst (c4.map .int) :: .lst (cnt.map .int) :: .lst (s8.map .int) :: .lst (A.map tI) :: .lst (B.map tI) :: .lst [.ref (S.length + 3), .ref (S.length + 4)] :: J)
abbrev RunR (ns : List Int) (w : Wire) (pD : D) (cr : Int) (S : Store) (lo ex : Int) (sd many : Sl) (y z : Sl) : Rho :=
  [.dat (.fz (ns.map .int)), .dat w.D, .dat pD, .dat (.int cr), .dat (.ref (S.length + 1)), .dat (.ref (S.length + 2)), .dat (.int lo), .dat (.int ex), .dat (.ref (S.length + 5)), sd, many, y, z, .un, .un, .un]
theorem t_run_in (ns : List Int) (w : Wire) (hw : w.Ok) (pD : D) (cr : Int) (S : Store) (c4 cnt : List Int) (sd many lo ex : Int) (A B : List (List Int)) (J : Store) (hsd : sd = 0 ∨ sd = 1) (hm : 0 ≤ many ∧ many ≤ 13) (hAB : A.length ≤ 13 ∧ B = []) (h : RAcc w A B lo ex) (y z : Sl) :
    (l__law_run_1 (RunR ns w pD cr S lo ex (.dat (.int sd)) (.dat (.int many)) y z) (RunS S c4 cnt A B J)).Nx fun ρ' S' => ∃ (X : List (List Int)) (lo' ex' : Int) (J' : Store) (y' z' : Sl), X.length = many.toNat ∧
      (sd = 0 → RAcc w (A ++ X) B lo' ex' ∧ S' = RunS S c4 cnt (A ++ X) B J') ∧ (sd = 1 → RAcc w A (B ++ X) lo' ex' ∧ S' = RunS S c4 cnt A (B ++ X) J') ∧ ρ' = RunR ns w pD cr S lo' ex' (.dat (.int sd)) (.dat (.int many)) y' z' := by
  obtain ⟨I, hI⟩ : ∃ I : Nat → Rho → Store → Prop, I = fun i ρ' S' => ∃ (X : List (List Int)) (lo' ex' : Int) (J' : Store) (y' z' : Sl), X.length = i ∧
      (sd = 0 → RAcc w (A ++ X) B lo' ex' ∧ S' = RunS S c4 cnt (A ++ X) B J') ∧ (sd = 1 → RAcc w A (B ++ X) lo' ex' ∧ S' = RunS S c4 cnt A (B ++ X) J') ∧ ρ' = RunR ns w pD cr S lo' ex' (.dat (.int sd)) (.dat (.int many)) y' z' := ⟨_, rfl⟩
  refine RS.Nx.imp (I := I many.toNat) ?_ (fun ρ S' q => by rw [hI] at q; exact q)
  simp [l__law_run_1, hm.1, show many ≤ 16777216 by omega]
  refine rng_T (b := lb__law_run_0) many.toNat I (fun i hi ρ S' q => ?_) (by rw [hI]; exact ⟨[], lo, ex, J, y, z, rfl, fun _ => ⟨by rw [List.append_nil]; exact h, by rw [List.append_nil]⟩, fun _ => ⟨by rw [List.append_nil]; exact h, by rw [List.append_nil]⟩, rfl⟩)
  rw [hI] at q
  obtain ⟨X, lo', ex', J', y', z', q1, q2, q3, rfl⟩ := q
  have i13 : i < 13 := by omega
  obtain ⟨w0, w1, w2, w3⟩ := hw
  rcases hsd with rfl | rfl
  · obtain ⟨ac, hS⟩ := q2 rfl
    have exb : 0 ≤ ex' ∧ ex' ≤ 4 := by
      have := ac.eex; have := ac.eex0; have := extra_nn ((A ++ X) ++ B); omega
    have g2 : getL S' (S.length + 2) = some (s8.map .int) := by rw [hS]; simp
    have g5 : getL S' (S.length + 5) = some [.ref (S.length + 3), .ref (S.length + 4)] := by rw [hS]; simp
    have g3 : getL S' (S.length + 3) = some ((A ++ X).map tI) := by rw [hS, st_getk]; rfl
    have l5 := get_lt g5
    obtain ⟨vs, hv, e⟩ := t_row ns (4 + (i : Int)) (by omega) (by omega) s8 (by decide) (by decide) S' (S.length + 2) g2
    obtain ⟨f, f1, f2, f3, e2⟩ := t_fate w.o lo' ex' (S' ++ [.lst (vs.map .int)]) S'.length vs (by simp) hv (by omega) exb
    have gg5 : ∀ K, getL (S' ++ K) (S.length + 5) = some [.ref (S.length + 3), .ref (S.length + 4)] := fun K => by rw [get_app l5]; exact g5
    have gg3 : ∀ K, getL (S' ++ K) (S.length + 3) = some ((A ++ X).map tI) := fun K => by rw [get_app (by omega)]; exact g3
    have hl3 : ((A ++ X).map tI).length < 16777216 := by simp; omega
    have nx := ac.a f1 f2 f3
    have e2' : m__law_fate [.ref S'.length, .int w.o, .int lo', .int ex'] (S' ++ [.lst (vs.map .int)]) = .ok (.tup (f.map .int)) (S' ++ [.lst (vs.map .int)]) := e2
    have fin : (S' ++ [O.lst (vs.map .int)]).set (S.length + 3) (.lst ((A ++ X).map tI ++ [tI f])) = RunS S c4 cnt (A ++ (X ++ [f])) B (J' ++ [.lst (vs.map .int)]) := by
      rw [hS]; simp
    have hl4 : A.length + X.length < 16777216 := by simpa using hl3
    have as : A ++ (X ++ [f]) = A ++ X ++ [f] := by simp
    by_cases hf : f = []
    · rw [if_pos hf, if_pos hf] at nx
      subst hf
      simp [lb__law_run_0, e, e2', gg5, gg3, Wire.D, hl4]
      refine goes_nx ?_
      rw [hI]
      exact ⟨X ++ [[]], _, _, J' ++ [.lst (vs.map .int)], _, _, by simp [q1], fun _ => ⟨by rw [as]; exact nx, by rw [← fin]; simp <;> rfl⟩, fun h => absurd h (by decide), rfl⟩
    · rw [if_neg hf, if_neg hf] at nx
      simp [lb__law_run_0, e, e2', gg5, gg3, Wire.D, hl4, hf]
      refine goes_nx ?_
      rw [hI]
      exact ⟨X ++ [f], _, _, J' ++ [.lst (vs.map .int)], _, _, by simp [q1], fun _ => ⟨by rw [as]; exact nx, by rw [← fin]; simp <;> rfl⟩, fun h => absurd h (by decide), rfl⟩
  · obtain ⟨ac, hS⟩ := q3 rfl
    have exb : 0 ≤ ex' ∧ ex' ≤ 4 := by
      have := ac.eex; have := ac.eex0; have := extra_nn (A ++ (B ++ X)); omega
    have g2 : getL S' (S.length + 2) = some (s8.map .int) := by rw [hS]; simp
    have g5 : getL S' (S.length + 5) = some [.ref (S.length + 3), .ref (S.length + 4)] := by rw [hS]; simp
    have g3 : getL S' (S.length + 4) = some ((B ++ X).map tI) := by rw [hS, st_getk]; rfl
    have l5 := get_lt g5
    obtain ⟨vs, hv, e⟩ := t_row ns (12 + (i : Int)) (by omega) (by omega) s8 (by decide) (by decide) S' (S.length + 2) g2
    obtain ⟨f, f1, f2, f3, e2⟩ := t_fate w.b lo' ex' (S' ++ [.lst (vs.map .int)]) S'.length vs (by simp) hv (by omega) exb
    have gg5 : ∀ K, getL (S' ++ K) (S.length + 5) = some [.ref (S.length + 3), .ref (S.length + 4)] := fun K => by rw [get_app l5]; exact g5
    have gg3 : ∀ K, getL (S' ++ K) (S.length + 4) = some ((B ++ X).map tI) := fun K => by rw [get_app (by omega)]; exact g3
    have hl3 : ((B ++ X).map tI).length < 16777216 := by rw [hAB.2]; simp; omega
    have nx := ac.b f1 f2 f3
    have e2' : m__law_fate [.ref S'.length, .int w.b, .int lo', .int ex'] (S' ++ [.lst (vs.map .int)]) = .ok (.tup (f.map .int)) (S' ++ [.lst (vs.map .int)]) := e2
    have fin : (S' ++ [O.lst (vs.map .int)]).set (S.length + 4) (.lst ((B ++ X).map tI ++ [tI f])) = RunS S c4 cnt A (B ++ (X ++ [f])) (J' ++ [.lst (vs.map .int)]) := by
      rw [hS]; simp
    have hl4 : B.length + X.length < 16777216 := by simpa using hl3
    have as : B ++ (X ++ [f]) = B ++ X ++ [f] := by simp
    by_cases hf : f = []
    · rw [if_pos hf, if_pos hf] at nx
      subst hf
      simp [lb__law_run_0, e, e2', gg5, gg3, Wire.D, hl4]
      refine goes_nx ?_
      rw [hI]
      exact ⟨X ++ [[]], _, _, J' ++ [.lst (vs.map .int)], _, _, by simp [q1], fun h => absurd h (by decide), fun _ => ⟨by rw [as]; exact nx, by rw [← fin]; simp <;> rfl⟩, rfl⟩
    · rw [if_neg hf, if_neg hf] at nx
      simp [lb__law_run_0, e, e2', gg5, gg3, Wire.D, hl4, hf]
      refine goes_nx ?_
      rw [hI]
      exact ⟨X ++ [f], _, _, J' ++ [.lst (vs.map .int)], _, _, by simp [q1], fun h => absurd h (by decide), fun _ => ⟨by rw [as]; exact nx, by rw [← fin]; simp <;> rfl⟩, rfl⟩
end K34
end

section
namespace K34
open PySem L2 FL
theorem t_run_out (ns : List Int) (w : Wire) (hw : w.Ok) (p : Plan) (hp : p.Ok) (cr : Int) (S : Store) (c4 : List Int) (n0 n1 n2 n3 : Int) (b0 : 0 ≤ n0 ∧ n0 < 9) (b1 : 0 ≤ n1 ∧ n1 < 14) :
    (l__law_run_3 (RunR ns w p.D cr S w.l w.d .un .un .un .un) (RunS S c4 [n0, n1, n2, n3] [] [] [])).Nx fun ρ' S' => ∃ (A B : List (List Int)) (lo ex : Int) (J : Store) (s m y z : Sl), RAcc w A B lo ex ∧ A.length ≤ p.tries.length ∧ B.length ≤ 13 ∧ ρ' = RunR ns w p.D cr S lo ex s m y z ∧ S' = RunS S c4 [n0, n1, n2, n3] A B J := by
  obtain ⟨I, hI⟩ : ∃ I : Nat → Rho → Store → Prop, I = fun i ρ' S' => ∃ (A B : List (List Int)) (lo ex : Int) (J : Store) (s m y z : Sl), RAcc w A B lo ex ∧ A.length ≤ p.tries.length ∧ B.length ≤ 13 ∧ (i = 0 → A = []) ∧ (i ≤ 1 → B = []) ∧ ρ' = RunR ns w p.D cr S lo ex s m y z ∧ S' = RunS S c4 [n0, n1, n2, n3] A B J := ⟨_, rfl⟩
  refine RS.Nx.imp (I := I 2) ?_ (fun ρ S' q => by rw [hI] at q; obtain ⟨A, B, lo, ex, J, s, m, y, z, h1, h2, h3, _, _, h4, h5⟩ := q; exact ⟨A, B, lo, ex, J, s, m, y, z, h1, h2, h3, h4, h5⟩)
  have hlen := hp.len
  have hpos := hp.pos
  obtain ⟨w0, w1, w2, w3⟩ := id hw
  simp only [l__law_run_3, ev_for, ev_rng1, ev_cons, ev_c, bind_ok, q_c1, ev_nil, q_c2, k_rng (S := RunS S c4 [n0, n1, n2, n3] [] [] []) (i := 2) (by decide) (by decide), stm_ok, q_for]
  refine rng_T (b := lb__law_run_2) 2 I (fun i hi ρ S' q => ?_) (by rw [hI]; exact ⟨[], [], w.l, w.d, [], .un, .un, .un, .un, ⟨by simp, by simp, by simp [lostI], w2.1, by simp [extraI], w3.1⟩, by simp, by simp, fun _ => rfl, fun _ => rfl, rfl, rfl⟩)
  rw [hI] at q
  obtain ⟨A, B, lo, ex, J, s, m, y, z, h1, h2, h3, h4, h5, rfl, rfl⟩ := q
  have g1 : ∀ A B J, getL (RunS S c4 [n0, n1, n2, n3] A B J) (S.length + 1) = some [.int n0, .int n1, .int n2, .int n3] := fun A B J => by simp
  match i, hi with
  | 0, _ =>
    have hA := h4 rfl
    have hB := h5 (by omega)
    subst hA hB
    obtain ⟨mn, hmn⟩ : ∃ mn, mn = if (p.tries.length : Int) < n0 then (p.tries.length : Int) else n0 := ⟨_, rfl⟩
    obtain ⟨ρ', S', e, X, lo', ex', J', y', z', q1, q2, q3, rfl⟩ := t_run_in ns w hw p.D cr S c4 [n0, n1, n2, n3] 0 mn lo ex [] [] J (.inl rfl) (by rw [hmn]; split <;> omega) ⟨by simp, rfl⟩ h1 y z
    obtain ⟨q4, rfl⟩ := q2 rfl
    simp [Plan.D] at e
    have q5 : X.length ≤ p.tries.length := by rw [q1, hmn]; split <;> omega
    by_cases c : (p.tries.length : Int) < n0
    · rw [if_pos c] at hmn
      subst hmn
      simp [lb__law_run_2, Plan.D, c, e]
      refine goes_nx ?_
      rw [hI]
      exact ⟨X, [], lo', ex', J', _, _, y', z', by simpa using q4, q5, by simp, fun h => absurd h (by decide), fun _ => rfl, rfl, by simp⟩
    · rw [if_neg c] at hmn
      subst hmn
      simp [lb__law_run_2, Plan.D, c, e]
      refine goes_nx ?_
      rw [hI]
      exact ⟨X, [], lo', ex', J', _, _, y', z', by simpa using q4, q5, by simp, fun h => absurd h (by decide), fun _ => rfl, rfl, by simp⟩
  | 1, _ =>
    have hB := h5 (by omega)
    subst hB
    obtain ⟨ρ', S', e, X, lo', ex', J', y', z', q1, q2, q3, rfl⟩ := t_run_in ns w hw p.D cr S c4 [n0, n1, n2, n3] 1 n1 lo ex A [] J (.inr rfl) ⟨b1.1, by omega⟩ ⟨by omega, rfl⟩ h1 y z
    obtain ⟨q4, rfl⟩ := q3 rfl
    simp [Plan.D] at e
    simp [lb__law_run_2, Plan.D, e]
    refine goes_nx ?_
    rw [hI]
    exact ⟨A, X, lo', ex', J', _, _, y', z', by simpa using q4, h2, by omega, fun h => absurd h (by decide), fun h => absurd h (by decide), rfl, by simp⟩
end K34
end

section
namespace K34
open PySem L2 FL
structure Run where
  a : List (List Int)
  b : List (List Int)
  c : List Int
def Run.D (r : Run) : D := .tup [tF r.a, tF r.b, tI r.c]
structure Run.Ok (w : Wire) (p : Plan) (m : Mem) (r : Run) : Prop where
  fa : ∀ f ∈ r.a, Fate w.o f
  fb : ∀ f ∈ r.b, Fate w.b f
  la : r.a.length ≤ p.tries.length
  lb : r.b.length ≤ 40
  lost : lostI (r.a ++ r.b) ≤ w.l
  extra : extraI (r.a ++ r.b) ≤ w.d
  cp : r.c.Pairwise (· < ·)
  cr : ∀ x ∈ r.c, 0 ≤ x ∧ x ≤ 400
  cl : (r.c.length : Int) ≤ m.c
theorem srt_lt {l : List Int} (h : l.Nodup) : (srtI l).Pairwise (· < ·) := by
  have h1 := srtI_pw l
  have h2 : (srtI l).Nodup := (srtI_perm l).nodup_iff.mpr h
  exact (List.pairwise_and_iff.mpr ⟨h1, h2⟩).imp fun {a b} ⟨x, y⟩ => by omega
theorem t_ticks (fzD wD pD : D) (cr : Int) (hcr : 0 ≤ cr ∧ cr ≤ 3) (a4 a5 a6 a7 a8 y9 y10 y11 y12 : Sl) (S T : Store) (q r : Nat) (n0 n1 n2 n3 : Int) (row : List Int) (hq : q < S.length) (gq : getL S q = some [.int n0, .int n1, .int n2, .int n3]) (gr : ∀ l, getL (S ++ (.lst l :: T)) r = some (row.map .int)) (hrow : Row [401, 401, 401] row) (b2 : 0 ≤ n2 ∧ n2 < 4) :
    (l__law_run_5 [.dat fzD, .dat wD, .dat pD, .dat (.int cr), .dat (.ref q), a5, a6, a7, a8, y9, y10, y11, y12, .dat (.ref S.length), .dat (.ref r), .un] (S ++ (.lst [] :: T))).Nx fun ρ' S' => ∃ (ts : List Int) (z11 z15 : Sl), ts.Nodup ∧ (∀ x ∈ ts, 0 ≤ x ∧ x ≤ 400) ∧ (ts.length : Int) ≤ cr ∧
      ρ' = [.dat fzD, .dat wD, .dat pD, .dat (.int cr), .dat (.ref q), a5, a6, a7, a8, y9, y10, z11, y12, .dat (.ref S.length), .dat (.ref r), z15] ∧ S' = S ++ (.lst (ts.map .int) :: T) := by
  obtain ⟨I, hI⟩ : ∃ I : Nat → Rho → Store → Prop, I = fun i ρ' S' => ∃ (ts : List Int) (z11 z15 : Sl), ts.Nodup ∧ (∀ x ∈ ts, 0 ≤ x ∧ x ≤ 400) ∧ ts.length ≤ i ∧
      ρ' = [.dat fzD, .dat wD, .dat pD, .dat (.int cr), .dat (.ref q), a5, a6, a7, a8, y9, y10, z11, y12, .dat (.ref S.length), .dat (.ref r), z15] ∧ S' = S ++ (.lst (ts.map .int) :: T) := ⟨_, rfl⟩
  have hp : 0 < cr + 1 := by omega
  have md : 0 ≤ n2 % (cr + 1) ∧ n2 % (cr + 1) < cr + 1 := ⟨Int.emod_nonneg _ (by omega), Int.emod_lt_of_pos _ hp⟩
  refine RS.Nx.imp (I := I (n2 % (cr + 1)).toNat) ?_ (fun ρ S' q => by rw [hI] at q; obtain ⟨ts, z11, z15, h1, h2, h3, h4, h5⟩ := q; exact ⟨ts, z11, z15, h1, h2, by omega, h4, h5⟩)
  have gq' : ∀ J, getL (S ++ J) q = some [.int n0, .int n1, .int n2, .int n3] := fun J => by rw [get_app hq]; exact gq
  have em : ∀ S, bMod (.int n2) (.int (cr + 1)) S = .ok (.int (n2 % (cr + 1))) S := fun S => i_mod hp
  obtain ⟨h1, h2⟩ := hrow
  simp [l__law_run_5, gq', em, md.1, show n2 % (cr + 1) ≤ 16777216 by omega]
  refine rng_T (b := lb__law_run_4) _ I (fun i hi ρ S' qq => ?_) (by rw [hI]; exact ⟨[], _, _, List.nodup_nil, by simp, by simp, rfl, rfl⟩)
  rw [hI] at qq
  obtain ⟨ts, z11, z15, q1, q2, q3, rfl, rfl⟩ := qq
  have h1' : row.length = 3 := h1
  obtain ⟨x, hx⟩ : ∃ x, row[i]? = some x := ⟨_, List.getElem?_eq_getElem (by omega)⟩
  have bx : 0 ≤ x ∧ x < 401 := by
    have : ∀ j, j < 3 → [(401 : Int), 401, 401][j]? = some 401 := by decide
    exact h2 i x 401 hx (this i (by omega))
  have e1 := at_ints hx
  have hl : ts.length < 16777216 := by omega
  have nin : ∀ z, bNotIn (.int z) (.ref S.length) (S ++ (.lst (ts.map .int) :: T)) = .ok (.bl (!decide (z ∈ ts))) (S ++ (.lst (ts.map .int) :: T)) := fun z => bNotIn_r (by simp)
  have key : ∀ z : Int, 0 ≤ z → z ≤ 400 → ¬ z ∈ ts → (ts ++ [z]).Nodup ∧ ∀ x ∈ ts ++ [z], 0 ≤ x ∧ x ≤ 400 := fun z h0 h1 hn => ⟨by
    rw [List.nodup_append]
    exact ⟨q1, by simp, fun a ha b hb e => by rw [List.mem_singleton.mp hb] at e; exact hn (e ▸ ha)⟩, fun x hx => by
    rcases List.mem_append.mp hx with h | h
    · exact q2 x h
    · rw [List.mem_singleton.mp h]; exact ⟨h0, h1⟩⟩
  by_cases c3 : n3 = 1
  · subst c3
    by_cases hin : x % 120 ∈ ts
    · simp [lb__law_run_4, gq', gr, e1, nin, hin]
      refine goes_nx ?_
      rw [hI]
      exact ⟨ts, _, _, q1, q2, by omega, rfl, rfl⟩
    · simp [lb__law_run_4, gq', gr, e1, nin, hin, hl]
      refine goes_nx ?_
      rw [hI]
      obtain ⟨k1, k2⟩ := key (x % 120) (by omega) (by omega) hin
      exact ⟨ts ++ [x % 120], _, _, k1, k2, by simp; omega, rfl, by simp⟩
  · by_cases hin : x ∈ ts
    · simp [lb__law_run_4, gq', gr, e1, nin, hin, c3]
      refine goes_nx ?_
      rw [hI]
      exact ⟨ts, _, _, q1, q2, by omega, rfl, rfl⟩
    · simp [lb__law_run_4, gq', gr, e1, nin, hin, hl, c3]
      refine goes_nx ?_
      rw [hI]
      obtain ⟨k1, k2⟩ := key x (by omega) (by omega) hin
      exact ⟨ts ++ [x], _, _, k1, k2, by simp; omega, rfl, by simp⟩
end K34
end

section
namespace K34
open PySem L2 FL
theorem bel_tF {n : Nat} : ∀ {l : List (List Int)}, BelL n (l.map tI)
  | [] => belL_n
  | x :: l => by rw [List.map_cons, belL_c]; exact ⟨by simp, bel_tF⟩
theorem t_run (ns : List Int) (w : Wire) (hw : w.Ok) (p : Plan) (hp : p.Ok) (m : Mem) (hm : m.Ok) (S : Store) : ∃ r : Run, r.Ok w p m ∧ m__law_run [.fz (ns.map .int), w.D, p.D, .int m.c] S = .ok r.D S := by
  obtain ⟨vs, hv, e⟩ := t_row ns 3 (by decide) (by decide) [9, 14, 4, 2] (by decide) (by decide) (S ++ [.lst [.int 9, .int 14, .int 4, .int 2]]) S.length (by simp)
  obtain ⟨h1, h2⟩ := hv
  match vs, h1 with
  | [n0, n1, n2, n3], _ =>
    have b0 := h2 0 n0 9 rfl rfl
    have b1 := h2 1 n1 14 rfl rfl
    have b2 := h2 2 n2 4 rfl rfl
    obtain ⟨ρ', S', el, A, B, lo, ex, J, y9, y10, y11, y12, acc, la, lb, rfl, hS⟩ := t_run_out ns w hw p hp m.c S [9, 14, 4, 2] n0 n1 n2 n3 b0 b1
    have hSl : S'.length = S.length + (J.length + 6) := by rw [hS]; simp
    obtain ⟨row, hrow, er⟩ := t_row ns 25 (by decide) (by decide) [401, 401, 401] (by decide) (by decide) (S' ++ [.lst [], .lst [.int 401, .int 401, .int 401]]) (S'.length + 1) (by simp)
    obtain ⟨ρt, St, et, ts, z11, z15, t1, t2, t3, rfl, rfl⟩ := t_ticks (.fz (ns.map .int)) w.D p.D m.c hm.c (.dat (.ref (S.length + 1))) (.dat (.ref (S.length + 2))) (.dat (.int lo)) (.dat (.int ex)) (.dat (.ref (S.length + 5))) y9 y10 y11 y12 S' [.lst [.int 401, .int 401, .int 401], .lst (row.map .int)] (S.length + 1) (S'.length + 2) n0 n1 n2 n3 row (by omega) (by rw [hS]; simp) (fun l => by simp) hrow b2
    have hperm := srtI_perm ts
    refine ⟨⟨A, B, srtI ts⟩, ⟨acc.fa, acc.fb, la, by show B.length ≤ 40; omega, by have := acc.elo; have := acc.elo0; show lostI (A ++ B) ≤ w.l; omega, by have := acc.eex; have := acc.eex0; show extraI (A ++ B) ≤ w.d; omega, srt_lt t1, fun x hx => t2 x (hperm.mem_iff.mp hx), by show ((srtI ts).length : Int) ≤ m.c; rw [hperm.length_eq]; exact t3⟩, ?_⟩
    have tl : ts.length ≤ 1000 := by have := hm.c; omega
    have z := lc_ints (n := S'.length) (m := S'.length + 3) (k := 15) (ρ := wipeR [.dat (.fz (ns.map .int)), .dat w.D, .dat p.D, .dat (.int m.c), .dat (.ref (S.length + 1)), .dat (.ref (S.length + 2)), .dat (.int lo), .dat (.int ex), .dat (.ref (S.length + 5)), y9, y10, z11, y12, .dat (.ref S'.length), .dat (.ref (S'.length + 2)), z15] [15]) (os := ts) (S := S' ++ [.lst (ts.map .int), .lst [.int 401, .int 401, .int 401], .lst (row.map .int), .lst []]) (by simp [wipeR]) (by omega) (by simp) (by simp) tl
    have g5 : ∀ K, getL (S' ++ K) (S.length + 5) = some [.ref (S.length + 3), .ref (S.length + 4)] := fun K => by rw [get_app (by omega), hS]; simp
    have g3 : ∀ K, getL (S' ++ K) (S.length + 3) = some (A.map tI) := fun K => by rw [get_app (by omega), hS]; simp
    have g4 : ∀ K, getL (S' ++ K) (S.length + 4) = some (B.map tI) := fun K => by rw [get_app (by omega), hS]; simp
    have fin : ∀ K d, Bel S.length d → gcR S (.ok d (S' ++ K)) = .ok d S := fun K d b => by rw [hS, List.append_assoc]; exact gc_app b
    simp [Wire.D, Plan.D, RunR, RunS] at e el er et z
    simp [m__law_run, rho0, b__law_run, e, el, er, et, c__law_run_6, z, Wire.D, Plan.D, Run.D, g3, g4, g5]
    exact fin _ _ (by simp [bel_tF])
end K34
end

section
namespace K34
open PySem L2 FL
/-! ### the checks -/
@[simp] theorem t_in (x lo hi : Int) (S : Store) : m_is_int_in [.int x, .int lo, .int hi] S = .ok (.bl (decide (lo ≤ x) && decide (x ≤ hi))) S := by
  by_cases h1 : lo ≤ x <;> simp [m_is_int_in, rho0, b_is_int_in, m_is_int, b_is_int, h1]
theorem t_check_wire (w : Wire) (hw : w.Ok) (S : Store) : m_check_wire [w.D] S = .ok .non S := by
  obtain ⟨⟨a1, a2⟩, ⟨b1, b2⟩, ⟨c1, c2⟩, ⟨d1, d2⟩⟩ := hw
  have e : (List.range 4) = [0, 1, 2, 3] := rfl
  simp [m_check_wire, rho0, b_check_wire, lb_check_wire_0, Wire.D, a1, a2, b1, b2, c1, c2, d1, d2, e]
/-- ascending -/
def AscL (l : List Int) : Prop := ∀ (i : Nat) (x y : Int), l[i]? = some x → l[i + 1]? = some y → x < y
theorem t_asc (l : List Int) (h : AscL l) (hl : l.length ≤ 1000) (S : Store) : m_is_ascending [tI l] S = .ok (.bl true) S := by
  obtain ⟨I, hI⟩ : ∃ I : Nat → Rho → Store → Prop, I = fun i ρ' S' => ∃ y, ρ' = [.dat (tI l), y] ∧ S' = S := ⟨_, rfl⟩
  have w : (l_is_ascending_1 [.dat (tI l), .un] S).Nx (I ((l.length : Int) - 1).toNat) := by
    simp only [l_is_ascending_1, ev_for, mRng2, ev_cons, ev_c, q_c1, ev_var, List.getElem?_cons_succ, List.getElem?_cons_zero, bind_ok, ev_nil, q_c2, stm_ok, q_for, ev_cb, tI, len_t, List.length_map, if_pos (show (1 : Int).natAbs ≤ 16777216 ∧ (l.length : Int).natAbs ≤ 16777216 from ⟨by decide, by omega⟩)]
    refine rng2_T (b := lb_is_ascending_0) 1 ((l.length : Int) - 1).toNat I (fun i hi ρ S' q => ?_) (by rw [hI]; exact ⟨_, rfl, rfl⟩)
    rw [hI] at q
    obtain ⟨y, rfl, rfl⟩ := q
    obtain ⟨a, ha⟩ : ∃ a, l[i]? = some a := ⟨_, List.getElem?_eq_getElem (by omega)⟩
    obtain ⟨b, hb⟩ : ∃ b, l[i + 1]? = some b := ⟨_, List.getElem?_eq_getElem (by omega)⟩
    have e1 : atI (l.map D.int) (1 + (i : Int) - 1) = some (.int a) := by rw [show 1 + (i : Int) - 1 = (i : Int) by omega]; exact at_ints ha
    have e2 : atI (l.map D.int) (1 + (i : Int)) = some (.int b) := by rw [show 1 + (i : Int) = ((i + 1 : Nat) : Int) by omega]; exact at_ints hb
    have lt := h i a b ha hb
    simp [lb_is_ascending_0, e1, e2, lt]
    refine goes_nx ?_
    rw [hI]
    exact ⟨_, rfl, rfl⟩
  rw [hI] at w
  obtain ⟨ρ, S', e, y, rfl, rfl⟩ := w
  simp [m_is_ascending, rho0, b_is_ascending, e]
theorem t_are_tries (p : Plan) (hp : p.Ok) (S : Store) : m__are_tries [tI p.tries] S = .ok (.bl true) S := by
  obtain ⟨I, hI⟩ : ∃ I : Nat → Rho → Store → Prop, I = fun i ρ' S' => ∃ y, ρ' = [.dat (tI p.tries), y] ∧ S' = S := ⟨_, rfl⟩
  have hlen := hp.len
  have hpos := hp.pos
  have w : (l__are_tries_1 [.dat (tI p.tries), .un] S).Nx (I (p.tries.map D.int).length) := by
    simp only [l__are_tries_1, ev_for, ev_iter, ev_var, List.getElem?_cons_succ, List.getElem?_cons_zero, bind_ok, tI, it_t, stm_ok, q_for]
    refine items_T (b := lb__are_tries_0) (p.tries.map .int) I (fun i d hd ρ S' q => ?_) (by rw [hI]; exact ⟨_, rfl, rfl⟩)
    rw [hI] at q
    obtain ⟨y, rfl, rfl⟩ := q
    obtain ⟨x, hx, rfl⟩ := List.mem_map.mp (List.mem_of_getElem? hd)
    have b := hp.rng x hx
    simp [lb__are_tries_0, b.1, b.2]
    refine goes_nx ?_
    rw [hI]
    exact ⟨_, rfl, rfl⟩
  rw [hI] at w
  obtain ⟨ρ, S', e, y, rfl, rfl⟩ := w
  have e0 : atI (p.tries.map D.int) 0 = some (.int 0) := at_ints (i := 0) hp.head
  have ea := t_asc p.tries hp.asc (by omega) S'
  simp only [tI] at e ea
  have h1 : (1 : Int) ≤ p.tries.length := by omega
  have h8 : (p.tries.length : Int) ≤ 8 := by omega
  have h1' : 1 ≤ p.tries.length := by omega
  simp [m__are_tries, rho0, b__are_tries, e, e0, ea, h1, h8, h1']
theorem t_check_plan (p : Plan) (hp : p.Ok) (S : Store) : m_check_plan [p.D] S = .ok .non S := by
  have hpos := hp.pos
  obtain ⟨la, hla⟩ : ∃ la, p.tries[p.tries.length - 1]? = some la := ⟨_, List.getElem?_eq_getElem (by omega)⟩
  have el : atI (p.tries.map D.int) (-1) = some (.int la) := at_last (by simp [hla])
  have b1 := hp.last la hla
  have b2 := hp.u
  have e := t_are_tries p hp S
  simp [m_check_plan, rho0, b_check_plan, Plan.D, e, el, b1, b2]
theorem t_check_memory (m : Mem) (hm : m.Ok) (S : Store) : m_check_memory [m.D] S = .ok .non S := by
  obtain ⟨⟨a1, a2⟩, ⟨b1, b2⟩⟩ := hm
  simp [m_check_memory, rho0, b_check_memory, Mem.D, a1, a2, b1, b2]
end K34
end

section
namespace K34
open PySem L2 FL
theorem t_is_fate (most : Int) (f : List Int) (hf : Fate most f) (hl : f.length ≤ 1000) (S : Store) : m_is_fate [tI f, .int most] S = .ok (.bl true) S := by
  obtain ⟨I, hI⟩ : ∃ I : Nat → Rho → Store → Prop, I = fun i ρ' S' => ∃ y, ρ' = [.dat (tI f), .dat (.int most), y] ∧ S' = S := ⟨_, rfl⟩
  have w : (l_is_fate_1 [.dat (tI f), .dat (.int most), .un] S).Nx (I f.length) := by
    have hl' : f.length ≤ 16777216 := by omega
    simp [l_is_fate_1, hl']
    refine rng_T (b := lb_is_fate_0) f.length I (fun i hi ρ S' q => ?_) (by rw [hI]; exact ⟨_, rfl, rfl⟩)
    rw [hI] at q
    obtain ⟨y, rfl, rfl⟩ := q
    obtain ⟨a, ha⟩ : ∃ a, f[i]? = some a := ⟨_, List.getElem?_eq_getElem hi⟩
    have e1 := at_ints ha
    have b := hf.rng a (List.mem_of_getElem? ha)
    cases i with
    | zero =>
      simp at e1
      simp [lb_is_fate_0, e1, b.1, b.2]
      refine goes_nx ?_
      rw [hI]
      exact ⟨_, rfl, rfl⟩
    | succ i =>
      obtain ⟨c, hc⟩ : ∃ c, f[i]? = some c := ⟨_, List.getElem?_eq_getElem (by omega)⟩
      have e2 : atI (f.map D.int) (((i + 1 : Nat) : Int) - 1) = some (.int c) := by rw [show (((i + 1 : Nat) : Int) - 1) = (i : Int) by omega]; exact at_ints hc
      have le : c ≤ a := by
        have z := List.pairwise_iff_getElem.mp hf.pw i (i + 1) (by omega) hi (by omega)
        rw [List.getElem?_eq_getElem (by omega)] at hc ha
        cases hc; cases ha
        exact z
      have le' : ¬ a < c := by omega
      have p0 : (0 : Int) < ((i + 1 : Nat) : Int) := by omega
      simp only [lb_is_fate_0, ev_seq, ev_if, ev_not, ev_tru, ev_cb, ev_cons, ev_op, ev_var, List.set_cons_succ, List.set_cons_zero, List.getElem?_cons_succ, List.getElem?_cons_zero, bind_ok, q_o1, q_c1, q_c2, ev_nil, ev_c, bix_t, e1, e2, t_in, q_tru, tr_b, q_truO, q_not, stm_ok, b.1, b.2, decide_true, Bool.and_self, Bool.not_true, q_iff, ev_next, seq_nx, ev_and, ev_B, i_gt, q_b, p0, q_andt, i_sub, i_lt, le', decide_false]
      refine goes_nx ?_
      rw [hI]
      exact ⟨_, rfl, rfl⟩
  rw [hI] at w
  obtain ⟨ρ, S', e, y, rfl, rfl⟩ := w
  simp only [tI] at e
  simp [m_is_fate, rho0, b_is_fate, e]
theorem t_are_fates (lim most : Int) (fs : List (List Int)) (hf : ∀ f ∈ fs, Fate most f ∧ f.length ≤ 1000) (hl : (fs.length : Int) ≤ lim) (S : Store) : m__are_fates [tF fs, .int lim, .int most] S = .ok (.bl true) S := by
  obtain ⟨I, hI⟩ : ∃ I : Nat → Rho → Store → Prop, I = fun i ρ' S' => ∃ y, ρ' = [.dat (tF fs), .dat (.int lim), .dat (.int most), y] ∧ S' = S := ⟨_, rfl⟩
  have w : (l__are_fates_1 [.dat (tF fs), .dat (.int lim), .dat (.int most), .un] S).Nx (I (fs.map tI).length) := by
    simp only [l__are_fates_1, ev_for, ev_iter, ev_var, List.getElem?_cons_succ, List.getElem?_cons_zero, bind_ok, tF, it_t, stm_ok, q_for]
    refine items_T (b := lb__are_fates_0) (fs.map tI) I (fun i d hd ρ S' q => ?_) (by rw [hI]; exact ⟨_, rfl, rfl⟩)
    rw [hI] at q
    obtain ⟨y, rfl, rfl⟩ := q
    obtain ⟨f, hx, rfl⟩ := List.mem_map.mp (List.mem_of_getElem? hd)
    obtain ⟨b1, b2⟩ := hf f hx
    have e := t_is_fate most f b1 b2 S'
    simp only [tI] at e
    simp [lb__are_fates_0, e]
    refine goes_nx ?_
    rw [hI]
    exact ⟨_, rfl, rfl⟩
  rw [hI] at w
  obtain ⟨ρ, S', e, y, rfl, rfl⟩ := w
  simp only [tF] at e
  have hl' : ¬ lim < (fs.length : Int) := by omega
  simp [m__are_fates, rho0, b__are_fates, e, hl']
def isE : D → Bool
  | .tup l => l.isEmpty
  | _ => false
def lenM : D → D
  | .tup l => .int ((l.length : Nat) - 1)
  | d => d
theorem filt_lost : ∀ fs : List (List Int), (((fs.map tI).filter isE).length : Int) = lostI fs
  | [] => rfl
  | f :: fs => by
    rw [List.map_cons, List.filter_cons, lostI, ← filt_lost fs]
    cases f with
    | nil => simp [isE]; omega
    | cons x f => simp [isE]
theorem filt_extra : ∀ fs : List (List Int), ∃ ns : List Int, ((fs.map tI).filter fun d => !isE d).map lenM = ns.map .int ∧ ns.sum = extraI fs
  | [] => ⟨[], rfl, rfl⟩
  | f :: fs => by
    obtain ⟨ns, h1, h2⟩ := filt_extra fs
    rw [List.map_cons, List.filter_cons]
    cases f with
    | nil => exact ⟨ns, h1, by simp [extraI, h2]⟩
    | cons x f =>
      refine ⟨(f.length : Int) :: ns, ?_, by simp [extraI, h2]⟩
      show List.map lenM (tI (x :: f) :: _) = _
      rw [List.map_cons, h1]
      simp [lenM]
theorem t_lost (fs : List (List Int)) (hl : fs.length ≤ 1000) (S : Store) : m_lost_count [tF fs] S = .ok (.int (lostI fs)) S := by
  have z := lc_filt (P := fun _ => True) (tg := gN 1) (tt := mB (mOp bEq (mCB fLen (mCons (mVar 1) mNil)) (mC (.int 0)))) (el := mVar 1) (n := S.length) (ρ := wipeR [.dat (tF fs), .un] [1]) isE id (fun _ _ _ => trivial) (fs.map tI) [] (S ++ [.lst []]) trivial (fun d hd S => by
    obtain ⟨f, _, rfl⟩ := List.mem_map.mp hd
    refine ⟨_, rfl, ?_, fun _ => ?_⟩
    · cases f <;> simp [wipeR, isE] <;> omega
    · simp [wipeR]) (by simp) (by simp; omega)
  have z2 := filt_lost fs
  simp at z
  simp [m_lost_count, rho0, b_lost_count, c_lost_count_0, z, z2]
theorem t_extra (fs : List (List Int)) (hl : fs.length ≤ 1000) (S : Store) : m_extra_count [tF fs] S = .ok (.int (extraI fs)) S := by
  have z := lc_filt (P := fun _ => True) (tg := gN 1) (tt := mB (mOp bGt (mCB fLen (mCons (mVar 1) mNil)) (mC (.int 0)))) (el := mOp bSub (mCB fLen (mCons (mVar 1) mNil)) (mC (.int 1))) (n := S.length) (ρ := wipeR [.dat (tF fs), .un] [1]) (fun d => !isE d) lenM (fun _ _ _ => trivial) (fs.map tI) [] (S ++ [.lst []]) trivial (fun d hd S => by
    obtain ⟨f, _, rfl⟩ := List.mem_map.mp hd
    refine ⟨_, rfl, ?_, fun _ => ?_⟩
    · cases f <;> simp [wipeR, isE] <;> omega
    · simp [wipeR, lenM]) (by simp) (by simp; omega)
  obtain ⟨ns, h1, h2⟩ := filt_extra fs
  rw [h1] at z
  simp at z
  simp [m_extra_count, rho0, b_extra_count, c_extra_count_0, z, h2]
end K34
end

section
namespace K34
open PySem L2 FL
theorem len_extra : ∀ {fs : List (List Int)} {f : List Int}, f ∈ fs → (f.length : Int) ≤ extraI fs + 1
  | g :: fs, f, h => by
    rw [extraI]
    have nn := extra_nn fs
    rcases List.mem_cons.mp h with h | h
    · subst h
      split
      · rename_i z; subst z; simp; omega
      · omega
    · have ih := len_extra h
      split
      · omega
      · rename_i z
        have : 0 < g.length := List.length_pos_iff.mpr z
        omega
theorem asc_of_pw {l : List Int} (h : l.Pairwise (· < ·)) : AscL l := fun i x y hx hy => by
  obtain ⟨a1, a2⟩ := List.getElem?_eq_some_iff.mp hx
  obtain ⟨b1, b2⟩ := List.getElem?_eq_some_iff.mp hy
  have z := List.pairwise_iff_getElem.mp h i (i + 1) a1 b1 (by omega)
  rw [a2, b2] at z
  exact z
theorem t_afford (w : Wire) (fs : List (List Int)) (hl : fs.length ≤ 1000) (h1 : lostI fs ≤ w.l) (h2 : extraI fs ≤ w.d) (S : Store) : m__is_affordable [w.D, tF fs] S = .ok (.bl true) S := by
  have e1 := t_lost fs hl S
  have e2 := t_extra fs hl S
  simp only [tF] at e1 e2
  simp [m__is_affordable, rho0, b__is_affordable, Wire.D, e1, e2, h1, h2]
theorem t_are_crashes (c : List Int) (lim : Int) (hc : ∀ x ∈ c, 0 ≤ x ∧ x ≤ 400) (hp : c.Pairwise (· < ·)) (hl : (c.length : Int) ≤ lim) (hl2 : c.length ≤ 1000) (S : Store) : m__are_crashes [tI c, .int lim] S = .ok (.bl true) S := by
  obtain ⟨I, hI⟩ : ∃ I : Nat → Rho → Store → Prop, I = fun i ρ' S' => ∃ y, ρ' = [.dat (tI c), .dat (.int lim), y] ∧ S' = S := ⟨_, rfl⟩
  have w : (l__are_crashes_1 [.dat (tI c), .dat (.int lim), .un] S).Nx (I (c.map D.int).length) := by
    simp only [l__are_crashes_1, ev_for, ev_iter, ev_var, List.getElem?_cons_succ, List.getElem?_cons_zero, bind_ok, tI, it_t, stm_ok, q_for]
    refine items_T (b := lb__are_crashes_0) (c.map .int) I (fun i d hd ρ S' q => ?_) (by rw [hI]; exact ⟨_, rfl, rfl⟩)
    rw [hI] at q
    obtain ⟨y, rfl, rfl⟩ := q
    obtain ⟨x, hx, rfl⟩ := List.mem_map.mp (List.mem_of_getElem? hd)
    have b := hc x hx
    simp [lb__are_crashes_0, b.1, b.2]
    refine goes_nx ?_
    rw [hI]
    exact ⟨_, rfl, rfl⟩
  rw [hI] at w
  obtain ⟨ρ, S', e, y, rfl, rfl⟩ := w
  have ea := t_asc c (asc_of_pw hp) hl2 S'
  simp only [tI] at e ea
  have hl' : ¬ lim < (c.length : Int) := by omega
  simp [m__are_crashes, rho0, b__are_crashes, e, ea, hl']
theorem t_check_run (w : Wire) (hw : w.Ok) (p : Plan) (hp : p.Ok) (m : Mem) (hm : m.Ok) (r : Run) (hr : r.Ok w p m) (S : Store) : m_check_run [w.D, p.D, m.D, r.D] S = .ok .non S := by
  have hlen := hp.len
  have ll := lost_app r.a r.b
  have xx := extra_app r.a r.b
  have l1 := lost_nn r.b
  have x1 := extra_nn r.b
  have hl := hr.lost
  have hx := hr.extra
  have hla := hr.la
  have hlb := hr.lb
  have hwd := hw.d
  have e1 := fun S => t_are_fates p.tries.length w.o r.a (fun f hf => ⟨hr.fa f hf, by have := len_extra (List.mem_append_left r.b hf); omega⟩) (by omega) S
  have e2 := fun S => t_are_fates 40 w.b r.b (fun f hf => ⟨hr.fb f hf, by have := len_extra (List.mem_append_right r.a hf); omega⟩) (by omega) S
  have e3 := fun S => t_afford w r.a (by omega) (by omega) (by omega) S
  have e4 := fun S => t_afford w (r.a ++ r.b) (by simp; omega) hl hx S
  have hcl := hr.cl
  have hmc := hm.c
  have e5 := fun S => t_are_crashes r.c m.c hr.cr hr.cp hcl (by omega) S
  have hsz : r.a.length + r.b.length ≤ 16777216 := by omega
  simp only [tF, tI, Wire.D, List.map_append] at e1 e2 e3 e4 e5
  simp [m_check_run, rho0, b_check_run, Wire.D, Plan.D, Mem.D, Run.D, e1, e2, e3, e4, e5, hsz]
end K34
end

section
namespace K34
open PySem L2 FL
/-! ### a run, tick by tick -/
abbrev Ev := Int × Str × Int
def ev (t : Int) (w : Str) (i : Int) : Ev := (t, w, i)
def evD (e : Ev) : D := .tup [.int e.1, .str e.2.1, .int e.2.2]
def pD (e : Int × Int) : D := .tup [.int e.1, .int e.2]
structure PS where
  arr : List (Int × Int)
  hear : List (Int × Int)
  done : Option Int
  told : Nat
  heard : Bool
  log : List Ev
def fateAt (fs : List (List Int)) (i : Nat) : List Int := (fs[i]?).getD [0]
def again (m : Mem) (t : Int) : Option Int → Bool
  | none => false
  | some d => decide (t - d ≤ m.k)
def send (l : List Int) (t : Int) (i : Int) : List (Int × Int) := l.map fun o => (t + o, i)
def sArr (m : Mem) (r : Run) (t : Int) (st : PS) (i : Int) : PS :=
  { st with done := if again m t st.done then st.done else some t, hear := st.hear ++ send (fateAt r.b st.told) t st.told, told := st.told + 1,
            log := st.log ++ [ev t "arrive" i, ev t (if again m t st.done then "again" else "do") (st.told : Int)] }
def sHear (u : Int) (t : Int) (st : PS) (i : Int) : PS :=
  if st.heard = false ∧ t ≤ u then { st with log := st.log ++ [ev t "hear" i], heard := true } else { st with log := st.log ++ [ev t "late" i] }
def due (l : List (Int × Int)) (t : Int) : List Int := (l.filter fun e => e.1 == t).map (·.2)
def ixOf (l : List Int) (t : Int) : Nat := (l.findIdx? fun y => y == t).getD 0
def sCrash (m : Mem) (r : Run) (t : Int) (st : PS) : PS := if t ∈ r.c then { st with log := st.log ++ [ev t "crash" (-1)], done := if m.d then st.done else none } else st
def sAsk (p : Plan) (r : Run) (t : Int) (st : PS) : PS := if t ∈ p.tries ∧ st.heard = false then { st with log := st.log ++ [ev t "ask" (ixOf p.tries t : Int)], arr := st.arr ++ send (fateAt r.a (ixOf p.tries t)) t (ixOf p.tries t) } else st
def sGive (p : Plan) (t : Int) (st : PS) : PS := if t = p.u ∧ st.heard = false then { st with log := st.log ++ [ev t "give up" (-1)] } else st
def sArrs (m : Mem) (r : Run) (t : Int) (st : PS) : PS := (due st.arr t).foldl (sArr m r t) st
def sHears (p : Plan) (t : Int) (st : PS) : PS := (due st.hear t).foldl (sHear p.u t) st
def step (p : Plan) (m : Mem) (r : Run) (t : Int) (st : PS) : PS := sGive p t (sHears p t (sArrs m r t (sAsk p r t (sCrash m r t st))))
def st0 : PS := ⟨[], [], none, 0, false, []⟩
def play (p : Plan) (m : Mem) (r : Run) : Nat → PS
  | 0 => st0
  | n + 1 => step p m r n (play p m r n)
/-! bounds -/
structure Good (r : Run) (o b : Int) : Prop where
  fa : ∀ i, (fateAt r.a i).length ≤ 5 ∧ ∀ x ∈ fateAt r.a i, 0 ≤ x ∧ x ≤ o
  fb : ∀ i, (fateAt r.b i).length ≤ 5 ∧ ∀ x ∈ fateAt r.b i, 0 ≤ x ∧ x ≤ b
theorem Run.Ok.good {w : Wire} (hw : w.Ok) {p : Plan} {m : Mem} {r : Run} (h : r.Ok w p m) : Good r w.o w.b := by
  have key : ∀ (fs : List (List Int)) (most : Int), 0 ≤ most → (∀ f ∈ fs, Fate most f) → extraI fs ≤ 4 → ∀ i, (fateAt fs i).length ≤ 5 ∧ ∀ x ∈ fateAt fs i, 0 ≤ x ∧ x ≤ most := by
    intro fs most h0 h1 h2 i
    unfold fateAt
    cases q : fs[i]? with
    | none => exact ⟨by decide, fun x hx => by simp at hx; omega⟩
    | some f =>
      have hm := List.mem_of_getElem? q
      have := len_extra hm
      exact ⟨by simp; omega, fun x hx => (h1 f hm).rng x (by simpa using hx)⟩
  have e := h.extra
  rw [extra_app] at e
  have := extra_nn r.a
  have := extra_nn r.b
  have := hw.d
  exact ⟨key r.a w.o hw.o.1 h.fa (by omega), key r.b w.b hw.b.1 h.fb (by omega)⟩
/-- what holds ahead of tick t -/
structure PI (p : Plan) (la o b : Int) (t : Int) (st : PS) : Prop where
  told : st.told = (st.arr.filter fun e => decide (e.1 < t)).length
  hear : st.hear.length ≤ 5 * st.told
  arr : st.arr.length ≤ 5 * (p.tries.filter fun x => decide (x < t)).length
  log : (st.log.length : Int) ≤ 300 * t
  arrL : ∀ e ∈ st.arr, e.1 ≤ la + o
  hearL : ∀ e ∈ st.hear, e.1 ≤ la + o + b
theorem filt_le {α : Type} (l : List α) (p : α → Bool) : (l.filter p).length ≤ l.length := List.length_filter_le p l
theorem PI.small {p : Plan} (hp : p.Ok) {la o b t : Int} {st : PS} (h : PI p la o b t st) : st.arr.length ≤ 40 ∧ st.told ≤ 40 ∧ st.hear.length ≤ 200 := by
  have h1 := h.arr
  have h2 := filt_le p.tries (fun x => decide (x < t))
  have h3 := hp.len
  have h4 := h.told
  have h5 := filt_le st.arr (fun e => decide (e.1 < t))
  have h6 := h.hear
  omega
theorem fold_arr {m : Mem} {r : Run} {o b t B : Int} (g : Good r o b) : ∀ (l : List Int) (st : PS), (∀ e ∈ st.hear, e.1 ≤ B) → (l ≠ [] → t + b ≤ B) →
    (l.foldl (sArr m r t) st).arr = st.arr ∧ (l.foldl (sArr m r t) st).told = st.told + l.length ∧ (l.foldl (sArr m r t) st).hear.length ≤ st.hear.length + 5 * l.length ∧ (l.foldl (sArr m r t) st).log.length = st.log.length + 2 * l.length ∧ (∀ e ∈ (l.foldl (sArr m r t) st).hear, e.1 ≤ B) ∧ (l.foldl (sArr m r t) st).heard = st.heard
  | [], st, h, _ => ⟨rfl, rfl, by simp, rfl, h, rfl⟩
  | i :: l, st, h, hb => by
    have gb := g.fb st.told
    have hbB := hb (by simp)
    obtain ⟨h1, h2, h3, h4, h5, h6⟩ := fold_arr g l (sArr m r t st i) (fun e he => by
      rcases List.mem_append.mp (show e ∈ st.hear ++ send (fateAt r.b st.told) t st.told from he) with q | q
      · exact h e q
      · obtain ⟨x, hx, rfl⟩ := List.mem_map.mp q
        have := (gb.2 x hx).2
        show t + x ≤ B
        omega) (fun _ => hbB)
    have e1 : (sArr m r t st i).told = st.told + 1 := rfl
    have e2 : (sArr m r t st i).hear.length ≤ st.hear.length + 5 := by
      show (st.hear ++ send (fateAt r.b st.told) t st.told).length ≤ _
      rw [List.length_append, send, List.length_map]
      omega
    have e3 : (sArr m r t st i).log.length = st.log.length + 2 := by
      show (st.log ++ [_, _]).length = _
      simp
    rw [List.foldl_cons]
    refine ⟨h1, by rw [h2, e1, List.length_cons]; omega, by rw [List.length_cons]; omega, by rw [h4, e3, List.length_cons]; omega, h5, h6⟩
theorem fold_hear {u t : Int} : ∀ (l : List Int) (st : PS), (l.foldl (sHear u t) st).arr = st.arr ∧ (l.foldl (sHear u t) st).told = st.told ∧ (l.foldl (sHear u t) st).hear = st.hear ∧ (l.foldl (sHear u t) st).log.length = st.log.length + l.length ∧ (l.foldl (sHear u t) st).done = st.done
  | [], st => ⟨rfl, rfl, rfl, rfl, rfl⟩
  | i :: l, st => by
    obtain ⟨h1, h2, h3, h4, h5⟩ := fold_hear l (sHear u t st i)
    have e : (sHear u t st i).arr = st.arr ∧ (sHear u t st i).told = st.told ∧ (sHear u t st i).hear = st.hear ∧ (sHear u t st i).log.length = st.log.length + 1 ∧ (sHear u t st i).done = st.done := by
      unfold sHear
      split
      · exact ⟨rfl, rfl, rfl, by simp, rfl⟩
      · exact ⟨rfl, rfl, rfl, by simp, rfl⟩
    obtain ⟨e1, e2, e3, e4, e5⟩ := e
    rw [List.foldl_cons]
    exact ⟨h1.trans e1, h2.trans e2, h3.trans e3, by rw [h4, e4, List.length_cons]; omega, h5.trans e5⟩
theorem filt_split (l : List (Int × Int)) (t : Int) : (l.filter fun e => decide (e.1 < t + 1)).length = (l.filter fun e => decide (e.1 < t)).length + (due l t).length := by
  unfold due
  rw [List.length_map]
  induction l with
  | nil => rfl
  | cons e l ih =>
    simp only [List.filter_cons]
    by_cases h1 : e.1 < t
    · have h2 : e.1 < t + 1 := by omega
      have h3 : (e.1 == t) = false := beq_eq_false_iff_ne.mpr (by omega)
      simp [h1, h2, h3, ih]
      omega
    · by_cases h2 : e.1 = t
      · have h3 : t < t + 1 := by omega
        simp [h1, h2, h3, ih]
        omega
      · have h3 : ¬ e.1 < t + 1 := by omega
        have h4 : (e.1 == t) = false := beq_eq_false_iff_ne.mpr h2
        simp [h1, h3, h4, ih]
theorem filt_try (l : List Int) (t : Int) : (l.filter fun x => decide (x < t)).length ≤ (l.filter fun x => decide (x < t + 1)).length ∧ (t ∈ l → (l.filter fun x => decide (x < t)).length + 1 ≤ (l.filter fun x => decide (x < t + 1)).length) := by
  induction l with
  | nil => exact ⟨by simp, fun h => by simp at h⟩
  | cons x l ih =>
    simp only [List.filter_cons]
    by_cases h1 : x < t
    · have h2 : x < t + 1 := by omega
      simp [h1, h2]
      exact ⟨ih.1, fun h => by
        rcases h with h | h
        · omega
        · exact ih.2 h⟩
    · by_cases h2 : x = t
      · have h3 : x < t + 1 := by omega
        simp [h1, h3]
        exact ⟨by have := ih.1; omega, fun _ => ih.1⟩
      · have h3 : ¬ x < t + 1 := by omega
        simp [h1, h3]
        exact ⟨ih.1, fun h => by
          rcases h with h | h
          · omega
          · exact ih.2 h⟩
theorem due_len (l : List (Int × Int)) (t : Int) : (due l t).length ≤ l.length := by
  unfold due; rw [List.length_map]; exact filt_le _ _
theorem step_ok {p : Plan} (hp : p.Ok) {m : Mem} {r : Run} {la o b : Int} (g : Good r o b) (ho : 0 ≤ o) (hb : 0 ≤ b) (hla : ∀ x ∈ p.tries, x ≤ la) {t : Int} (ht : 0 ≤ t) {st : PS} (h : PI p la o b t st) :
    PI p la o b (t + 1) (step p m r t st) := by
  have c1 : (sCrash m r t st).arr = st.arr ∧ (sCrash m r t st).hear = st.hear ∧ (sCrash m r t st).told = st.told ∧ (sCrash m r t st).heard = st.heard ∧ (sCrash m r t st).log.length ≤ st.log.length + 1 := by
    unfold sCrash
    split
    · exact ⟨rfl, rfl, rfl, rfl, by simp⟩
    · exact ⟨rfl, rfl, rfl, rfl, by simp⟩
  obtain ⟨s1, hs1⟩ : ∃ s1, s1 = sCrash m r t st := ⟨_, rfl⟩
  rw [← hs1] at c1
  obtain ⟨a1, a2, a3, a4, a5⟩ := c1
  obtain ⟨ft1, ft2⟩ := filt_try p.tries t
  have gA := g.fa (ixOf p.tries t)
  have c2 : (sAsk p r t s1).hear = st.hear ∧ (sAsk p r t s1).told = st.told ∧ (sAsk p r t s1).log.length ≤ st.log.length + 2 ∧ (sAsk p r t s1).arr.length ≤ 5 * (p.tries.filter fun x => decide (x < t + 1)).length ∧ (∀ e ∈ (sAsk p r t s1).arr, e.1 ≤ la + o) ∧
      ((sAsk p r t s1).arr.filter fun e => decide (e.1 < t)).length = st.told := by
    have ha := h.arr
    unfold sAsk
    split
    · rename_i hc
      have f2 := ft2 hc.1
      have tla := hla t hc.1
      refine ⟨a2, a3, by simp; omega, ?_, fun e he => ?_, ?_⟩
      · simp only [List.length_append, send, List.length_map, a1]; omega
      · rcases List.mem_append.mp he with q | q
        · rw [a1] at q; exact h.arrL e q
        · obtain ⟨x, hx, rfl⟩ := List.mem_map.mp q
          have := (gA.2 x hx).2
          show t + x ≤ la + o
          omega
      · rw [List.filter_append, List.length_append, a1, ← h.told]
        have : ((send (fateAt r.a (ixOf p.tries t)) t (ixOf p.tries t)).filter fun e => decide (e.1 < t)) = [] := by
          rw [List.filter_eq_nil_iff]
          intro e he
          obtain ⟨x, hx, rfl⟩ := List.mem_map.mp he
          have := (gA.2 x hx).1
          simp
          omega
        rw [this]
        rfl
    · refine ⟨a2, a3, by omega, by rw [a1]; omega, fun e he => by rw [a1] at he; exact h.arrL e he, by rw [a1, ← h.told]⟩
  obtain ⟨s2, hs2⟩ : ∃ s2, s2 = sAsk p r t s1 := ⟨_, rfl⟩
  rw [← hs2] at c2
  obtain ⟨b1, b2, b3, b4, b5, b6⟩ := c2
  have small2 : s2.arr.length ≤ 40 := by
    have := filt_le p.tries (fun x => decide (x < t + 1))
    have := hp.len
    omega
  have dl := due_len s2.arr t
  obtain ⟨d1, d2, d3, d4, d5, d6⟩ := fold_arr (m := m) (t := t) (B := la + o + b) g (due s2.arr t) s2 (fun e he => by rw [b1] at he; exact h.hearL e he) (fun hne => by
    obtain ⟨x, hx⟩ := List.exists_mem_of_ne_nil _ hne
    unfold due at hx
    obtain ⟨e, he, rfl⟩ := List.mem_map.mp hx
    rw [List.mem_filter] at he
    have h1 := b5 e he.1
    have h2 : e.1 = t := by simpa using he.2
    omega)
  obtain ⟨s3, hs3⟩ : ∃ s3, s3 = sArrs m r t s2 := ⟨_, rfl⟩
  have hs3' : (due s2.arr t).foldl (sArr m r t) s2 = s3 := by rw [hs3]; rfl
  rw [hs3'] at d1 d2 d3 d4 d5 d6
  have split := filt_split s2.arr t
  have told3 : s3.told = (s2.arr.filter fun e => decide (e.1 < t + 1)).length := by omega
  have hh := h.hear
  have hl1 : s2.hear.length = st.hear.length := by rw [b1]
  have hear3 : s3.hear.length ≤ 5 * s3.told := by omega
  have tl3 : s3.told ≤ 40 := by have := filt_le s2.arr (fun e => decide (e.1 < t + 1)); omega
  obtain ⟨e1, e2, e3, e4, e5⟩ := fold_hear (u := p.u) (t := t) (due s3.hear t) s3
  obtain ⟨s4, hs4⟩ : ∃ s4, s4 = sHears p t s3 := ⟨_, rfl⟩
  have hs4' : (due s3.hear t).foldl (sHear p.u t) s3 = s4 := by rw [hs4]; rfl
  rw [hs4'] at e1 e2 e3 e4 e5
  have dl3 := due_len s3.hear t
  have c5 : (sGive p t s4).arr = s4.arr ∧ (sGive p t s4).hear = s4.hear ∧ (sGive p t s4).told = s4.told ∧ (sGive p t s4).log.length ≤ s4.log.length + 1 := by
    unfold sGive
    split
    · exact ⟨rfl, rfl, rfl, by simp⟩
    · exact ⟨rfl, rfl, rfl, by simp⟩
  have e : step p m r t st = sGive p t s4 := by rw [hs4, hs3, hs2, hs1]; rfl
  rw [e]
  obtain ⟨f1, f2, f3, f4⟩ := c5
  have hlog := h.log
  refine ⟨by rw [f3, f1, e2, e1, told3, d1], by rw [f2, f3, e3, e2]; exact hear3, by rw [f1, e1, d1]; exact b4, by omega, by rw [f1, e1, d1]; exact b5, by rw [f2, e3]; exact d5⟩
theorem play_ok {p : Plan} (hp : p.Ok) {m : Mem} {r : Run} {la o b : Int} (g : Good r o b) (ho : 0 ≤ o) (hb : 0 ≤ b) (hla : ∀ x ∈ p.tries, x ≤ la) : ∀ n : Nat, PI p la o b n (play p m r n)
  | 0 => ⟨rfl, by simp [play, st0], by simp [play, st0], by simp [play, st0], by simp [play, st0], by simp [play, st0]⟩
  | n + 1 => by
    have z := step_ok hp (m := m) g ho hb hla (t := n) (by omega) (play_ok (m := m) hp g ho hb hla n)
    have e : ((n + 1 : Nat) : Int) = (n : Int) + 1 := by omega
    rw [e]
    exact z
end K34
end

section
namespace K34
open PySem L2 FL
/-! ### the law's own run -/
def doneD : Option Int → D
  | none => .non
  | some t => .int t
abbrev LR (w : Wire) (p : Plan) (m : Mem) (r : Run) (L : Nat) (st : PS) (en : Int) (tick a b c d : Sl) : Rho :=
  [.dat w.D, .dat p.D, .dat m.D, .dat r.D, .dat (.ref L), .dat (.ref (L + 1)), .dat (.ref (L + 2)), .dat (doneD st.done), .dat (.bl st.heard), .dat (.int (st.told : Int)), .dat (.int en), tick, a, b, c, d]
abbrev LS (S : Store) (st : PS) : Store := S ++ [.lst (st.log.map evD), .lst (st.arr.map pD), .lst (st.hear.map pD)]
theorem t_fate_at (fs : List (List Int)) (i : Nat) (S : Store) : m__law_fate_at [tF fs, .int (i : Nat)] S = .ok (tI (fateAt fs i)) S := by
  cases q : fs[i]? with
  | none =>
    have h : ¬ i < fs.length := fun h => by rw [List.getElem?_eq_getElem h] at q; cases q
    have e : fateAt fs i = [0] := by unfold fateAt; rw [q]; rfl
    rw [e]
    simp [m__law_fate_at, rho0, b__law_fate_at, h]
  | some f =>
    have h : i < fs.length := (List.getElem?_eq_some_iff.mp q).1
    have e : fateAt fs i = f := by unfold fateAt; rw [q]; rfl
    have ea : atI (fs.map tI) (i : Int) = some (tI f) := x_at (by omega) (by simp [q])
    rw [e]
    simp only [tI] at ea
    simp [m__law_fate_at, rho0, b__law_fate_at, h, ea]
theorem t_send1 (w : Wire) (p : Plan) (m : Mem) (r : Run) (S : Store) (st : PS) (en t : Int) (k : Nat) (b c d : Sl) (hsz : st.arr.length + (fateAt r.a k).length ≤ 1000000) :
    (l__law_play_1 (LR w p m r S.length st en (.dat (.int t)) (.dat (.int (k : Nat))) b c d) (LS S st)).Nx fun ρ' S' => ∃ b', ρ' = LR w p m r S.length st en (.dat (.int t)) (.dat (.int (k : Nat))) b' c d ∧ S' = LS S { st with arr := st.arr ++ send (fateAt r.a k) t k } := by
  obtain ⟨I, hI⟩ : ∃ I : Nat → Rho → Store → Prop, I = fun i ρ' S' => ∃ b', ρ' = LR w p m r S.length st en (.dat (.int t)) (.dat (.int (k : Nat))) b' c d ∧ S' = LS S { st with arr := st.arr ++ send ((fateAt r.a k).take i) t k } := ⟨_, rfl⟩
  have ef := t_fate_at r.a k (LS S st)
  simp only [tF, LS] at ef
  simp only [l__law_play_1, ev_for, ev_iter, ev_cb, ev_cons, ev_op, ev_var, LR, List.getElem?_cons_succ, List.getElem?_cons_zero, bind_ok, q_o1, ev_c, Run.D, bix_t, x_0, q_c1, ev_nil, q_c2, tF, LS, ef, tI, it_t, stm_ok, q_for]
  refine RS.Nx.imp (items_T (b := lb__law_play_0) ((fateAt r.a k).map .int) I (fun i x hx ρ S' q => ?_) (by rw [hI]; exact ⟨b, rfl, by simp [send]⟩)) (fun ρ S' q => ?_)
  · rw [hI] at q
    obtain ⟨b', rfl, rfl⟩ := q
    rw [List.getElem?_map] at hx
    cases q : (fateAt r.a k)[i]? with
    | none => rw [q] at hx; cases hx
    | some o =>
      rw [q] at hx
      cases hx
      have hi := (List.getElem?_eq_some_iff.mp q).1
      have hlt : st.arr.length + (send ((fateAt r.a k).take i) t k).length < 16777216 := by
        rw [send, List.length_map, List.length_take]; omega
      have e1 : send ((fateAt r.a k).take (i + 1)) t k = send ((fateAt r.a k).take i) t k ++ [(t + o, (k : Int))] := by
        unfold send
        rw [List.take_add_one, q]
        simp
      simp [lb__law_play_0, LR, LS, hlt]
      refine goes_nx ?_
      rw [hI]
      exact ⟨_, rfl, by simp [e1, pD]⟩
  · rw [hI] at q
    obtain ⟨b', h1, h2⟩ := q
    rw [List.length_map, List.take_length] at h2
    exact ⟨b', h1, h2⟩
end K34
end

section
namespace K34
open PySem L2 FL
theorem t_send2 (w : Wire) (p : Plan) (m : Mem) (r : Run) (S : Store) (st : PS) (en t : Int) (a b c d : Sl) (hsz : st.hear.length + (fateAt r.b st.told).length ≤ 1000000) :
    (l__law_play_3 (LR w p m r S.length st en (.dat (.int t)) a b c d) (LS S st)).Nx fun ρ' S' => ∃ b', ρ' = LR w p m r S.length st en (.dat (.int t)) a b' c d ∧ S' = LS S { st with hear := st.hear ++ send (fateAt r.b st.told) t st.told } := by
  obtain ⟨I, hI⟩ : ∃ I : Nat → Rho → Store → Prop, I = fun i ρ' S' => ∃ b', ρ' = LR w p m r S.length st en (.dat (.int t)) a b' c d ∧ S' = LS S { st with hear := st.hear ++ send ((fateAt r.b st.told).take i) t st.told } := ⟨_, rfl⟩
  have ef := t_fate_at r.b st.told (LS S st)
  simp only [tF, LS] at ef
  simp only [l__law_play_3, ev_for, ev_iter, ev_cb, ev_cons, ev_op, ev_var, LR, List.getElem?_cons_succ, List.getElem?_cons_zero, bind_ok, q_o1, ev_c, Run.D, bix_t, x_1, q_c1, ev_nil, q_c2, tF, LS, ef, tI, it_t, stm_ok, q_for]
  refine RS.Nx.imp (items_T (b := lb__law_play_2) ((fateAt r.b st.told).map .int) I (fun i x hx ρ S' q => ?_) (by rw [hI]; exact ⟨b, rfl, by simp [send]⟩)) (fun ρ S' q => ?_)
  · rw [hI] at q
    obtain ⟨b', rfl, rfl⟩ := q
    rw [List.getElem?_map] at hx
    cases q : (fateAt r.b st.told)[i]? with
    | none => rw [q] at hx; cases hx
    | some o =>
      rw [q] at hx
      cases hx
      have hi := (List.getElem?_eq_some_iff.mp q).1
      have hlt : st.hear.length + (send ((fateAt r.b st.told).take i) t st.told).length < 16777216 := by
        rw [send, List.length_map, List.length_take]; omega
      have e1 : send ((fateAt r.b st.told).take (i + 1)) t st.told = send ((fateAt r.b st.told).take i) t st.told ++ [(t + o, (st.told : Int))] := by
        unfold send
        rw [List.take_add_one, q]
        simp
      simp [lb__law_play_2, LR, LS, hlt]
      refine goes_nx ?_
      rw [hI]
      exact ⟨_, rfl, by simp [e1, pD]⟩
  · rw [hI] at q
    obtain ⟨b', h1, h2⟩ := q
    rw [List.length_map, List.take_length] at h2
    exact ⟨b', h1, h2⟩
/-- one row of the arriving ones -/
theorem t_arr1 (w : Wire) (p : Plan) (m : Mem) (r : Run) (S : Store) (st : PS) (en t : Int) (a b d : Sl) (e : Int × Int) (hh : st.hear.length + (fateAt r.b st.told).length ≤ 1000000) (hl : st.log.length ≤ 1000000) :
    (lb__law_play_4 (LR w p m r S.length st en (.dat (.int t)) a b (.dat (pD e)) d) (LS S st)).Goes fun ρ' S' => ∃ b' c' d', ρ' = LR w p m r S.length (if e.1 = t then sArr m r t st e.2 else st) en (.dat (.int t)) a b' c' d' ∧ S' = LS S (if e.1 = t then sArr m r t st e.2 else st) := by
  obtain ⟨I, hI⟩ : ∃ I : Rho → Store → Prop, I = fun ρ' S' => ∃ b' c' d', ρ' = LR w p m r S.length (if e.1 = t then sArr m r t st e.2 else st) en (.dat (.int t)) a b' c' d' ∧ S' = LS S (if e.1 = t then sArr m r t st e.2 else st) := ⟨_, rfl⟩
  rw [← hI]
  have h1 : st.log.length < 16777216 := by omega
  have h2 : st.log.length + 1 < 16777216 := by omega
  by_cases c : e.1 = t
  · have key : ∀ (wd : Str) (dn : Option Int), (if again m t st.done then st.done else some t) = dn → (if again m t st.done then ("again" : Str) else "do") = wd →
        (l__law_play_3 (LR w p m r S.length { st with done := dn, log := st.log ++ [ev t "arrive" e.2, ev t wd (st.told : Int)] } en (.dat (.int t)) a b (.dat (pD e)) (.dat (.str wd))) (LS S { st with done := dn, log := st.log ++ [ev t "arrive" e.2, ev t wd (st.told : Int)] })).Nx fun ρ' S' => ∃ b', ρ' = LR w p m r S.length { st with done := dn, log := st.log ++ [ev t "arrive" e.2, ev t wd (st.told : Int)] } en (.dat (.int t)) a b' (.dat (pD e)) (.dat (.str wd)) ∧ S' = LS S { (sArr m r t st e.2) with told := st.told } := fun wd dn hd hw => by
      have z := t_send2 w p m r S { st with done := dn, log := st.log ++ [ev t "arrive" e.2, ev t wd (st.told : Int)] } en t a b (.dat (pD e)) (.dat (.str wd)) hh
      refine z.imp fun ρ' S' q => ?_
      obtain ⟨b', q1, q2⟩ := q
      refine ⟨b', q1, ?_⟩
      rw [q2, ← hd, ← hw]
      rfl
    cases hdn : st.done with
    | none =>
      obtain ⟨ρ', S', z, b', rfl, rfl⟩ := key "do" (some t) (by rw [hdn]; rfl) (by rw [hdn]; rfl)
      simp [LR, LS, pD, evD, ev, doneD, c] at z
      simp [lb__law_play_4, LR, LS, pD, c, h1, h2, hdn, doneD, z]
      refine goes_nx ?_
      rw [hI, if_pos c]
      exact ⟨b', _, _, by simp [LR, sArr, hdn, again, doneD]; exact ⟨rfl, rfl⟩, by simp [LS, sArr]⟩
    | some d0 =>
      by_cases ck : t - d0 ≤ m.k
      · have ck' : ¬ m.k < t - d0 := by omega
        obtain ⟨ρ', S', z, b', rfl, rfl⟩ := key "again" (some d0) (by rw [hdn]; simp [again, ck]) (by rw [hdn]; simp [again, ck])
        simp [LR, LS, pD, evD, ev, doneD, c, Mem.D] at z
        simp [lb__law_play_4, LR, LS, pD, c, h1, h2, hdn, doneD, z, ck', Mem.D]
        refine goes_nx ?_
        rw [hI, if_pos c]
        exact ⟨b', _, _, by simp [LR, sArr, hdn, again, doneD, ck, Mem.D]; exact ⟨rfl, rfl⟩, by simp [LS, sArr]⟩
      · have ck' : m.k < t - d0 := by omega
        obtain ⟨ρ', S', z, b', rfl, rfl⟩ := key "do" (some t) (by rw [hdn]; simp [again, ck]) (by rw [hdn]; simp [again, ck])
        simp [LR, LS, pD, evD, ev, doneD, c, Mem.D] at z
        simp [lb__law_play_4, LR, LS, pD, c, h1, h2, hdn, doneD, z, ck', Mem.D]
        refine goes_nx ?_
        rw [hI, if_pos c]
        exact ⟨b', _, _, by simp [LR, sArr, hdn, again, doneD, ck, Mem.D]; exact ⟨rfl, rfl⟩, by simp [LS, sArr]⟩
  · simp [lb__law_play_4, LR, LS, pD, c]
    refine goes_nx ?_
    rw [hI, if_neg c]
    exact ⟨_, _, _, rfl, rfl⟩
theorem due_take (l : List (Int × Int)) (t : Int) (i : Nat) (e : Int × Int) (h : l[i]? = some e) : due (l.take (i + 1)) t = due (l.take i) t ++ (if e.1 = t then [e.2] else []) := by
  unfold due
  rw [List.take_add_one, h]
  simp only [Option.toList, List.filter_append, List.map_append]
  congr 1
  by_cases c : e.1 = t <;> simp [c]
/-- the arrivals of a tick -/
theorem t_arrs (w : Wire) (p : Plan) (m : Mem) (r : Run) (S : Store) (st : PS) (en t : Int) (a b c d : Sl) {o bb : Int} (g : Good r o bb) (h1 : st.arr.length ≤ 40) (h2 : st.hear.length ≤ 1000) (h3 : st.log.length ≤ 900000) :
    (l__law_play_5 (LR w p m r S.length st en (.dat (.int t)) a b c d) (LS S st)).Nx fun ρ' S' => ∃ b' c' d', ρ' = LR w p m r S.length (sArrs m r t st) en (.dat (.int t)) a b' c' d' ∧ S' = LS S (sArrs m r t st) := by
  obtain ⟨I, hI⟩ : ∃ I : Nat → Rho → Store → Prop, I = fun i ρ' S' => ∃ b' c' d', ρ' = LR w p m r S.length ((due (st.arr.take i) t).foldl (sArr m r t) st) en (.dat (.int t)) a b' c' d' ∧ S' = LS S ((due (st.arr.take i) t).foldl (sArr m r t) st) := ⟨_, rfl⟩
  obtain ⟨B, hB⟩ : ∃ B : Int, (∀ e ∈ st.hear, e.1 ≤ B) ∧ t + bb ≤ B := by
    clear hI I
    generalize st.hear = l
    induction l with
    | nil => exact ⟨t + bb, by simp, Int.le_refl _⟩
    | cons e l ih =>
      obtain ⟨B, b1, b2⟩ := ih
      by_cases he : e.1 ≤ B
      · exact ⟨B, fun x hx => by rcases List.mem_cons.mp hx with h | h; (· rw [h]; exact he); (· exact b1 x h), b2⟩
      · exact ⟨e.1, fun x hx => by rcases List.mem_cons.mp hx with h | h; (· rw [h]; exact Int.le_refl _); (· have := b1 x h; omega), by omega⟩
  have fo := fun i => fold_arr (m := m) (t := t) (B := B) g (due (st.arr.take i) t) st hB.1 (fun _ => hB.2)
  have hg : getL (LS S st) (S.length + 1) = some (st.arr.map pD) := by simp [LS]
  simp only [l__law_play_5, ev_for, ev_iter, ev_var, List.getElem?_cons_succ, List.getElem?_cons_zero, bind_ok, it_r, hg, stm_ok, q_for]
  refine RS.Nx.imp (items_N (b := lb__law_play_4) (k := 14) (P := fun S' => S'[S.length + 1]? = some (.lst (st.arr.map pD))) (st.arr.map pD) I (fun i x hx ρ S' q => ?_) (fun ρ S' q => ?_) (by rw [hI]; exact ⟨b, c, d, rfl, rfl⟩)) (fun ρ S' q => ?_)
  · rw [hI] at q
    obtain ⟨b', c', d', rfl, rfl⟩ := q
    rw [List.getElem?_map] at hx
    cases q : st.arr[i]? with
    | none => rw [q] at hx; cases hx
    | some e =>
      rw [q] at hx
      cases hx
      obtain ⟨f1, f2, f3, f4, f5, f6⟩ := fo i
      have dl := due_len (st.arr.take i) t
      have tl : (st.arr.take i).length ≤ st.arr.length := by rw [List.length_take]; omega
      have gb := g.fb ((due (st.arr.take i) t).foldl (sArr m r t) st).told
      refine ⟨by simp [LS, f1], ?_⟩
      have z := t_arr1 w p m r S ((due (st.arr.take i) t).foldl (sArr m r t) st) en t a b' d' e (by omega) (by omega)
      obtain ⟨ρ2, S2, z1, z2⟩ := z
      refine ⟨ρ2, S2, z1, ?_⟩
      rw [hI]
      have e2 := due_take st.arr t i e q
      have e3 : (due (st.arr.take (i + 1)) t).foldl (sArr m r t) st = if e.1 = t then sArr m r t ((due (st.arr.take i) t).foldl (sArr m r t) st) e.2 else (due (st.arr.take i) t).foldl (sArr m r t) st := by
        rw [e2, List.foldl_append]
        split <;> rfl
      dsimp only
      rw [e3]
      exact z2
  · rw [hI] at q
    obtain ⟨b', c', d', rfl, rfl⟩ := q
    obtain ⟨f1, _⟩ := fo (st.arr.map pD).length
    rw [List.length_map, List.take_length] at f1
    simp [LS, f1]
  · rw [hI] at q
    obtain ⟨b', c', d', q1, q2⟩ := q
    rw [List.length_map, List.take_length] at q1 q2
    exact ⟨b', c', d', q1, q2⟩
theorem t_hear1 (w : Wire) (p : Plan) (m : Mem) (r : Run) (S : Store) (st : PS) (en t : Int) (a b d : Sl) (e : Int × Int) (hl : st.log.length ≤ 1000000) :
    (lb__law_play_6 (LR w p m r S.length st en (.dat (.int t)) a b (.dat (pD e)) d) (LS S st)).Goes fun ρ' S' => ∃ c', ρ' = LR w p m r S.length (if e.1 = t then sHear p.u t st e.2 else st) en (.dat (.int t)) a b c' d ∧ S' = LS S (if e.1 = t then sHear p.u t st e.2 else st) := by
  obtain ⟨I, hI⟩ : ∃ I : Rho → Store → Prop, I = fun ρ' S' => ∃ c', ρ' = LR w p m r S.length (if e.1 = t then sHear p.u t st e.2 else st) en (.dat (.int t)) a b c' d ∧ S' = LS S (if e.1 = t then sHear p.u t st e.2 else st) := ⟨_, rfl⟩
  rw [← hI]
  have h1 : st.log.length < 16777216 := by omega
  by_cases c : e.1 = t
  · cases hh : st.heard with
    | true =>
      simp [lb__law_play_6, LR, LS, pD, c, hh, h1, Plan.D]
      refine goes_nx ?_
      rw [hI, if_pos c]
      exact ⟨_, by simp [LR, sHear, hh, Plan.D]; rfl, by simp [LS, sHear, hh, evD, ev]⟩
    | false =>
      by_cases cu : t ≤ p.u
      · simp [lb__law_play_6, LR, LS, pD, c, hh, h1, cu, Plan.D]
        refine goes_nx ?_
        rw [hI, if_pos c]
        exact ⟨_, by simp [LR, sHear, hh, cu, Plan.D]; rfl, by simp [LS, sHear, hh, cu, evD, ev]⟩
      · simp [lb__law_play_6, LR, LS, pD, c, hh, h1, cu, Plan.D]
        refine goes_nx ?_
        rw [hI, if_pos c]
        exact ⟨_, by simp [LR, sHear, hh, cu, Plan.D]; rfl, by simp [LS, sHear, hh, cu, evD, ev]⟩
  · simp [lb__law_play_6, LR, LS, pD, c]
    refine goes_nx ?_
    rw [hI, if_neg c]
    exact ⟨_, rfl, rfl⟩
theorem t_hears (w : Wire) (p : Plan) (m : Mem) (r : Run) (S : Store) (st : PS) (en t : Int) (a b c d : Sl) (h2 : st.hear.length ≤ 1000) (h3 : st.log.length ≤ 900000) :
    (l__law_play_7 (LR w p m r S.length st en (.dat (.int t)) a b c d) (LS S st)).Nx fun ρ' S' => ∃ c', ρ' = LR w p m r S.length (sHears p t st) en (.dat (.int t)) a b c' d ∧ S' = LS S (sHears p t st) := by
  obtain ⟨I, hI⟩ : ∃ I : Nat → Rho → Store → Prop, I = fun i ρ' S' => ∃ c', ρ' = LR w p m r S.length ((due (st.hear.take i) t).foldl (sHear p.u t) st) en (.dat (.int t)) a b c' d ∧ S' = LS S ((due (st.hear.take i) t).foldl (sHear p.u t) st) := ⟨_, rfl⟩
  have fo := fun i => fold_hear (u := p.u) (t := t) (due (st.hear.take i) t) st
  have hg : getL (LS S st) (S.length + 2) = some (st.hear.map pD) := by simp [LS]
  simp only [l__law_play_7, ev_for, ev_iter, ev_var, List.getElem?_cons_succ, List.getElem?_cons_zero, bind_ok, it_r, hg, stm_ok, q_for]
  refine RS.Nx.imp (items_N (b := lb__law_play_6) (k := 14) (P := fun S' => S'[S.length + 2]? = some (.lst (st.hear.map pD))) (st.hear.map pD) I (fun i x hx ρ S' q => ?_) (fun ρ S' q => ?_) (by rw [hI]; exact ⟨c, rfl, rfl⟩)) (fun ρ S' q => ?_)
  · rw [hI] at q
    obtain ⟨c', rfl, rfl⟩ := q
    rw [List.getElem?_map] at hx
    cases q : st.hear[i]? with
    | none => rw [q] at hx; cases hx
    | some e =>
      rw [q] at hx
      cases hx
      obtain ⟨f1, f2, f3, f4, f5⟩ := fo i
      have dl := due_len (st.hear.take i) t
      have tl : (st.hear.take i).length ≤ st.hear.length := by rw [List.length_take]; omega
      refine ⟨by simp [LS, f3], ?_⟩
      obtain ⟨ρ2, S2, z1, z2⟩ := t_hear1 w p m r S ((due (st.hear.take i) t).foldl (sHear p.u t) st) en t a b d e (by omega)
      refine ⟨ρ2, S2, z1, ?_⟩
      rw [hI]
      have e2 := due_take st.hear t i e q
      have e3 : (due (st.hear.take (i + 1)) t).foldl (sHear p.u t) st = if e.1 = t then sHear p.u t ((due (st.hear.take i) t).foldl (sHear p.u t) st) e.2 else (due (st.hear.take i) t).foldl (sHear p.u t) st := by
        rw [e2, List.foldl_append]
        split <;> rfl
      dsimp only
      rw [e3]
      exact z2
  · rw [hI] at q
    obtain ⟨c', rfl, rfl⟩ := q
    obtain ⟨f1, f2, f3, _⟩ := fo (st.hear.map pD).length
    rw [List.length_map, List.take_length] at f3
    simp [LS, f3]
  · rw [hI] at q
    obtain ⟨c', q1, q2⟩ := q
    rw [List.length_map, List.take_length] at q1 q2
    exact ⟨c', q1, q2⟩
end K34
end

section
namespace K34
open PySem L2 FL
theorem RS.Nx.goes {r : RS} {I : Rho → Store → Prop} (h : r.Nx I) : r.Goes I := let ⟨ρ, S, e, q⟩ := h; ⟨ρ, S, .inl e, q⟩
theorem nx_seq {r : RS} {k : MS} {I J : Rho → Store → Prop} (h : r.Nx I) (g : ∀ ρ S, I ρ S → (k ρ S).Nx J) : (r.seq k).Nx J := by
  obtain ⟨ρ, S, rfl, q⟩ := h
  exact g ρ S q
theorem t_crash (w : Wire) (p : Plan) (m : Mem) (r : Run) (S : Store) (st : PS) (en t : Int) (a b c d : Sl) (hl : st.log.length ≤ 1000000) :
    q__law_play_0 (LR w p m r S.length st en (.dat (.int t)) a b c d) (LS S st) = .nx (LR w p m r S.length (sCrash m r t st) en (.dat (.int t)) a b c d) (LS S (sCrash m r t st)) := by
  have h1 : st.log.length < 16777216 := by omega
  by_cases hc : t ∈ r.c
  · cases hd : m.d with
    | true => simp [q__law_play_0, LR, LS, Run.D, Mem.D, hc, hd, h1, sCrash, evD, ev]
    | false => simp [q__law_play_0, LR, LS, Run.D, Mem.D, hc, hd, h1, sCrash, evD, ev, doneD]
  · simp [q__law_play_0, LR, LS, Run.D, Mem.D, hc, sCrash]
theorem ix_of {l : List Int} {t : Int} (h : t ∈ l) : (l.findIdx? fun y => y == t) = some (ixOf l t) := by
  cases q : l.findIdx? fun y => y == t with
  | none =>
    rw [List.findIdx?_eq_none_iff] at q
    have := q t h
    simp at this
  | some j => unfold ixOf; rw [q]; rfl
theorem t_ask (w : Wire) (p : Plan) (m : Mem) (r : Run) (S : Store) (st : PS) (en t : Int) (a b c d : Sl) (hl : st.log.length ≤ 1000000) (ha : st.arr.length + (fateAt r.a (ixOf p.tries t)).length ≤ 1000000) :
    (q__law_play_1 (LR w p m r S.length st en (.dat (.int t)) a b c d) (LS S st)).Nx fun ρ' S' => ∃ a' b', ρ' = LR w p m r S.length (sAsk p r t st) en (.dat (.int t)) a' b' c d ∧ S' = LS S (sAsk p r t st) := by
  have h1 : st.log.length < 16777216 := by omega
  by_cases hc : t ∈ p.tries
  · cases hh : st.heard with
    | true =>
      refine ⟨LR w p m r S.length st en (.dat (.int t)) a b c d, LS S st, ?_, a, b, by simp [sAsk, hh], by simp [sAsk, hh]⟩
      simp [q__law_play_1, LR, LS, Run.D, Mem.D, Plan.D, hc, hh]
    | false =>
      obtain ⟨ρ', S', z, b', q1, q2⟩ := t_send1 w p m r S { st with log := st.log ++ [ev t "ask" (ixOf p.tries t : Int)] } en t (ixOf p.tries t) b c d ha
      have es : sAsk p r t st = { st with log := st.log ++ [ev t "ask" (ixOf p.tries t : Int)], arr := st.arr ++ send (fateAt r.a (ixOf p.tries t)) t (ixOf p.tries t) } := by unfold sAsk; rw [if_pos ⟨hc, hh⟩]
      refine ⟨ρ', S', ?_, _, b', by rw [q1, es], by rw [q2, es]⟩
      rw [← z]
      simp [q__law_play_1, LR, LS, Run.D, Mem.D, Plan.D, hc, hh, h1, ix_of hc, evD, ev]
  · refine ⟨LR w p m r S.length st en (.dat (.int t)) a b c d, LS S st, ?_, a, b, by simp [sAsk, hc], by simp [sAsk, hc]⟩
    simp [q__law_play_1, LR, LS, Run.D, Mem.D, Plan.D, hc]
theorem t_give (w : Wire) (p : Plan) (m : Mem) (r : Run) (S : Store) (st : PS) (en t : Int) (a b c d : Sl) (hl : st.log.length ≤ 1000000) :
    q__law_play_2 (LR w p m r S.length st en (.dat (.int t)) a b c d) (LS S st) = .nx (LR w p m r S.length (sGive p t st) en (.dat (.int t)) a b c d) (LS S (sGive p t st)) := by
  have h1 : st.log.length < 16777216 := by omega
  by_cases hc : t = p.u
  · cases hh : st.heard with
    | true => simp [q__law_play_2, LR, LS, Plan.D, hc, hh, sGive]
    | false => simp [q__law_play_2, LR, LS, Plan.D, hc, hh, h1, sGive, evD, ev]
  · simp [q__law_play_2, LR, LS, Plan.D, hc, sGive]
theorem t_tick (w : Wire) (p : Plan) (hp : p.Ok) (m : Mem) (r : Run) {la o bb : Int} (g : Good r o bb) (ho : 0 ≤ o) (hb : 0 ≤ bb) (hla : ∀ x ∈ p.tries, x ≤ la) (S : Store) (n : Nat) (hn : n ≤ 1000) (en : Int) (a b c d : Sl) :
    (lb__law_play_8 (LR w p m r S.length (play p m r n) en (.dat (.int (n : Nat))) a b c d) (LS S (play p m r n))).Nx fun ρ' S' => ∃ a' b' c' d', ρ' = LR w p m r S.length (play p m r (n + 1)) en (.dat (.int (n : Nat))) a' b' c' d' ∧ S' = LS S (play p m r (n + 1)) := by
  have pi := play_ok (m := m) hp g ho hb hla n
  obtain ⟨b1, b2, b3⟩ := pi.small hp
  have b4 := pi.log
  obtain ⟨st, hst⟩ : ∃ st, st = play p m r n := ⟨_, rfl⟩
  have hnx : play p m r (n + 1) = step p m r n st := by rw [hst]; rfl
  rw [hnx, ← hst]
  rw [← hst] at pi b1 b2 b3 b4
  have gA := g.fa (ixOf p.tries n)
  have lg : st.log.length ≤ 300000 := by omega
  simp only [lb__law_play_8, ev_seq, t_crash w p m r S st en n a b c d (by omega), seq_nx]
  have k1 : (sCrash m r n st).arr = st.arr ∧ (sCrash m r n st).hear = st.hear ∧ (sCrash m r n st).log.length ≤ st.log.length + 1 ∧ (sCrash m r n st).told = st.told := by
    unfold sCrash; split <;> simp
  obtain ⟨s1, hs1⟩ : ∃ s1, s1 = sCrash m r n st := ⟨_, rfl⟩
  rw [← hs1] at k1 ⊢
  obtain ⟨k11, k12, k13, k14⟩ := k1
  refine nx_seq (t_ask w p m r S s1 en n a b c d (by omega) (by rw [k11]; omega)) ?_
  rintro ρ2 S2 ⟨a2, bb2, rfl, rfl⟩
  have k2 : (sAsk p r n s1).arr.length ≤ st.arr.length + 5 ∧ (sAsk p r n s1).hear = st.hear ∧ (sAsk p r n s1).log.length ≤ st.log.length + 2 := by
    unfold sAsk; split
    · refine ⟨?_, k12, ?_⟩
      · simp only [List.length_append, send, List.length_map, k11]; omega
      · simp; omega
    · exact ⟨by rw [k11]; omega, k12, by omega⟩
  have e2 : (sAsk p r n s1).arr.length ≤ 40 := by
    -- the bound of the next state holds of this one: nothing is added later
    have z := play_ok (m := m) hp g ho hb hla (n + 1)
    obtain ⟨z1, _, _⟩ := z.small hp
    have e : (play p m r (n + 1)).arr = (sAsk p r n s1).arr := by
      rw [hnx, hs1]
      show (sGive p n (sHears p n (sArrs m r n (sAsk p r n (sCrash m r n st))))).arr = _
      have f1 : ∀ s, (sGive p n s).arr = s.arr := fun s => by unfold sGive; split <;> rfl
      have f2 : ∀ s, (sHears p n s).arr = s.arr := fun s => (fold_hear _ s).1
      have f3 : ∀ s, (sArrs m r n s).arr = s.arr := fun s => by
        have f4 : ∀ (l : List Int) (s : PS), (l.foldl (sArr m r n) s).arr = s.arr := by
          intro l
          induction l with
          | nil => intro s; rfl
          | cons x l ih => intro s; rw [List.foldl_cons, ih]; rfl
        exact f4 _ s
      rw [f1, f2, f3]
    rw [e] at z1
    exact z1
  obtain ⟨s2, hs2⟩ : ∃ s2, s2 = sAsk p r n s1 := ⟨_, rfl⟩
  rw [← hs2] at k2 e2 ⊢
  obtain ⟨k21, k22, k23⟩ := k2
  simp only [ev_seq]
  refine nx_seq (t_arrs w p m r S s2 en n a2 bb2 c d g e2 (by rw [k22]; omega) (by omega)) ?_
  rintro ρ3 S3 ⟨b3', c3, d3, rfl, rfl⟩
  obtain ⟨B, hB⟩ : ∃ B : Int, (∀ e ∈ s2.hear, e.1 ≤ B) ∧ (n : Int) + bb ≤ B := by
    generalize s2.hear = l
    induction l with
    | nil => exact ⟨n + bb, by simp, Int.le_refl _⟩
    | cons e l ih =>
      obtain ⟨B, b1, b2⟩ := ih
      by_cases he : e.1 ≤ B
      · exact ⟨B, fun x hx => by rcases List.mem_cons.mp hx with h | h; (· rw [h]; exact he); (· exact b1 x h), b2⟩
      · exact ⟨e.1, fun x hx => by rcases List.mem_cons.mp hx with h | h; (· rw [h]; exact Int.le_refl _); (· have := b1 x h; omega), by omega⟩
  obtain ⟨f1, f2, f3, f4, f5, f6⟩ := fold_arr (m := m) (t := (n : Int)) (B := B) g (due s2.arr n) s2 hB.1 (fun _ => hB.2)
  have dl := due_len s2.arr n
  obtain ⟨s3, hs3⟩ : ∃ s3, s3 = sArrs m r n s2 := ⟨_, rfl⟩
  have hs3' : (due s2.arr n).foldl (sArr m r n) s2 = s3 := by rw [hs3]; rfl
  rw [hs3'] at f1 f2 f3 f4 f5 f6
  rw [← hs3]
  have hl3 : s2.hear.length = st.hear.length := by rw [k22]
  refine nx_seq (t_hears w p m r S s3 en n a2 b3' c3 d3 (by omega) (by omega)) ?_
  rintro ρ4 S4 ⟨c4, rfl, rfl⟩
  obtain ⟨g1, g2, g3, g4, g5⟩ := fold_hear (u := p.u) (t := (n : Int)) (due s3.hear n) s3
  have dl3 := due_len s3.hear n
  obtain ⟨s4, hs4⟩ : ∃ s4, s4 = sHears p n s3 := ⟨_, rfl⟩
  have hs4' : (due s3.hear n).foldl (sHear p.u n) s3 = s4 := by rw [hs4]; rfl
  rw [hs4'] at g1 g2 g3 g4 g5
  rw [← hs4]
  refine ⟨_, _, t_give w p m r S s4 en n a2 b3' c4 d3 (by omega), a2, b3', c4, d3, ?_, ?_⟩
  · rw [hs4, hs3, hs2, hs1]; rfl
  · rw [hs4, hs3, hs2, hs1]; rfl
end K34
end

section
namespace K34
open PySem L2 FL
theorem t_play_l (w : Wire) (p : Plan) (hp : p.Ok) (m : Mem) (r : Run) {la o bb : Int} (g : Good r o bb) (ho : 0 ≤ o) (hb : 0 ≤ bb) (hla : ∀ x ∈ p.tries, x ≤ la) (S : Store) (en : Int) (h0 : 0 ≤ en) (h1 : en ≤ 1000) :
    (l__law_play_9 (LR w p m r S.length st0 en .un .un .un .un .un) (LS S st0)).Nx fun ρ' S' => ∃ t' a' b' c' d', ρ' = LR w p m r S.length (play p m r en.toNat) en t' a' b' c' d' ∧ S' = LS S (play p m r en.toNat) := by
  obtain ⟨I, hI⟩ : ∃ I : Nat → Rho → Store → Prop, I = fun n ρ' S' => ∃ t' a' b' c' d', ρ' = LR w p m r S.length (play p m r n) en t' a' b' c' d' ∧ S' = LS S (play p m r n) := ⟨_, rfl⟩
  refine RS.Nx.imp (I := I en.toNat) ?_ (fun ρ S' q => by rw [hI] at q; exact q)
  simp only [l__law_play_9, ev_for, ev_rng1, ev_cons, ev_var, LR, List.getElem?_cons_succ, List.getElem?_cons_zero, bind_ok, q_c1, ev_nil, q_c2, k_rng h0 (show en ≤ 16777216 by omega), stm_ok, q_for]
  refine rng_T (b := lb__law_play_8) en.toNat I (fun n hn ρ S' q => ?_) (by rw [hI]; exact ⟨_, _, _, _, _, rfl, rfl⟩)
  rw [hI] at q
  obtain ⟨t', a', b', c', d', rfl, rfl⟩ := q
  obtain ⟨ρ2, S2, z, a2, b2, c2, d2, q1, q2⟩ := t_tick w p hp m r g ho hb hla S n (by omega) en a' b' c' d'
  refine ⟨ρ2, S2, .inl z, ?_⟩
  rw [hI]
  exact ⟨_, a2, b2, c2, d2, q1, q2⟩
def endOf (w : Wire) (p : Plan) (la : Int) : Int := 1 + (if la + w.o + w.b > p.u then la + w.o + w.b else p.u)
def crashD : D → D
  | .int t => evD (ev t "crash" (-1))
  | d => d
def late (en : Int) : D → Bool
  | .int t => decide (en ≤ t)
  | _ => false
theorem crash_list (en : Int) : ∀ c : List Int, ((c.map D.int).filter (late en)).map crashD = ((c.filter fun t => decide (en ≤ t)).map fun t => ev t "crash" (-1)).map evD
  | [] => rfl
  | x :: c => by
    rw [List.map_cons, List.filter_cons, List.filter_cons]
    show (if decide (en ≤ x) = true then _ else _ : List D).map crashD = _
    cases decide (en ≤ x) with
    | true => simp only [if_pos]; rw [List.map_cons, crash_list en c]; rfl
    | false => rw [if_neg (by simp), crash_list en c]; simp
/-- the log as the law tells it -/
def lawLog (w : Wire) (p : Plan) (m : Mem) (r : Run) (la : Int) : List Ev := (play p m r (endOf w p la).toNat).log ++ (r.c.filter fun t => decide (endOf w p la ≤ t)).map fun t => ev t "crash" (-1)
theorem bel_evs {n : Nat} : ∀ {l : List Ev}, BelL n (l.map evD)
  | [] => belL_n
  | x :: l => by rw [List.map_cons, belL_c]; exact ⟨by simp [evD], bel_evs⟩
theorem t_law_play (w : Wire) (hw : w.Ok) (p : Plan) (hp : p.Ok) (m : Mem) (r : Run) (hr : r.Ok w p m) (hm : m.Ok) {la : Int} (hla : p.tries[p.tries.length - 1]? = some la) (hla2 : ∀ x ∈ p.tries, x ≤ la) (S : Store) :
    m__law_play [w.D, p.D, m.D, r.D] S = .ok (.tup ((lawLog w p m r la).map evD)) S ∧ (lawLog w p m r la).length ≤ 1000000 := by
  have g := hr.good hw
  have hpos := hp.pos
  have rla := hp.rng la (List.mem_of_getElem? hla)
  have hu := hp.u
  have hlu := hp.last la hla
  obtain ⟨⟨w1, w2⟩, ⟨w3, w4⟩, _, _⟩ := id hw
  obtain ⟨en, hen⟩ : ∃ en, en = endOf w p la := ⟨_, rfl⟩
  have en0 : 0 ≤ en ∧ en ≤ 1000 := by rw [hen]; unfold endOf; split <;> omega
  obtain ⟨ρ', S', e, t', a', b', c', d', rfl, rfl⟩ := t_play_l w p hp m r g w1 w3 hla2 S en en0.1 en0.2
  have pi := play_ok (m := m) hp g w1 w3 hla2 en.toNat
  have b4 := pi.log
  have hcl := hr.cl
  have hmc := hm.c
  obtain ⟨st, hst⟩ : ∃ st, st = play p m r en.toNat := ⟨_, rfl⟩
  rw [← hst] at e b4
  have b5 : st.log.length ≤ 300000 := by omega
  have ela : atI (p.tries.map D.int) ((p.tries.length : Int) - 1) = some (.int la) := by
    rw [show (p.tries.length : Int) - 1 = ((p.tries.length - 1 : Nat) : Int) by omega]
    exact at_ints hla
  have z := lc_filt (P := fun _ => True) (tg := gN 11) (tt := mB (mOp bGe (mVar 11) (mVar 10))) (el := mTup (mCons (mVar 11) (mCons (mC (.str "crash")) (mCons (mNeg (mC (.int 1))) mNil)))) (n := S.length + 3) (ρ := wipeR (LR w p m r S.length st en t' a' b' c' d') [11]) (late en) crashD (fun _ _ _ => trivial) (r.c.map .int) [] (LS S st ++ [.lst []]) trivial (fun d hd S => by
    obtain ⟨x, _, rfl⟩ := List.mem_map.mp hd
    refine ⟨_, rfl, by simp [wipeR, LR, late], fun _ => by simp [wipeR, LR, crashD, evD, ev]⟩) (by simp [LS]) (by simp; omega)
  rw [List.nil_append, crash_list] at z
  have eL : lawLog w p m r la = st.log ++ (r.c.filter fun t => decide (en ≤ t)).map fun t => ev t "crash" (-1) := by
    unfold lawLog; rw [← hen, ← hst]
  have fl := List.length_filter_le (fun t => decide (en ≤ t)) r.c
  have hsz : st.log.length + (r.c.filter fun t => decide (en ≤ t)).length ≤ 16777216 := by omega
  refine ⟨?_, by rw [eL]; simp; omega⟩
  rw [eL]
  have hen2 : (1 : Int) + (if la + w.o + w.b > p.u then la + w.o + w.b else p.u) = en := by rw [hen]; rfl
  simp [LR, LS, Wire.D, Plan.D, Mem.D, Run.D, st0, doneD] at e z hen2
  simp [m__law_play, rho0, b__law_play, Wire.D, Plan.D, Mem.D, Run.D, ela, hen2, e, c__law_play_10, z, hsz]
  refine gc_app ?_
  rw [bel_t, belL_app]
  exact ⟨bel_evs, by rw [← List.map_map]; exact bel_evs⟩
end K34
end

section
namespace K34
open PySem L2 FL
/-! ### the program's own play -/
/-- the fields that stand -/
structure CC where
  tr : D
  un : D
  ke : D
  du : D
  ak : D
  te : D
  cr : D
  st : D
  la : D
def flds (L : Nat) (c : CC) (dn to ha wt sp : D) : List (Str × D) :=
  [("tries", c.tr), ("until", c.un), ("keep", c.ke), ("durable", c.du), ("asks", c.ak), ("tells", c.te), ("crashes", c.cr), ("stops", c.st), ("last", c.la), ("arriving", .ref (L + 1)), ("hearing", .ref (L + 2)), ("done_at", dn), ("told", to), ("has_answer", ha), ("waiting", wt), ("stopped_at", sp), ("history", .ref (L + 3))]
section
variable {L : Nat} {c : CC} {dn to ha wt sp x : D}
@[simp] theorem fl_len : (flds L c dn to ha wt sp).length = 17 := rfl
@[simp] theorem lk1 : (flds L c dn to ha wt sp).lookup ("tries" : Str) = some c.tr := by rfl
@[simp] theorem lk2 : (flds L c dn to ha wt sp).lookup ("until" : Str) = some c.un := by rfl
@[simp] theorem lk3 : (flds L c dn to ha wt sp).lookup ("keep" : Str) = some c.ke := by rfl
@[simp] theorem lk4 : (flds L c dn to ha wt sp).lookup ("durable" : Str) = some c.du := by rfl
@[simp] theorem lk5 : (flds L c dn to ha wt sp).lookup ("asks" : Str) = some c.ak := by rfl
@[simp] theorem lk6 : (flds L c dn to ha wt sp).lookup ("tells" : Str) = some c.te := by rfl
@[simp] theorem lk7 : (flds L c dn to ha wt sp).lookup ("crashes" : Str) = some c.cr := by rfl
@[simp] theorem lk8 : (flds L c dn to ha wt sp).lookup ("stops" : Str) = some c.st := by rfl
@[simp] theorem lk9 : (flds L c dn to ha wt sp).lookup ("last" : Str) = some c.la := by rfl
@[simp] theorem lk10 : (flds L c dn to ha wt sp).lookup ("arriving" : Str) = some (.ref (L + 1)) := by rfl
@[simp] theorem lk11 : (flds L c dn to ha wt sp).lookup ("hearing" : Str) = some (.ref (L + 2)) := by rfl
@[simp] theorem lk12 : (flds L c dn to ha wt sp).lookup ("done_at" : Str) = some dn := by rfl
@[simp] theorem lk13 : (flds L c dn to ha wt sp).lookup ("told" : Str) = some to := by rfl
@[simp] theorem lk14 : (flds L c dn to ha wt sp).lookup ("has_answer" : Str) = some ha := by rfl
@[simp] theorem lk15 : (flds L c dn to ha wt sp).lookup ("waiting" : Str) = some wt := by rfl
@[simp] theorem lk16 : (flds L c dn to ha wt sp).lookup ("stopped_at" : Str) = some sp := by rfl
@[simp] theorem lk17 : (flds L c dn to ha wt sp).lookup ("history" : Str) = some (.ref (L + 3)) := by rfl
@[simp] theorem lm1 : (flds L c dn to ha wt sp).lookup ("play_all" : Str) = none := by rfl
@[simp] theorem lm2 : (flds L c dn to ha wt sp).lookup ("play_tick" : Str) = none := by rfl
@[simp] theorem lm3 : (flds L c dn to ha wt sp).lookup ("play_crash" : Str) = none := by rfl
@[simp] theorem lm4 : (flds L c dn to ha wt sp).lookup ("play_ask" : Str) = none := by rfl
@[simp] theorem lm5 : (flds L c dn to ha wt sp).lookup ("play_arrivals" : Str) = none := by rfl
@[simp] theorem lm6 : (flds L c dn to ha wt sp).lookup ("play_tell" : Str) = none := by rfl
@[simp] theorem lm7 : (flds L c dn to ha wt sp).lookup ("play_replies" : Str) = none := by rfl
@[simp] theorem pu12 : putD "done_at" x (flds L c dn to ha wt sp) = flds L c x to ha wt sp := by rfl
@[simp] theorem pu13 : putD "told" x (flds L c dn to ha wt sp) = flds L c dn x ha wt sp := by rfl
@[simp] theorem pu14 : putD "has_answer" x (flds L c dn to ha wt sp) = flds L c dn to x wt sp := by rfl
@[simp] theorem pu15 : putD "waiting" x (flds L c dn to ha wt sp) = flds L c dn to ha x sp := by rfl
@[simp] theorem pu16 : putD "stopped_at" x (flds L c dn to ha wt sp) = flds L c dn to ha wt x := by rfl
end
end K34
end

section
namespace K34
open PySem L2 FL
theorem putKD_none {kvs : List (Key × D)} {k : Key} {d : D} (h : valD kvs k = none) : putKD kvs k d = kvs ++ [(k, d)] := by
  unfold putKD
  rw [if_neg]
  intro z
  rw [List.any_eq_true] at z
  obtain ⟨kv, h1, h2⟩ := z
  unfold valD at h
  rw [Option.map_eq_none_iff, List.find?_eq_none] at h
  exact h kv h1 h2
theorem valD_app {kvs : List (Key × D)} {k k' : Key} {d : D} (h : valD kvs k = none) : valD (kvs ++ [(k, d)]) k' = if k' = k then some d else valD kvs k' := by
  unfold valD at h ⊢
  rw [List.find?_append]
  by_cases e : k' = k
  · subst e
    rw [Option.map_eq_none_iff] at h
    rw [h, if_pos rfl]
    simp
  · rw [if_neg e]
    cases q : kvs.find? fun kv => decide (kv.1 = k') with
    | none =>
      have : ¬ k = k' := fun z => e z.symm
      simp [this]
    | some kv => rfl
/-- the lists that a dict holds: of each tick what is due at it -/
def BkOk (L : Nat) (own : Nat → Option (Bool × Int)) (sd : Bool) (kv : List (Key × D)) (J : Store) (l : List (Int × Int)) : Prop :=
  kv.length ≤ l.length ∧ ∀ t : Int, (valD kv (.inl t) = none ∧ due l t = []) ∨ ∃ j, valD kv (.inl t) = some (.ref (L + 4 + j)) ∧ own j = some (sd, t) ∧ J[j]? = some (.lst ((due l t).map .int))
def Bks (L : Nat) (ka kb : List (Key × D)) (J : Store) (la lb : List (Int × Int)) : Prop :=
  ∃ own : Nat → Option (Bool × Int), BkOk L own false ka J la ∧ BkOk L own true kb J lb ∧ ∀ j, J.length ≤ j → own j = none
theorem due_app (l : List (Int × Int)) (t s i : Int) : due (l ++ [(s, i)]) t = due l t ++ (if s = t then [i] else []) := by
  unfold due
  rw [List.filter_append, List.map_append]
  congr 1
  by_cases c : s = t <;> simp [c]
theorem BkOk.mono {L : Nat} {own : Nat → Option (Bool × Int)} {sd : Bool} {kv : List (Key × D)} {J J' : Store} {l : List (Int × Int)} (h : BkOk L own sd kv J l) {own' : Nat → Option (Bool × Int)} (ho : ∀ j t, own j = some (sd, t) → own' j = some (sd, t)) (hJ : ∀ j o t, own j = some (sd, t) → J[j]? = some o → J'[j]? = some o) : BkOk L own' sd kv J' l :=
  ⟨h.1, fun t => (h.2 t).imp id fun ⟨j, h1, h2, h3⟩ => ⟨j, h1, ho j t h2, hJ j _ t h2 h3⟩⟩
theorem Bks.nil {L : Nat} : Bks L [] [] [] [] [] := ⟨fun _ => none, ⟨Nat.le_refl _, fun _ => .inl ⟨rfl, rfl⟩⟩, ⟨Nat.le_refl _, fun _ => .inl ⟨rfl, rfl⟩⟩, fun _ _ => rfl⟩
theorem Bks.app {L : Nat} {ka kb : List (Key × D)} {J : Store} {la lb : List (Int × Int)} (h : Bks L ka kb J la lb) (K : Store) : Bks L ka kb (J ++ K) la lb := by
  obtain ⟨own, h1, h2, h3⟩ := h
  have g : ∀ j o, J[j]? = some o → (J ++ K)[j]? = some o := fun j o e => by
    rw [List.getElem?_append_left (List.getElem?_eq_some_iff.mp e).1]; exact e
  exact ⟨own, h1.mono (fun _ _ e => e) (fun j o _ _ e => g j o e), h2.mono (fun _ _ e => e) (fun j o _ _ e => g j o e), fun j hj => h3 j (by rw [List.length_append] at hj; omega)⟩
theorem Bks.swap {L : Nat} {ka kb : List (Key × D)} {J : Store} {la lb : List (Int × Int)} (h : Bks L ka kb J la lb) : Bks L kb ka J lb la := by
  obtain ⟨own, h1, h2, h3⟩ := h
  refine ⟨fun j => (own j).map fun p => (!p.1, p.2), ?_, ?_, fun j hj => by dsimp only; rw [h3 j hj]; rfl⟩
  · exact ⟨h2.1, fun t => (h2.2 t).imp id fun ⟨j, e1, e2, e3⟩ => ⟨j, e1, by dsimp only; rw [e2]; rfl, e3⟩⟩
  · exact ⟨h1.1, fun t => (h1.2 t).imp id fun ⟨j, e1, e2, e3⟩ => ⟨j, e1, by dsimp only; rw [e2]; rfl, e3⟩⟩
theorem Bks.look {L : Nat} {ka kb : List (Key × D)} {J : Store} {la lb : List (Int × Int)} (h : Bks L ka kb J la lb) (t : Int) : (valD ka (.inl t) = none ∧ due la t = []) ∨ ∃ j, valD ka (.inl t) = some (.ref (L + 4 + j)) ∧ J[j]? = some (.lst ((due la t).map .int)) := by
  obtain ⟨own, h1, h2, h3⟩ := h
  exact (h1.2 t).imp id fun ⟨j, e1, _, e3⟩ => ⟨j, e1, e3⟩
theorem Bks.add_new {L : Nat} {ka kb : List (Key × D)} {J : Store} {la lb : List (Int × Int)} (h : Bks L ka kb J la lb) {t i : Int} (hn : valD ka (.inl t) = none) :
    Bks L (ka ++ [(.inl t, .ref (L + 4 + J.length))]) kb (J ++ [.lst [.int i]]) (la ++ [(t, i)]) lb := by
  obtain ⟨own, h1, h2, h3⟩ := h
  have g : ∀ j o, J[j]? = some o → (J ++ [O.lst [.int i]])[j]? = some o := fun j o e => by
    rw [List.getElem?_append_left (List.getElem?_eq_some_iff.mp e).1]; exact e
  have hd : due la t = [] := by
    rcases h1.2 t with ⟨_, z⟩ | ⟨j, z, _⟩
    · exact z
    · rw [hn] at z; cases z
  have nj : ∀ j p, own j = some p → j ≠ J.length := fun j p e z => by rw [z, h3 _ (Nat.le_refl _)] at e; cases e
  refine ⟨fun j => if j = J.length then some (false, t) else own j, ⟨?_, fun s => ?_⟩, ⟨h2.1, fun s => ?_⟩, fun j hj => ?_⟩
  · rw [List.length_append, List.length_append]
    have := h1.1
    simp
    exact this
  · rw [valD_app hn, due_app]
    by_cases e : s = t
    · subst e
      rw [if_pos rfl, if_pos rfl]
      exact .inr ⟨J.length, rfl, if_pos rfl, by rw [hd]; simp⟩
    · rw [if_neg (by intro z; cases z; exact e rfl), if_neg (fun z => e z.symm), List.append_nil]
      exact (h1.2 s).imp id fun ⟨j, e1, e2, e3⟩ => ⟨j, e1, by dsimp only; rw [if_neg (nj j _ e2)]; exact e2, g j _ e3⟩
  · exact (h2.2 s).imp id fun ⟨j, e1, e2, e3⟩ => ⟨j, e1, by dsimp only; rw [if_neg (nj j _ e2)]; exact e2, g j _ e3⟩
  · rw [List.length_append, List.length_singleton] at hj
    show (if j = J.length then _ else _) = none
    rw [if_neg (by omega)]
    exact h3 j (by omega)
theorem Bks.add_old {L : Nat} {ka kb : List (Key × D)} {J : Store} {la lb : List (Int × Int)} (h : Bks L ka kb J la lb) {t i : Int} {j : Nat} (hj : valD ka (.inl t) = some (.ref (L + 4 + j))) :
    Bks L ka kb (J.set j (.lst ((due la t).map .int ++ [.int i]))) (la ++ [(t, i)]) lb := by
  obtain ⟨own, h1, h2, h3⟩ := h
  obtain ⟨oj, gj⟩ : own j = some (false, t) ∧ J[j]? = some (.lst ((due la t).map .int)) := by
    rcases h1.2 t with ⟨z, _⟩ | ⟨j', e1, e2, e3⟩
    · rw [hj] at z; cases z
    · rw [hj] at e1
      have : j = j' := by
        have := D.ref.inj (Option.some.inj e1)
        omega
      subst this
      exact ⟨e2, e3⟩
  have lj := (List.getElem?_eq_some_iff.mp gj).1
  refine ⟨own, ⟨?_, fun s => ?_⟩, ⟨h2.1, fun s => ?_⟩, fun j hj => h3 j (by rw [List.length_set] at hj; exact hj)⟩
  · have := h1.1
    rw [List.length_append]
    omega
  · rw [due_app]
    by_cases e : s = t
    · subst e
      rw [if_pos rfl]
      refine .inr ⟨j, hj, oj, ?_⟩
      rw [List.getElem?_set_self lj]
      simp
    · rw [if_neg (fun z => e z.symm), List.append_nil]
      refine (h1.2 s).imp id fun ⟨j', e1, e2, e3⟩ => ⟨j', e1, e2, ?_⟩
      have : j ≠ j' := fun z => by
        subst z
        rw [oj] at e2
        cases e2
        exact e rfl
      rw [List.getElem?_set_ne this]
      exact e3
  · refine (h2.2 s).imp id fun ⟨j', e1, e2, e3⟩ => ⟨j', e1, e2, ?_⟩
    have : j ≠ j' := fun z => by
      subst z
      rw [oj] at e2
      cases e2
    rw [List.getElem?_set_ne this]
    exact e3
end K34
end

section
namespace K34
open PySem L2 FL
/-- the store of a play -/
abbrev CF (S : Store) (c : CC) (st : PS) (wt sp : D) (ka kb : List (Key × D)) (J : Store) : Store :=
  S ++ (.ins 5 (flds S.length c (doneD st.done) (.int (st.told : Int)) (.bl st.heard) wt sp) :: .dct ka :: .dct kb :: .lst (st.log.map evD) :: J)
theorem t_fate_of (fs : List (List Int)) (i : Nat) (S : Store) : m_fate_of [tF fs, .int (i : Nat)] S = .ok (tI (fateAt fs i)) S := by
  cases q : fs[i]? with
  | none =>
    have h : ¬ i < fs.length := fun h => by rw [List.getElem?_eq_getElem h] at q; cases q
    have e : fateAt fs i = [0] := by unfold fateAt; rw [q]; rfl
    rw [e]
    simp [m_fate_of, rho0, b_fate_of, h]
  | some f =>
    have h : i < fs.length := (List.getElem?_eq_some_iff.mp q).1
    have e : fateAt fs i = f := by unfold fateAt; rw [q]; rfl
    have ea : atI (fs.map tI) (i : Int) = some (tI f) := x_at (by omega) (by simp [q])
    rw [e]
    simp only [tI] at ea
    simp [m_fate_of, rho0, b_fate_of, h, ea]
theorem c_crash (S : Store) (c : CC) (m : Mem) (r : Run) (st : PS) (wt sp : D) (ka kb : List (Key × D)) (J : Store) (t : Int) (hd : c.du = .bl m.d) (hc : t ∈ r.c) (hl : st.log.length ≤ 1000000) :
    m_CallPlay__play_crash [.ref S.length, .int t] (CF S c st wt sp ka kb J) = .ok .non (CF S c (sCrash m r t st) wt sp ka kb J) := by
  have h1 : st.log.length < 16777216 := by omega
  cases hm : m.d with
  | true => simp [m_CallPlay__play_crash, rho0, b_CallPlay__play_crash, CF, kFld, hd, hm, h1, sCrash, hc, evD, ev]
  | false => simp [m_CallPlay__play_crash, rho0, b_CallPlay__play_crash, CF, kFld, setFld, hd, hm, h1, sCrash, hc, evD, ev, doneD]
@[simp] theorem cf_get {S K : Store} {a b c d : O} {j : Nat} : getL (S ++ (a :: b :: c :: d :: K)) (S.length + 4 + j) = getL K j := by
  rw [show S.length + 4 + j = S.length + (4 + j) by omega, st_getk]
  unfold getL
  rw [show 4 + j = j + 1 + 1 + 1 + 1 by omega]
  simp only [List.getElem?_cons_succ]
@[simp] theorem cf_set {S K : Store} {a b c d o : O} {j : Nat} : (S ++ (a :: b :: c :: d :: K)).set (S.length + 4 + j) o = S ++ (a :: b :: c :: d :: K.set j o) := by
  rw [show S.length + 4 + j = S.length + (4 + j) by omega, st_setk]
  rw [show 4 + j = j + 1 + 1 + 1 + 1 by omega]
  simp only [List.set_cons_succ]
theorem getL_of {S : Store} {n : Nat} {l : List D} (h : S[n]? = some (.lst l)) : getL S n = some l := by unfold getL; rw [h]
theorem add_a (S : Store) (c : CC) (st : PS) (wt sp : D) (ka kb : List (Key × D)) (J : Store) (h : Bks S.length ka kb J st.arr st.hear) (t k o : Int) (hl : st.arr.length ≤ 1000000) :
    ∃ ka' J', lb_CallPlay__play_ask_0 [.dat (.ref S.length), .dat (.int t), .dat (.int k), .dat (.int o)] (CF S c st wt sp ka kb J) = .nx [.dat (.ref S.length), .dat (.int t), .dat (.int k), .dat (.int o)] (CF S c { st with arr := st.arr ++ [(t + o, k)] } wt sp ka' kb J') ∧
      Bks S.length ka' kb J' (st.arr ++ [(t + o, k)]) st.hear := by
  have hk : ka.length < 16777216 := by obtain ⟨own, h1, _⟩ := h; have := h1.1; omega
  have dl := due_len st.arr (t + o)
  rcases h.look (t + o) with ⟨hn, hd⟩ | ⟨j, hj, gj⟩
  · refine ⟨_, _, ?_, h.add_new (i := k) hn⟩
    simp [lb_CallPlay__play_ask_0, CF, kFld, kSD1, isDct, kSD2, kSD3, kD, hk, hn, putKD_none hn]
    omega
  · have z := (h.app [.lst []]).add_old (i := k) hj
    refine ⟨_, _, ?_, z⟩
    have lj := (List.getElem?_eq_some_iff.mp gj).1
    have gl : getL (J ++ [.lst []]) j = some ((due st.arr (t + o)).map .int) := by rw [get_app lj]; exact getL_of gj
    have hs : (due st.arr (t + o)).length < 16777216 := by omega
    simp [lb_CallPlay__play_ask_0, CF, kFld, kSD1, isDct, kSD2, kSD3, kD, hk, hj, gl, hs]
/-- self.hearing.setdefault(t, []).append(i) -/
theorem add_b (S : Store) (c : CC) (st : PS) (wt sp : D) (ka kb : List (Key × D)) (J : Store) (h : Bks S.length ka kb J st.arr st.hear) (t k o : Int) (x2 : Sl) (hl : st.hear.length ≤ 1000000) :
    ∃ kb' J', lb_CallPlay__play_tell_0 [.dat (.ref S.length), .dat (.int t), x2, .dat (.int k), .dat (.int o)] (CF S c st wt sp ka kb J) = .nx [.dat (.ref S.length), .dat (.int t), x2, .dat (.int k), .dat (.int o)] (CF S c { st with hear := st.hear ++ [(t + o, k)] } wt sp ka kb' J') ∧
      Bks S.length ka kb' J' st.arr (st.hear ++ [(t + o, k)]) := by
  have h' := h.swap
  have hk : kb.length < 16777216 := by obtain ⟨own, h1, _⟩ := h'; have := h1.1; omega
  have dl := due_len st.hear (t + o)
  rcases h'.look (t + o) with ⟨hn, hd⟩ | ⟨j, hj, gj⟩
  · refine ⟨_, _, ?_, (h'.add_new (i := k) hn).swap⟩
    simp [lb_CallPlay__play_tell_0, CF, kFld, kSD1, isDct, kSD2, kSD3, kD, hk, hn, putKD_none hn]
    omega
  · have z := ((h'.app [.lst []]).add_old (i := k) hj).swap
    refine ⟨_, _, ?_, z⟩
    have lj := (List.getElem?_eq_some_iff.mp gj).1
    have gl : getL (J ++ [.lst []]) j = some ((due st.hear (t + o)).map .int) := by rw [get_app lj]; exact getL_of gj
    have hs : (due st.hear (t + o)).length < 16777216 := by omega
    simp [lb_CallPlay__play_tell_0, CF, kFld, kSD1, isDct, kSD2, kSD3, kD, hk, hj, gl, hs]
theorem c_send_a (S : Store) (c : CC) (st : PS) (wt sp : D) (ka kb : List (Key × D)) (J : Store) (h : Bks S.length ka kb J st.arr st.hear) (r : Run) (hc : c.ak = tF r.a) (t : Int) (k : Nat) (x : Sl) (hl : st.arr.length + (fateAt r.a k).length ≤ 1000000) :
    (l_CallPlay__play_ask_1 [.dat (.ref S.length), .dat (.int t), .dat (.int (k : Nat)), x] (CF S c st wt sp ka kb J)).Nx fun ρ' S' => ∃ ka' J', S' = CF S c { st with arr := st.arr ++ send (fateAt r.a k) t k } wt sp ka' kb J' ∧ Bks S.length ka' kb J' (st.arr ++ send (fateAt r.a k) t k) st.hear := by
  obtain ⟨I, hI⟩ : ∃ I : Nat → Rho → Store → Prop, I = fun i ρ' S' => ∃ ka' J' x', ρ' = [.dat (.ref S.length), .dat (.int t), .dat (.int (k : Nat)), x'] ∧ S' = CF S c { st with arr := st.arr ++ send ((fateAt r.a k).take i) t k } wt sp ka' kb J' ∧ Bks S.length ka' kb J' (st.arr ++ send ((fateAt r.a k).take i) t k) st.hear := ⟨_, rfl⟩
  have ef := t_fate_of r.a k (CF S c st wt sp ka kb J)
  rw [← hc] at ef
  simp only [l_CallPlay__play_ask_1, ev_for, ev_iter, ev_cb, ev_cons, ev_fld, ev_var, List.getElem?_cons_succ, List.getElem?_cons_zero, bind_ok, kFld, st_ix0, List.mem_singleton, if_true, lk5, q_c1, ev_nil, q_c2, ef, tI, it_t, stm_ok, q_for, CF]
  refine RS.Nx.imp (items_T (b := lb_CallPlay__play_ask_0) ((fateAt r.a k).map .int) I (fun i d hd ρ S' q => ?_) (by rw [hI]; exact ⟨ka, J, x, rfl, by simp [send], by simpa [send] using h⟩)) (fun ρ S' q => ?_)
  · rw [hI] at q
    obtain ⟨ka', J', x', rfl, rfl, q3⟩ := q
    rw [List.getElem?_map] at hd
    cases q : (fateAt r.a k)[i]? with
    | none => rw [q] at hd; cases hd
    | some o =>
      rw [q] at hd
      cases hd
      have hi := (List.getElem?_eq_some_iff.mp q).1
      have e1 : st.arr ++ send ((fateAt r.a k).take (i + 1)) t k = st.arr ++ send ((fateAt r.a k).take i) t k ++ [(t + o, (k : Int))] := by
        unfold send
        rw [List.take_add_one, q]
        simp
      obtain ⟨ka2, J2, z1, z2⟩ := add_a S c { st with arr := st.arr ++ send ((fateAt r.a k).take i) t k } wt sp ka' kb J' q3 t k o (by rw [send, List.length_append, List.length_map, List.length_take]; omega)
      refine ⟨_, _, .inl z1, ?_⟩
      rw [hI]
      exact ⟨ka2, J2, _, rfl, by rw [e1], by rw [e1]; exact z2⟩
  · rw [hI] at q
    obtain ⟨ka', J', x', _, q2, q3⟩ := q
    rw [List.length_map, List.take_length] at q2 q3
    exact ⟨ka', J', q2, q3⟩
theorem c_send_b (S : Store) (c : CC) (st : PS) (wt sp : D) (ka kb : List (Key × D)) (J : Store) (h : Bks S.length ka kb J st.arr st.hear) (r : Run) (hc : c.te = tF r.b) (t : Int) (k : Nat) (x2 x : Sl) (hl : st.hear.length + (fateAt r.b k).length ≤ 1000000) :
    (l_CallPlay__play_tell_1 [.dat (.ref S.length), .dat (.int t), x2, .dat (.int (k : Nat)), x] (CF S c st wt sp ka kb J)).Nx fun ρ' S' => ∃ kb' J', S' = CF S c { st with hear := st.hear ++ send (fateAt r.b k) t k } wt sp ka kb' J' ∧ Bks S.length ka kb' J' st.arr (st.hear ++ send (fateAt r.b k) t k) := by
  obtain ⟨I, hI⟩ : ∃ I : Nat → Rho → Store → Prop, I = fun i ρ' S' => ∃ kb' J' x', ρ' = [.dat (.ref S.length), .dat (.int t), x2, .dat (.int (k : Nat)), x'] ∧ S' = CF S c { st with hear := st.hear ++ send ((fateAt r.b k).take i) t k } wt sp ka kb' J' ∧ Bks S.length ka kb' J' st.arr (st.hear ++ send ((fateAt r.b k).take i) t k) := ⟨_, rfl⟩
  have ef := t_fate_of r.b k (CF S c st wt sp ka kb J)
  rw [← hc] at ef
  simp only [l_CallPlay__play_tell_1, ev_for, ev_iter, ev_cb, ev_cons, ev_fld, ev_var, List.getElem?_cons_succ, List.getElem?_cons_zero, bind_ok, kFld, st_ix0, List.mem_singleton, if_true, lk6, q_c1, ev_nil, q_c2, ef, tI, it_t, stm_ok, q_for, CF]
  refine RS.Nx.imp (items_T (b := lb_CallPlay__play_tell_0) ((fateAt r.b k).map .int) I (fun i d hd ρ S' q => ?_) (by rw [hI]; exact ⟨kb, J, x, rfl, by simp [send], by simpa [send] using h⟩)) (fun ρ S' q => ?_)
  · rw [hI] at q
    obtain ⟨kb', J', x', rfl, rfl, q3⟩ := q
    rw [List.getElem?_map] at hd
    cases q : (fateAt r.b k)[i]? with
    | none => rw [q] at hd; cases hd
    | some o =>
      rw [q] at hd
      cases hd
      have hi := (List.getElem?_eq_some_iff.mp q).1
      have e1 : st.hear ++ send ((fateAt r.b k).take (i + 1)) t k = st.hear ++ send ((fateAt r.b k).take i) t k ++ [(t + o, (k : Int))] := by
        unfold send
        rw [List.take_add_one, q]
        simp
      obtain ⟨kb2, J2, z1, z2⟩ := add_b S c { st with hear := st.hear ++ send ((fateAt r.b k).take i) t k } wt sp ka kb' J' q3 t k o x2 (by rw [send, List.length_append, List.length_map, List.length_take]; omega)
      refine ⟨_, _, .inl z1, ?_⟩
      rw [hI]
      exact ⟨kb2, J2, _, rfl, by rw [e1], by rw [e1]; exact z2⟩
  · rw [hI] at q
    obtain ⟨kb', J', x', _, q2, q3⟩ := q
    rw [List.length_map, List.take_length] at q2 q3
    exact ⟨kb', J', q2, q3⟩
end K34
end

section
namespace K34
open PySem L2 FL
/-- the fields that tell the plan, the memory, the run -/
structure CCOk (c : CC) (p : Plan) (m : Mem) (r : Run) : Prop where
  tr : c.tr = tI p.tries
  un : c.un = .int p.u
  ke : c.ke = .int m.k
  du : c.du = .bl m.d
  ak : c.ak = tF r.a
  te : c.te = tF r.b
  cr : c.cr = tI r.c
  st : c.st = .bl false
theorem c_ask (S : Store) (c : CC) {p : Plan} {m : Mem} {r : Run} (h : CCOk c p m r) (st : PS) (sp : D) (ka kb : List (Key × D)) (J : Store) (bk : Bks S.length ka kb J st.arr st.hear) (t : Int) (ht : t ∈ p.tries) (hh : st.heard = false) (hl : st.log.length ≤ 1000000) (ha : st.arr.length + (fateAt r.a (ixOf p.tries t)).length ≤ 1000000) :
    ∃ ka' J', m_CallPlay__play_ask [.ref S.length, .int t] (CF S c st .non sp ka kb J) = .ok .non (CF S c (sAsk p r t st) .non sp ka' kb J') ∧ Bks S.length ka' kb J' (sAsk p r t st).arr (sAsk p r t st).hear := by
  have h1 : st.log.length < 16777216 := by omega
  obtain ⟨ρ', S', z, ka', J', q1, q2⟩ := c_send_a S c { st with log := st.log ++ [ev t "ask" (ixOf p.tries t : Int)] } .non sp ka kb J bk r h.ak t (ixOf p.tries t) .un ha
  have es : sAsk p r t st = { st with log := st.log ++ [ev t "ask" (ixOf p.tries t : Int)], arr := st.arr ++ send (fateAt r.a (ixOf p.tries t)) t (ixOf p.tries t) } := by unfold sAsk; rw [if_pos ⟨ht, hh⟩]
  refine ⟨ka', J', ?_, by rw [es]; exact q2⟩
  rw [es, ← q1]
  simp [CF, evD, ev] at z
  simp [m_CallPlay__play_ask, rho0, b_CallPlay__play_ask, CF, kFld, h.tr, h.st, ix_of ht, h1, z]
theorem c_tell (S : Store) (c : CC) {p : Plan} {m : Mem} {r : Run} (h : CCOk c p m r) (st : PS) (sp : D) (ka kb : List (Key × D)) (J : Store) (bk : Bks S.length ka kb J st.arr st.hear) (t : Int) (hl : st.log.length ≤ 1000000) (hh : st.hear.length + (fateAt r.b st.told).length ≤ 1000000) :
    ∃ kb' J', m_CallPlay__play_tell [.ref S.length, .int t] (CF S c st .non sp ka kb J) = .ok .non (CF S c { (sArr m r t st 0) with log := st.log ++ [ev t (if again m t st.done then "again" else "do") (st.told : Int)] } .non sp ka kb' J') ∧ Bks S.length ka kb' J' st.arr (sArr m r t st 0).hear := by
  have h1 : st.log.length < 16777216 := by omega
  obtain ⟨ρ', S', z, kb', J', q1, q2⟩ := c_send_b S c { st with log := st.log ++ [ev t (if again m t st.done then "again" else "do") (st.told : Int)], told := st.told + 1, done := if again m t st.done then st.done else some t } .non sp ka kb J bk r h.te t st.told (.dat (.str (if again m t st.done then "again" else "do"))) .un hh
  refine ⟨kb', J', ?_, q2⟩
  have e : CF S c { (sArr m r t st 0) with log := st.log ++ [ev t (if again m t st.done then "again" else "do") (st.told : Int)] } .non sp ka kb' J' = S' := q1.symm
  rw [e]
  cases hdn : st.done with
  | none =>
    simp [CF, evD, ev, hdn, again, doneD] at z
    simp [m_CallPlay__play_tell, rho0, b_CallPlay__play_tell, q_CallPlay__play_tell_0, CF, kFld, setFld, kFA1, kFA2, kFA3, bAddI, h.ke, h.st, h1, hdn, doneD, z]
  | some d0 =>
    by_cases ck : t - d0 ≤ m.k
    · have ck' : ¬ m.k < t - d0 := by omega
      simp [CF, evD, ev, hdn, again, doneD, ck] at z
      simp [m_CallPlay__play_tell, rho0, b_CallPlay__play_tell, q_CallPlay__play_tell_0, CF, kFld, setFld, kFA1, kFA2, kFA3, bAddI, h.ke, h.st, h1, hdn, doneD, ck', z]
    · have ck' : m.k < t - d0 := by omega
      simp [CF, evD, ev, hdn, again, doneD, ck] at z
      simp [m_CallPlay__play_tell, rho0, b_CallPlay__play_tell, q_CallPlay__play_tell_0, CF, kFld, setFld, kFA1, kFA2, kFA3, bAddI, h.ke, h.st, h1, hdn, doneD, ck', z]
end K34
end

section
namespace K34
open PySem L2 FL
theorem big_ex (l : List (Int × Int)) (x : Int) : ∃ B : Int, (∀ e ∈ l, e.1 ≤ B) ∧ x ≤ B := by
  induction l with
  | nil => exact ⟨x, by simp, Int.le_refl _⟩
  | cons e l ih =>
    obtain ⟨B, b1, b2⟩ := ih
    by_cases he : e.1 ≤ B
    · exact ⟨B, fun x hx => by rcases List.mem_cons.mp hx with h | h; (· rw [h]; exact he); (· exact b1 x h), b2⟩
    · exact ⟨e.1, fun x hx => by rcases List.mem_cons.mp hx with h | h; (· rw [h]; exact Int.le_refl _); (· have := b1 x h; omega), by omega⟩
theorem fold_take {α β : Type} (f : β → α → β) (l : List α) (i : Nat) (x : α) (b : β) (h : l[i]? = some x) : (l.take (i + 1)).foldl f b = f ((l.take i).foldl f b) x := by
  rw [List.take_add_one, h, List.foldl_append]
  rfl
theorem c_arrs (S : Store) (c : CC) {p : Plan} {m : Mem} {r : Run} (h : CCOk c p m r) {o b : Int} (g : Good r o b) (st : PS) (sp : D) (ka kb : List (Key × D)) (J : Store) (bk : Bks S.length ka kb J st.arr st.hear) (t : Int) (h1 : st.arr.length ≤ 40) (h2 : st.hear.length ≤ 1000) (h3 : st.log.length ≤ 900000) :
    ∃ kb' J', m_CallPlay__play_arrivals [.ref S.length, .int t] (CF S c st .non sp ka kb J) = .ok .non (CF S c (sArrs m r t st) .non sp ka kb' J') ∧ Bks S.length ka kb' J' (sArrs m r t st).arr (sArrs m r t st).hear := by
  obtain ⟨B, hB1, hB2⟩ := big_ex st.hear (t + b)
  have fo := fun i => fold_arr (m := m) (t := t) (B := B) g ((due st.arr t).take i) st hB1 (fun _ => hB2)
  have dl := due_len st.arr t
  rcases bk.look t with ⟨hn, hd⟩ | ⟨j, hj, gj⟩
  · refine ⟨kb, J ++ [.lst []], ?_, ?_⟩
    · simp [m_CallPlay__play_arrivals, rho0, b_CallPlay__play_arrivals, CF, kFld, kGet1, isDct, kGet2, kGet3, kD, hn, sArrs, hd]
    · unfold sArrs; rw [hd]; exact bk.app _
  · obtain ⟨I, hI⟩ : ∃ I : Nat → Rho → Store → Prop, I = fun i ρ' S' => ∃ kb' J' y, ρ' = [.dat (.ref S.length), .dat (.int t), y] ∧ S' = CF S c (((due st.arr t).take i).foldl (sArr m r t) st) .non sp ka kb' J' ∧ Bks S.length ka kb' J' st.arr (((due st.arr t).take i).foldl (sArr m r t) st).hear := ⟨_, rfl⟩
    have lj := (List.getElem?_eq_some_iff.mp gj).1
    have gl : getL (J ++ [.lst []]) j = some ((due st.arr t).map .int) := by rw [get_app lj]; exact getL_of gj
    have gd : ∀ {kb' : List (Key × D)} {J' : Store} {lh : List (Int × Int)}, Bks S.length ka kb' J' st.arr lh → ∀ s', (CF S c s' .non sp ka kb' J')[S.length + 4 + j]? = some (.lst ((due st.arr t).map .int)) := fun {kb' J' lh} hb s' => by
      rcases hb.look t with ⟨z, _⟩ | ⟨j', e1, e2⟩
      · rw [hj] at z; cases z
      · rw [hj] at e1
        have : j = j' := by
          have := D.ref.inj (Option.some.inj e1)
          omega
        subst this
        have z : getL (CF S c s' .non sp ka kb' J') (S.length + 4 + j) = some ((due st.arr t).map .int) := by rw [cf_get]; exact getL_of e2
        exact getL_some z
    have w : (mItems (fun S' => S'[S.length + 4 + j]? = some (.lst ((due st.arr t).map D.int))) (gN 2) lb_CallPlay__play_arrivals_0 ((due st.arr t).map .int) [.dat (.ref S.length), .dat (.int t), .un] (CF S c st .non sp ka kb (J ++ [.lst []]))).Nx (I (due st.arr t).length) := by
      have z := items_N (b := lb_CallPlay__play_arrivals_0) (k := 2) (P := fun S' => S'[S.length + 4 + j]? = some (.lst ((due st.arr t).map D.int))) ((due st.arr t).map .int) I (ρ := [.dat (.ref S.length), .dat (.int t), .un]) (S := CF S c st .non sp ka kb (J ++ [.lst []])) (fun i d hd ρ S' q => ?_) (fun ρ S' q => ?_) (by rw [hI]; exact ⟨kb, J ++ [.lst []], _, rfl, rfl, bk.app _⟩)
      · rwa [List.length_map] at z
      · rw [hI] at q
        obtain ⟨kb', J', y, rfl, rfl, q3⟩ := q
        refine ⟨gd q3 _, ?_⟩
        rw [List.getElem?_map] at hd
        cases q : (due st.arr t)[i]? with
        | none => rw [q] at hd; cases hd
        | some x =>
          rw [q] at hd
          cases hd
          obtain ⟨f1, f2, f3, f4, f5, f6⟩ := fo i
          have tl : ((due st.arr t).take i).length ≤ (due st.arr t).length := by rw [List.length_take]; omega
          obtain ⟨s1, hs1⟩ : ∃ s1, s1 = ((due st.arr t).take i).foldl (sArr m r t) st := ⟨_, rfl⟩
          rw [← hs1] at f1 f2 f3 f4 f5 f6 q3 ⊢
          have hl : s1.log.length < 16777216 := by omega
          have gb := g.fb s1.told
          obtain ⟨kb2, J2, z1, z2⟩ := c_tell S c h { s1 with log := s1.log ++ [ev t "arrive" x] } sp ka kb' J' (by show Bks S.length ka kb' J' s1.arr s1.hear; rw [f1]; exact q3) t (by simp; omega) (by show s1.hear.length + (fateAt r.b s1.told).length ≤ 1000000; omega)
          simp [CF, evD, ev] at z1
          simp [lb_CallPlay__play_arrivals_0, CF, kFld, kIMe, hl, z1]
          refine goes_nx ?_
          rw [hI]
          refine ⟨kb2, J2, _, rfl, ?_, ?_⟩
          · rw [fold_take _ _ _ _ _ q, ← hs1]
            simp [CF, sArr, evD, ev]
          · rw [fold_take _ _ _ _ _ q, ← hs1]
            have z3 : Bks S.length ka kb2 J2 s1.arr (sArr m r t s1 x).hear := z2
            rw [f1] at z3
            exact z3
      · rw [hI] at q
        obtain ⟨kb', J', y, rfl, rfl, q3⟩ := q
        exact gd q3 _
    rw [hI] at w
    obtain ⟨ρ', S', w, kb', J', y, rfl, rfl, q3⟩ := w
    rw [List.take_length] at w q3
    refine ⟨kb', J', ?_, ?_⟩
    · simp [CF] at w
      simp [m_CallPlay__play_arrivals, rho0, b_CallPlay__play_arrivals, CF, kFld, kGet1, isDct, kGet2, kGet3, kD, hj, gl, w, sArrs]
    · obtain ⟨f1, _⟩ := fo (due st.arr t).length
      rw [List.take_length] at f1
      unfold sArrs
      rw [f1]
      exact q3
end K34
end

section
namespace K34
open PySem L2 FL
theorem c_hears (S : Store) (c : CC) {p : Plan} {m : Mem} {r : Run} (h : CCOk c p m r) (st : PS) (sp : D) (ka kb : List (Key × D)) (J : Store) (bk : Bks S.length ka kb J st.arr st.hear) (t : Int) (h2 : st.hear.length ≤ 1000) (h3 : st.log.length ≤ 900000) :
    ∃ J', m_CallPlay__play_replies [.ref S.length, .int t] (CF S c st .non sp ka kb J) = .ok .non (CF S c (sHears p t st) .non sp ka kb J') ∧ Bks S.length ka kb J' st.arr st.hear := by
  have fo := fun i => fold_hear (u := p.u) (t := t) ((due st.hear t).take i) st
  have dl := due_len st.hear t
  refine ⟨J ++ [.lst []], ?_, bk.app _⟩
  rcases bk.swap.look t with ⟨hn, hd⟩ | ⟨j, hj, gj⟩
  · simp [m_CallPlay__play_replies, rho0, b_CallPlay__play_replies, CF, kFld, kGet1, isDct, kGet2, kGet3, kD, hn, sHears, hd]
  · have lj := (List.getElem?_eq_some_iff.mp gj).1
    have gl : getL (J ++ [.lst []]) j = some ((due st.hear t).map .int) := by rw [get_app lj]; exact getL_of gj
    obtain ⟨I, hI⟩ : ∃ I : Nat → Rho → Store → Prop, I = fun i ρ' S' => ∃ y z, ρ' = [.dat (.ref S.length), .dat (.int t), y, z] ∧ S' = CF S c (((due st.hear t).take i).foldl (sHear p.u t) st) .non sp ka kb (J ++ [.lst []]) := ⟨_, rfl⟩
    have gd : ∀ s', (CF S c s' .non sp ka kb (J ++ [.lst []]))[S.length + 4 + j]? = some (.lst ((due st.hear t).map .int)) := fun s' => by
      have z : getL (CF S c s' .non sp ka kb (J ++ [.lst []])) (S.length + 4 + j) = some ((due st.hear t).map .int) := by rw [cf_get]; exact gl
      exact getL_some z
    have w : (mItems (fun S' => S'[S.length + 4 + j]? = some (.lst ((due st.hear t).map D.int))) (gN 2) lb_CallPlay__play_replies_0 ((due st.hear t).map .int) [.dat (.ref S.length), .dat (.int t), .un, .un] (CF S c st .non sp ka kb (J ++ [.lst []]))).Nx (I (due st.hear t).length) := by
      have z := items_N (b := lb_CallPlay__play_replies_0) (k := 2) (P := fun S' => S'[S.length + 4 + j]? = some (.lst ((due st.hear t).map D.int))) ((due st.hear t).map .int) I (ρ := [.dat (.ref S.length), .dat (.int t), .un, .un]) (S := CF S c st .non sp ka kb (J ++ [.lst []])) (fun i d hd ρ S' q => ?_) (fun ρ S' q => ?_) (by rw [hI]; exact ⟨_, _, rfl, rfl⟩)
      · rwa [List.length_map] at z
      · rw [hI] at q
        obtain ⟨y, y2, rfl, rfl⟩ := q
        refine ⟨gd _, ?_⟩
        rw [List.getElem?_map] at hd
        cases q : (due st.hear t)[i]? with
        | none => rw [q] at hd; cases hd
        | some x =>
          rw [q] at hd
          cases hd
          obtain ⟨f1, f2, f3, f4, f5⟩ := fo i
          have tl : ((due st.hear t).take i).length ≤ (due st.hear t).length := by rw [List.length_take]; omega
          obtain ⟨s1, hs1⟩ : ∃ s1, s1 = ((due st.hear t).take i).foldl (sHear p.u t) st := ⟨_, rfl⟩
          rw [← hs1] at f1 f2 f3 f4 f5 ⊢
          have hl : s1.log.length < 16777216 := by omega
          have fin : ∀ ρ1 : Rho, (∃ y z, ρ1 = [.dat (.ref S.length), .dat (.int t), y, z]) → I (i + 1) ρ1 (CF S c (sHear p.u t s1 x) .non sp ka kb (J ++ [.lst []])) := fun ρ1 ⟨y, z, e⟩ => by
            rw [hI]
            exact ⟨y, z, e, by rw [fold_take _ _ _ _ _ q, ← hs1]⟩
          cases hh : s1.heard with
          | true =>
            have e : sHear p.u t s1 x = { s1 with log := s1.log ++ [ev t "late" x] } := by simp [sHear, hh]
            rw [e] at fin
            simp [CF, evD, ev, hh] at fin
            simp [lb_CallPlay__play_replies_0, CF, kFld, setFld, h.un, hh, hl]
            exact goes_nx (fin _ _ _ rfl)
          | false =>
            by_cases cu : t ≤ p.u
            · have e : sHear p.u t s1 x = { s1 with log := s1.log ++ [ev t "hear" x], heard := true } := by simp [sHear, hh, cu]
              rw [e] at fin
              simp [CF, evD, ev] at fin
              simp [lb_CallPlay__play_replies_0, CF, kFld, setFld, h.un, hh, hl, cu]
              exact goes_nx (fin _ _ _ rfl)
            · have e : sHear p.u t s1 x = { s1 with log := s1.log ++ [ev t "late" x] } := by simp [sHear, hh, cu]
              rw [e] at fin
              simp [CF, evD, ev, hh] at fin
              simp [lb_CallPlay__play_replies_0, CF, kFld, setFld, h.un, hh, hl, cu]
              exact goes_nx (fin _ _ _ rfl)
      · rw [hI] at q
        obtain ⟨y, y2, rfl, rfl⟩ := q
        exact gd _
    rw [hI] at w
    obtain ⟨ρ', S', w, y, y2, rfl, rfl⟩ := w
    rw [List.take_length] at w
    simp [CF] at w
    simp [m_CallPlay__play_replies, rho0, b_CallPlay__play_replies, CF, kFld, kGet1, isDct, kGet2, kGet3, kD, hj, gl, w, sHears]
end K34
end

section
namespace K34
open PySem L2 FL
theorem c_tick (S : Store) (c : CC) {p : Plan} (hp : p.Ok) {m : Mem} {r : Run} (h : CCOk c p m r) {la o bb : Int} (g : Good r o bb) (ho : 0 ≤ o) (hb : 0 ≤ bb) (hla : ∀ x ∈ p.tries, x ≤ la) (sp : D) (ka kb : List (Key × D)) (J : Store) (n : Nat) (hn : n ≤ 1000) (bk : Bks S.length ka kb J (play p m r n).arr (play p m r n).hear) :
    ∃ ka' kb' J', m_CallPlay__play_tick [.ref S.length, .int (n : Nat)] (CF S c (play p m r n) .non sp ka kb J) = .ok .non (CF S c (play p m r (n + 1)) .non sp ka' kb' J') ∧ Bks S.length ka' kb' J' (play p m r (n + 1)).arr (play p m r (n + 1)).hear := by
  have pi := play_ok (m := m) hp g ho hb hla n
  obtain ⟨b1, b2, b3⟩ := pi.small hp
  have b4 := pi.log
  obtain ⟨st, hst⟩ : ∃ st, st = play p m r n := ⟨_, rfl⟩
  have hnx : play p m r (n + 1) = step p m r n st := by rw [hst]; rfl
  rw [hnx, ← hst]
  rw [← hst] at pi b1 b2 b3 b4 bk
  have gA := g.fa (ixOf p.tries n)
  have lg : st.log.length ≤ 300000 := by omega
  -- the crash
  have k1 : (sCrash m r n st).arr = st.arr ∧ (sCrash m r n st).hear = st.hear ∧ (sCrash m r n st).log.length ≤ st.log.length + 1 ∧ (sCrash m r n st).told = st.told := by
    unfold sCrash; split <;> simp
  obtain ⟨s1, hs1⟩ : ∃ s1, s1 = sCrash m r n st := ⟨_, rfl⟩
  have q0 : q_CallPlay__play_tick_0 [.dat (.ref S.length), .dat (.int (n : Nat))] (CF S c st .non sp ka kb J) = .nx [.dat (.ref S.length), .dat (.int (n : Nat))] (CF S c s1 .non sp ka kb J) := by
    by_cases hc : (n : Int) ∈ r.c
    · have z := c_crash S c m r st .non sp ka kb J n h.du hc (by omega)
      rw [← hs1] at z
      simp [CF] at z
      simp [q_CallPlay__play_tick_0, CF, kFld, kIMe, h.cr, hc, z]
    · have e : s1 = st := by rw [hs1]; unfold sCrash; rw [if_neg hc]
      rw [e]
      simp [q_CallPlay__play_tick_0, CF, kFld, kIMe, h.cr, hc]
  rw [← hs1] at k1
  obtain ⟨k11, k12, k13, k14⟩ := k1
  -- the request
  obtain ⟨s2, hs2⟩ : ∃ s2, s2 = sAsk p r n s1 := ⟨_, rfl⟩
  obtain ⟨ka2, J2, q1, bk2⟩ : ∃ ka' J', q_CallPlay__play_tick_1 [.dat (.ref S.length), .dat (.int (n : Nat))] (CF S c s1 .non sp ka kb J) = .nx [.dat (.ref S.length), .dat (.int (n : Nat))] (CF S c s2 .non sp ka' kb J') ∧ Bks S.length ka' kb J' s2.arr s2.hear := by
    by_cases ht : (n : Int) ∈ p.tries
    · cases hh : s1.heard with
      | true =>
        have e : s2 = s1 := by rw [hs2]; unfold sAsk; rw [if_neg (by rw [hh]; simp)]
        refine ⟨ka, J, ?_, by rw [e, k11, k12]; exact bk⟩
        rw [e]
        simp [q_CallPlay__play_tick_1, CF, kFld, kIMe, h.tr, ht, hh]
      | false =>
        obtain ⟨ka', J', z, z2⟩ := c_ask S c h s1 sp ka kb J (by rw [k11, k12]; exact bk) n ht hh (by omega) (by rw [k11]; omega)
        rw [← hs2] at z z2
        refine ⟨ka', J', ?_, z2⟩
        simp [CF, hh] at z
        simp [q_CallPlay__play_tick_1, CF, kFld, kIMe, h.tr, ht, hh, z]
    · have e : s2 = s1 := by rw [hs2]; unfold sAsk; rw [if_neg (by intro z; exact ht z.1)]
      refine ⟨ka, J, ?_, by rw [e, k11, k12]; exact bk⟩
      rw [e]
      simp [q_CallPlay__play_tick_1, CF, kFld, kIMe, h.tr, ht]
  have k2 : s2.hear = st.hear ∧ s2.log.length ≤ st.log.length + 2 := by
    rw [hs2]
    unfold sAsk; split
    · exact ⟨k12, by simp; omega⟩
    · exact ⟨k12, by omega⟩
  have e2 : s2.arr.length ≤ 40 := by
    have z := play_ok (m := m) hp g ho hb hla (n + 1)
    obtain ⟨z1, _, _⟩ := z.small hp
    have e : (play p m r (n + 1)).arr = s2.arr := by
      rw [hnx, hs2, hs1]
      show (sGive p n (sHears p n (sArrs m r n (sAsk p r n (sCrash m r n st))))).arr = _
      have f1 : ∀ s, (sGive p n s).arr = s.arr := fun s => by unfold sGive; split <;> rfl
      have f2 : ∀ s, (sHears p n s).arr = s.arr := fun s => (fold_hear _ s).1
      have f3 : ∀ s, (sArrs m r n s).arr = s.arr := fun s => by
        have f4 : ∀ (l : List Int) (s : PS), (l.foldl (sArr m r n) s).arr = s.arr := by
          intro l
          induction l with
          | nil => intro s; rfl
          | cons x l ih => intro s; rw [List.foldl_cons, ih]; rfl
        exact f4 _ s
      rw [f1, f2, f3]
    rw [e] at z1
    exact z1
  obtain ⟨k22, k23⟩ := k2
  -- the arrivals
  obtain ⟨s3, hs3⟩ : ∃ s3, s3 = sArrs m r n s2 := ⟨_, rfl⟩
  obtain ⟨kb3, J3, z3, bk3⟩ := c_arrs S c h g s2 sp ka2 kb J2 bk2 n e2 (by rw [k22]; omega) (by omega)
  rw [← hs3] at z3 bk3
  have q2 : q_CallPlay__play_tick_2 [.dat (.ref S.length), .dat (.int (n : Nat))] (CF S c s2 .non sp ka2 kb J2) = .nx [.dat (.ref S.length), .dat (.int (n : Nat))] (CF S c s3 .non sp ka2 kb3 J3) := by
    simp [CF] at z3
    simp [q_CallPlay__play_tick_2, CF, kFld, kIMe, z3]
  obtain ⟨B, hB1, hB2⟩ := big_ex s2.hear (n + bb)
  obtain ⟨f1, f2, f3, f4, f5, f6⟩ := fold_arr (m := m) (t := (n : Int)) (B := B) g (due s2.arr n) s2 hB1 (fun _ => hB2)
  have dl := due_len s2.arr n
  have hs3' : (due s2.arr n).foldl (sArr m r n) s2 = s3 := by rw [hs3]; rfl
  rw [hs3'] at f1 f2 f3 f4 f5 f6
  have hl3 : s2.hear.length = st.hear.length := by rw [k22]
  -- the replies
  obtain ⟨s4, hs4⟩ : ∃ s4, s4 = sHears p n s3 := ⟨_, rfl⟩
  obtain ⟨J4, z4, bk4⟩ := c_hears S c h s3 sp ka2 kb3 J3 bk3 n (by omega) (by omega)
  rw [← hs4] at z4
  have q3 : q_CallPlay__play_tick_3 [.dat (.ref S.length), .dat (.int (n : Nat))] (CF S c s3 .non sp ka2 kb3 J3) = .nx [.dat (.ref S.length), .dat (.int (n : Nat))] (CF S c s4 .non sp ka2 kb3 J4) := by
    simp [CF] at z4
    simp [q_CallPlay__play_tick_3, CF, kFld, kIMe, z4]
  obtain ⟨g1, g2, g3, g4, g5⟩ := fold_hear (u := p.u) (t := (n : Int)) (due s3.hear n) s3
  have dl3 := due_len s3.hear n
  have hs4' : (due s3.hear n).foldl (sHear p.u n) s3 = s4 := by rw [hs4]; rfl
  rw [hs4'] at g1 g2 g3 g4 g5
  -- the end of the wait
  obtain ⟨s5, hs5⟩ : ∃ s5, s5 = sGive p n s4 := ⟨_, rfl⟩
  have h1 : s4.log.length < 16777216 := by omega
  have q4 : q_CallPlay__play_tick_4 [.dat (.ref S.length), .dat (.int (n : Nat))] (CF S c s4 .non sp ka2 kb3 J4) = .nx [.dat (.ref S.length), .dat (.int (n : Nat))] (CF S c s5 .non sp ka2 kb3 J4) := by
    rw [hs5]
    by_cases hc : (n : Int) = p.u
    · cases hh : s4.heard with
      | true => simp [q_CallPlay__play_tick_4, CF, kFld, h.un, hc, hh, sGive]
      | false => simp [q_CallPlay__play_tick_4, CF, kFld, h.un, hc, hh, h1, sGive, evD, ev]
    · simp [q_CallPlay__play_tick_4, CF, kFld, h.un, hc, sGive]
  have es : step p m r n st = s5 := by rw [hs5, hs4, hs3, hs2, hs1]; rfl
  have ga : s5.arr = s4.arr ∧ s5.hear = s4.hear := by rw [hs5]; unfold sGive; split <;> exact ⟨rfl, rfl⟩
  refine ⟨ka2, kb3, J4, ?_, by rw [es, ga.1, ga.2, g1, g3]; exact bk4⟩
  rw [es]
  show m_CallPlay__play_tick [.ref S.length, .int (n : Nat)] (CF S c st .non sp ka kb J) = _
  rw [show m_CallPlay__play_tick [.ref S.length, .int (n : Nat)] (CF S c st .non sp ka kb J) = (b_CallPlay__play_tick [.dat (.ref S.length), .dat (.int (n : Nat))] (CF S c st .non sp ka kb J)).fin from rfl]
  simp only [b_CallPlay__play_tick, ev_seq, q0, seq_nx, q1, q2, q3, q4, fin_nx]
end K34
end

section
namespace K34
open PySem L2 FL
theorem c_all (S : Store) (c : CC) {p : Plan} (hp : p.Ok) {m : Mem} {r : Run} (h : CCOk c p m r) {la o bb : Int} (g : Good r o bb) (ho : 0 ≤ o) (hb : 0 ≤ bb) (hla : ∀ x ∈ p.tries, x ≤ la) (N : Nat) (hN : N ≤ 1000) (hcl : c.la = .int ((N : Int) - 1)) :
    ∃ ka kb J, m_CallPlay__play_all [.ref S.length] (CF S c st0 .non .non [] [] []) = .ok .non (CF S c (play p m r N) .non .non ka kb J) := by
  obtain ⟨I, hI⟩ : ∃ I : Nat → Rho → Store → Prop, I = fun n ρ' S' => ∃ x' ka kb J, ρ' = [.dat (.ref S.length), x'] ∧ S' = CF S c (play p m r n) .non .non ka kb J ∧ Bks S.length ka kb J (play p m r n).arr (play p m r n).hear := ⟨_, rfl⟩
  have e0 : (N : Int) - 1 + 1 = (N : Int) := by omega
  have key : (b_CallPlay__play_all [.dat (.ref S.length), .un] (CF S c st0 .non .non [] [] [])).Nx (I N) := by
    simp only [b_CallPlay__play_all, ev_for, ev_rng1, ev_cons, ev_op, ev_fld, ev_var, List.getElem?_cons_succ, List.getElem?_cons_zero, bind_ok, kFld, CF, st_ix0, List.mem_singleton, if_true, lk9, hcl, kO1, ev_c, bAdd, e0, q_c1, ev_nil, q_c2, k_rng (show (0 : Int) ≤ (N : Int) by omega) (show (N : Int) ≤ 16777216 by omega), stm_ok, q_for, Int.toNat_natCast]
    refine rng_T (b := lb_CallPlay__play_all_0) N I (fun n hn ρ S' q => ?_) (by rw [hI]; exact ⟨.un, [], [], [], rfl, rfl, Bks.nil⟩)
    rw [hI] at q
    obtain ⟨x', ka, kb, J, rfl, rfl, bk⟩ := q
    obtain ⟨ka', kb', J', z, bk'⟩ := c_tick S c hp h g ho hb hla .non ka kb J n (by omega) bk
    simp [CF] at z
    simp [lb_CallPlay__play_all_0, CF, kFld, kIMe, z]
    refine goes_nx ?_
    rw [hI]
    exact ⟨_, ka', kb', J', rfl, rfl, bk'⟩
  obtain ⟨ρ', S', e, q⟩ := key
  rw [hI] at q
  obtain ⟨x', ka, kb, J, rfl, rfl, bk⟩ := q
  refine ⟨ka, kb, J, ?_⟩
  rw [show m_CallPlay__play_all [.ref S.length] (CF S c st0 .non .non [] [] []) = (b_CallPlay__play_all [.dat (.ref S.length), .un] (CF S c st0 .non .non [] [] [])).fin from rfl, e]
  rfl
def lastOf (w : Wire) (p : Plan) (r : Run) (la : Int) : Int :=
  match r.c[r.c.length - 1]? with
  | none => (if la + w.o + w.b > p.u then la + w.o + w.b else p.u)
  | some x => if x > (if la + w.o + w.b > p.u then la + w.o + w.b else p.u) then x else (if la + w.o + w.b > p.u then la + w.o + w.b else p.u)
def ccOf (w : Wire) (p : Plan) (m : Mem) (r : Run) (la : Int) : CC := ⟨tI p.tries, .int p.u, .int m.k, .bl m.d, tF r.a, tF r.b, tI r.c, .bl false, .int (lastOf w p r la)⟩
section
variable {a0 a1 a2 a3 a4 a5 a6 a7 a8 a9 a10 a11 a12 a13 a14 a15 a16 x : D}
def FA1 (a0 : D) : List (Str × D) := [("tries", a0)]
@[simp] theorem fa_len1 : (FA1 a0).length = 1 := of_eq_true (eq_true rfl)
@[simp] theorem pn1 : putD "tries" x [] = FA1 x := of_eq_true (eq_true rfl)
def FA2 (a0 a1 : D) : List (Str × D) := [("tries", a0), ("until", a1)]
@[simp] theorem fa_len2 : (FA2 a0 a1).length = 2 := of_eq_true (eq_true rfl)
@[simp] theorem pn2 : putD "until" x (FA1 a0) = FA2 a0 x := of_eq_true (eq_true rfl)
def FA3 (a0 a1 a2 : D) : List (Str × D) := [("tries", a0), ("until", a1), ("keep", a2)]
@[simp] theorem fa_len3 : (FA3 a0 a1 a2).length = 3 := of_eq_true (eq_true rfl)
@[simp] theorem pn3 : putD "keep" x (FA2 a0 a1) = FA3 a0 a1 x := of_eq_true (eq_true rfl)
def FA4 (a0 a1 a2 a3 : D) : List (Str × D) := [("tries", a0), ("until", a1), ("keep", a2), ("durable", a3)]
@[simp] theorem fa_len4 : (FA4 a0 a1 a2 a3).length = 4 := of_eq_true (eq_true rfl)
@[simp] theorem pn4 : putD "durable" x (FA3 a0 a1 a2) = FA4 a0 a1 a2 x := of_eq_true (eq_true rfl)
def FA5 (a0 a1 a2 a3 a4 : D) : List (Str × D) := [("tries", a0), ("until", a1), ("keep", a2), ("durable", a3), ("asks", a4)]
@[simp] theorem fa_len5 : (FA5 a0 a1 a2 a3 a4).length = 5 := of_eq_true (eq_true rfl)
@[simp] theorem pn5 : putD "asks" x (FA4 a0 a1 a2 a3) = FA5 a0 a1 a2 a3 x := of_eq_true (eq_true rfl)
def FA6 (a0 a1 a2 a3 a4 a5 : D) : List (Str × D) := [("tries", a0), ("until", a1), ("keep", a2), ("durable", a3), ("asks", a4), ("tells", a5)]
@[simp] theorem fa_len6 : (FA6 a0 a1 a2 a3 a4 a5).length = 6 := of_eq_true (eq_true rfl)
@[simp] theorem pn6 : putD "tells" x (FA5 a0 a1 a2 a3 a4) = FA6 a0 a1 a2 a3 a4 x := of_eq_true (eq_true rfl)
def FA7 (a0 a1 a2 a3 a4 a5 a6 : D) : List (Str × D) := [("tries", a0), ("until", a1), ("keep", a2), ("durable", a3), ("asks", a4), ("tells", a5), ("crashes", a6)]
@[simp] theorem fa_len7 : (FA7 a0 a1 a2 a3 a4 a5 a6).length = 7 := of_eq_true (eq_true rfl)
@[simp] theorem pn7 : putD "crashes" x (FA6 a0 a1 a2 a3 a4 a5) = FA7 a0 a1 a2 a3 a4 a5 x := of_eq_true (eq_true rfl)
def FA8 (a0 a1 a2 a3 a4 a5 a6 a7 : D) : List (Str × D) := [("tries", a0), ("until", a1), ("keep", a2), ("durable", a3), ("asks", a4), ("tells", a5), ("crashes", a6), ("stops", a7)]
@[simp] theorem fa_len8 : (FA8 a0 a1 a2 a3 a4 a5 a6 a7).length = 8 := of_eq_true (eq_true rfl)
@[simp] theorem pn8 : putD "stops" x (FA7 a0 a1 a2 a3 a4 a5 a6) = FA8 a0 a1 a2 a3 a4 a5 a6 x := of_eq_true (eq_true rfl)
def FA9 (a0 a1 a2 a3 a4 a5 a6 a7 a8 : D) : List (Str × D) := [("tries", a0), ("until", a1), ("keep", a2), ("durable", a3), ("asks", a4), ("tells", a5), ("crashes", a6), ("stops", a7), ("last", a8)]
@[simp] theorem fa_len9 : (FA9 a0 a1 a2 a3 a4 a5 a6 a7 a8).length = 9 := of_eq_true (eq_true rfl)
@[simp] theorem pn9 : putD "last" x (FA8 a0 a1 a2 a3 a4 a5 a6 a7) = FA9 a0 a1 a2 a3 a4 a5 a6 a7 x := of_eq_true (eq_true rfl)
def FA10 (a0 a1 a2 a3 a4 a5 a6 a7 a8 a9 : D) : List (Str × D) := [("tries", a0), ("until", a1), ("keep", a2), ("durable", a3), ("asks", a4), ("tells", a5), ("crashes", a6), ("stops", a7), ("last", a8), ("arriving", a9)]
@[simp] theorem fa_len10 : (FA10 a0 a1 a2 a3 a4 a5 a6 a7 a8 a9).length = 10 := of_eq_true (eq_true rfl)
@[simp] theorem pn10 : putD "arriving" x (FA9 a0 a1 a2 a3 a4 a5 a6 a7 a8) = FA10 a0 a1 a2 a3 a4 a5 a6 a7 a8 x := of_eq_true (eq_true rfl)
def FA11 (a0 a1 a2 a3 a4 a5 a6 a7 a8 a9 a10 : D) : List (Str × D) := [("tries", a0), ("until", a1), ("keep", a2), ("durable", a3), ("asks", a4), ("tells", a5), ("crashes", a6), ("stops", a7), ("last", a8), ("arriving", a9), ("hearing", a10)]
@[simp] theorem fa_len11 : (FA11 a0 a1 a2 a3 a4 a5 a6 a7 a8 a9 a10).length = 11 := of_eq_true (eq_true rfl)
@[simp] theorem pn11 : putD "hearing" x (FA10 a0 a1 a2 a3 a4 a5 a6 a7 a8 a9) = FA11 a0 a1 a2 a3 a4 a5 a6 a7 a8 a9 x := of_eq_true (eq_true rfl)
def FA12 (a0 a1 a2 a3 a4 a5 a6 a7 a8 a9 a10 a11 : D) : List (Str × D) := [("tries", a0), ("until", a1), ("keep", a2), ("durable", a3), ("asks", a4), ("tells", a5), ("crashes", a6), ("stops", a7), ("last", a8), ("arriving", a9), ("hearing", a10), ("done_at", a11)]
@[simp] theorem fa_len12 : (FA12 a0 a1 a2 a3 a4 a5 a6 a7 a8 a9 a10 a11).length = 12 := of_eq_true (eq_true rfl)
@[simp] theorem pn12 : putD "done_at" x (FA11 a0 a1 a2 a3 a4 a5 a6 a7 a8 a9 a10) = FA12 a0 a1 a2 a3 a4 a5 a6 a7 a8 a9 a10 x := of_eq_true (eq_true rfl)
def FA13 (a0 a1 a2 a3 a4 a5 a6 a7 a8 a9 a10 a11 a12 : D) : List (Str × D) := [("tries", a0), ("until", a1), ("keep", a2), ("durable", a3), ("asks", a4), ("tells", a5), ("crashes", a6), ("stops", a7), ("last", a8), ("arriving", a9), ("hearing", a10), ("done_at", a11), ("told", a12)]
@[simp] theorem fa_len13 : (FA13 a0 a1 a2 a3 a4 a5 a6 a7 a8 a9 a10 a11 a12).length = 13 := of_eq_true (eq_true rfl)
@[simp] theorem pn13 : putD "told" x (FA12 a0 a1 a2 a3 a4 a5 a6 a7 a8 a9 a10 a11) = FA13 a0 a1 a2 a3 a4 a5 a6 a7 a8 a9 a10 a11 x := of_eq_true (eq_true rfl)
def FA14 (a0 a1 a2 a3 a4 a5 a6 a7 a8 a9 a10 a11 a12 a13 : D) : List (Str × D) := [("tries", a0), ("until", a1), ("keep", a2), ("durable", a3), ("asks", a4), ("tells", a5), ("crashes", a6), ("stops", a7), ("last", a8), ("arriving", a9), ("hearing", a10), ("done_at", a11), ("told", a12), ("has_answer", a13)]
@[simp] theorem fa_len14 : (FA14 a0 a1 a2 a3 a4 a5 a6 a7 a8 a9 a10 a11 a12 a13).length = 14 := of_eq_true (eq_true rfl)
@[simp] theorem pn14 : putD "has_answer" x (FA13 a0 a1 a2 a3 a4 a5 a6 a7 a8 a9 a10 a11 a12) = FA14 a0 a1 a2 a3 a4 a5 a6 a7 a8 a9 a10 a11 a12 x := of_eq_true (eq_true rfl)
def FA15 (a0 a1 a2 a3 a4 a5 a6 a7 a8 a9 a10 a11 a12 a13 a14 : D) : List (Str × D) := [("tries", a0), ("until", a1), ("keep", a2), ("durable", a3), ("asks", a4), ("tells", a5), ("crashes", a6), ("stops", a7), ("last", a8), ("arriving", a9), ("hearing", a10), ("done_at", a11), ("told", a12), ("has_answer", a13), ("waiting", a14)]
@[simp] theorem fa_len15 : (FA15 a0 a1 a2 a3 a4 a5 a6 a7 a8 a9 a10 a11 a12 a13 a14).length = 15 := of_eq_true (eq_true rfl)
@[simp] theorem pn15 : putD "waiting" x (FA14 a0 a1 a2 a3 a4 a5 a6 a7 a8 a9 a10 a11 a12 a13) = FA15 a0 a1 a2 a3 a4 a5 a6 a7 a8 a9 a10 a11 a12 a13 x := of_eq_true (eq_true rfl)
def FA16 (a0 a1 a2 a3 a4 a5 a6 a7 a8 a9 a10 a11 a12 a13 a14 a15 : D) : List (Str × D) := [("tries", a0), ("until", a1), ("keep", a2), ("durable", a3), ("asks", a4), ("tells", a5), ("crashes", a6), ("stops", a7), ("last", a8), ("arriving", a9), ("hearing", a10), ("done_at", a11), ("told", a12), ("has_answer", a13), ("waiting", a14), ("stopped_at", a15)]
@[simp] theorem fa_len16 : (FA16 a0 a1 a2 a3 a4 a5 a6 a7 a8 a9 a10 a11 a12 a13 a14 a15).length = 16 := of_eq_true (eq_true rfl)
@[simp] theorem pn16 : putD "stopped_at" x (FA15 a0 a1 a2 a3 a4 a5 a6 a7 a8 a9 a10 a11 a12 a13 a14) = FA16 a0 a1 a2 a3 a4 a5 a6 a7 a8 a9 a10 a11 a12 a13 a14 x := of_eq_true (eq_true rfl)
def FA17 (a0 a1 a2 a3 a4 a5 a6 a7 a8 a9 a10 a11 a12 a13 a14 a15 a16 : D) : List (Str × D) := [("tries", a0), ("until", a1), ("keep", a2), ("durable", a3), ("asks", a4), ("tells", a5), ("crashes", a6), ("stops", a7), ("last", a8), ("arriving", a9), ("hearing", a10), ("done_at", a11), ("told", a12), ("has_answer", a13), ("waiting", a14), ("stopped_at", a15), ("history", a16)]
@[simp] theorem fa_len17 : (FA17 a0 a1 a2 a3 a4 a5 a6 a7 a8 a9 a10 a11 a12 a13 a14 a15 a16).length = 17 := of_eq_true (eq_true rfl)
@[simp] theorem pn17 : putD "history" x (FA16 a0 a1 a2 a3 a4 a5 a6 a7 a8 a9 a10 a11 a12 a13 a14 a15) = FA17 a0 a1 a2 a3 a4 a5 a6 a7 a8 a9 a10 a11 a12 a13 a14 a15 x := of_eq_true (eq_true rfl)
@[simp] theorem pn9b : putD "last" x (FA9 a0 a1 a2 a3 a4 a5 a6 a7 a8) = FA9 a0 a1 a2 a3 a4 a5 a6 a7 x := of_eq_true (eq_true rfl)
@[simp] theorem ln8 : (FA9 a0 a1 a2 a3 a4 a5 a6 a7 a8).lookup ("last" : Str) = some a8 := of_eq_true (eq_true rfl)
end
theorem fa_flds {L : Nat} {a0 a1 a2 a3 a4 a5 a6 a7 a8 dn to ha wt sp : D} : FA17 a0 a1 a2 a3 a4 a5 a6 a7 a8 (.ref (L + 1)) (.ref (L + 2)) dn to ha wt sp (.ref (L + 3)) = flds L ⟨a0, a1, a2, a3, a4, a5, a6, a7, a8⟩ dn to ha wt sp := by
  unfold FA17 flds
  with_reducible rfl
theorem ev_dnew {ρ : Rho} {S : Store} : mDNew ρ S = .ok (.ref S.length) (S ++ [.dct []]) := rfl
theorem fset {S K K' : Store} {f : Str} {fs fs' : List (Str × D)} {ρ : Rho} {m : ME} {v : D} (hv : m ρ (S ++ .ins 5 fs :: K) = .ok v (S ++ .ins 5 fs :: K')) (h0 : ρ[0]? = some (.dat (.ref S.length))) (hl : fs.length < 900) (hp : putD f v fs = fs') : mFldSet [5] f (mVar 0) m ρ (S ++ .ins 5 fs :: K) = .nx ρ (S ++ .ins 5 fs' :: K') := by
  simp [hv, h0, setFld, hl, hp]
theorem fget {S K : Store} {f : Str} {fs : List (Str × D)} {ρ : Rho} {v : D} (h0 : ρ[0]? = some (.dat (.ref S.length))) (hp : fs.lookup f = some v) : mFld [5] f (mVar 0) ρ (S ++ .ins 5 fs :: K) = .ok v (S ++ .ins 5 fs :: K) := by
  simp [h0, kFld, hp]
def iR (w : Wire) (p : Plan) (m : Mem) (r : Run) (L : Nat) : Rho := [.dat (.ref L), .dat w.D, .dat p.D, .dat m.D, .dat r.D, .dat (.bl false)]
theorem ini0 (w : Wire) (p : Plan) (m : Mem) (r : Run) (S : Store) : mFldSet [5] "tries" (mVar 0) (mOp bIx (mVar 2) (mC (.int 0))) (iR w p m r S.length) (S ++ .ins 5 [] :: []) = .nx (iR w p m r S.length) (S ++ .ins 5 (FA1 (tI p.tries)) :: []) :=
  fset (v := tI p.tries) (by simp [iR, Wire.D, Plan.D, Mem.D, Run.D, ev_dnew]) rfl (by simp) (by simp)
theorem ini1 (w : Wire) (p : Plan) (m : Mem) (r : Run) (S : Store) : mFldSet [5] "until" (mVar 0) (mOp bIx (mVar 2) (mC (.int 1))) (iR w p m r S.length) (S ++ .ins 5 (FA1 (tI p.tries)) :: []) = .nx (iR w p m r S.length) (S ++ .ins 5 (FA2 (tI p.tries) (.int p.u)) :: []) :=
  fset (v := .int p.u) (by simp [iR, Wire.D, Plan.D, Mem.D, Run.D, ev_dnew]) rfl (by simp) (by simp)
theorem ini2 (w : Wire) (p : Plan) (m : Mem) (r : Run) (S : Store) : mFldSet [5] "keep" (mVar 0) (mOp bIx (mVar 3) (mC (.int 0))) (iR w p m r S.length) (S ++ .ins 5 (FA2 (tI p.tries) (.int p.u)) :: []) = .nx (iR w p m r S.length) (S ++ .ins 5 (FA3 (tI p.tries) (.int p.u) (.int m.k)) :: []) :=
  fset (v := .int m.k) (by simp [iR, Wire.D, Plan.D, Mem.D, Run.D, ev_dnew]) rfl (by simp) (by simp)
theorem ini3 (w : Wire) (p : Plan) (m : Mem) (r : Run) (S : Store) : mFldSet [5] "durable" (mVar 0) (mOp bIx (mVar 3) (mC (.int 1))) (iR w p m r S.length) (S ++ .ins 5 (FA3 (tI p.tries) (.int p.u) (.int m.k)) :: []) = .nx (iR w p m r S.length) (S ++ .ins 5 (FA4 (tI p.tries) (.int p.u) (.int m.k) (.bl m.d)) :: []) :=
  fset (v := .bl m.d) (by simp [iR, Wire.D, Plan.D, Mem.D, Run.D, ev_dnew]) rfl (by simp) (by simp)
theorem ini4 (w : Wire) (p : Plan) (m : Mem) (r : Run) (S : Store) : mFldSet [5] "asks" (mVar 0) (mOp bIx (mVar 4) (mC (.int 0))) (iR w p m r S.length) (S ++ .ins 5 (FA4 (tI p.tries) (.int p.u) (.int m.k) (.bl m.d)) :: []) = .nx (iR w p m r S.length) (S ++ .ins 5 (FA5 (tI p.tries) (.int p.u) (.int m.k) (.bl m.d) (tF r.a)) :: []) :=
  fset (v := tF r.a) (by simp [iR, Wire.D, Plan.D, Mem.D, Run.D, ev_dnew]) rfl (by simp) (by simp)
theorem ini5 (w : Wire) (p : Plan) (m : Mem) (r : Run) (S : Store) : mFldSet [5] "tells" (mVar 0) (mOp bIx (mVar 4) (mC (.int 1))) (iR w p m r S.length) (S ++ .ins 5 (FA5 (tI p.tries) (.int p.u) (.int m.k) (.bl m.d) (tF r.a)) :: []) = .nx (iR w p m r S.length) (S ++ .ins 5 (FA6 (tI p.tries) (.int p.u) (.int m.k) (.bl m.d) (tF r.a) (tF r.b)) :: []) :=
  fset (v := tF r.b) (by simp [iR, Wire.D, Plan.D, Mem.D, Run.D, ev_dnew]) rfl (by simp) (by simp)
theorem ini6 (w : Wire) (p : Plan) (m : Mem) (r : Run) (S : Store) : mFldSet [5] "crashes" (mVar 0) (mOp bIx (mVar 4) (mC (.int 2))) (iR w p m r S.length) (S ++ .ins 5 (FA6 (tI p.tries) (.int p.u) (.int m.k) (.bl m.d) (tF r.a) (tF r.b)) :: []) = .nx (iR w p m r S.length) (S ++ .ins 5 (FA7 (tI p.tries) (.int p.u) (.int m.k) (.bl m.d) (tF r.a) (tF r.b) (tI r.c)) :: []) :=
  fset (v := tI r.c) (by simp [iR, Wire.D, Plan.D, Mem.D, Run.D, ev_dnew]) rfl (by simp) (by simp)
theorem ini7 (w : Wire) (p : Plan) (m : Mem) (r : Run) (S : Store) : mFldSet [5] "stops" (mVar 0) (mVar 5) (iR w p m r S.length) (S ++ .ins 5 (FA7 (tI p.tries) (.int p.u) (.int m.k) (.bl m.d) (tF r.a) (tF r.b) (tI r.c)) :: []) = .nx (iR w p m r S.length) (S ++ .ins 5 (FA8 (tI p.tries) (.int p.u) (.int m.k) (.bl m.d) (tF r.a) (tF r.b) (tI r.c) (.bl false)) :: []) :=
  fset (v := .bl false) (by simp [iR, Wire.D, Plan.D, Mem.D, Run.D, ev_dnew]) rfl (by simp) (by simp)
theorem ini8 (w : Wire) (p : Plan) (m : Mem) (r : Run) (S : Store) {la : Int} (ela : atI (p.tries.map D.int) (-1) = some (.int la)) (M : Int) (hM : M = if p.u < la + w.o + w.b then la + w.o + w.b else p.u) : mFldSet [5] "last" (mVar 0) (mCB fMax2 (mCons (mOp bIx (mVar 2) (mC (.int 1))) (mCons (mOp bAdd (mOp bAdd (mOp bIx (mOp bIx (mVar 2) (mC (.int 0))) (mNeg (mC (.int 1)))) (mOp bIx (mVar 1) (mC (.int 0)))) (mOp bIx (mVar 1) (mC (.int 1)))) mNil))) (iR w p m r S.length) (S ++ .ins 5 (FA8 (tI p.tries) (.int p.u) (.int m.k) (.bl m.d) (tF r.a) (tF r.b) (tI r.c) (.bl false)) :: []) = .nx (iR w p m r S.length) (S ++ .ins 5 (FA9 (tI p.tries) (.int p.u) (.int m.k) (.bl m.d) (tF r.a) (tF r.b) (tI r.c) (.bl false) (.int M)) :: []) :=
  fset (v := .int M) (by simp [iR, Wire.D, Plan.D, Mem.D, Run.D, ev_dnew, ela, hM]) rfl (by simp) (by simp)
theorem ini9 (w : Wire) (p : Plan) (m : Mem) (r : Run) (S : Store) (Z : Int) : mFldSet [5] "arriving" (mVar 0) mDNew (iR w p m r S.length) (S ++ .ins 5 (FA9 (tI p.tries) (.int p.u) (.int m.k) (.bl m.d) (tF r.a) (tF r.b) (tI r.c) (.bl false) (.int Z)) :: []) = .nx (iR w p m r S.length) (S ++ .ins 5 (FA10 (tI p.tries) (.int p.u) (.int m.k) (.bl m.d) (tF r.a) (tF r.b) (tI r.c) (.bl false) (.int Z) (.ref (S.length + 1))) :: [.dct []]) :=
  fset (v := .ref (S.length + 1)) (by simp [iR, Wire.D, Plan.D, Mem.D, Run.D, ev_dnew]) rfl (by simp) (by simp)
theorem ini10 (w : Wire) (p : Plan) (m : Mem) (r : Run) (S : Store) (Z : Int) : mFldSet [5] "hearing" (mVar 0) mDNew (iR w p m r S.length) (S ++ .ins 5 (FA10 (tI p.tries) (.int p.u) (.int m.k) (.bl m.d) (tF r.a) (tF r.b) (tI r.c) (.bl false) (.int Z) (.ref (S.length + 1))) :: [.dct []]) = .nx (iR w p m r S.length) (S ++ .ins 5 (FA11 (tI p.tries) (.int p.u) (.int m.k) (.bl m.d) (tF r.a) (tF r.b) (tI r.c) (.bl false) (.int Z) (.ref (S.length + 1)) (.ref (S.length + 2))) :: [.dct [], .dct []]) :=
  fset (v := .ref (S.length + 2)) (by simp [iR, Wire.D, Plan.D, Mem.D, Run.D, ev_dnew]) rfl (by simp) (by simp)
theorem ini11 (w : Wire) (p : Plan) (m : Mem) (r : Run) (S : Store) (Z : Int) : mFldSet [5] "done_at" (mVar 0) (mC .non) (iR w p m r S.length) (S ++ .ins 5 (FA11 (tI p.tries) (.int p.u) (.int m.k) (.bl m.d) (tF r.a) (tF r.b) (tI r.c) (.bl false) (.int Z) (.ref (S.length + 1)) (.ref (S.length + 2))) :: [.dct [], .dct []]) = .nx (iR w p m r S.length) (S ++ .ins 5 (FA12 (tI p.tries) (.int p.u) (.int m.k) (.bl m.d) (tF r.a) (tF r.b) (tI r.c) (.bl false) (.int Z) (.ref (S.length + 1)) (.ref (S.length + 2)) (.non)) :: [.dct [], .dct []]) :=
  fset (v := .non) (by simp [iR, Wire.D, Plan.D, Mem.D, Run.D, ev_dnew]) rfl (by simp) (by simp)
theorem ini12 (w : Wire) (p : Plan) (m : Mem) (r : Run) (S : Store) (Z : Int) : mFldSet [5] "told" (mVar 0) (mC (.int 0)) (iR w p m r S.length) (S ++ .ins 5 (FA12 (tI p.tries) (.int p.u) (.int m.k) (.bl m.d) (tF r.a) (tF r.b) (tI r.c) (.bl false) (.int Z) (.ref (S.length + 1)) (.ref (S.length + 2)) (.non)) :: [.dct [], .dct []]) = .nx (iR w p m r S.length) (S ++ .ins 5 (FA13 (tI p.tries) (.int p.u) (.int m.k) (.bl m.d) (tF r.a) (tF r.b) (tI r.c) (.bl false) (.int Z) (.ref (S.length + 1)) (.ref (S.length + 2)) (.non) (.int 0)) :: [.dct [], .dct []]) :=
  fset (v := .int 0) (by simp [iR, Wire.D, Plan.D, Mem.D, Run.D, ev_dnew]) rfl (by simp) (by simp)
theorem ini13 (w : Wire) (p : Plan) (m : Mem) (r : Run) (S : Store) (Z : Int) : mFldSet [5] "has_answer" (mVar 0) (mC (.bl false)) (iR w p m r S.length) (S ++ .ins 5 (FA13 (tI p.tries) (.int p.u) (.int m.k) (.bl m.d) (tF r.a) (tF r.b) (tI r.c) (.bl false) (.int Z) (.ref (S.length + 1)) (.ref (S.length + 2)) (.non) (.int 0)) :: [.dct [], .dct []]) = .nx (iR w p m r S.length) (S ++ .ins 5 (FA14 (tI p.tries) (.int p.u) (.int m.k) (.bl m.d) (tF r.a) (tF r.b) (tI r.c) (.bl false) (.int Z) (.ref (S.length + 1)) (.ref (S.length + 2)) (.non) (.int 0) (.bl false)) :: [.dct [], .dct []]) :=
  fset (v := .bl false) (by simp [iR, Wire.D, Plan.D, Mem.D, Run.D, ev_dnew]) rfl (by simp) (by simp)
theorem ini14 (w : Wire) (p : Plan) (m : Mem) (r : Run) (S : Store) (Z : Int) : mFldSet [5] "waiting" (mVar 0) (mC .non) (iR w p m r S.length) (S ++ .ins 5 (FA14 (tI p.tries) (.int p.u) (.int m.k) (.bl m.d) (tF r.a) (tF r.b) (tI r.c) (.bl false) (.int Z) (.ref (S.length + 1)) (.ref (S.length + 2)) (.non) (.int 0) (.bl false)) :: [.dct [], .dct []]) = .nx (iR w p m r S.length) (S ++ .ins 5 (FA15 (tI p.tries) (.int p.u) (.int m.k) (.bl m.d) (tF r.a) (tF r.b) (tI r.c) (.bl false) (.int Z) (.ref (S.length + 1)) (.ref (S.length + 2)) (.non) (.int 0) (.bl false) (.non)) :: [.dct [], .dct []]) :=
  fset (v := .non) (by simp [iR, Wire.D, Plan.D, Mem.D, Run.D, ev_dnew]) rfl (by simp) (by simp)
theorem ini15 (w : Wire) (p : Plan) (m : Mem) (r : Run) (S : Store) (Z : Int) : mFldSet [5] "stopped_at" (mVar 0) (mC .non) (iR w p m r S.length) (S ++ .ins 5 (FA15 (tI p.tries) (.int p.u) (.int m.k) (.bl m.d) (tF r.a) (tF r.b) (tI r.c) (.bl false) (.int Z) (.ref (S.length + 1)) (.ref (S.length + 2)) (.non) (.int 0) (.bl false) (.non)) :: [.dct [], .dct []]) = .nx (iR w p m r S.length) (S ++ .ins 5 (FA16 (tI p.tries) (.int p.u) (.int m.k) (.bl m.d) (tF r.a) (tF r.b) (tI r.c) (.bl false) (.int Z) (.ref (S.length + 1)) (.ref (S.length + 2)) (.non) (.int 0) (.bl false) (.non) (.non)) :: [.dct [], .dct []]) :=
  fset (v := .non) (by simp [iR, Wire.D, Plan.D, Mem.D, Run.D, ev_dnew]) rfl (by simp) (by simp)
theorem ini16 (w : Wire) (p : Plan) (m : Mem) (r : Run) (S : Store) (Z : Int) : mFldSet [5] "history" (mVar 0) (mLst mNil) (iR w p m r S.length) (S ++ .ins 5 (FA16 (tI p.tries) (.int p.u) (.int m.k) (.bl m.d) (tF r.a) (tF r.b) (tI r.c) (.bl false) (.int Z) (.ref (S.length + 1)) (.ref (S.length + 2)) (.non) (.int 0) (.bl false) (.non) (.non)) :: [.dct [], .dct []]) = .nx (iR w p m r S.length) (S ++ .ins 5 (FA17 (tI p.tries) (.int p.u) (.int m.k) (.bl m.d) (tF r.a) (tF r.b) (tI r.c) (.bl false) (.int Z) (.ref (S.length + 1)) (.ref (S.length + 2)) (.non) (.int 0) (.bl false) (.non) (.non) (.ref (S.length + 3))) :: [.dct [], .dct [], .lst []]) :=
  fset (v := .ref (S.length + 3)) (by simp [iR, Wire.D, Plan.D, Mem.D, Run.D, ev_dnew]) rfl (by simp) (by simp)
theorem ini8b (w : Wire) (p : Plan) (m : Mem) (r : Run) (S : Store) (M Z : Int) (h : Z = match r.c[r.c.length - 1]? with | none => M | some x => if x > M then x else M) : (mIf (mB (mOp bGt (mCB fLen (mCons (mOp bIx (mVar 4) (mC (.int 2))) mNil)) (mC (.int 0)))) (mFldSet [5] "last" (mVar 0) (mCB fMax2 (mCons (mFld [5] "last" (mVar 0)) (mCons (mOp bIx (mOp bIx (mVar 4) (mC (.int 2))) (mNeg (mC (.int 1)))) mNil)))) mNext) (iR w p m r S.length) (S ++ .ins 5 (FA9 (tI p.tries) (.int p.u) (.int m.k) (.bl m.d) (tF r.a) (tF r.b) (tI r.c) (.bl false) (.int M)) :: []) = .nx (iR w p m r S.length) (S ++ .ins 5 (FA9 (tI p.tries) (.int p.u) (.int m.k) (.bl m.d) (tF r.a) (tF r.b) (tI r.c) (.bl false) (.int Z)) :: []) := by
  cases hc : r.c[r.c.length - 1]? with
  | none =>
    have h0 : r.c = [] := by
      cases q : r.c with
      | nil => rfl
      | cons x l => rw [q] at hc; simp at hc
    rw [hc] at h
    subst h
    simp [iR, Run.D, h0]
  | some x =>
    have hp : 0 < r.c.length := by
      have := (List.getElem?_eq_some_iff.mp hc).1
      omega
    have ex : atI (r.c.map D.int) (-1) = some (.int x) := at_last (by rw [List.length_map, List.getElem?_map, hc]; rfl)
    rw [hc] at h
    have z : mFldSet [5] "last" (mVar 0) (mCB fMax2 (mCons (mFld [5] "last" (mVar 0)) (mCons (mOp bIx (mOp bIx (mVar 4) (mC (.int 2))) (mNeg (mC (.int 1)))) mNil))) (iR w p m r S.length) (S ++ .ins 5 (FA9 (tI p.tries) (.int p.u) (.int m.k) (.bl m.d) (tF r.a) (tF r.b) (tI r.c) (.bl false) (.int M)) :: []) = .nx (iR w p m r S.length) (S ++ .ins 5 (FA9 (tI p.tries) (.int p.u) (.int m.k) (.bl m.d) (tF r.a) (tF r.b) (tI r.c) (.bl false) (.int Z)) :: []) :=
      fset (v := .int Z) (by
        have zz := fget (S := S) (K := []) (f := "last") (fs := (FA9 (tI p.tries) (.int p.u) (.int m.k) (.bl m.d) (tF r.a) (tF r.b) (tI r.c) (.bl false) (.int M))) (ρ := iR w p m r S.length) rfl ln8
        simp only [ev_cb, ev_cons, zz, bind_ok, q_c1]
        simp [iR, Run.D, ex, h]) rfl (by simp) (by simp)
    have t : mB (mOp bGt (mCB fLen (mCons (mOp bIx (mVar 4) (mC (.int 2))) mNil)) (mC (.int 0))) (iR w p m r S.length) (S ++ .ins 5 (FA9 (tI p.tries) (.int p.u) (.int m.k) (.bl m.d) (tF r.a) (tF r.b) (tI r.c) (.bl false) (.int M)) :: []) = .ok true (S ++ .ins 5 (FA9 (tI p.tries) (.int p.u) (.int m.k) (.bl m.d) (tF r.a) (tF r.b) (tI r.c) (.bl false) (.int M)) :: []) := by
      simp [iR, Run.D, hp]
    rw [ev_if, t]
    exact z
theorem c_init0 (w : Wire) (p : Plan) (m : Mem) (r : Run) {la : Int} (ela : atI (p.tries.map D.int) (-1) = some (.int la)) (S : Store) (M Z : Int) (hM : M = (if p.u < la + w.o + w.b then la + w.o + w.b else p.u)) (hZ2 : Z = match r.c[r.c.length - 1]? with | none => M | some x => if x > M then x else M) :
  b_CallPlay____init__ (iR w p m r S.length) (S ++ .ins 5 [] :: []) = .nx (iR w p m r S.length) (S ++ .ins 5 (FA17 (tI p.tries) (.int p.u) (.int m.k) (.bl m.d) (tF r.a) (tF r.b) (tI r.c) (.bl false) (.int Z) (.ref (S.length + 1)) (.ref (S.length + 2)) .non (.int 0) (.bl false) .non .non (.ref (S.length + 3))) :: [.dct [], .dct [], .lst []]) := by
  unfold b_CallPlay____init__
  rw [ev_seq, ini0 w p m r S, seq_nx]
  rw [ev_seq, ini1 w p m r S, seq_nx]
  rw [ev_seq, ini2 w p m r S, seq_nx]
  rw [ev_seq, ini3 w p m r S, seq_nx]
  rw [ev_seq, ini4 w p m r S, seq_nx]
  rw [ev_seq, ini5 w p m r S, seq_nx]
  rw [ev_seq, ini6 w p m r S, seq_nx]
  rw [ev_seq, ini7 w p m r S, seq_nx]
  rw [ev_seq, ini8 w p m r S ela M hM, seq_nx]
  rw [ev_seq, ini8b w p m r S M Z hZ2, seq_nx]
  rw [ev_seq, ini9 w p m r S Z, seq_nx]
  rw [ev_seq, ini10 w p m r S Z, seq_nx]
  rw [ev_seq, ini11 w p m r S Z, seq_nx]
  rw [ev_seq, ini12 w p m r S Z, seq_nx]
  rw [ev_seq, ini13 w p m r S Z, seq_nx]
  rw [ev_seq, ini14 w p m r S Z, seq_nx]
  rw [ev_seq, ini15 w p m r S Z, seq_nx]
  rw [ini16 w p m r S Z]
theorem c_init (w : Wire) (p : Plan) (m : Mem) (r : Run) {la : Int} (hla : p.tries[p.tries.length - 1]? = some la) (S : Store) :
    m_CallPlay____init__ [.ref S.length, w.D, p.D, m.D, r.D, .bl false] (S ++ [.ins 5 []]) = .ok .non (CF S (ccOf w p m r la) st0 .non .non [] [] []) := by
  have ela : atI (p.tries.map D.int) (-1) = some (.int la) := at_last (by rw [List.length_map, List.getElem?_map, hla]; rfl)
  obtain ⟨M, hM⟩ : ∃ M, M = (if p.u < la + w.o + w.b then la + w.o + w.b else p.u) := ⟨_, rfl⟩
  obtain ⟨Z, hZ⟩ : ∃ Z, Z = lastOf w p r la := ⟨_, rfl⟩
  have hZ2 : Z = match r.c[r.c.length - 1]? with | none => M | some x => if x > M then x else M := by rw [hZ, hM]; rfl
  rw [show m_CallPlay____init__ [.ref S.length, w.D, p.D, m.D, r.D, .bl false] (S ++ [.ins 5 []]) = (b_CallPlay____init__ (iR w p m r S.length) (S ++ .ins 5 [] :: [])).fin from rfl]
  rw [c_init0 w p m r ela S M Z hM hZ2, fin_nx, fa_flds]
  unfold ccOf
  rw [← hZ]
  have h1 : doneD st0.done = .non := rfl
  have h2 : (st0.told : Int) = 0 := rfl
  have h3 : st0.heard = false := rfl
  have h4 : st0.log.map evD = [] := rfl
  simp only [CF, h1, h2, h3, h4]
end K34
end

section
namespace K34
open PySem L2 FL
theorem filt_asc (a b : Int) (hab : a ≤ b) : ∀ l : List Int, l.Pairwise (· < ·) → (l.filter fun t => decide (a ≤ t ∧ t < b + 1)) = (l.filter fun t => decide (a ≤ t ∧ t < b)) ++ (if b ∈ l then [b] else [])
  | [], _ => rfl
  | x :: l, h => by
    rw [List.pairwise_cons] at h
    have ih := filt_asc a b hab l h.2
    rw [List.filter_cons, List.filter_cons]
    by_cases h1 : x < b
    · have e : ∀ p, (b ∈ x :: l ↔ b ∈ l) ∧ p = p := fun (p : Prop) => ⟨⟨fun q => by
        rcases List.mem_cons.mp q with q | q
        · omega
        · exact q, fun q => List.mem_cons_of_mem _ q⟩, rfl⟩
      have e1 : (b ∈ x :: l) = (b ∈ l) := propext (e True).1
      simp only [e1]
      by_cases h2 : a ≤ x
      · have h3 : x < b + 1 := by omega
        rw [if_pos (by simp [h2, h3]), if_pos (by simp [h2, h1]), ih]
        rfl
      · rw [if_neg (by simp [h2]), if_neg (by simp [h2]), ih]
    · have hl : ∀ y ∈ l, b < y := fun y hy => by have := h.1 y hy; omega
      have e2 : (l.filter fun t => decide (a ≤ t ∧ t < b)) = [] := List.filter_eq_nil_iff.mpr fun y hy => by have := hl y hy; simp; omega
      have e3 : (l.filter fun t => decide (a ≤ t ∧ t < b + 1)) = [] := List.filter_eq_nil_iff.mpr fun y hy => by have := hl y hy; simp; omega
      rw [e2, e3]
      by_cases h2 : x = b
      · subst h2
        rw [if_pos (by simp; omega), if_neg (by simp), if_pos (by simp)]
        rfl
      · rw [if_neg (by simp; omega), if_neg (by simp; omega), if_neg (by
          intro q
          rcases List.mem_cons.mp q with q | q
          · omega
          · have := hl b q; omega)]
        rfl
theorem step_tail {w : Wire} {p : Plan} {la : Int} (m : Mem) (r : Run) {n : Nat} (hn : endOf w p la ≤ n) (ho : 0 ≤ w.o) (hb : 0 ≤ w.b) (hla : ∀ x ∈ p.tries, x ≤ la) {st : PS} (h : PI p la w.o w.b n st) : step p m r n st = sCrash m r n st := by
  have he : la + w.o + w.b < n ∧ p.u < n := by unfold endOf at hn; split at hn <;> omega
  obtain ⟨s1, hs1⟩ : ∃ s1, s1 = sCrash m r n st := ⟨_, rfl⟩
  have c1 : s1.arr = st.arr ∧ s1.hear = st.hear := by rw [hs1]; unfold sCrash; split <;> exact ⟨rfl, rfl⟩
  have a1 : sAsk p r n s1 = s1 := by
    unfold sAsk
    rw [if_neg (by intro q; have := hla _ q.1; omega)]
  have d1 : due s1.arr n = [] := by
    unfold due
    rw [List.filter_eq_nil_iff.mpr (fun e he' => by rw [c1.1] at he'; have := h.arrL e he'; simp; omega)]
    rfl
  have d2 : due s1.hear n = [] := by
    unfold due
    rw [List.filter_eq_nil_iff.mpr (fun e he' => by rw [c1.2] at he'; have := h.hearL e he'; simp; omega)]
    rfl
  have a2 : sArrs m r n s1 = s1 := by unfold sArrs; rw [d1]; rfl
  have a3 : sHears p n s1 = s1 := by unfold sHears; rw [d2]; rfl
  have a4 : sGive p n s1 = s1 := by unfold sGive; rw [if_neg (by intro q; omega)]
  unfold step
  rw [← hs1, a1, a2, a3, a4]
theorem play_tail {w : Wire} {p : Plan} (hp : p.Ok) (m : Mem) {r : Run} (g : Good r w.o w.b) {la : Int} (ho : 0 ≤ w.o) (hb : 0 ≤ w.b) (hla : ∀ x ∈ p.tries, x ≤ la) (hc : r.c.Pairwise (· < ·)) {E : Nat} (hE : endOf w p la = E) : ∀ k : Nat,
    (play p m r (E + k)).log = (play p m r E).log ++ (r.c.filter fun t => decide ((E : Int) ≤ t ∧ t < (E : Int) + k)).map fun t => ev t "crash" (-1)
  | 0 => by
    rw [List.filter_eq_nil_iff.mpr (fun y hy => by simp <;> omega)]
    simp
  | k + 1 => by
    have e : play p m r (E + (k + 1)) = step p m r ((E + k : Nat) : Int) (play p m r (E + k)) := rfl
    rw [e, step_tail (w := w) m r (n := E + k) (by rw [hE]; omega) ho hb hla (play_ok (m := m) hp g ho hb hla (E + k))]
    have e2 : (r.c.filter fun t => decide ((E : Int) ≤ t ∧ t < (E : Int) + ((k + 1 : Nat) : Int))) = (r.c.filter fun t => decide ((E : Int) ≤ t ∧ t < (E : Int) + k)) ++ (if ((E + k : Nat) : Int) ∈ r.c then [((E + k : Nat) : Int)] else []) := by
      rw [show (E : Int) + ((k + 1 : Nat) : Int) = ((E + k : Nat) : Int) + 1 by omega, filt_asc _ _ (by omega) r.c hc, show ((E + k : Nat) : Int) = (E : Int) + (k : Int) by omega]
    rw [e2, List.map_append]
    have ih := play_tail hp m g ho hb hla hc hE k
    unfold sCrash
    by_cases q : ((E + k : Nat) : Int) ∈ r.c
    · rw [if_pos q, if_pos q]
      show (play p m r (E + k)).log ++ _ = _
      rw [ih, List.append_assoc]
      rfl
    · rw [if_neg q, if_neg q, ih]
      simp
theorem last_le {l : List Int} (h : l.Pairwise (· < ·)) {z : Int} (hz : l[l.length - 1]? = some z) : ∀ x ∈ l, x ≤ z := by
  intro x hx
  obtain ⟨i, hi, e⟩ := List.mem_iff_getElem.mp hx
  obtain ⟨hj, e2⟩ := List.getElem?_eq_some_iff.mp hz
  by_cases q : i = l.length - 1
  · subst q; omega
  · have := List.pairwise_iff_getElem.mp h i (l.length - 1) hi hj (by omega)
    omega
theorem c_played (w : Wire) (hw : w.Ok) (p : Plan) (hp : p.Ok) (m : Mem) (r : Run) (hr : r.Ok w p m) (hm : m.Ok) {la : Int} (hla : p.tries[p.tries.length - 1]? = some la) (hla2 : ∀ x ∈ p.tries, x ≤ la) (S : Store) :
    m_played_log [w.D, p.D, m.D, r.D] S = .ok (.tup ((lawLog w p m r la).map evD)) S := by
  have g := hr.good hw
  have rla := hp.rng la (List.mem_of_getElem? hla)
  have hu := hp.u
  have hlu := hp.last la hla
  obtain ⟨⟨w1, w2⟩, ⟨w3, w4⟩, _, _⟩ := id hw
  have hcl := hr.cl
  have hmc := hm.c
  obtain ⟨E, hE⟩ : ∃ E : Nat, endOf w p la = E := ⟨(endOf w p la).toNat, by unfold endOf; split <;> omega⟩
  have hE2 : E ≤ 500 := by unfold endOf at hE; split at hE <;> omega
  obtain ⟨N, hN, hN2, hN3, hN4⟩ : ∃ N : Nat, lastOf w p r la = (N : Int) - 1 ∧ N ≤ 1000 ∧ E ≤ N ∧ ∀ x ∈ r.c, x < N := by
    obtain ⟨M, hM⟩ : ∃ M, M = (if la + w.o + w.b > p.u then la + w.o + w.b else p.u) := ⟨_, rfl⟩
    have hE' : 1 + M = (E : Int) := by rw [hM]; exact hE
    have el : lastOf w p r la = match r.c[r.c.length - 1]? with | none => M | some x => if x > M then x else M := by rw [hM]; rfl
    rw [el]
    clear el hM hE
    cases q : r.c[r.c.length - 1]? with
    | none =>
      refine ⟨E, by dsimp only; omega, by omega, Nat.le_refl _, fun x hx => ?_⟩
      cases q2 : r.c with
      | nil => rw [q2] at hx; cases hx
      | cons y l => rw [q2] at q; simp at q
    | some x =>
      have hx := hr.cr x (List.mem_of_getElem? q)
      have hxl := last_le hr.cp q
      dsimp only
      split
      · refine ⟨(x + 1).toNat, by omega, by omega, by omega, fun y hy => by have := hxl y hy; omega⟩
      · refine ⟨E, by omega, by omega, Nat.le_refl _, fun y hy => by have := hxl y hy; omega⟩
  have hlog : (play p m r N).log = lawLog w p m r la := by
    have z := play_tail hp m g w1 w3 hla2 hr.cp hE (N - E)
    rw [show E + (N - E) = N by omega] at z
    rw [z]
    unfold lawLog
    rw [hE, Int.toNat_natCast]
    congr 2
    refine List.filter_congr fun x hx => ?_
    have := hN4 x hx
    simp
    omega
  have co : CCOk (ccOf w p m r la) p m r := ⟨rfl, rfl, rfl, rfl, rfl, rfl, rfl, rfl⟩
  obtain ⟨ka, kb, J, z⟩ := c_all S (ccOf w p m r la) hp co g w1 w3 hla2 N hN2 (by show D.int _ = _; rw [hN])
  have z0 := c_init w p m r hla S
  have zm : kMake 5 m_CallPlay____init__ [w.D, p.D, m.D, r.D, .bl false] S = .ok (.ref S.length) (CF S (ccOf w p m r la) st0 .non .non [] [] []) := by unfold kMake; rw [z0]
  have z2 : (b_played_log (rho0 5 [w.D, p.D, m.D, r.D]) S).fin = .ok (.tup ((lawLog w p m r la).map evD)) (CF S (ccOf w p m r la) (play p m r N) .non .non ka kb J) := by
    rw [← hlog]
    obtain ⟨wD, hwD⟩ : ∃ x, x = w.D := ⟨_, rfl⟩
    obtain ⟨pD', hpD⟩ : ∃ x, x = p.D := ⟨_, rfl⟩
    obtain ⟨mD, hmD⟩ : ∃ x, x = m.D := ⟨_, rfl⟩
    obtain ⟨rD, hrD⟩ : ∃ x, x = r.D := ⟨_, rfl⟩
    rw [← hwD, ← hpD, ← hmD, ← hrD] at zm ⊢
    simp [CF] at zm z
    simp [b_played_log, rho0, zm, kIMe, z, CF, kFld]
  show gcR S _ = _
  rw [show mFn 5 b_played_log [w.D, p.D, m.D, r.D] S = (b_played_log (rho0 5 [w.D, p.D, m.D, r.D]) S).fin from rfl, z2]
  refine gc_app ?_
  rw [bel_t]
  exact bel_evs
theorem c_call (w : Wire) (hw : w.Ok) (p : Plan) (hp : p.Ok) (m : Mem) (r : Run) (hr : r.Ok w p m) (hm : m.Ok) {la : Int} (hla : p.tries[p.tries.length - 1]? = some la) (hla2 : ∀ x ∈ p.tries, x ≤ la) (S : Store) :
    m_play_call [w.D, p.D, m.D, r.D] S = .ok (.tup ((lawLog w p m r la).map evD)) S := by
  have b : Bel S.length (.tup ((lawLog w p m r la).map evD)) := by rw [bel_t]; exact bel_evs
  have e1 := t_check_wire w hw S
  have e2 := t_check_plan p hp S
  have e3 := t_check_memory m hm S
  have e4 := t_check_run w hw p hp m hm r hr S
  have e5 := c_played w hw p hp m r hr hm hla hla2 S
  generalize w.D = wD at *
  generalize p.D = pD' at *
  generalize m.D = mD at *
  generalize r.D = rD at *
  simp [m_play_call, b_play_call, rho0, e1, e2, e3, e4, e5, b]
end K34
end

section
namespace K34
open PySem L2 FL
@[simp] theorem k_sb : kitB "str" "bool" = some false := by decide +kernel
theorem same_int (n : Nat) (i : Int) (S : Store) : m__law_same (n + 1) [.int i, .int i] S = .ok (.bl true) S := by
  simp [m__law_same, b__law_same, rho0]
theorem same_non (n : Nat) (S : Store) : m__law_same (n + 1) [.non, .non] S = .ok (.bl true) S := by
  simp [m__law_same, b__law_same, rho0]
theorem same_str (n : Nat) (s : Str) (S : Store) : m__law_same (n + 1) [.str s, .str s] S = .ok (.bl true) S := by
  simp [m__law_same, b__law_same, rho0]
theorem same_tup (n : Nat) (l : List D) (hl : l.length ≤ 16777216) (h : ∀ x ∈ l, ∀ S, m__law_same n [x, x] S = .ok (.bl true) S) (S : Store) : m__law_same (n + 1) [.tup l, .tup l] S = .ok (.bl true) S := by
  obtain ⟨mf, hmf⟩ : ∃ mf, mf = m__law_same n := ⟨_, rfl⟩
  rw [← hmf] at h
  obtain ⟨I, hI⟩ : ∃ I : Nat → Rho → Store → Prop, I = fun i ρ' S' => ∃ x', ρ' = [.dat (.tup l), .dat (.tup l), x'] ∧ S' = S := ⟨_, rfl⟩
  have key : (mItems (fun _ => True) (gN 2) (mIf (mNot (mTru (mCB mf (mCons (mOp bIx (mVar 0) (mVar 2)) (mCons (mOp bIx (mVar 1) (mVar 2)) mNil))))) (mRet (mC (.bl false))) mNext) ((List.range l.length).map fun (i : Nat) => D.int (i : Int)) [.dat (.tup l), .dat (.tup l), .un] S).Nx (I l.length) := by
    refine rng_T l.length I (fun i hi ρ S' q => ?_) (by rw [hI]; exact ⟨.un, rfl, rfl⟩)
    rw [hI] at q
    obtain ⟨x', rfl, rfl⟩ := q
    obtain ⟨x, hx⟩ : ∃ x, l[i]? = some x := ⟨_, List.getElem?_eq_getElem hi⟩
    have e : atI l (i : Int) = some x := x_at (by omega) (by rw [Int.toNat_natCast]; exact hx)
    have z := h x (List.mem_of_getElem? hx) S'
    simp [e, z]
    refine goes_nx ?_
    rw [hI]
    exact ⟨_, rfl, rfl⟩
  obtain ⟨ρ', S', e, q⟩ := key
  rw [hI] at q
  obtain ⟨x', rfl, rfl⟩ := q
  simp [m__law_same, b__law_same, rho0, ← hmf, hl, e]
theorem same_evs (l : List Ev) (hl : l.length ≤ 1000000) (S : Store) : m__law_same 4 [.tup (l.map evD), .tup (l.map evD)] S = .ok (.bl true) S := by
  refine same_tup 3 _ (by simp; omega) (fun x hx S => ?_) S
  obtain ⟨e, _, rfl⟩ := List.mem_map.mp hx
  unfold evD
  refine same_tup 2 _ (by simp) (fun x hx S => ?_) S
  simp at hx
  rcases hx with rfl | rfl | rfl
  · exact same_int 1 _ S
  · exact same_str 1 _ S
  · exact same_int 1 _ S
theorem same_ints (l : List Int) (hl : l.length ≤ 1000000) (S : Store) : m__law_same 4 [.tup (l.map .int), .tup (l.map .int)] S = .ok (.bl true) S := by
  refine same_tup 3 _ (by simp; omega) (fun x hx S => ?_) S
  obtain ⟨e, _, rfl⟩ := List.mem_map.mp hx
  exact same_int 2 _ S
end K34
end

section
namespace K34
open PySem L2 FL
def wt (L : List Ev) (wd : Str) : List Int := (L.filter fun e => decide (e.2.1 = wd)).map (·.1)
def pw (wd : Str) : D → Bool
  | .tup [_, .str s, _] => decide (s = wd)
  | _ => false
def f0 : D → D
  | .tup (x :: _) => x
  | d => d
theorem words_map (wd : Str) : ∀ L : List Ev, ((L.map evD).filter (pw wd)).map f0 = (wt L wd).map .int
  | [] => rfl
  | e :: L => by
    have ih := words_map wd L
    unfold wt at ih ⊢
    rw [List.map_cons, List.filter_cons, List.filter_cons]
    have h1 : pw wd (evD e) = decide (e.2.1 = wd) := rfl
    rw [h1]
    cases decide (e.2.1 = wd) with
    | true => rw [if_pos rfl, if_pos rfl, List.map_cons, List.map_cons, List.map_cons, ih]; rfl
    | false => rw [if_neg (by simp), if_neg (by simp), ih]
theorem wt_len (L : List Ev) (wd : Str) : (wt L wd).length ≤ L.length := by unfold wt; rw [List.length_map]; exact List.length_filter_le _ _
theorem bel_ints {n : Nat} : ∀ {l : List Int}, BelL n (l.map .int)
  | [] => belL_n
  | x :: l => by rw [List.map_cons, belL_c]; exact ⟨by simp, bel_ints⟩
theorem ev_gc {m : ME} {ρ : Rho} {S : Store} : mGc m ρ S = gcR S (m ρ S) := rfl
@[simp] theorem bel_tints {n : Nat} {l : List Int} : Bel n (.tup (l.map .int)) := by rw [bel_t]; exact bel_ints
@[simp] theorem bel_tevs {n : Nat} {l : List Ev} : Bel n (.tup (l.map evD)) := by rw [bel_t]; exact bel_evs
theorem c_ticks (L : List Ev) (hL : L.length ≤ 1000000) (wd : Str) (S : Store) : m_ticks_of [.tup (L.map evD), .str wd] S = .ok (.tup ((wt L wd).map .int)) S := by
  have z := lc_filt (P := fun _ => True) (tg := gN 2) (tt := mB (mOp bEq (mOp bIx (mVar 2) (mC (.int 1))) (mVar 1))) (el := mOp bIx (mVar 2) (mC (.int 0))) (n := S.length) (ρ := wipeR [.dat (.tup (L.map evD)), .dat (.str wd), .un] [2]) (pw wd) f0 (fun _ _ _ => trivial) (L.map evD) [] (S ++ [.lst []]) trivial (fun d hd S => by
    obtain ⟨x, _, rfl⟩ := List.mem_map.mp hd
    refine ⟨_, rfl, by simp [wipeR, evD, pw], fun _ => by simp [wipeR, f0, evD]⟩) (by simp) (by simp; omega)
  rw [List.nil_append, words_map] at z
  simp at z
  simp [m_ticks_of, b_ticks_of, c_ticks_of_0, rho0, ev_gc, z]
theorem c_comp0 (L : List Ev) (hL : L.length ≤ 1000000) (r0 r1 r2 r3 r5 r6 r7 r8 r9 r10 : Sl) (S : Store) : c__law_is_right_0 [r0, r1, r2, r3, .dat (.tup (L.map evD)), r5, r6, r7, r8, r9, r10] S = .ok (.ref S.length) (S ++ [.lst ((wt L "hear").map .int)]) := by
  have z := lc_filt (P := fun _ => True) (tg := gN 10) (tt := mB (mOp bEq (mOp bIx (mVar 10) (mC (.int 1))) (mC (.str "hear")))) (el := mOp bIx (mVar 10) (mC (.int 0))) (n := S.length) (ρ := wipeR [r0, r1, r2, r3, .dat (.tup (L.map evD)), r5, r6, r7, r8, r9, r10] [10]) (pw "hear") f0 (fun _ _ _ => trivial) (L.map evD) [] (S ++ [.lst []]) trivial (fun d hd S => by
    obtain ⟨x, _, rfl⟩ := List.mem_map.mp hd
    refine ⟨_, rfl, by simp [wipeR, evD, pw], fun _ => by simp [wipeR, f0, evD]⟩) (by simp) (by simp; omega)
  rw [List.nil_append, words_map] at z
  simp at z
  simp [c__law_is_right_0, z]
theorem c_comp1 (L : List Ev) (hL : L.length ≤ 1000000) (r0 r1 r2 r3 r5 r6 r7 r8 r9 r10 : Sl) (S : Store) : c__law_is_right_1 [r0, r1, r2, r3, .dat (.tup (L.map evD)), r5, r6, r7, r8, r9, r10] S = .ok (.ref S.length) (S ++ [.lst ((wt L "arrive").map .int)]) := by
  have z := lc_filt (P := fun _ => True) (tg := gN 10) (tt := mB (mOp bEq (mOp bIx (mVar 10) (mC (.int 1))) (mC (.str "arrive")))) (el := mOp bIx (mVar 10) (mC (.int 0))) (n := S.length) (ρ := wipeR [r0, r1, r2, r3, .dat (.tup (L.map evD)), r5, r6, r7, r8, r9, r10] [10]) (pw "arrive") f0 (fun _ _ _ => trivial) (L.map evD) [] (S ++ [.lst []]) trivial (fun d hd S => by
    obtain ⟨x, _, rfl⟩ := List.mem_map.mp hd
    refine ⟨_, rfl, by simp [wipeR, evD, pw], fun _ => by simp [wipeR, f0, evD]⟩) (by simp) (by simp; omega)
  rw [List.nil_append, words_map] at z
  simp at z
  simp [c__law_is_right_1, z]
theorem c_comp2 (L : List Ev) (hL : L.length ≤ 1000000) (r0 r1 r2 r3 r5 r6 r7 r8 r9 r10 : Sl) (S : Store) : c__law_is_right_2 [r0, r1, r2, r3, .dat (.tup (L.map evD)), r5, r6, r7, r8, r9, r10] S = .ok (.ref S.length) (S ++ [.lst ((wt L "do").map .int)]) := by
  have z := lc_filt (P := fun _ => True) (tg := gN 10) (tt := mB (mOp bEq (mOp bIx (mVar 10) (mC (.int 1))) (mC (.str "do")))) (el := mOp bIx (mVar 10) (mC (.int 0))) (n := S.length) (ρ := wipeR [r0, r1, r2, r3, .dat (.tup (L.map evD)), r5, r6, r7, r8, r9, r10] [10]) (pw "do") f0 (fun _ _ _ => trivial) (L.map evD) [] (S ++ [.lst []]) trivial (fun d hd S => by
    obtain ⟨x, _, rfl⟩ := List.mem_map.mp hd
    refine ⟨_, rfl, by simp [wipeR, evD, pw], fun _ => by simp [wipeR, f0, evD]⟩) (by simp) (by simp; omega)
  rw [List.nil_append, words_map] at z
  simp at z
  simp [c__law_is_right_2, z]
def ansD : List Int → D
  | [] => .non
  | x :: _ => .int x
def gapI : List Int → Int
  | [] => 0
  | x :: l => ((x :: l)[l.length]?).getD 0 - x
theorem c_done (L : List Ev) (hL : L.length ≤ 1000000) (S : Store) : m_done_ticks [.tup (L.map evD)] S = .ok (.tup ((wt L "do").map .int)) S := by
  simp [m_done_ticks, b_done_ticks, rho0, c_ticks L hL]
theorem c_arrive (L : List Ev) (hL : L.length ≤ 1000000) (S : Store) : m_arrivals [.tup (L.map evD)] S = .ok (.tup ((wt L "arrive").map .int)) S := by
  simp [m_arrivals, b_arrivals, rho0, c_ticks L hL]
theorem at_lastc (x : Int) (l : List Int) : atI ((x :: l).map D.int) (-1) = some (.int ((((x :: l)[l.length]?).getD 0))) := by
  obtain ⟨y, hy⟩ : ∃ y, (x :: l)[l.length]? = some y := ⟨_, List.getElem?_eq_getElem (by simp)⟩
  exact at_last (by rw [List.length_map, List.getElem?_map, show (x :: l).length - 1 = l.length from rfl, hy]; rfl)
theorem c_answer (L : List Ev) (hL : L.length ≤ 1000000) (S : Store) : m_answer_tick [.tup (L.map evD)] S = .ok (ansD (wt L "hear")) S := by
  have z := c_ticks L hL "hear" S
  generalize wt L "hear" = l at *
  cases l with
  | nil => simp at z; simp [m_answer_tick, b_answer_tick, rho0, z, ansD]
  | cons x l =>
    have h0 : ¬ ((l.length : Int) + 1 = 0) := by omega
    simp at z; simp [m_answer_tick, b_answer_tick, rho0, z, ansD, h0]
theorem c_gap (L : List Ev) (hL : L.length ≤ 1000000) (S : Store) : m_gap_of [.tup (L.map evD)] S = .ok (.int (gapI (wt L "arrive"))) S := by
  have z := c_arrive L hL S
  generalize wt L "arrive" = l at *
  cases l with
  | nil => simp at z; simp [m_gap_of, b_gap_of, rho0, z, gapI]
  | cons x l =>
    have e := at_lastc x l
    have h0 : ¬ ((l.length : Int) + 1 = 0) := by omega
    simp at z e
    simp [m_gap_of, b_gap_of, rho0, z, gapI, e, h0]
end K34
end

section
namespace K34
open PySem L2 FL
theorem same_ans (l : List Int) (S : Store) : m__law_same 4 [ansD l, ansD l] S = .ok (.bl true) S := by
  cases l with
  | nil => exact same_non 3 S
  | cons x l => exact same_int 3 x S
theorem t_right (w : Wire) (hw : w.Ok) (p : Plan) (hp : p.Ok) (m : Mem) (r : Run) (hr : r.Ok w p m) (hm : m.Ok) {la : Int} (hla : p.tries[p.tries.length - 1]? = some la) (hla2 : ∀ x ∈ p.tries, x ≤ la) (S : Store) :
    m__law_is_right [w.D, p.D, m.D, r.D] S = .ok (.bl true) S := by
  obtain ⟨e1, hL⟩ := t_law_play w hw p hp m r hr hm hla hla2 S
  have e2 := c_call w hw p hp m r hr hm hla hla2 S
  generalize lawLog w p m r la = L at *
  generalize w.D = wD at *
  generalize p.D = pD' at *
  generalize m.D = mD at *
  generalize r.D = rD at *
  have a1 := c_comp0 L hL
  have a2 := c_comp1 L hL
  have a3 := c_comp2 L hL
  have b1 := c_answer L hL
  have b2 := c_gap L hL
  have b3 := c_arrive L hL
  have b4 := c_done L hL
  have s1 := same_evs L hL
  have s2 := same_ans (wt L "hear")
  have s3 := same_int 3 (gapI (wt L "arrive"))
  have s4 := same_ints (wt L "arrive") (by have := wt_len L "arrive"; omega)
  have s5 := same_ints (wt L "do") (by have := wt_len L "do"; omega)
  generalize wt L "hear" = hs at *
  generalize wt L "arrive" = as at *
  generalize wt L "do" = ds at *
  have key : ∀ S7 : Store, S7 = S ++ [.lst (hs.map .int)] → (mIf (mB (mOp bGt (mCB fLen (mCons (mVar 6) mNil)) (mC (.int 0)))) (mSet 7 (mOp bIx (mVar 6) (mC (.int 0)))) mNext) [.dat wD, .dat pD', .dat mD, .dat rD, .dat (.tup (L.map evD)), .dat (.tup (L.map evD)), .dat (.ref S.length), .dat .non, .un, .un, .un] S7 = .nx [.dat wD, .dat pD', .dat mD, .dat rD, .dat (.tup (L.map evD)), .dat (.tup (L.map evD)), .dat (.ref S.length), .dat (ansD hs), .un, .un, .un] S7 := by
    rintro S7 rfl
    cases hs with
    | nil => simp [ansD]
    | cons x l =>
      have h0 : (0 : Int) < (l.length : Int) + 1 := by omega
      simp [ansD, h0]
  have key2 : ∀ S8 : Store, S8 = S ++ [.lst (hs.map .int), .lst (as.map .int)] → (mIf (mB (mOp bGt (mCB fLen (mCons (mVar 8) mNil)) (mC (.int 0)))) (mSet 9 (mOp bSub (mOp bIx (mVar 8) (mOp bSub (mCB fLen (mCons (mVar 8) mNil)) (mC (.int 1)))) (mOp bIx (mVar 8) (mC (.int 0))))) mNext) [.dat wD, .dat pD', .dat mD, .dat rD, .dat (.tup (L.map evD)), .dat (.tup (L.map evD)), .dat (.ref S.length), .dat (ansD hs), .dat (.ref (S.length + 1)), .dat (.int 0), .un] S8 = .nx [.dat wD, .dat pD', .dat mD, .dat rD, .dat (.tup (L.map evD)), .dat (.tup (L.map evD)), .dat (.ref S.length), .dat (ansD hs), .dat (.ref (S.length + 1)), .dat (.int (gapI as)), .un] S8 := by
    rintro S8 rfl
    cases as with
    | nil => simp [gapI]
    | cons x l =>
      have h0 : (0 : Int) < (l.length : Int) + 1 := by omega
      obtain ⟨y, hy⟩ : ∃ y, (x :: l)[l.length]? = some y := ⟨_, List.getElem?_eq_getElem (by simp)⟩
      have e : atI ((x :: l).map D.int) ((l.length : Int) + 1 - 1) = some (.int y) := by
        rw [show (l.length : Int) + 1 - 1 = ((l.length : Nat) : Int) by omega]
        exact at_ints hy
      have eg : gapI (x :: l) = y - x := by
        show ((x :: l)[l.length]?).getD 0 - x = _
        rw [hy]
        rfl
      rw [eg]
      simp at e
      simp [h0, e]
  simp at key key2
  have g3 : gcR (S ++ [.lst (hs.map .int), .lst (as.map .int)]) (.ok (.tup (ds.map .int)) (S ++ [.lst (hs.map .int), .lst (as.map .int), .lst (ds.map .int)])) = .ok (.tup (ds.map .int)) (S ++ [.lst (hs.map .int), .lst (as.map .int)]) := by
    have z := gc_app (S := S ++ [.lst (hs.map .int), .lst (as.map .int)]) (J := [.lst (ds.map .int)]) (d := .tup (ds.map .int)) bel_tints
    rw [List.append_assoc] at z
    exact z
  simp [m__law_is_right, b__law_is_right, rho0, e1, e2, s1, a1, key, a2, key2, b1, b2, s2, s3, b3, s4, b4, ev_gc, a3, s5, g3]
end K34
end

section
namespace K34
open PySem L2 FL
theorem asc_le {l : List Int} (h : ∀ (i : Nat) (x y : Int), l[i]? = some x → l[i + 1]? = some y → x < y) : ∀ (d i : Nat) (x y : Int), l[i]? = some x → l[i + d]? = some y → x ≤ y
  | 0, i, x, y, hx, hy => by rw [Nat.add_zero, hx] at hy; injection hy with e; omega
  | d + 1, i, x, y, hx, hy => by
    obtain ⟨z, hz⟩ : ∃ z, l[i + d]? = some z := ⟨_, List.getElem?_eq_getElem (by have := (List.getElem?_eq_some_iff.mp hy).1; omega)⟩
    have h1 := asc_le h d i x z hx hz
    have h2 := h (i + d) z y hz (by rw [← hy]; congr 1)
    omega
theorem Plan.Ok.le_last {p : Plan} (hp : p.Ok) {la : Int} (hla : p.tries[p.tries.length - 1]? = some la) : ∀ x ∈ p.tries, x ≤ la := by
  intro x hx
  obtain ⟨i, hi, e⟩ := List.mem_iff_getElem.mp hx
  exact asc_le hp.asc (p.tries.length - 1 - i) i x la (by rw [List.getElem?_eq_getElem hi, e]) (by rw [show i + (p.tries.length - 1 - i) = p.tries.length - 1 by omega]; exact hla)
theorem lost_take (a b : List (List Int)) (i j : Nat) : lostI (a.take i ++ b.take j) ≤ lostI (a ++ b) := by
  have h1 : lostI a = lostI (a.take i) + lostI (a.drop i) := by rw [← lost_app, List.take_append_drop]
  have h2 : lostI b = lostI (b.take j) + lostI (b.drop j) := by rw [← lost_app, List.take_append_drop]
  have := lost_nn (a.drop i)
  have := lost_nn (b.drop j)
  rw [lost_app, lost_app]
  omega
theorem extra_take (a b : List (List Int)) (i j : Nat) : extraI (a.take i ++ b.take j) ≤ extraI (a ++ b) := by
  have h1 : extraI a = extraI (a.take i) + extraI (a.drop i) := by rw [← extra_app, List.take_append_drop]
  have h2 : extraI b = extraI (b.take j) + extraI (b.drop j) := by rw [← extra_app, List.take_append_drop]
  have := extra_nn (a.drop i)
  have := extra_nn (b.drop j)
  rw [extra_app, extra_app]
  omega
theorem Run.Ok.take {w : Wire} {p : Plan} {m : Mem} {r : Run} (h : r.Ok w p m) (i j k : Nat) : Run.Ok w p m ⟨r.a.take i, r.b.take j, r.c.take k⟩ := by
  have l1 : (r.a.take i).length ≤ r.a.length := by rw [List.length_take]; omega
  have l2 : (r.b.take j).length ≤ r.b.length := by rw [List.length_take]; omega
  have l3 : (r.c.take k).length ≤ r.c.length := by rw [List.length_take]; omega
  have h1 := h.la
  have h2 := h.lb
  have h3 := h.cl
  have h4 := lost_take r.a r.b i j
  have h5 := extra_take r.a r.b i j
  have h6 := h.lost
  have h7 := h.extra
  exact ⟨fun f hf => h.fa f (List.mem_of_mem_take hf), fun f hf => h.fb f (List.mem_of_mem_take hf), by show (r.a.take i).length ≤ _; omega, by show (r.b.take j).length ≤ _; omega, by show lostI (r.a.take i ++ r.b.take j) ≤ _; omega, by show extraI (r.a.take i ++ r.b.take j) ≤ _; omega, h.cp.take, fun x hx => h.cr x (List.mem_of_mem_take hx), by show ((r.c.take k).length : Int) ≤ _; omega⟩
theorem Run.Ok.mem {w : Wire} {p : Plan} {m m' : Mem} {r : Run} (h : r.Ok w p m) (e : m'.c = m.c) : r.Ok w p m' := ⟨h.fa, h.fb, h.la, h.lb, h.lost, h.extra, h.cp, h.cr, by rw [e]; exact h.cl⟩
theorem sl_up {mo mi : ME} {ρ : Rho} {S : Store} {d : D} {v : Int} (h1 : mo ρ S = .ok d S) (h2 : mi ρ S = .ok (.int v) S) : mSl mo mNoP (mP mi) ρ S = slD d none (some v) S := by
  show (mo ρ S).bind _ = _
  rw [h1]
  show ((mi ρ S).bind _).bind _ = _
  rw [h2]
  rfl
theorem cut_up {α : Type} (l : List α) (v : Int) : ∃ k, cutD l none (some v) = l.take k := ⟨HT.sIx l.length l.length (some v), by
  unfold cutD
  rw [show HT.sIx l.length 0 none = 0 from rfl, List.drop_zero, Nat.sub_zero]⟩
theorem law_case (fzD wD pD' : D) (r : Run) (m m3 : Mem) (v0 v1 v2 v3 : Int) (ka kb kc : Nat) (L : List Ev) (T : Store) (hT : T = [.lst [.int 9, .int 14, .int 4, .int 4], .lst [.int v0, .int v1, .int v2, .int v3]])
    (e1 : m__law_wire [fzD] [] = .ok wD []) (e2 : m__law_plan [fzD, wD] [] = .ok pD' []) (e3 : m__law_memory [fzD, wD, pD'] [] = .ok m.D []) (e4 : m__law_run [fzD, wD, pD', .int m.c] [] = .ok r.D [])
    (e5 : m__law_row [fzD, .int 26, .ref 0] [.lst [.int 9, .int 14, .int 4, .int 4]] = .ok (.ref 1) T)
    (c0 : cutD (r.a.map tI) none (some v0) = (r.a.take ka).map tI) (c1 : cutD (r.b.map tI) none (some v1) = (r.b.take kb).map tI) (c2 : cutD (r.c.map D.int) none (some v2) = (r.c.take kc).map D.int)
    (hsel : (v3 = 1 ∧ m.k < 200 ∧ m3 = ⟨m.k + 1, m.d, m.c⟩) ∨ (v3 = 2 ∧ 0 < m.k ∧ m3 = ⟨m.k - 1, m.d, m.c⟩) ∨ (¬ (v3 = 1 ∧ m.k < 200) ∧ ¬ (v3 = 2 ∧ 0 < m.k) ∧ m3 = ⟨m.k, !m.d, m.c⟩))
    (R1 : m__law_is_right [wD, pD', m.D, r.D] T = .ok (.bl true) T) (R2 : m__law_is_right [wD, pD', m.D, (Run.mk (r.a.take ka) (r.b.take kb) (r.c.take kc)).D] T = .ok (.bl true) T) (R3 : m__law_is_right [wD, pD', m3.D, r.D] T = .ok (.bl true) T)
    (C : m_play_call [wD, pD', m.D, r.D] T = .ok (.tup (L.map evD)) T) (Lw : m__law_play [wD, pD', m.D, r.D] T = .ok (.tup (L.map evD)) T) (sm : m__law_same 4 [.tup (L.map evD), .tup (L.map evD)] T = .ok (.bl true) T) :
    ∃ S', (b_law (rho0 8 [fzD]) []).fin = .ok (.bl true) S' := by
  have s0 : ∀ x6 x7 : Sl, mSl (mOp bIx (mVar 4) (mC (.int 0))) mNoP (mP (mOp bIx (mVar 5) (mC (.int 0)))) [.dat fzD, .dat wD, .dat pD', .dat m.D, .dat r.D, .dat (.ref 1), x6, x7] T = .ok (tF (r.a.take ka)) T := fun x6 x7 => by
    rw [sl_up (d := tF r.a) (v := v0) (by simp [Run.D]) (by simp [hT])]
    show R.ok (D.tup (cutD _ _ _)) T = _
    rw [c0]
  have s1 : ∀ x6 x7 : Sl, mSl (mOp bIx (mVar 4) (mC (.int 1))) mNoP (mP (mOp bIx (mVar 5) (mC (.int 1)))) [.dat fzD, .dat wD, .dat pD', .dat m.D, .dat r.D, .dat (.ref 1), x6, x7] T = .ok (tF (r.b.take kb)) T := fun x6 x7 => by
    rw [sl_up (d := tF r.b) (v := v1) (by simp [Run.D]) (by simp [hT])]
    show R.ok (D.tup (cutD _ _ _)) T = _
    rw [c1]
  have s2 : ∀ x6 x7 : Sl, mSl (mOp bIx (mVar 4) (mC (.int 2))) mNoP (mP (mOp bIx (mVar 5) (mC (.int 2)))) [.dat fzD, .dat wD, .dat pD', .dat m.D, .dat r.D, .dat (.ref 1), x6, x7] T = .ok (tI (r.c.take kc)) T := fun x6 x7 => by
    rw [sl_up (d := tI r.c) (v := v2) (by simp [Run.D]) (by simp [hT])]
    show R.ok (D.tup (cutD _ _ _)) T = _
    rw [c2]
  have g5 : getL T 1 = some [.int v0, .int v1, .int v2, .int v3] := by rw [hT]; rfl
  clear hT c0 c1 c2
  have hr3 : (Run.mk (r.a.take ka) (r.b.take kb) (r.c.take kc)).D = .tup [tF (r.a.take ka), tF (r.b.take kb), tI (r.c.take kc)] := rfl
  rw [hr3] at R2
  have hrD : r.D = .tup [tF r.a, tF r.b, tI r.c] := rfl
  clear hr3 hrD
  generalize tF (r.a.take ka) = A' at *
  generalize tF (r.b.take kb) = B' at *
  generalize tI (r.c.take kc) = C' at *
  generalize r.D = rD at *
  rcases hsel with ⟨h1, h2, rfl⟩ | ⟨h1, h2, rfl⟩ | ⟨h1, h2, rfl⟩
  · subst h1
    simp [Mem.D] at e3 R1 R2 R3 C Lw s0 s1 s2
    simp [b_law, rho0, e1, e2, e3, e4, e5, s0, s1, s2, g5, h2, R1, R2, R3, C, Lw, sm]
  · subst h1
    simp [Mem.D] at e3 R1 R2 R3 C Lw s0 s1 s2
    simp [b_law, rho0, e1, e2, e3, e4, e5, s0, s1, s2, g5, h2, R1, R2, R3, C, Lw, sm]
  · simp [Mem.D] at e3 R1 R2 R3 C Lw s0 s1 s2
    have h1' : v3 = 1 → ¬ m.k < 200 := fun a b => h1 ⟨a, b⟩
    have h2' : v3 = 2 → ¬ 0 < m.k := fun a b => h2 ⟨a, b⟩
    by_cases d1 : v3 = 1
    · have d1' := h1' d1
      subst d1
      simp [b_law, rho0, e1, e2, e3, e4, e5, s0, s1, s2, g5, d1', R1, R2, R3, C, Lw, sm]
    · by_cases d2 : v3 = 2
      · have d2' := h2' d2
        subst d2
        simp [b_law, rho0, e1, e2, e3, e4, e5, s0, s1, s2, g5, d2', R1, R2, R3, C, Lw, sm]
      · simp [b_law, rho0, e1, e2, e3, e4, e5, s0, s1, s2, g5, d1, d2, R1, R2, R3, C, Lw, sm]
end K34
end

section
namespace K34
open PySem L2 FL
theorem law_true : ∀ ns : List Int, ns.length ≤ 63 → ∃ S', m_law [.fz (ns.map FL.D.int)] [] = .ok (.bl true) S' := by
  intro ns _
  obtain ⟨w, hw, e1⟩ := t_wire ns []
  obtain ⟨p, hp, e2⟩ := t_plan ns w hw []
  obtain ⟨m, hm, e3⟩ := t_memory ns w hw p hp []
  obtain ⟨r, hr, e4⟩ := t_run ns w hw p hp m hm []
  obtain ⟨vs, ⟨h1, h2⟩, e5⟩ := t_row ns 26 (by decide) (by decide) [9, 14, 4, 4] (by decide) (by decide) [.lst [.int 9, .int 14, .int 4, .int 4]] 0 rfl
  match vs, h1 with
  | [v0, v1, v2, v3], _ =>
    obtain ⟨la, hla⟩ : ∃ la, p.tries[p.tries.length - 1]? = some la := ⟨_, List.getElem?_eq_getElem (by have := hp.pos; omega)⟩
    have hla2 := hp.le_last hla
    obtain ⟨T, hT⟩ : ∃ T : Store, T = [.lst [.int 9, .int 14, .int 4, .int 4], .lst [.int v0, .int v1, .int v2, .int v3]] := ⟨_, rfl⟩
    obtain ⟨ka, c0⟩ := cut_up (r.a.map tI) v0
    obtain ⟨kb, c1⟩ := cut_up (r.b.map tI) v1
    obtain ⟨kc, c2⟩ := cut_up (r.c.map D.int) v2
    obtain ⟨m3, hm3, hc3, hsel⟩ : ∃ m3 : Mem, m3.Ok ∧ m3.c = m.c ∧ ((v3 = 1 ∧ m.k < 200 ∧ m3 = ⟨m.k + 1, m.d, m.c⟩) ∨ (v3 = 2 ∧ 0 < m.k ∧ m3 = ⟨m.k - 1, m.d, m.c⟩) ∨ (¬ (v3 = 1 ∧ m.k < 200) ∧ ¬ (v3 = 2 ∧ 0 < m.k) ∧ m3 = ⟨m.k, !m.d, m.c⟩)) := by
      obtain ⟨⟨k1, k2⟩, hc⟩ := id hm
      by_cases q1 : v3 = 1 ∧ m.k < 200
      · exact ⟨⟨m.k + 1, m.d, m.c⟩, ⟨by dsimp only; omega, hc⟩, rfl, .inl ⟨q1.1, q1.2, rfl⟩⟩
      · by_cases q2 : v3 = 2 ∧ 0 < m.k
        · exact ⟨⟨m.k - 1, m.d, m.c⟩, ⟨by dsimp only; omega, hc⟩, rfl, .inr (.inl ⟨q2.1, q2.2, rfl⟩)⟩
        · exact ⟨⟨m.k, !m.d, m.c⟩, ⟨⟨k1, k2⟩, hc⟩, rfl, .inr (.inr ⟨q1, q2, rfl⟩)⟩
    obtain ⟨eL, hL⟩ := t_law_play w hw p hp m r hr hm hla hla2 T
    obtain ⟨S', z⟩ := law_case (.fz (ns.map .int)) w.D p.D r m m3 v0 v1 v2 v3 ka kb kc (lawLog w p m r la) T hT e1 e2 e3 e4
      (by rw [hT]; exact e5) (by rw [c0, List.map_take]) (by rw [c1, List.map_take]) (by rw [c2, List.map_take]) hsel
      (t_right w hw p hp m r hr hm hla hla2 T) (t_right w hw p hp m _ (hr.take ka kb kc) hm hla hla2 T) (t_right w hw p hp m3 r (hr.mem hc3) hm3 hla hla2 T)
      (c_call w hw p hp m r hr hm hla hla2 T) eL (same_evs _ hL T)
    refine ⟨[], ?_⟩
    show gcR [] _ = _
    rw [show mFn 8 b_law [.fz (ns.map .int)] [] = (b_law (rho0 8 [.fz (ns.map .int)]) []).fin from rfl, z]
    exact gc_app (S := []) (J := S') (by simp)
end K34
end
end

section
namespace K34
open PySem L2 FL
def top (i : Nat) : Stmt := PySem.Challenge.pw_trunkcall_k34_play_one_call.main.body.getD i (.Pass ⟨0, 0, 0, 0⟩)
abbrev s_is_int : Stmt := top 7
abbrev s_is_int_in : Stmt := top 8
abbrev s_is_ascending : Stmt := top 9
abbrev s_check_wire : Stmt := top 19
abbrev s__are_tries : Stmt := top 20
abbrev s_check_plan : Stmt := top 21
abbrev s_check_memory : Stmt := top 22
abbrev s_is_fate : Stmt := top 23
abbrev s__are_fates : Stmt := top 24
abbrev s_lost_count : Stmt := top 25
abbrev s_extra_count : Stmt := top 26
abbrev s__is_affordable : Stmt := top 27
abbrev s__are_crashes : Stmt := top 28
abbrev s_check_run : Stmt := top 29
abbrev s_fate_of : Stmt := top 32
abbrev s_CallPlay____init__ : Stmt := inClass (top 31) 0
abbrev s_CallPlay__play_tell : Stmt := inClass (top 31) 6
abbrev s_CallPlay__play_arrivals : Stmt := inClass (top 31) 5
abbrev s_CallPlay__play_ask : Stmt := inClass (top 31) 4
abbrev s_CallPlay__play_crash : Stmt := inClass (top 31) 3
abbrev s_CallPlay__play_replies : Stmt := inClass (top 31) 7
abbrev s_CallPlay__play_tick : Stmt := inClass (top 31) 2
abbrev s_CallPlay__play_all : Stmt := inClass (top 31) 1
abbrev s_played_log : Stmt := top 33
abbrev s_play_call : Stmt := top 34
abbrev s_ticks_of : Stmt := top 35
abbrev s_done_ticks : Stmt := top 36
abbrev s_arrivals : Stmt := top 37
abbrev s_answer_tick : Stmt := top 38
abbrev s_gap_of : Stmt := top 39
abbrev s__law_cell : Stmt := top 41
abbrev s__law_row : Stmt := top 42
abbrev s__law_wire : Stmt := top 43
abbrev s__law_plan : Stmt := top 44
abbrev s__law_memory : Stmt := top 45
abbrev s__law_fate : Stmt := top 46
abbrev s__law_run : Stmt := top 47
abbrev s__law_fate_at : Stmt := top 49
abbrev s__law_play : Stmt := top 48
abbrev s__law_same : Stmt := top 50
abbrev s__law_is_right : Stmt := top 51
abbrev s_law : Stmt := top 52
abbrev i_BadWire : Stmt := inClass (top 2) 0
abbrev i_BadPlan : Stmt := inClass (top 3) 0
abbrev i_BadMemory : Stmt := inClass (top 4) 0
abbrev i_BadRun : Stmt := inClass (top 5) 0
def fnmL : List (List Str) := [[], ["part"], ["part"], ["part"], ["part"], ["stops", "run", "memory", "plan", "wire"]]
abbrev gg (K : PySem.W.Frag) (ec : Nat → Addr) : G := ⟨K, ec, fun n => fnmL.getD n [], ec⟩
structure Fx0 (K : PySem.W.Frag) (mg : Str → Option Value) (fa : Nat → Addr) (fd : Nat → FuncData) (ec : Nat → Addr) (fi : Nat → Addr) (di : Nat → FuncData) : Prop where
  z_isinstance : mg "isinstance" = none
  z_int : mg "int" = none
  z_bool : mg "bool" = none
  F_is_int : Fun K "is_int" "is_int" s_is_int (fa 0) (fd 0)
  kp_is_int : PySem.W.keepIn K (.ref (fa 0)) = true
  g_is_int : mg "is_int" = some (.ref (fa 0))
  b_is_int : Binds K (fd 0) ["value"] []
  F_is_int_in : Fun K "is_int_in" "is_int_in" s_is_int_in (fa 1) (fd 1)
  kp_is_int_in : PySem.W.keepIn K (.ref (fa 1)) = true
  g_is_int_in : mg "is_int_in" = some (.ref (fa 1))
  b_is_int_in : Binds K (fd 1) ["value", "low", "high"] []
  z_len : mg "len" = none
  z_range : mg "range" = none
  F_is_ascending : Fun K "is_ascending" "is_ascending" s_is_ascending (fa 2) (fd 2)
  kp_is_ascending : PySem.W.keepIn K (.ref (fa 2)) = true
  g_is_ascending : mg "is_ascending" = some (.ref (fa 2))
  b_is_ascending : Binds K (fd 2) ["things"] []
  ct_WIRE_LIMITS : ∃ v, mg "WIRE_LIMITS" = some v ∧ CV K (.tup [(.int 20), (.int 20), (.int 6), (.int 4)]) v
  ox_BadWire : OexC K (ec 1)
  gc_BadWire : mg "BadWire" = some (.ref (ec 1))
  na_BadWire_part : PySem.W.findIn K (.ref (ec 1)) "part" = some none
  F_check_wire : Fun K "check_wire" "check_wire" s_check_wire (fa 3) (fd 3)
  kp_check_wire : PySem.W.keepIn K (.ref (fa 3)) = true
  g_check_wire : mg "check_wire" = some (.ref (fa 3))
  b_check_wire : Binds K (fd 3) ["wire"] []
  z_tuple : mg "tuple" = none
  c_MOST_TRIES : ∃ t, mg "MOST_TRIES" = some (.int 8 t)
  c_LAST_TRY : ∃ t, mg "LAST_TRY" = some (.int 90 t)
  F__are_tries : Fun K "_are_tries" "_are_tries" s__are_tries (fa 4) (fd 4)
  kp__are_tries : PySem.W.keepIn K (.ref (fa 4)) = true
structure Fx1 (K : PySem.W.Frag) (mg : Str → Option Value) (fa : Nat → Addr) (fd : Nat → FuncData) (ec : Nat → Addr) (fi : Nat → Addr) (di : Nat → FuncData) : Prop where
  g__are_tries : mg "_are_tries" = some (.ref (fa 4))
  b__are_tries : Binds K (fd 4) ["tries"] []
  ox_BadPlan : OexC K (ec 2)
  gc_BadPlan : mg "BadPlan" = some (.ref (ec 2))
  na_BadPlan_part : PySem.W.findIn K (.ref (ec 2)) "part" = some none
  c_LAST_UNTIL : ∃ t, mg "LAST_UNTIL" = some (.int 140 t)
  F_check_plan : Fun K "check_plan" "check_plan" s_check_plan (fa 5) (fd 5)
  kp_check_plan : PySem.W.keepIn K (.ref (fa 5)) = true
  g_check_plan : mg "check_plan" = some (.ref (fa 5))
  b_check_plan : Binds K (fd 5) ["plan"] []
  c_MOST_KEEP : ∃ t, mg "MOST_KEEP" = some (.int 200 t)
  ox_BadMemory : OexC K (ec 3)
  gc_BadMemory : mg "BadMemory" = some (.ref (ec 3))
  na_BadMemory_part : PySem.W.findIn K (.ref (ec 3)) "part" = some none
  c_MOST_CRASHES : ∃ t, mg "MOST_CRASHES" = some (.int 3 t)
  F_check_memory : Fun K "check_memory" "check_memory" s_check_memory (fa 6) (fd 6)
  kp_check_memory : PySem.W.keepIn K (.ref (fa 6)) = true
  g_check_memory : mg "check_memory" = some (.ref (fa 6))
  b_check_memory : Binds K (fd 6) ["memory"] []
  F_is_fate : Fun K "is_fate" "is_fate" s_is_fate (fa 7) (fd 7)
  kp_is_fate : PySem.W.keepIn K (.ref (fa 7)) = true
  g_is_fate : mg "is_fate" = some (.ref (fa 7))
  b_is_fate : Binds K (fd 7) ["fate", "most"] []
  F__are_fates : Fun K "_are_fates" "_are_fates" s__are_fates (fa 8) (fd 8)
  kp__are_fates : PySem.W.keepIn K (.ref (fa 8)) = true
  g__are_fates : mg "_are_fates" = some (.ref (fa 8))
  b__are_fates : Binds K (fd 8) ["fates", "limit", "most"] []
  F_lost_count : Fun K "lost_count" "lost_count" s_lost_count (fa 9) (fd 9)
  kp_lost_count : PySem.W.keepIn K (.ref (fa 9)) = true
  g_lost_count : mg "lost_count" = some (.ref (fa 9))
structure Fx2 (K : PySem.W.Frag) (mg : Str → Option Value) (fa : Nat → Addr) (fd : Nat → FuncData) (ec : Nat → Addr) (fi : Nat → Addr) (di : Nat → FuncData) : Prop where
  b_lost_count : Binds K (fd 9) ["fates"] []
  z_sum : mg "sum" = none
  F_extra_count : Fun K "extra_count" "extra_count" s_extra_count (fa 10) (fd 10)
  kp_extra_count : PySem.W.keepIn K (.ref (fa 10)) = true
  g_extra_count : mg "extra_count" = some (.ref (fa 10))
  b_extra_count : Binds K (fd 10) ["fates"] []
  F__is_affordable : Fun K "_is_affordable" "_is_affordable" s__is_affordable (fa 11) (fd 11)
  kp__is_affordable : PySem.W.keepIn K (.ref (fa 11)) = true
  g__is_affordable : mg "_is_affordable" = some (.ref (fa 11))
  b__is_affordable : Binds K (fd 11) ["wire", "fates"] []
  c_LAST_CRASH : ∃ t, mg "LAST_CRASH" = some (.int 400 t)
  F__are_crashes : Fun K "_are_crashes" "_are_crashes" s__are_crashes (fa 12) (fd 12)
  kp__are_crashes : PySem.W.keepIn K (.ref (fa 12)) = true
  g__are_crashes : mg "_are_crashes" = some (.ref (fa 12))
  b__are_crashes : Binds K (fd 12) ["crashes", "limit"] []
  ox_BadRun : OexC K (ec 4)
  gc_BadRun : mg "BadRun" = some (.ref (ec 4))
  na_BadRun_part : PySem.W.findIn K (.ref (ec 4)) "part" = some none
  c_MOST_TELLS : ∃ t, mg "MOST_TELLS" = some (.int 40 t)
  F_check_run : Fun K "check_run" "check_run" s_check_run (fa 13) (fd 13)
  kp_check_run : PySem.W.keepIn K (.ref (fa 13)) = true
  g_check_run : mg "check_run" = some (.ref (fa 13))
  b_check_run : Binds K (fd 13) ["wire", "plan", "memory", "run"] []
  F_fate_of : Fun K "fate_of" "fate_of" s_fate_of (fa 14) (fd 14)
  kp_fate_of : PySem.W.keepIn K (.ref (fa 14)) = true
  g_fate_of : mg "fate_of" = some (.ref (fa 14))
  b_fate_of : Binds K (fd 14) ["fates", "index"] []
  cl_CallPlay : Cls K (ec 5)
  nf_CallPlay_tries : PySem.W.findIn K (.ref (ec 5)) "tries" = some none
  fl_tries : FldCls (gg K ec) [5] "tries"
structure Fx3 (K : PySem.W.Frag) (mg : Str → Option Value) (fa : Nat → Addr) (fd : Nat → FuncData) (ec : Nat → Addr) (fi : Nat → Addr) (di : Nat → FuncData) : Prop where
  nf_CallPlay_until : PySem.W.findIn K (.ref (ec 5)) "until" = some none
  fl_until : FldCls (gg K ec) [5] "until"
  nf_CallPlay_keep : PySem.W.findIn K (.ref (ec 5)) "keep" = some none
  fl_keep : FldCls (gg K ec) [5] "keep"
  nf_CallPlay_durable : PySem.W.findIn K (.ref (ec 5)) "durable" = some none
  fl_durable : FldCls (gg K ec) [5] "durable"
  nf_CallPlay_asks : PySem.W.findIn K (.ref (ec 5)) "asks" = some none
  fl_asks : FldCls (gg K ec) [5] "asks"
  nf_CallPlay_tells : PySem.W.findIn K (.ref (ec 5)) "tells" = some none
  fl_tells : FldCls (gg K ec) [5] "tells"
  nf_CallPlay_crashes : PySem.W.findIn K (.ref (ec 5)) "crashes" = some none
  fl_crashes : FldCls (gg K ec) [5] "crashes"
  nf_CallPlay_stops : PySem.W.findIn K (.ref (ec 5)) "stops" = some none
  fl_stops : FldCls (gg K ec) [5] "stops"
  z_max : mg "max" = none
  nf_CallPlay_last : PySem.W.findIn K (.ref (ec 5)) "last" = some none
  fl_last : FldCls (gg K ec) [5] "last"
  nf_CallPlay_arriving : PySem.W.findIn K (.ref (ec 5)) "arriving" = some none
  fl_arriving : FldCls (gg K ec) [5] "arriving"
  nf_CallPlay_hearing : PySem.W.findIn K (.ref (ec 5)) "hearing" = some none
  fl_hearing : FldCls (gg K ec) [5] "hearing"
  nf_CallPlay_done_at : PySem.W.findIn K (.ref (ec 5)) "done_at" = some none
  fl_done_at : FldCls (gg K ec) [5] "done_at"
  nf_CallPlay_told : PySem.W.findIn K (.ref (ec 5)) "told" = some none
  fl_told : FldCls (gg K ec) [5] "told"
  nf_CallPlay_has_answer : PySem.W.findIn K (.ref (ec 5)) "has_answer" = some none
  fl_has_answer : FldCls (gg K ec) [5] "has_answer"
  nf_CallPlay_waiting : PySem.W.findIn K (.ref (ec 5)) "waiting" = some none
  fl_waiting : FldCls (gg K ec) [5] "waiting"
  nf_CallPlay_stopped_at : PySem.W.findIn K (.ref (ec 5)) "stopped_at" = some none
structure Fx4 (K : PySem.W.Frag) (mg : Str → Option Value) (fa : Nat → Addr) (fd : Nat → FuncData) (ec : Nat → Addr) (fi : Nat → Addr) (di : Nat → FuncData) : Prop where
  fl_stopped_at : FldCls (gg K ec) [5] "stopped_at"
  nf_CallPlay_history : PySem.W.findIn K (.ref (ec 5)) "history" = some none
  fl_history : FldCls (gg K ec) [5] "history"
  F_CallPlay____init__ : Fun K "__init__" "CallPlay.__init__" s_CallPlay____init__ (fa 15) (fd 15)
  kp_CallPlay____init__ : PySem.W.keepIn K (.ref (fa 15)) = true
  b_CallPlay____init__ : Binds K (fd 15) ["self", "wire", "plan", "memory", "run", "stops"] []
  F_CallPlay__play_tell : Fun K "play_tell" "CallPlay.play_tell" s_CallPlay__play_tell (fa 16) (fd 16)
  kp_CallPlay__play_tell : PySem.W.keepIn K (.ref (fa 16)) = true
  b_CallPlay__play_tell : Binds K (fd 16) ["self", "tick"] []
  me_CallPlay__play_tell : Meth K (ec 5) "play_tell" (fa 16)
  F_CallPlay__play_arrivals : Fun K "play_arrivals" "CallPlay.play_arrivals" s_CallPlay__play_arrivals (fa 17) (fd 17)
  kp_CallPlay__play_arrivals : PySem.W.keepIn K (.ref (fa 17)) = true
  b_CallPlay__play_arrivals : Binds K (fd 17) ["self", "tick"] []
  F_CallPlay__play_ask : Fun K "play_ask" "CallPlay.play_ask" s_CallPlay__play_ask (fa 18) (fd 18)
  kp_CallPlay__play_ask : PySem.W.keepIn K (.ref (fa 18)) = true
  b_CallPlay__play_ask : Binds K (fd 18) ["self", "tick"] []
  F_CallPlay__play_crash : Fun K "play_crash" "CallPlay.play_crash" s_CallPlay__play_crash (fa 19) (fd 19)
  kp_CallPlay__play_crash : PySem.W.keepIn K (.ref (fa 19)) = true
  b_CallPlay__play_crash : Binds K (fd 19) ["self", "tick"] []
  F_CallPlay__play_replies : Fun K "play_replies" "CallPlay.play_replies" s_CallPlay__play_replies (fa 20) (fd 20)
  kp_CallPlay__play_replies : PySem.W.keepIn K (.ref (fa 20)) = true
  b_CallPlay__play_replies : Binds K (fd 20) ["self", "tick"] []
  me_CallPlay__play_crash : Meth K (ec 5) "play_crash" (fa 19)
  me_CallPlay__play_ask : Meth K (ec 5) "play_ask" (fa 18)
  me_CallPlay__play_arrivals : Meth K (ec 5) "play_arrivals" (fa 17)
  me_CallPlay__play_replies : Meth K (ec 5) "play_replies" (fa 20)
  F_CallPlay__play_tick : Fun K "play_tick" "CallPlay.play_tick" s_CallPlay__play_tick (fa 21) (fd 21)
  kp_CallPlay__play_tick : PySem.W.keepIn K (.ref (fa 21)) = true
  b_CallPlay__play_tick : Binds K (fd 21) ["self", "tick"] []
  me_CallPlay__play_tick : Meth K (ec 5) "play_tick" (fa 21)
structure Fx5 (K : PySem.W.Frag) (mg : Str → Option Value) (fa : Nat → Addr) (fd : Nat → FuncData) (ec : Nat → Addr) (fi : Nat → Addr) (di : Nat → FuncData) : Prop where
  F_CallPlay__play_all : Fun K "play_all" "CallPlay.play_all" s_CallPlay__play_all (fa 22) (fd 22)
  kp_CallPlay__play_all : PySem.W.keepIn K (.ref (fa 22)) = true
  b_CallPlay__play_all : Binds K (fd 22) ["self"] []
  gc_CallPlay : mg "CallPlay" = some (.ref (ec 5))
  mk_CallPlay : Mk K (ec 5) (fa 15)
  me_CallPlay__play_all : Meth K (ec 5) "play_all" (fa 22)
  F_played_log : Fun K "played_log" "played_log" s_played_log (fa 23) (fd 23)
  kp_played_log : PySem.W.keepIn K (.ref (fa 23)) = true
  g_played_log : mg "played_log" = some (.ref (fa 23))
  b_played_log : Binds K (fd 23) ["wire", "plan", "memory", "run"] []
  F_play_call : Fun K "play_call" "play_call" s_play_call (fa 24) (fd 24)
  kp_play_call : PySem.W.keepIn K (.ref (fa 24)) = true
  g_play_call : mg "play_call" = some (.ref (fa 24))
  b_play_call : Binds K (fd 24) ["wire", "plan", "memory", "run"] []
  F_ticks_of : Fun K "ticks_of" "ticks_of" s_ticks_of (fa 25) (fd 25)
  kp_ticks_of : PySem.W.keepIn K (.ref (fa 25)) = true
  g_ticks_of : mg "ticks_of" = some (.ref (fa 25))
  b_ticks_of : Binds K (fd 25) ["log", "word"] []
  F_done_ticks : Fun K "done_ticks" "done_ticks" s_done_ticks (fa 26) (fd 26)
  kp_done_ticks : PySem.W.keepIn K (.ref (fa 26)) = true
  g_done_ticks : mg "done_ticks" = some (.ref (fa 26))
  b_done_ticks : Binds K (fd 26) ["log"] []
  F_arrivals : Fun K "arrivals" "arrivals" s_arrivals (fa 27) (fd 27)
  kp_arrivals : PySem.W.keepIn K (.ref (fa 27)) = true
  g_arrivals : mg "arrivals" = some (.ref (fa 27))
  b_arrivals : Binds K (fd 27) ["log"] []
  F_answer_tick : Fun K "answer_tick" "answer_tick" s_answer_tick (fa 28) (fd 28)
  kp_answer_tick : PySem.W.keepIn K (.ref (fa 28)) = true
  g_answer_tick : mg "answer_tick" = some (.ref (fa 28))
  b_answer_tick : Binds K (fd 28) ["log"] []
structure Fx6 (K : PySem.W.Frag) (mg : Str → Option Value) (fa : Nat → Addr) (fd : Nat → FuncData) (ec : Nat → Addr) (fi : Nat → Addr) (di : Nat → FuncData) : Prop where
  F_gap_of : Fun K "gap_of" "gap_of" s_gap_of (fa 29) (fd 29)
  kp_gap_of : PySem.W.keepIn K (.ref (fa 29)) = true
  g_gap_of : mg "gap_of" = some (.ref (fa 29))
  b_gap_of : Binds K (fd 29) ["log"] []
  F__law_cell : Fun K "_law_cell" "_law_cell" s__law_cell (fa 30) (fd 30)
  kp__law_cell : PySem.W.keepIn K (.ref (fa 30)) = true
  g__law_cell : mg "_law_cell" = some (.ref (fa 30))
  b__law_cell : Binds K (fd 30) ["script", "k"] []
  F__law_row : Fun K "_law_row" "_law_row" s__law_row (fa 31) (fd 31)
  kp__law_row : PySem.W.keepIn K (.ref (fa 31)) = true
  g__law_row : mg "_law_row" = some (.ref (fa 31))
  b__law_row : Binds K (fd 31) ["script", "k", "sizes"] []
  F__law_wire : Fun K "_law_wire" "_law_wire" s__law_wire (fa 32) (fd 32)
  kp__law_wire : PySem.W.keepIn K (.ref (fa 32)) = true
  g__law_wire : mg "_law_wire" = some (.ref (fa 32))
  b__law_wire : Binds K (fd 32) ["script"] []
  z_min : mg "min" = none
  F__law_plan : Fun K "_law_plan" "_law_plan" s__law_plan (fa 33) (fd 33)
  kp__law_plan : PySem.W.keepIn K (.ref (fa 33)) = true
  g__law_plan : mg "_law_plan" = some (.ref (fa 33))
  b__law_plan : Binds K (fd 33) ["script", "wire"] []
  F__law_memory : Fun K "_law_memory" "_law_memory" s__law_memory (fa 34) (fd 34)
  kp__law_memory : PySem.W.keepIn K (.ref (fa 34)) = true
  g__law_memory : mg "_law_memory" = some (.ref (fa 34))
  b__law_memory : Binds K (fd 34) ["script", "wire", "plan"] []
  z_sorted : mg "sorted" = none
  F__law_fate : Fun K "_law_fate" "_law_fate" s__law_fate (fa 35) (fd 35)
  kp__law_fate : PySem.W.keepIn K (.ref (fa 35)) = true
  g__law_fate : mg "_law_fate" = some (.ref (fa 35))
  b__law_fate : Binds K (fd 35) ["row", "most", "losses", "extras"] []
structure Fx7 (K : PySem.W.Frag) (mg : Str → Option Value) (fa : Nat → Addr) (fd : Nat → FuncData) (ec : Nat → Addr) (fi : Nat → Addr) (di : Nat → FuncData) : Prop where
  F__law_run : Fun K "_law_run" "_law_run" s__law_run (fa 36) (fd 36)
  kp__law_run : PySem.W.keepIn K (.ref (fa 36)) = true
  g__law_run : mg "_law_run" = some (.ref (fa 36))
  b__law_run : Binds K (fd 36) ["script", "wire", "plan", "crashes"] []
  F__law_fate_at : Fun K "_law_fate_at" "_law_fate_at" s__law_fate_at (fa 37) (fd 37)
  kp__law_fate_at : PySem.W.keepIn K (.ref (fa 37)) = true
  g__law_fate_at : mg "_law_fate_at" = some (.ref (fa 37))
  b__law_fate_at : Binds K (fd 37) ["fates", "at"] []
  F__law_play : Fun K "_law_play" "_law_play" s__law_play (fa 38) (fd 38)
  kp__law_play : PySem.W.keepIn K (.ref (fa 38)) = true
  g__law_play : mg "_law_play" = some (.ref (fa 38))
  b__law_play : Binds K (fd 38) ["wire", "plan", "memory", "run"] []
  z_str : mg "str" = none
  F__law_same : Fun K "_law_same" "_law_same" s__law_same (fa 39) (fd 39)
  kp__law_same : PySem.W.keepIn K (.ref (fa 39)) = true
  g__law_same : mg "_law_same" = some (.ref (fa 39))
  b__law_same : Binds K (fd 39) ["actual", "due"] []
  F__law_is_right : Fun K "_law_is_right" "_law_is_right" s__law_is_right (fa 40) (fd 40)
  kp__law_is_right : PySem.W.keepIn K (.ref (fa 40)) = true
  g__law_is_right : mg "_law_is_right" = some (.ref (fa 40))
  b__law_is_right : Binds K (fd 40) ["wire", "plan", "memory", "run"] []
  F_law : Fun K "law" "law" s_law (fa 41) (fd 41)
  kp_law : PySem.W.keepIn K (.ref (fa 41)) = true
  g_law : mg "law" = some (.ref (fa 41))
  b_law : Binds K (fd 41) ["script"] []
  Fi_BadWire : Fun K "__init__" "BadWire.__init__" i_BadWire (fi 1) (di 1)
  ii_BadWire : PySem.W.findIn K (.ref (ec 1)) "__init__" = some (some (.ref (fi 1)))
  ti_BadWire : PySem.W.typeIn K (.ref (fi 1)) = some (.type "function")
  bi_BadWire : Binds K (di 1) ["self", "part"] []
  Fi_BadPlan : Fun K "__init__" "BadPlan.__init__" i_BadPlan (fi 2) (di 2)
structure Fx8 (K : PySem.W.Frag) (mg : Str → Option Value) (fa : Nat → Addr) (fd : Nat → FuncData) (ec : Nat → Addr) (fi : Nat → Addr) (di : Nat → FuncData) : Prop where
  ii_BadPlan : PySem.W.findIn K (.ref (ec 2)) "__init__" = some (some (.ref (fi 2)))
  ti_BadPlan : PySem.W.typeIn K (.ref (fi 2)) = some (.type "function")
  bi_BadPlan : Binds K (di 2) ["self", "part"] []
  Fi_BadMemory : Fun K "__init__" "BadMemory.__init__" i_BadMemory (fi 3) (di 3)
  ii_BadMemory : PySem.W.findIn K (.ref (ec 3)) "__init__" = some (some (.ref (fi 3)))
  ti_BadMemory : PySem.W.typeIn K (.ref (fi 3)) = some (.type "function")
  bi_BadMemory : Binds K (di 3) ["self", "part"] []
  Fi_BadRun : Fun K "__init__" "BadRun.__init__" i_BadRun (fi 4) (di 4)
  ii_BadRun : PySem.W.findIn K (.ref (ec 4)) "__init__" = some (some (.ref (fi 4)))
  ti_BadRun : PySem.W.typeIn K (.ref (fi 4)) = some (.type "function")
  bi_BadRun : Binds K (di 4) ["self", "part"] []
structure Fx (K : PySem.W.Frag) (mg : Str → Option Value) (fa : Nat → Addr) (fd : Nat → FuncData) (ec : Nat → Addr) (fi : Nat → Addr) (di : Nat → FuncData) : Prop where
  p0 : Fx0 K mg fa fd ec fi di
  p1 : Fx1 K mg fa fd ec fi di
  p2 : Fx2 K mg fa fd ec fi di
  p3 : Fx3 K mg fa fd ec fi di
  p4 : Fx4 K mg fa fd ec fi di
  p5 : Fx5 K mg fa fd ec fi di
  p6 : Fx6 K mg fa fd ec fi di
  p7 : Fx7 K mg fa fd ec fi di
  p8 : Fx8 K mg fa fd ec fi di
theorem Fx.z_isinstance {K : PySem.W.Frag} {mg : Str → Option Value} {fa : Nat → Addr} {fd : Nat → FuncData} {ec : Nat → Addr} {fi : Nat → Addr} {di : Nat → FuncData} (T : Fx K mg fa fd ec fi di) : mg "isinstance" = none := T.p0.z_isinstance
theorem Fx.z_int {K : PySem.W.Frag} {mg : Str → Option Value} {fa : Nat → Addr} {fd : Nat → FuncData} {ec : Nat → Addr} {fi : Nat → Addr} {di : Nat → FuncData} (T : Fx K mg fa fd ec fi di) : mg "int" = none := T.p0.z_int
theorem Fx.z_bool {K : PySem.W.Frag} {mg : Str → Option Value} {fa : Nat → Addr} {fd : Nat → FuncData} {ec : Nat → Addr} {fi : Nat → Addr} {di : Nat → FuncData} (T : Fx K mg fa fd ec fi di) : mg "bool" = none := T.p0.z_bool
theorem Fx.F_is_int {K : PySem.W.Frag} {mg : Str → Option Value} {fa : Nat → Addr} {fd : Nat → FuncData} {ec : Nat → Addr} {fi : Nat → Addr} {di : Nat → FuncData} (T : Fx K mg fa fd ec fi di) : Fun K "is_int" "is_int" s_is_int (fa 0) (fd 0) := T.p0.F_is_int
theorem Fx.kp_is_int {K : PySem.W.Frag} {mg : Str → Option Value} {fa : Nat → Addr} {fd : Nat → FuncData} {ec : Nat → Addr} {fi : Nat → Addr} {di : Nat → FuncData} (T : Fx K mg fa fd ec fi di) : PySem.W.keepIn K (.ref (fa 0)) = true := T.p0.kp_is_int
theorem Fx.g_is_int {K : PySem.W.Frag} {mg : Str → Option Value} {fa : Nat → Addr} {fd : Nat → FuncData} {ec : Nat → Addr} {fi : Nat → Addr} {di : Nat → FuncData} (T : Fx K mg fa fd ec fi di) : mg "is_int" = some (.ref (fa 0)) := T.p0.g_is_int
theorem Fx.b_is_int {K : PySem.W.Frag} {mg : Str → Option Value} {fa : Nat → Addr} {fd : Nat → FuncData} {ec : Nat → Addr} {fi : Nat → Addr} {di : Nat → FuncData} (T : Fx K mg fa fd ec fi di) : Binds K (fd 0) ["value"] [] := T.p0.b_is_int
theorem Fx.F_is_int_in {K : PySem.W.Frag} {mg : Str → Option Value} {fa : Nat → Addr} {fd : Nat → FuncData} {ec : Nat → Addr} {fi : Nat → Addr} {di : Nat → FuncData} (T : Fx K mg fa fd ec fi di) : Fun K "is_int_in" "is_int_in" s_is_int_in (fa 1) (fd 1) := T.p0.F_is_int_in
theorem Fx.kp_is_int_in {K : PySem.W.Frag} {mg : Str → Option Value} {fa : Nat → Addr} {fd : Nat → FuncData} {ec : Nat → Addr} {fi : Nat → Addr} {di : Nat → FuncData} (T : Fx K mg fa fd ec fi di) : PySem.W.keepIn K (.ref (fa 1)) = true := T.p0.kp_is_int_in
theorem Fx.g_is_int_in {K : PySem.W.Frag} {mg : Str → Option Value} {fa : Nat → Addr} {fd : Nat → FuncData} {ec : Nat → Addr} {fi : Nat → Addr} {di : Nat → FuncData} (T : Fx K mg fa fd ec fi di) : mg "is_int_in" = some (.ref (fa 1)) := T.p0.g_is_int_in
theorem Fx.b_is_int_in {K : PySem.W.Frag} {mg : Str → Option Value} {fa : Nat → Addr} {fd : Nat → FuncData} {ec : Nat → Addr} {fi : Nat → Addr} {di : Nat → FuncData} (T : Fx K mg fa fd ec fi di) : Binds K (fd 1) ["value", "low", "high"] [] := T.p0.b_is_int_in
theorem Fx.z_len {K : PySem.W.Frag} {mg : Str → Option Value} {fa : Nat → Addr} {fd : Nat → FuncData} {ec : Nat → Addr} {fi : Nat → Addr} {di : Nat → FuncData} (T : Fx K mg fa fd ec fi di) : mg "len" = none := T.p0.z_len
theorem Fx.z_range {K : PySem.W.Frag} {mg : Str → Option Value} {fa : Nat → Addr} {fd : Nat → FuncData} {ec : Nat → Addr} {fi : Nat → Addr} {di : Nat → FuncData} (T : Fx K mg fa fd ec fi di) : mg "range" = none := T.p0.z_range
theorem Fx.F_is_ascending {K : PySem.W.Frag} {mg : Str → Option Value} {fa : Nat → Addr} {fd : Nat → FuncData} {ec : Nat → Addr} {fi : Nat → Addr} {di : Nat → FuncData} (T : Fx K mg fa fd ec fi di) : Fun K "is_ascending" "is_ascending" s_is_ascending (fa 2) (fd 2) := T.p0.F_is_ascending
theorem Fx.kp_is_ascending {K : PySem.W.Frag} {mg : Str → Option Value} {fa : Nat → Addr} {fd : Nat → FuncData} {ec : Nat → Addr} {fi : Nat → Addr} {di : Nat → FuncData} (T : Fx K mg fa fd ec fi di) : PySem.W.keepIn K (.ref (fa 2)) = true := T.p0.kp_is_ascending
theorem Fx.g_is_ascending {K : PySem.W.Frag} {mg : Str → Option Value} {fa : Nat → Addr} {fd : Nat → FuncData} {ec : Nat → Addr} {fi : Nat → Addr} {di : Nat → FuncData} (T : Fx K mg fa fd ec fi di) : mg "is_ascending" = some (.ref (fa 2)) := T.p0.g_is_ascending
theorem Fx.b_is_ascending {K : PySem.W.Frag} {mg : Str → Option Value} {fa : Nat → Addr} {fd : Nat → FuncData} {ec : Nat → Addr} {fi : Nat → Addr} {di : Nat → FuncData} (T : Fx K mg fa fd ec fi di) : Binds K (fd 2) ["things"] [] := T.p0.b_is_ascending
theorem Fx.ct_WIRE_LIMITS {K : PySem.W.Frag} {mg : Str → Option Value} {fa : Nat → Addr} {fd : Nat → FuncData} {ec : Nat → Addr} {fi : Nat → Addr} {di : Nat → FuncData} (T : Fx K mg fa fd ec fi di) : ∃ v, mg "WIRE_LIMITS" = some v ∧ CV K (.tup [(.int 20), (.int 20), (.int 6), (.int 4)]) v := T.p0.ct_WIRE_LIMITS
theorem Fx.ox_BadWire {K : PySem.W.Frag} {mg : Str → Option Value} {fa : Nat → Addr} {fd : Nat → FuncData} {ec : Nat → Addr} {fi : Nat → Addr} {di : Nat → FuncData} (T : Fx K mg fa fd ec fi di) : OexC K (ec 1) := T.p0.ox_BadWire
theorem Fx.gc_BadWire {K : PySem.W.Frag} {mg : Str → Option Value} {fa : Nat → Addr} {fd : Nat → FuncData} {ec : Nat → Addr} {fi : Nat → Addr} {di : Nat → FuncData} (T : Fx K mg fa fd ec fi di) : mg "BadWire" = some (.ref (ec 1)) := T.p0.gc_BadWire
theorem Fx.na_BadWire_part {K : PySem.W.Frag} {mg : Str → Option Value} {fa : Nat → Addr} {fd : Nat → FuncData} {ec : Nat → Addr} {fi : Nat → Addr} {di : Nat → FuncData} (T : Fx K mg fa fd ec fi di) : PySem.W.findIn K (.ref (ec 1)) "part" = some none := T.p0.na_BadWire_part
theorem Fx.F_check_wire {K : PySem.W.Frag} {mg : Str → Option Value} {fa : Nat → Addr} {fd : Nat → FuncData} {ec : Nat → Addr} {fi : Nat → Addr} {di : Nat → FuncData} (T : Fx K mg fa fd ec fi di) : Fun K "check_wire" "check_wire" s_check_wire (fa 3) (fd 3) := T.p0.F_check_wire
theorem Fx.kp_check_wire {K : PySem.W.Frag} {mg : Str → Option Value} {fa : Nat → Addr} {fd : Nat → FuncData} {ec : Nat → Addr} {fi : Nat → Addr} {di : Nat → FuncData} (T : Fx K mg fa fd ec fi di) : PySem.W.keepIn K (.ref (fa 3)) = true := T.p0.kp_check_wire
theorem Fx.g_check_wire {K : PySem.W.Frag} {mg : Str → Option Value} {fa : Nat → Addr} {fd : Nat → FuncData} {ec : Nat → Addr} {fi : Nat → Addr} {di : Nat → FuncData} (T : Fx K mg fa fd ec fi di) : mg "check_wire" = some (.ref (fa 3)) := T.p0.g_check_wire
theorem Fx.b_check_wire {K : PySem.W.Frag} {mg : Str → Option Value} {fa : Nat → Addr} {fd : Nat → FuncData} {ec : Nat → Addr} {fi : Nat → Addr} {di : Nat → FuncData} (T : Fx K mg fa fd ec fi di) : Binds K (fd 3) ["wire"] [] := T.p0.b_check_wire
theorem Fx.z_tuple {K : PySem.W.Frag} {mg : Str → Option Value} {fa : Nat → Addr} {fd : Nat → FuncData} {ec : Nat → Addr} {fi : Nat → Addr} {di : Nat → FuncData} (T : Fx K mg fa fd ec fi di) : mg "tuple" = none := T.p0.z_tuple
theorem Fx.c_MOST_TRIES {K : PySem.W.Frag} {mg : Str → Option Value} {fa : Nat → Addr} {fd : Nat → FuncData} {ec : Nat → Addr} {fi : Nat → Addr} {di : Nat → FuncData} (T : Fx K mg fa fd ec fi di) : ∃ t, mg "MOST_TRIES" = some (.int 8 t) := T.p0.c_MOST_TRIES
theorem Fx.c_LAST_TRY {K : PySem.W.Frag} {mg : Str → Option Value} {fa : Nat → Addr} {fd : Nat → FuncData} {ec : Nat → Addr} {fi : Nat → Addr} {di : Nat → FuncData} (T : Fx K mg fa fd ec fi di) : ∃ t, mg "LAST_TRY" = some (.int 90 t) := T.p0.c_LAST_TRY
theorem Fx.F__are_tries {K : PySem.W.Frag} {mg : Str → Option Value} {fa : Nat → Addr} {fd : Nat → FuncData} {ec : Nat → Addr} {fi : Nat → Addr} {di : Nat → FuncData} (T : Fx K mg fa fd ec fi di) : Fun K "_are_tries" "_are_tries" s__are_tries (fa 4) (fd 4) := T.p0.F__are_tries
theorem Fx.kp__are_tries {K : PySem.W.Frag} {mg : Str → Option Value} {fa : Nat → Addr} {fd : Nat → FuncData} {ec : Nat → Addr} {fi : Nat → Addr} {di : Nat → FuncData} (T : Fx K mg fa fd ec fi di) : PySem.W.keepIn K (.ref (fa 4)) = true := T.p0.kp__are_tries
theorem Fx.g__are_tries {K : PySem.W.Frag} {mg : Str → Option Value} {fa : Nat → Addr} {fd : Nat → FuncData} {ec : Nat → Addr} {fi : Nat → Addr} {di : Nat → FuncData} (T : Fx K mg fa fd ec fi di) : mg "_are_tries" = some (.ref (fa 4)) := T.p1.g__are_tries
theorem Fx.b__are_tries {K : PySem.W.Frag} {mg : Str → Option Value} {fa : Nat → Addr} {fd : Nat → FuncData} {ec : Nat → Addr} {fi : Nat → Addr} {di : Nat → FuncData} (T : Fx K mg fa fd ec fi di) : Binds K (fd 4) ["tries"] [] := T.p1.b__are_tries
theorem Fx.ox_BadPlan {K : PySem.W.Frag} {mg : Str → Option Value} {fa : Nat → Addr} {fd : Nat → FuncData} {ec : Nat → Addr} {fi : Nat → Addr} {di : Nat → FuncData} (T : Fx K mg fa fd ec fi di) : OexC K (ec 2) := T.p1.ox_BadPlan
theorem Fx.gc_BadPlan {K : PySem.W.Frag} {mg : Str → Option Value} {fa : Nat → Addr} {fd : Nat → FuncData} {ec : Nat → Addr} {fi : Nat → Addr} {di : Nat → FuncData} (T : Fx K mg fa fd ec fi di) : mg "BadPlan" = some (.ref (ec 2)) := T.p1.gc_BadPlan
theorem Fx.na_BadPlan_part {K : PySem.W.Frag} {mg : Str → Option Value} {fa : Nat → Addr} {fd : Nat → FuncData} {ec : Nat → Addr} {fi : Nat → Addr} {di : Nat → FuncData} (T : Fx K mg fa fd ec fi di) : PySem.W.findIn K (.ref (ec 2)) "part" = some none := T.p1.na_BadPlan_part
theorem Fx.c_LAST_UNTIL {K : PySem.W.Frag} {mg : Str → Option Value} {fa : Nat → Addr} {fd : Nat → FuncData} {ec : Nat → Addr} {fi : Nat → Addr} {di : Nat → FuncData} (T : Fx K mg fa fd ec fi di) : ∃ t, mg "LAST_UNTIL" = some (.int 140 t) := T.p1.c_LAST_UNTIL
theorem Fx.F_check_plan {K : PySem.W.Frag} {mg : Str → Option Value} {fa : Nat → Addr} {fd : Nat → FuncData} {ec : Nat → Addr} {fi : Nat → Addr} {di : Nat → FuncData} (T : Fx K mg fa fd ec fi di) : Fun K "check_plan" "check_plan" s_check_plan (fa 5) (fd 5) := T.p1.F_check_plan
theorem Fx.kp_check_plan {K : PySem.W.Frag} {mg : Str → Option Value} {fa : Nat → Addr} {fd : Nat → FuncData} {ec : Nat → Addr} {fi : Nat → Addr} {di : Nat → FuncData} (T : Fx K mg fa fd ec fi di) : PySem.W.keepIn K (.ref (fa 5)) = true := T.p1.kp_check_plan
theorem Fx.g_check_plan {K : PySem.W.Frag} {mg : Str → Option Value} {fa : Nat → Addr} {fd : Nat → FuncData} {ec : Nat → Addr} {fi : Nat → Addr} {di : Nat → FuncData} (T : Fx K mg fa fd ec fi di) : mg "check_plan" = some (.ref (fa 5)) := T.p1.g_check_plan
theorem Fx.b_check_plan {K : PySem.W.Frag} {mg : Str → Option Value} {fa : Nat → Addr} {fd : Nat → FuncData} {ec : Nat → Addr} {fi : Nat → Addr} {di : Nat → FuncData} (T : Fx K mg fa fd ec fi di) : Binds K (fd 5) ["plan"] [] := T.p1.b_check_plan
theorem Fx.c_MOST_KEEP {K : PySem.W.Frag} {mg : Str → Option Value} {fa : Nat → Addr} {fd : Nat → FuncData} {ec : Nat → Addr} {fi : Nat → Addr} {di : Nat → FuncData} (T : Fx K mg fa fd ec fi di) : ∃ t, mg "MOST_KEEP" = some (.int 200 t) := T.p1.c_MOST_KEEP
theorem Fx.ox_BadMemory {K : PySem.W.Frag} {mg : Str → Option Value} {fa : Nat → Addr} {fd : Nat → FuncData} {ec : Nat → Addr} {fi : Nat → Addr} {di : Nat → FuncData} (T : Fx K mg fa fd ec fi di) : OexC K (ec 3) := T.p1.ox_BadMemory
theorem Fx.gc_BadMemory {K : PySem.W.Frag} {mg : Str → Option Value} {fa : Nat → Addr} {fd : Nat → FuncData} {ec : Nat → Addr} {fi : Nat → Addr} {di : Nat → FuncData} (T : Fx K mg fa fd ec fi di) : mg "BadMemory" = some (.ref (ec 3)) := T.p1.gc_BadMemory
theorem Fx.na_BadMemory_part {K : PySem.W.Frag} {mg : Str → Option Value} {fa : Nat → Addr} {fd : Nat → FuncData} {ec : Nat → Addr} {fi : Nat → Addr} {di : Nat → FuncData} (T : Fx K mg fa fd ec fi di) : PySem.W.findIn K (.ref (ec 3)) "part" = some none := T.p1.na_BadMemory_part
theorem Fx.c_MOST_CRASHES {K : PySem.W.Frag} {mg : Str → Option Value} {fa : Nat → Addr} {fd : Nat → FuncData} {ec : Nat → Addr} {fi : Nat → Addr} {di : Nat → FuncData} (T : Fx K mg fa fd ec fi di) : ∃ t, mg "MOST_CRASHES" = some (.int 3 t) := T.p1.c_MOST_CRASHES
theorem Fx.F_check_memory {K : PySem.W.Frag} {mg : Str → Option Value} {fa : Nat → Addr} {fd : Nat → FuncData} {ec : Nat → Addr} {fi : Nat → Addr} {di : Nat → FuncData} (T : Fx K mg fa fd ec fi di) : Fun K "check_memory" "check_memory" s_check_memory (fa 6) (fd 6) := T.p1.F_check_memory
theorem Fx.kp_check_memory {K : PySem.W.Frag} {mg : Str → Option Value} {fa : Nat → Addr} {fd : Nat → FuncData} {ec : Nat → Addr} {fi : Nat → Addr} {di : Nat → FuncData} (T : Fx K mg fa fd ec fi di) : PySem.W.keepIn K (.ref (fa 6)) = true := T.p1.kp_check_memory
theorem Fx.g_check_memory {K : PySem.W.Frag} {mg : Str → Option Value} {fa : Nat → Addr} {fd : Nat → FuncData} {ec : Nat → Addr} {fi : Nat → Addr} {di : Nat → FuncData} (T : Fx K mg fa fd ec fi di) : mg "check_memory" = some (.ref (fa 6)) := T.p1.g_check_memory
theorem Fx.b_check_memory {K : PySem.W.Frag} {mg : Str → Option Value} {fa : Nat → Addr} {fd : Nat → FuncData} {ec : Nat → Addr} {fi : Nat → Addr} {di : Nat → FuncData} (T : Fx K mg fa fd ec fi di) : Binds K (fd 6) ["memory"] [] := T.p1.b_check_memory
theorem Fx.F_is_fate {K : PySem.W.Frag} {mg : Str → Option Value} {fa : Nat → Addr} {fd : Nat → FuncData} {ec : Nat → Addr} {fi : Nat → Addr} {di : Nat → FuncData} (T : Fx K mg fa fd ec fi di) : Fun K "is_fate" "is_fate" s_is_fate (fa 7) (fd 7) := T.p1.F_is_fate
theorem Fx.kp_is_fate {K : PySem.W.Frag} {mg : Str → Option Value} {fa : Nat → Addr} {fd : Nat → FuncData} {ec : Nat → Addr} {fi : Nat → Addr} {di : Nat → FuncData} (T : Fx K mg fa fd ec fi di) : PySem.W.keepIn K (.ref (fa 7)) = true := T.p1.kp_is_fate
theorem Fx.g_is_fate {K : PySem.W.Frag} {mg : Str → Option Value} {fa : Nat → Addr} {fd : Nat → FuncData} {ec : Nat → Addr} {fi : Nat → Addr} {di : Nat → FuncData} (T : Fx K mg fa fd ec fi di) : mg "is_fate" = some (.ref (fa 7)) := T.p1.g_is_fate
theorem Fx.b_is_fate {K : PySem.W.Frag} {mg : Str → Option Value} {fa : Nat → Addr} {fd : Nat → FuncData} {ec : Nat → Addr} {fi : Nat → Addr} {di : Nat → FuncData} (T : Fx K mg fa fd ec fi di) : Binds K (fd 7) ["fate", "most"] [] := T.p1.b_is_fate
theorem Fx.F__are_fates {K : PySem.W.Frag} {mg : Str → Option Value} {fa : Nat → Addr} {fd : Nat → FuncData} {ec : Nat → Addr} {fi : Nat → Addr} {di : Nat → FuncData} (T : Fx K mg fa fd ec fi di) : Fun K "_are_fates" "_are_fates" s__are_fates (fa 8) (fd 8) := T.p1.F__are_fates
theorem Fx.kp__are_fates {K : PySem.W.Frag} {mg : Str → Option Value} {fa : Nat → Addr} {fd : Nat → FuncData} {ec : Nat → Addr} {fi : Nat → Addr} {di : Nat → FuncData} (T : Fx K mg fa fd ec fi di) : PySem.W.keepIn K (.ref (fa 8)) = true := T.p1.kp__are_fates
theorem Fx.g__are_fates {K : PySem.W.Frag} {mg : Str → Option Value} {fa : Nat → Addr} {fd : Nat → FuncData} {ec : Nat → Addr} {fi : Nat → Addr} {di : Nat → FuncData} (T : Fx K mg fa fd ec fi di) : mg "_are_fates" = some (.ref (fa 8)) := T.p1.g__are_fates
theorem Fx.b__are_fates {K : PySem.W.Frag} {mg : Str → Option Value} {fa : Nat → Addr} {fd : Nat → FuncData} {ec : Nat → Addr} {fi : Nat → Addr} {di : Nat → FuncData} (T : Fx K mg fa fd ec fi di) : Binds K (fd 8) ["fates", "limit", "most"] [] := T.p1.b__are_fates
theorem Fx.F_lost_count {K : PySem.W.Frag} {mg : Str → Option Value} {fa : Nat → Addr} {fd : Nat → FuncData} {ec : Nat → Addr} {fi : Nat → Addr} {di : Nat → FuncData} (T : Fx K mg fa fd ec fi di) : Fun K "lost_count" "lost_count" s_lost_count (fa 9) (fd 9) := T.p1.F_lost_count
theorem Fx.kp_lost_count {K : PySem.W.Frag} {mg : Str → Option Value} {fa : Nat → Addr} {fd : Nat → FuncData} {ec : Nat → Addr} {fi : Nat → Addr} {di : Nat → FuncData} (T : Fx K mg fa fd ec fi di) : PySem.W.keepIn K (.ref (fa 9)) = true := T.p1.kp_lost_count
theorem Fx.g_lost_count {K : PySem.W.Frag} {mg : Str → Option Value} {fa : Nat → Addr} {fd : Nat → FuncData} {ec : Nat → Addr} {fi : Nat → Addr} {di : Nat → FuncData} (T : Fx K mg fa fd ec fi di) : mg "lost_count" = some (.ref (fa 9)) := T.p1.g_lost_count
theorem Fx.b_lost_count {K : PySem.W.Frag} {mg : Str → Option Value} {fa : Nat → Addr} {fd : Nat → FuncData} {ec : Nat → Addr} {fi : Nat → Addr} {di : Nat → FuncData} (T : Fx K mg fa fd ec fi di) : Binds K (fd 9) ["fates"] [] := T.p2.b_lost_count
theorem Fx.z_sum {K : PySem.W.Frag} {mg : Str → Option Value} {fa : Nat → Addr} {fd : Nat → FuncData} {ec : Nat → Addr} {fi : Nat → Addr} {di : Nat → FuncData} (T : Fx K mg fa fd ec fi di) : mg "sum" = none := T.p2.z_sum
theorem Fx.F_extra_count {K : PySem.W.Frag} {mg : Str → Option Value} {fa : Nat → Addr} {fd : Nat → FuncData} {ec : Nat → Addr} {fi : Nat → Addr} {di : Nat → FuncData} (T : Fx K mg fa fd ec fi di) : Fun K "extra_count" "extra_count" s_extra_count (fa 10) (fd 10) := T.p2.F_extra_count
theorem Fx.kp_extra_count {K : PySem.W.Frag} {mg : Str → Option Value} {fa : Nat → Addr} {fd : Nat → FuncData} {ec : Nat → Addr} {fi : Nat → Addr} {di : Nat → FuncData} (T : Fx K mg fa fd ec fi di) : PySem.W.keepIn K (.ref (fa 10)) = true := T.p2.kp_extra_count
theorem Fx.g_extra_count {K : PySem.W.Frag} {mg : Str → Option Value} {fa : Nat → Addr} {fd : Nat → FuncData} {ec : Nat → Addr} {fi : Nat → Addr} {di : Nat → FuncData} (T : Fx K mg fa fd ec fi di) : mg "extra_count" = some (.ref (fa 10)) := T.p2.g_extra_count
theorem Fx.b_extra_count {K : PySem.W.Frag} {mg : Str → Option Value} {fa : Nat → Addr} {fd : Nat → FuncData} {ec : Nat → Addr} {fi : Nat → Addr} {di : Nat → FuncData} (T : Fx K mg fa fd ec fi di) : Binds K (fd 10) ["fates"] [] := T.p2.b_extra_count
theorem Fx.F__is_affordable {K : PySem.W.Frag} {mg : Str → Option Value} {fa : Nat → Addr} {fd : Nat → FuncData} {ec : Nat → Addr} {fi : Nat → Addr} {di : Nat → FuncData} (T : Fx K mg fa fd ec fi di) : Fun K "_is_affordable" "_is_affordable" s__is_affordable (fa 11) (fd 11) := T.p2.F__is_affordable
theorem Fx.kp__is_affordable {K : PySem.W.Frag} {mg : Str → Option Value} {fa : Nat → Addr} {fd : Nat → FuncData} {ec : Nat → Addr} {fi : Nat → Addr} {di : Nat → FuncData} (T : Fx K mg fa fd ec fi di) : PySem.W.keepIn K (.ref (fa 11)) = true := T.p2.kp__is_affordable
theorem Fx.g__is_affordable {K : PySem.W.Frag} {mg : Str → Option Value} {fa : Nat → Addr} {fd : Nat → FuncData} {ec : Nat → Addr} {fi : Nat → Addr} {di : Nat → FuncData} (T : Fx K mg fa fd ec fi di) : mg "_is_affordable" = some (.ref (fa 11)) := T.p2.g__is_affordable
theorem Fx.b__is_affordable {K : PySem.W.Frag} {mg : Str → Option Value} {fa : Nat → Addr} {fd : Nat → FuncData} {ec : Nat → Addr} {fi : Nat → Addr} {di : Nat → FuncData} (T : Fx K mg fa fd ec fi di) : Binds K (fd 11) ["wire", "fates"] [] := T.p2.b__is_affordable
theorem Fx.c_LAST_CRASH {K : PySem.W.Frag} {mg : Str → Option Value} {fa : Nat → Addr} {fd : Nat → FuncData} {ec : Nat → Addr} {fi : Nat → Addr} {di : Nat → FuncData} (T : Fx K mg fa fd ec fi di) : ∃ t, mg "LAST_CRASH" = some (.int 400 t) := T.p2.c_LAST_CRASH
theorem Fx.F__are_crashes {K : PySem.W.Frag} {mg : Str → Option Value} {fa : Nat → Addr} {fd : Nat → FuncData} {ec : Nat → Addr} {fi : Nat → Addr} {di : Nat → FuncData} (T : Fx K mg fa fd ec fi di) : Fun K "_are_crashes" "_are_crashes" s__are_crashes (fa 12) (fd 12) := T.p2.F__are_crashes
theorem Fx.kp__are_crashes {K : PySem.W.Frag} {mg : Str → Option Value} {fa : Nat → Addr} {fd : Nat → FuncData} {ec : Nat → Addr} {fi : Nat → Addr} {di : Nat → FuncData} (T : Fx K mg fa fd ec fi di) : PySem.W.keepIn K (.ref (fa 12)) = true := T.p2.kp__are_crashes
theorem Fx.g__are_crashes {K : PySem.W.Frag} {mg : Str → Option Value} {fa : Nat → Addr} {fd : Nat → FuncData} {ec : Nat → Addr} {fi : Nat → Addr} {di : Nat → FuncData} (T : Fx K mg fa fd ec fi di) : mg "_are_crashes" = some (.ref (fa 12)) := T.p2.g__are_crashes
theorem Fx.b__are_crashes {K : PySem.W.Frag} {mg : Str → Option Value} {fa : Nat → Addr} {fd : Nat → FuncData} {ec : Nat → Addr} {fi : Nat → Addr} {di : Nat → FuncData} (T : Fx K mg fa fd ec fi di) : Binds K (fd 12) ["crashes", "limit"] [] := T.p2.b__are_crashes
theorem Fx.ox_BadRun {K : PySem.W.Frag} {mg : Str → Option Value} {fa : Nat → Addr} {fd : Nat → FuncData} {ec : Nat → Addr} {fi : Nat → Addr} {di : Nat → FuncData} (T : Fx K mg fa fd ec fi di) : OexC K (ec 4) := T.p2.ox_BadRun
theorem Fx.gc_BadRun {K : PySem.W.Frag} {mg : Str → Option Value} {fa : Nat → Addr} {fd : Nat → FuncData} {ec : Nat → Addr} {fi : Nat → Addr} {di : Nat → FuncData} (T : Fx K mg fa fd ec fi di) : mg "BadRun" = some (.ref (ec 4)) := T.p2.gc_BadRun
theorem Fx.na_BadRun_part {K : PySem.W.Frag} {mg : Str → Option Value} {fa : Nat → Addr} {fd : Nat → FuncData} {ec : Nat → Addr} {fi : Nat → Addr} {di : Nat → FuncData} (T : Fx K mg fa fd ec fi di) : PySem.W.findIn K (.ref (ec 4)) "part" = some none := T.p2.na_BadRun_part
theorem Fx.c_MOST_TELLS {K : PySem.W.Frag} {mg : Str → Option Value} {fa : Nat → Addr} {fd : Nat → FuncData} {ec : Nat → Addr} {fi : Nat → Addr} {di : Nat → FuncData} (T : Fx K mg fa fd ec fi di) : ∃ t, mg "MOST_TELLS" = some (.int 40 t) := T.p2.c_MOST_TELLS
theorem Fx.F_check_run {K : PySem.W.Frag} {mg : Str → Option Value} {fa : Nat → Addr} {fd : Nat → FuncData} {ec : Nat → Addr} {fi : Nat → Addr} {di : Nat → FuncData} (T : Fx K mg fa fd ec fi di) : Fun K "check_run" "check_run" s_check_run (fa 13) (fd 13) := T.p2.F_check_run
theorem Fx.kp_check_run {K : PySem.W.Frag} {mg : Str → Option Value} {fa : Nat → Addr} {fd : Nat → FuncData} {ec : Nat → Addr} {fi : Nat → Addr} {di : Nat → FuncData} (T : Fx K mg fa fd ec fi di) : PySem.W.keepIn K (.ref (fa 13)) = true := T.p2.kp_check_run
theorem Fx.g_check_run {K : PySem.W.Frag} {mg : Str → Option Value} {fa : Nat → Addr} {fd : Nat → FuncData} {ec : Nat → Addr} {fi : Nat → Addr} {di : Nat → FuncData} (T : Fx K mg fa fd ec fi di) : mg "check_run" = some (.ref (fa 13)) := T.p2.g_check_run
theorem Fx.b_check_run {K : PySem.W.Frag} {mg : Str → Option Value} {fa : Nat → Addr} {fd : Nat → FuncData} {ec : Nat → Addr} {fi : Nat → Addr} {di : Nat → FuncData} (T : Fx K mg fa fd ec fi di) : Binds K (fd 13) ["wire", "plan", "memory", "run"] [] := T.p2.b_check_run
theorem Fx.F_fate_of {K : PySem.W.Frag} {mg : Str → Option Value} {fa : Nat → Addr} {fd : Nat → FuncData} {ec : Nat → Addr} {fi : Nat → Addr} {di : Nat → FuncData} (T : Fx K mg fa fd ec fi di) : Fun K "fate_of" "fate_of" s_fate_of (fa 14) (fd 14) := T.p2.F_fate_of
theorem Fx.kp_fate_of {K : PySem.W.Frag} {mg : Str → Option Value} {fa : Nat → Addr} {fd : Nat → FuncData} {ec : Nat → Addr} {fi : Nat → Addr} {di : Nat → FuncData} (T : Fx K mg fa fd ec fi di) : PySem.W.keepIn K (.ref (fa 14)) = true := T.p2.kp_fate_of
theorem Fx.g_fate_of {K : PySem.W.Frag} {mg : Str → Option Value} {fa : Nat → Addr} {fd : Nat → FuncData} {ec : Nat → Addr} {fi : Nat → Addr} {di : Nat → FuncData} (T : Fx K mg fa fd ec fi di) : mg "fate_of" = some (.ref (fa 14)) := T.p2.g_fate_of
theorem Fx.b_fate_of {K : PySem.W.Frag} {mg : Str → Option Value} {fa : Nat → Addr} {fd : Nat → FuncData} {ec : Nat → Addr} {fi : Nat → Addr} {di : Nat → FuncData} (T : Fx K mg fa fd ec fi di) : Binds K (fd 14) ["fates", "index"] [] := T.p2.b_fate_of
theorem Fx.cl_CallPlay {K : PySem.W.Frag} {mg : Str → Option Value} {fa : Nat → Addr} {fd : Nat → FuncData} {ec : Nat → Addr} {fi : Nat → Addr} {di : Nat → FuncData} (T : Fx K mg fa fd ec fi di) : Cls K (ec 5) := T.p2.cl_CallPlay
theorem Fx.nf_CallPlay_tries {K : PySem.W.Frag} {mg : Str → Option Value} {fa : Nat → Addr} {fd : Nat → FuncData} {ec : Nat → Addr} {fi : Nat → Addr} {di : Nat → FuncData} (T : Fx K mg fa fd ec fi di) : PySem.W.findIn K (.ref (ec 5)) "tries" = some none := T.p2.nf_CallPlay_tries
theorem Fx.fl_tries {K : PySem.W.Frag} {mg : Str → Option Value} {fa : Nat → Addr} {fd : Nat → FuncData} {ec : Nat → Addr} {fi : Nat → Addr} {di : Nat → FuncData} (T : Fx K mg fa fd ec fi di) : FldCls (gg K ec) [5] "tries" := T.p2.fl_tries
theorem Fx.nf_CallPlay_until {K : PySem.W.Frag} {mg : Str → Option Value} {fa : Nat → Addr} {fd : Nat → FuncData} {ec : Nat → Addr} {fi : Nat → Addr} {di : Nat → FuncData} (T : Fx K mg fa fd ec fi di) : PySem.W.findIn K (.ref (ec 5)) "until" = some none := T.p3.nf_CallPlay_until
theorem Fx.fl_until {K : PySem.W.Frag} {mg : Str → Option Value} {fa : Nat → Addr} {fd : Nat → FuncData} {ec : Nat → Addr} {fi : Nat → Addr} {di : Nat → FuncData} (T : Fx K mg fa fd ec fi di) : FldCls (gg K ec) [5] "until" := T.p3.fl_until
theorem Fx.nf_CallPlay_keep {K : PySem.W.Frag} {mg : Str → Option Value} {fa : Nat → Addr} {fd : Nat → FuncData} {ec : Nat → Addr} {fi : Nat → Addr} {di : Nat → FuncData} (T : Fx K mg fa fd ec fi di) : PySem.W.findIn K (.ref (ec 5)) "keep" = some none := T.p3.nf_CallPlay_keep
theorem Fx.fl_keep {K : PySem.W.Frag} {mg : Str → Option Value} {fa : Nat → Addr} {fd : Nat → FuncData} {ec : Nat → Addr} {fi : Nat → Addr} {di : Nat → FuncData} (T : Fx K mg fa fd ec fi di) : FldCls (gg K ec) [5] "keep" := T.p3.fl_keep
theorem Fx.nf_CallPlay_durable {K : PySem.W.Frag} {mg : Str → Option Value} {fa : Nat → Addr} {fd : Nat → FuncData} {ec : Nat → Addr} {fi : Nat → Addr} {di : Nat → FuncData} (T : Fx K mg fa fd ec fi di) : PySem.W.findIn K (.ref (ec 5)) "durable" = some none := T.p3.nf_CallPlay_durable
theorem Fx.fl_durable {K : PySem.W.Frag} {mg : Str → Option Value} {fa : Nat → Addr} {fd : Nat → FuncData} {ec : Nat → Addr} {fi : Nat → Addr} {di : Nat → FuncData} (T : Fx K mg fa fd ec fi di) : FldCls (gg K ec) [5] "durable" := T.p3.fl_durable
theorem Fx.nf_CallPlay_asks {K : PySem.W.Frag} {mg : Str → Option Value} {fa : Nat → Addr} {fd : Nat → FuncData} {ec : Nat → Addr} {fi : Nat → Addr} {di : Nat → FuncData} (T : Fx K mg fa fd ec fi di) : PySem.W.findIn K (.ref (ec 5)) "asks" = some none := T.p3.nf_CallPlay_asks
theorem Fx.fl_asks {K : PySem.W.Frag} {mg : Str → Option Value} {fa : Nat → Addr} {fd : Nat → FuncData} {ec : Nat → Addr} {fi : Nat → Addr} {di : Nat → FuncData} (T : Fx K mg fa fd ec fi di) : FldCls (gg K ec) [5] "asks" := T.p3.fl_asks
theorem Fx.nf_CallPlay_tells {K : PySem.W.Frag} {mg : Str → Option Value} {fa : Nat → Addr} {fd : Nat → FuncData} {ec : Nat → Addr} {fi : Nat → Addr} {di : Nat → FuncData} (T : Fx K mg fa fd ec fi di) : PySem.W.findIn K (.ref (ec 5)) "tells" = some none := T.p3.nf_CallPlay_tells
theorem Fx.fl_tells {K : PySem.W.Frag} {mg : Str → Option Value} {fa : Nat → Addr} {fd : Nat → FuncData} {ec : Nat → Addr} {fi : Nat → Addr} {di : Nat → FuncData} (T : Fx K mg fa fd ec fi di) : FldCls (gg K ec) [5] "tells" := T.p3.fl_tells
theorem Fx.nf_CallPlay_crashes {K : PySem.W.Frag} {mg : Str → Option Value} {fa : Nat → Addr} {fd : Nat → FuncData} {ec : Nat → Addr} {fi : Nat → Addr} {di : Nat → FuncData} (T : Fx K mg fa fd ec fi di) : PySem.W.findIn K (.ref (ec 5)) "crashes" = some none := T.p3.nf_CallPlay_crashes
theorem Fx.fl_crashes {K : PySem.W.Frag} {mg : Str → Option Value} {fa : Nat → Addr} {fd : Nat → FuncData} {ec : Nat → Addr} {fi : Nat → Addr} {di : Nat → FuncData} (T : Fx K mg fa fd ec fi di) : FldCls (gg K ec) [5] "crashes" := T.p3.fl_crashes
theorem Fx.nf_CallPlay_stops {K : PySem.W.Frag} {mg : Str → Option Value} {fa : Nat → Addr} {fd : Nat → FuncData} {ec : Nat → Addr} {fi : Nat → Addr} {di : Nat → FuncData} (T : Fx K mg fa fd ec fi di) : PySem.W.findIn K (.ref (ec 5)) "stops" = some none := T.p3.nf_CallPlay_stops
theorem Fx.fl_stops {K : PySem.W.Frag} {mg : Str → Option Value} {fa : Nat → Addr} {fd : Nat → FuncData} {ec : Nat → Addr} {fi : Nat → Addr} {di : Nat → FuncData} (T : Fx K mg fa fd ec fi di) : FldCls (gg K ec) [5] "stops" := T.p3.fl_stops
theorem Fx.z_max {K : PySem.W.Frag} {mg : Str → Option Value} {fa : Nat → Addr} {fd : Nat → FuncData} {ec : Nat → Addr} {fi : Nat → Addr} {di : Nat → FuncData} (T : Fx K mg fa fd ec fi di) : mg "max" = none := T.p3.z_max
theorem Fx.nf_CallPlay_last {K : PySem.W.Frag} {mg : Str → Option Value} {fa : Nat → Addr} {fd : Nat → FuncData} {ec : Nat → Addr} {fi : Nat → Addr} {di : Nat → FuncData} (T : Fx K mg fa fd ec fi di) : PySem.W.findIn K (.ref (ec 5)) "last" = some none := T.p3.nf_CallPlay_last
theorem Fx.fl_last {K : PySem.W.Frag} {mg : Str → Option Value} {fa : Nat → Addr} {fd : Nat → FuncData} {ec : Nat → Addr} {fi : Nat → Addr} {di : Nat → FuncData} (T : Fx K mg fa fd ec fi di) : FldCls (gg K ec) [5] "last" := T.p3.fl_last
theorem Fx.nf_CallPlay_arriving {K : PySem.W.Frag} {mg : Str → Option Value} {fa : Nat → Addr} {fd : Nat → FuncData} {ec : Nat → Addr} {fi : Nat → Addr} {di : Nat → FuncData} (T : Fx K mg fa fd ec fi di) : PySem.W.findIn K (.ref (ec 5)) "arriving" = some none := T.p3.nf_CallPlay_arriving
theorem Fx.fl_arriving {K : PySem.W.Frag} {mg : Str → Option Value} {fa : Nat → Addr} {fd : Nat → FuncData} {ec : Nat → Addr} {fi : Nat → Addr} {di : Nat → FuncData} (T : Fx K mg fa fd ec fi di) : FldCls (gg K ec) [5] "arriving" := T.p3.fl_arriving
theorem Fx.nf_CallPlay_hearing {K : PySem.W.Frag} {mg : Str → Option Value} {fa : Nat → Addr} {fd : Nat → FuncData} {ec : Nat → Addr} {fi : Nat → Addr} {di : Nat → FuncData} (T : Fx K mg fa fd ec fi di) : PySem.W.findIn K (.ref (ec 5)) "hearing" = some none := T.p3.nf_CallPlay_hearing
theorem Fx.fl_hearing {K : PySem.W.Frag} {mg : Str → Option Value} {fa : Nat → Addr} {fd : Nat → FuncData} {ec : Nat → Addr} {fi : Nat → Addr} {di : Nat → FuncData} (T : Fx K mg fa fd ec fi di) : FldCls (gg K ec) [5] "hearing" := T.p3.fl_hearing
theorem Fx.nf_CallPlay_done_at {K : PySem.W.Frag} {mg : Str → Option Value} {fa : Nat → Addr} {fd : Nat → FuncData} {ec : Nat → Addr} {fi : Nat → Addr} {di : Nat → FuncData} (T : Fx K mg fa fd ec fi di) : PySem.W.findIn K (.ref (ec 5)) "done_at" = some none := T.p3.nf_CallPlay_done_at
theorem Fx.fl_done_at {K : PySem.W.Frag} {mg : Str → Option Value} {fa : Nat → Addr} {fd : Nat → FuncData} {ec : Nat → Addr} {fi : Nat → Addr} {di : Nat → FuncData} (T : Fx K mg fa fd ec fi di) : FldCls (gg K ec) [5] "done_at" := T.p3.fl_done_at
theorem Fx.nf_CallPlay_told {K : PySem.W.Frag} {mg : Str → Option Value} {fa : Nat → Addr} {fd : Nat → FuncData} {ec : Nat → Addr} {fi : Nat → Addr} {di : Nat → FuncData} (T : Fx K mg fa fd ec fi di) : PySem.W.findIn K (.ref (ec 5)) "told" = some none := T.p3.nf_CallPlay_told
theorem Fx.fl_told {K : PySem.W.Frag} {mg : Str → Option Value} {fa : Nat → Addr} {fd : Nat → FuncData} {ec : Nat → Addr} {fi : Nat → Addr} {di : Nat → FuncData} (T : Fx K mg fa fd ec fi di) : FldCls (gg K ec) [5] "told" := T.p3.fl_told
theorem Fx.nf_CallPlay_has_answer {K : PySem.W.Frag} {mg : Str → Option Value} {fa : Nat → Addr} {fd : Nat → FuncData} {ec : Nat → Addr} {fi : Nat → Addr} {di : Nat → FuncData} (T : Fx K mg fa fd ec fi di) : PySem.W.findIn K (.ref (ec 5)) "has_answer" = some none := T.p3.nf_CallPlay_has_answer
theorem Fx.fl_has_answer {K : PySem.W.Frag} {mg : Str → Option Value} {fa : Nat → Addr} {fd : Nat → FuncData} {ec : Nat → Addr} {fi : Nat → Addr} {di : Nat → FuncData} (T : Fx K mg fa fd ec fi di) : FldCls (gg K ec) [5] "has_answer" := T.p3.fl_has_answer
theorem Fx.nf_CallPlay_waiting {K : PySem.W.Frag} {mg : Str → Option Value} {fa : Nat → Addr} {fd : Nat → FuncData} {ec : Nat → Addr} {fi : Nat → Addr} {di : Nat → FuncData} (T : Fx K mg fa fd ec fi di) : PySem.W.findIn K (.ref (ec 5)) "waiting" = some none := T.p3.nf_CallPlay_waiting
theorem Fx.fl_waiting {K : PySem.W.Frag} {mg : Str → Option Value} {fa : Nat → Addr} {fd : Nat → FuncData} {ec : Nat → Addr} {fi : Nat → Addr} {di : Nat → FuncData} (T : Fx K mg fa fd ec fi di) : FldCls (gg K ec) [5] "waiting" := T.p3.fl_waiting
theorem Fx.nf_CallPlay_stopped_at {K : PySem.W.Frag} {mg : Str → Option Value} {fa : Nat → Addr} {fd : Nat → FuncData} {ec : Nat → Addr} {fi : Nat → Addr} {di : Nat → FuncData} (T : Fx K mg fa fd ec fi di) : PySem.W.findIn K (.ref (ec 5)) "stopped_at" = some none := T.p3.nf_CallPlay_stopped_at
theorem Fx.fl_stopped_at {K : PySem.W.Frag} {mg : Str → Option Value} {fa : Nat → Addr} {fd : Nat → FuncData} {ec : Nat → Addr} {fi : Nat → Addr} {di : Nat → FuncData} (T : Fx K mg fa fd ec fi di) : FldCls (gg K ec) [5] "stopped_at" := T.p4.fl_stopped_at
theorem Fx.nf_CallPlay_history {K : PySem.W.Frag} {mg : Str → Option Value} {fa : Nat → Addr} {fd : Nat → FuncData} {ec : Nat → Addr} {fi : Nat → Addr} {di : Nat → FuncData} (T : Fx K mg fa fd ec fi di) : PySem.W.findIn K (.ref (ec 5)) "history" = some none := T.p4.nf_CallPlay_history
theorem Fx.fl_history {K : PySem.W.Frag} {mg : Str → Option Value} {fa : Nat → Addr} {fd : Nat → FuncData} {ec : Nat → Addr} {fi : Nat → Addr} {di : Nat → FuncData} (T : Fx K mg fa fd ec fi di) : FldCls (gg K ec) [5] "history" := T.p4.fl_history
theorem Fx.F_CallPlay____init__ {K : PySem.W.Frag} {mg : Str → Option Value} {fa : Nat → Addr} {fd : Nat → FuncData} {ec : Nat → Addr} {fi : Nat → Addr} {di : Nat → FuncData} (T : Fx K mg fa fd ec fi di) : Fun K "__init__" "CallPlay.__init__" s_CallPlay____init__ (fa 15) (fd 15) := T.p4.F_CallPlay____init__
theorem Fx.kp_CallPlay____init__ {K : PySem.W.Frag} {mg : Str → Option Value} {fa : Nat → Addr} {fd : Nat → FuncData} {ec : Nat → Addr} {fi : Nat → Addr} {di : Nat → FuncData} (T : Fx K mg fa fd ec fi di) : PySem.W.keepIn K (.ref (fa 15)) = true := T.p4.kp_CallPlay____init__
theorem Fx.b_CallPlay____init__ {K : PySem.W.Frag} {mg : Str → Option Value} {fa : Nat → Addr} {fd : Nat → FuncData} {ec : Nat → Addr} {fi : Nat → Addr} {di : Nat → FuncData} (T : Fx K mg fa fd ec fi di) : Binds K (fd 15) ["self", "wire", "plan", "memory", "run", "stops"] [] := T.p4.b_CallPlay____init__
theorem Fx.F_CallPlay__play_tell {K : PySem.W.Frag} {mg : Str → Option Value} {fa : Nat → Addr} {fd : Nat → FuncData} {ec : Nat → Addr} {fi : Nat → Addr} {di : Nat → FuncData} (T : Fx K mg fa fd ec fi di) : Fun K "play_tell" "CallPlay.play_tell" s_CallPlay__play_tell (fa 16) (fd 16) := T.p4.F_CallPlay__play_tell
theorem Fx.kp_CallPlay__play_tell {K : PySem.W.Frag} {mg : Str → Option Value} {fa : Nat → Addr} {fd : Nat → FuncData} {ec : Nat → Addr} {fi : Nat → Addr} {di : Nat → FuncData} (T : Fx K mg fa fd ec fi di) : PySem.W.keepIn K (.ref (fa 16)) = true := T.p4.kp_CallPlay__play_tell
theorem Fx.b_CallPlay__play_tell {K : PySem.W.Frag} {mg : Str → Option Value} {fa : Nat → Addr} {fd : Nat → FuncData} {ec : Nat → Addr} {fi : Nat → Addr} {di : Nat → FuncData} (T : Fx K mg fa fd ec fi di) : Binds K (fd 16) ["self", "tick"] [] := T.p4.b_CallPlay__play_tell
theorem Fx.me_CallPlay__play_tell {K : PySem.W.Frag} {mg : Str → Option Value} {fa : Nat → Addr} {fd : Nat → FuncData} {ec : Nat → Addr} {fi : Nat → Addr} {di : Nat → FuncData} (T : Fx K mg fa fd ec fi di) : Meth K (ec 5) "play_tell" (fa 16) := T.p4.me_CallPlay__play_tell
theorem Fx.F_CallPlay__play_arrivals {K : PySem.W.Frag} {mg : Str → Option Value} {fa : Nat → Addr} {fd : Nat → FuncData} {ec : Nat → Addr} {fi : Nat → Addr} {di : Nat → FuncData} (T : Fx K mg fa fd ec fi di) : Fun K "play_arrivals" "CallPlay.play_arrivals" s_CallPlay__play_arrivals (fa 17) (fd 17) := T.p4.F_CallPlay__play_arrivals
theorem Fx.kp_CallPlay__play_arrivals {K : PySem.W.Frag} {mg : Str → Option Value} {fa : Nat → Addr} {fd : Nat → FuncData} {ec : Nat → Addr} {fi : Nat → Addr} {di : Nat → FuncData} (T : Fx K mg fa fd ec fi di) : PySem.W.keepIn K (.ref (fa 17)) = true := T.p4.kp_CallPlay__play_arrivals
theorem Fx.b_CallPlay__play_arrivals {K : PySem.W.Frag} {mg : Str → Option Value} {fa : Nat → Addr} {fd : Nat → FuncData} {ec : Nat → Addr} {fi : Nat → Addr} {di : Nat → FuncData} (T : Fx K mg fa fd ec fi di) : Binds K (fd 17) ["self", "tick"] [] := T.p4.b_CallPlay__play_arrivals
theorem Fx.F_CallPlay__play_ask {K : PySem.W.Frag} {mg : Str → Option Value} {fa : Nat → Addr} {fd : Nat → FuncData} {ec : Nat → Addr} {fi : Nat → Addr} {di : Nat → FuncData} (T : Fx K mg fa fd ec fi di) : Fun K "play_ask" "CallPlay.play_ask" s_CallPlay__play_ask (fa 18) (fd 18) := T.p4.F_CallPlay__play_ask
theorem Fx.kp_CallPlay__play_ask {K : PySem.W.Frag} {mg : Str → Option Value} {fa : Nat → Addr} {fd : Nat → FuncData} {ec : Nat → Addr} {fi : Nat → Addr} {di : Nat → FuncData} (T : Fx K mg fa fd ec fi di) : PySem.W.keepIn K (.ref (fa 18)) = true := T.p4.kp_CallPlay__play_ask
theorem Fx.b_CallPlay__play_ask {K : PySem.W.Frag} {mg : Str → Option Value} {fa : Nat → Addr} {fd : Nat → FuncData} {ec : Nat → Addr} {fi : Nat → Addr} {di : Nat → FuncData} (T : Fx K mg fa fd ec fi di) : Binds K (fd 18) ["self", "tick"] [] := T.p4.b_CallPlay__play_ask
theorem Fx.F_CallPlay__play_crash {K : PySem.W.Frag} {mg : Str → Option Value} {fa : Nat → Addr} {fd : Nat → FuncData} {ec : Nat → Addr} {fi : Nat → Addr} {di : Nat → FuncData} (T : Fx K mg fa fd ec fi di) : Fun K "play_crash" "CallPlay.play_crash" s_CallPlay__play_crash (fa 19) (fd 19) := T.p4.F_CallPlay__play_crash
theorem Fx.kp_CallPlay__play_crash {K : PySem.W.Frag} {mg : Str → Option Value} {fa : Nat → Addr} {fd : Nat → FuncData} {ec : Nat → Addr} {fi : Nat → Addr} {di : Nat → FuncData} (T : Fx K mg fa fd ec fi di) : PySem.W.keepIn K (.ref (fa 19)) = true := T.p4.kp_CallPlay__play_crash
theorem Fx.b_CallPlay__play_crash {K : PySem.W.Frag} {mg : Str → Option Value} {fa : Nat → Addr} {fd : Nat → FuncData} {ec : Nat → Addr} {fi : Nat → Addr} {di : Nat → FuncData} (T : Fx K mg fa fd ec fi di) : Binds K (fd 19) ["self", "tick"] [] := T.p4.b_CallPlay__play_crash
theorem Fx.F_CallPlay__play_replies {K : PySem.W.Frag} {mg : Str → Option Value} {fa : Nat → Addr} {fd : Nat → FuncData} {ec : Nat → Addr} {fi : Nat → Addr} {di : Nat → FuncData} (T : Fx K mg fa fd ec fi di) : Fun K "play_replies" "CallPlay.play_replies" s_CallPlay__play_replies (fa 20) (fd 20) := T.p4.F_CallPlay__play_replies
theorem Fx.kp_CallPlay__play_replies {K : PySem.W.Frag} {mg : Str → Option Value} {fa : Nat → Addr} {fd : Nat → FuncData} {ec : Nat → Addr} {fi : Nat → Addr} {di : Nat → FuncData} (T : Fx K mg fa fd ec fi di) : PySem.W.keepIn K (.ref (fa 20)) = true := T.p4.kp_CallPlay__play_replies
theorem Fx.b_CallPlay__play_replies {K : PySem.W.Frag} {mg : Str → Option Value} {fa : Nat → Addr} {fd : Nat → FuncData} {ec : Nat → Addr} {fi : Nat → Addr} {di : Nat → FuncData} (T : Fx K mg fa fd ec fi di) : Binds K (fd 20) ["self", "tick"] [] := T.p4.b_CallPlay__play_replies
theorem Fx.me_CallPlay__play_crash {K : PySem.W.Frag} {mg : Str → Option Value} {fa : Nat → Addr} {fd : Nat → FuncData} {ec : Nat → Addr} {fi : Nat → Addr} {di : Nat → FuncData} (T : Fx K mg fa fd ec fi di) : Meth K (ec 5) "play_crash" (fa 19) := T.p4.me_CallPlay__play_crash
theorem Fx.me_CallPlay__play_ask {K : PySem.W.Frag} {mg : Str → Option Value} {fa : Nat → Addr} {fd : Nat → FuncData} {ec : Nat → Addr} {fi : Nat → Addr} {di : Nat → FuncData} (T : Fx K mg fa fd ec fi di) : Meth K (ec 5) "play_ask" (fa 18) := T.p4.me_CallPlay__play_ask
theorem Fx.me_CallPlay__play_arrivals {K : PySem.W.Frag} {mg : Str → Option Value} {fa : Nat → Addr} {fd : Nat → FuncData} {ec : Nat → Addr} {fi : Nat → Addr} {di : Nat → FuncData} (T : Fx K mg fa fd ec fi di) : Meth K (ec 5) "play_arrivals" (fa 17) := T.p4.me_CallPlay__play_arrivals
theorem Fx.me_CallPlay__play_replies {K : PySem.W.Frag} {mg : Str → Option Value} {fa : Nat → Addr} {fd : Nat → FuncData} {ec : Nat → Addr} {fi : Nat → Addr} {di : Nat → FuncData} (T : Fx K mg fa fd ec fi di) : Meth K (ec 5) "play_replies" (fa 20) := T.p4.me_CallPlay__play_replies
theorem Fx.F_CallPlay__play_tick {K : PySem.W.Frag} {mg : Str → Option Value} {fa : Nat → Addr} {fd : Nat → FuncData} {ec : Nat → Addr} {fi : Nat → Addr} {di : Nat → FuncData} (T : Fx K mg fa fd ec fi di) : Fun K "play_tick" "CallPlay.play_tick" s_CallPlay__play_tick (fa 21) (fd 21) := T.p4.F_CallPlay__play_tick
theorem Fx.kp_CallPlay__play_tick {K : PySem.W.Frag} {mg : Str → Option Value} {fa : Nat → Addr} {fd : Nat → FuncData} {ec : Nat → Addr} {fi : Nat → Addr} {di : Nat → FuncData} (T : Fx K mg fa fd ec fi di) : PySem.W.keepIn K (.ref (fa 21)) = true := T.p4.kp_CallPlay__play_tick
theorem Fx.b_CallPlay__play_tick {K : PySem.W.Frag} {mg : Str → Option Value} {fa : Nat → Addr} {fd : Nat → FuncData} {ec : Nat → Addr} {fi : Nat → Addr} {di : Nat → FuncData} (T : Fx K mg fa fd ec fi di) : Binds K (fd 21) ["self", "tick"] [] := T.p4.b_CallPlay__play_tick
theorem Fx.me_CallPlay__play_tick {K : PySem.W.Frag} {mg : Str → Option Value} {fa : Nat → Addr} {fd : Nat → FuncData} {ec : Nat → Addr} {fi : Nat → Addr} {di : Nat → FuncData} (T : Fx K mg fa fd ec fi di) : Meth K (ec 5) "play_tick" (fa 21) := T.p4.me_CallPlay__play_tick
theorem Fx.F_CallPlay__play_all {K : PySem.W.Frag} {mg : Str → Option Value} {fa : Nat → Addr} {fd : Nat → FuncData} {ec : Nat → Addr} {fi : Nat → Addr} {di : Nat → FuncData} (T : Fx K mg fa fd ec fi di) : Fun K "play_all" "CallPlay.play_all" s_CallPlay__play_all (fa 22) (fd 22) := T.p5.F_CallPlay__play_all
theorem Fx.kp_CallPlay__play_all {K : PySem.W.Frag} {mg : Str → Option Value} {fa : Nat → Addr} {fd : Nat → FuncData} {ec : Nat → Addr} {fi : Nat → Addr} {di : Nat → FuncData} (T : Fx K mg fa fd ec fi di) : PySem.W.keepIn K (.ref (fa 22)) = true := T.p5.kp_CallPlay__play_all
theorem Fx.b_CallPlay__play_all {K : PySem.W.Frag} {mg : Str → Option Value} {fa : Nat → Addr} {fd : Nat → FuncData} {ec : Nat → Addr} {fi : Nat → Addr} {di : Nat → FuncData} (T : Fx K mg fa fd ec fi di) : Binds K (fd 22) ["self"] [] := T.p5.b_CallPlay__play_all
theorem Fx.gc_CallPlay {K : PySem.W.Frag} {mg : Str → Option Value} {fa : Nat → Addr} {fd : Nat → FuncData} {ec : Nat → Addr} {fi : Nat → Addr} {di : Nat → FuncData} (T : Fx K mg fa fd ec fi di) : mg "CallPlay" = some (.ref (ec 5)) := T.p5.gc_CallPlay
theorem Fx.mk_CallPlay {K : PySem.W.Frag} {mg : Str → Option Value} {fa : Nat → Addr} {fd : Nat → FuncData} {ec : Nat → Addr} {fi : Nat → Addr} {di : Nat → FuncData} (T : Fx K mg fa fd ec fi di) : Mk K (ec 5) (fa 15) := T.p5.mk_CallPlay
theorem Fx.me_CallPlay__play_all {K : PySem.W.Frag} {mg : Str → Option Value} {fa : Nat → Addr} {fd : Nat → FuncData} {ec : Nat → Addr} {fi : Nat → Addr} {di : Nat → FuncData} (T : Fx K mg fa fd ec fi di) : Meth K (ec 5) "play_all" (fa 22) := T.p5.me_CallPlay__play_all
theorem Fx.F_played_log {K : PySem.W.Frag} {mg : Str → Option Value} {fa : Nat → Addr} {fd : Nat → FuncData} {ec : Nat → Addr} {fi : Nat → Addr} {di : Nat → FuncData} (T : Fx K mg fa fd ec fi di) : Fun K "played_log" "played_log" s_played_log (fa 23) (fd 23) := T.p5.F_played_log
theorem Fx.kp_played_log {K : PySem.W.Frag} {mg : Str → Option Value} {fa : Nat → Addr} {fd : Nat → FuncData} {ec : Nat → Addr} {fi : Nat → Addr} {di : Nat → FuncData} (T : Fx K mg fa fd ec fi di) : PySem.W.keepIn K (.ref (fa 23)) = true := T.p5.kp_played_log
theorem Fx.g_played_log {K : PySem.W.Frag} {mg : Str → Option Value} {fa : Nat → Addr} {fd : Nat → FuncData} {ec : Nat → Addr} {fi : Nat → Addr} {di : Nat → FuncData} (T : Fx K mg fa fd ec fi di) : mg "played_log" = some (.ref (fa 23)) := T.p5.g_played_log
theorem Fx.b_played_log {K : PySem.W.Frag} {mg : Str → Option Value} {fa : Nat → Addr} {fd : Nat → FuncData} {ec : Nat → Addr} {fi : Nat → Addr} {di : Nat → FuncData} (T : Fx K mg fa fd ec fi di) : Binds K (fd 23) ["wire", "plan", "memory", "run"] [] := T.p5.b_played_log
theorem Fx.F_play_call {K : PySem.W.Frag} {mg : Str → Option Value} {fa : Nat → Addr} {fd : Nat → FuncData} {ec : Nat → Addr} {fi : Nat → Addr} {di : Nat → FuncData} (T : Fx K mg fa fd ec fi di) : Fun K "play_call" "play_call" s_play_call (fa 24) (fd 24) := T.p5.F_play_call
theorem Fx.kp_play_call {K : PySem.W.Frag} {mg : Str → Option Value} {fa : Nat → Addr} {fd : Nat → FuncData} {ec : Nat → Addr} {fi : Nat → Addr} {di : Nat → FuncData} (T : Fx K mg fa fd ec fi di) : PySem.W.keepIn K (.ref (fa 24)) = true := T.p5.kp_play_call
theorem Fx.g_play_call {K : PySem.W.Frag} {mg : Str → Option Value} {fa : Nat → Addr} {fd : Nat → FuncData} {ec : Nat → Addr} {fi : Nat → Addr} {di : Nat → FuncData} (T : Fx K mg fa fd ec fi di) : mg "play_call" = some (.ref (fa 24)) := T.p5.g_play_call
theorem Fx.b_play_call {K : PySem.W.Frag} {mg : Str → Option Value} {fa : Nat → Addr} {fd : Nat → FuncData} {ec : Nat → Addr} {fi : Nat → Addr} {di : Nat → FuncData} (T : Fx K mg fa fd ec fi di) : Binds K (fd 24) ["wire", "plan", "memory", "run"] [] := T.p5.b_play_call
theorem Fx.F_ticks_of {K : PySem.W.Frag} {mg : Str → Option Value} {fa : Nat → Addr} {fd : Nat → FuncData} {ec : Nat → Addr} {fi : Nat → Addr} {di : Nat → FuncData} (T : Fx K mg fa fd ec fi di) : Fun K "ticks_of" "ticks_of" s_ticks_of (fa 25) (fd 25) := T.p5.F_ticks_of
theorem Fx.kp_ticks_of {K : PySem.W.Frag} {mg : Str → Option Value} {fa : Nat → Addr} {fd : Nat → FuncData} {ec : Nat → Addr} {fi : Nat → Addr} {di : Nat → FuncData} (T : Fx K mg fa fd ec fi di) : PySem.W.keepIn K (.ref (fa 25)) = true := T.p5.kp_ticks_of
theorem Fx.g_ticks_of {K : PySem.W.Frag} {mg : Str → Option Value} {fa : Nat → Addr} {fd : Nat → FuncData} {ec : Nat → Addr} {fi : Nat → Addr} {di : Nat → FuncData} (T : Fx K mg fa fd ec fi di) : mg "ticks_of" = some (.ref (fa 25)) := T.p5.g_ticks_of
theorem Fx.b_ticks_of {K : PySem.W.Frag} {mg : Str → Option Value} {fa : Nat → Addr} {fd : Nat → FuncData} {ec : Nat → Addr} {fi : Nat → Addr} {di : Nat → FuncData} (T : Fx K mg fa fd ec fi di) : Binds K (fd 25) ["log", "word"] [] := T.p5.b_ticks_of
theorem Fx.F_done_ticks {K : PySem.W.Frag} {mg : Str → Option Value} {fa : Nat → Addr} {fd : Nat → FuncData} {ec : Nat → Addr} {fi : Nat → Addr} {di : Nat → FuncData} (T : Fx K mg fa fd ec fi di) : Fun K "done_ticks" "done_ticks" s_done_ticks (fa 26) (fd 26) := T.p5.F_done_ticks
theorem Fx.kp_done_ticks {K : PySem.W.Frag} {mg : Str → Option Value} {fa : Nat → Addr} {fd : Nat → FuncData} {ec : Nat → Addr} {fi : Nat → Addr} {di : Nat → FuncData} (T : Fx K mg fa fd ec fi di) : PySem.W.keepIn K (.ref (fa 26)) = true := T.p5.kp_done_ticks
theorem Fx.g_done_ticks {K : PySem.W.Frag} {mg : Str → Option Value} {fa : Nat → Addr} {fd : Nat → FuncData} {ec : Nat → Addr} {fi : Nat → Addr} {di : Nat → FuncData} (T : Fx K mg fa fd ec fi di) : mg "done_ticks" = some (.ref (fa 26)) := T.p5.g_done_ticks
theorem Fx.b_done_ticks {K : PySem.W.Frag} {mg : Str → Option Value} {fa : Nat → Addr} {fd : Nat → FuncData} {ec : Nat → Addr} {fi : Nat → Addr} {di : Nat → FuncData} (T : Fx K mg fa fd ec fi di) : Binds K (fd 26) ["log"] [] := T.p5.b_done_ticks
theorem Fx.F_arrivals {K : PySem.W.Frag} {mg : Str → Option Value} {fa : Nat → Addr} {fd : Nat → FuncData} {ec : Nat → Addr} {fi : Nat → Addr} {di : Nat → FuncData} (T : Fx K mg fa fd ec fi di) : Fun K "arrivals" "arrivals" s_arrivals (fa 27) (fd 27) := T.p5.F_arrivals
theorem Fx.kp_arrivals {K : PySem.W.Frag} {mg : Str → Option Value} {fa : Nat → Addr} {fd : Nat → FuncData} {ec : Nat → Addr} {fi : Nat → Addr} {di : Nat → FuncData} (T : Fx K mg fa fd ec fi di) : PySem.W.keepIn K (.ref (fa 27)) = true := T.p5.kp_arrivals
theorem Fx.g_arrivals {K : PySem.W.Frag} {mg : Str → Option Value} {fa : Nat → Addr} {fd : Nat → FuncData} {ec : Nat → Addr} {fi : Nat → Addr} {di : Nat → FuncData} (T : Fx K mg fa fd ec fi di) : mg "arrivals" = some (.ref (fa 27)) := T.p5.g_arrivals
theorem Fx.b_arrivals {K : PySem.W.Frag} {mg : Str → Option Value} {fa : Nat → Addr} {fd : Nat → FuncData} {ec : Nat → Addr} {fi : Nat → Addr} {di : Nat → FuncData} (T : Fx K mg fa fd ec fi di) : Binds K (fd 27) ["log"] [] := T.p5.b_arrivals
theorem Fx.F_answer_tick {K : PySem.W.Frag} {mg : Str → Option Value} {fa : Nat → Addr} {fd : Nat → FuncData} {ec : Nat → Addr} {fi : Nat → Addr} {di : Nat → FuncData} (T : Fx K mg fa fd ec fi di) : Fun K "answer_tick" "answer_tick" s_answer_tick (fa 28) (fd 28) := T.p5.F_answer_tick
theorem Fx.kp_answer_tick {K : PySem.W.Frag} {mg : Str → Option Value} {fa : Nat → Addr} {fd : Nat → FuncData} {ec : Nat → Addr} {fi : Nat → Addr} {di : Nat → FuncData} (T : Fx K mg fa fd ec fi di) : PySem.W.keepIn K (.ref (fa 28)) = true := T.p5.kp_answer_tick
theorem Fx.g_answer_tick {K : PySem.W.Frag} {mg : Str → Option Value} {fa : Nat → Addr} {fd : Nat → FuncData} {ec : Nat → Addr} {fi : Nat → Addr} {di : Nat → FuncData} (T : Fx K mg fa fd ec fi di) : mg "answer_tick" = some (.ref (fa 28)) := T.p5.g_answer_tick
theorem Fx.b_answer_tick {K : PySem.W.Frag} {mg : Str → Option Value} {fa : Nat → Addr} {fd : Nat → FuncData} {ec : Nat → Addr} {fi : Nat → Addr} {di : Nat → FuncData} (T : Fx K mg fa fd ec fi di) : Binds K (fd 28) ["log"] [] := T.p5.b_answer_tick
theorem Fx.F_gap_of {K : PySem.W.Frag} {mg : Str → Option Value} {fa : Nat → Addr} {fd : Nat → FuncData} {ec : Nat → Addr} {fi : Nat → Addr} {di : Nat → FuncData} (T : Fx K mg fa fd ec fi di) : Fun K "gap_of" "gap_of" s_gap_of (fa 29) (fd 29) := T.p6.F_gap_of
theorem Fx.kp_gap_of {K : PySem.W.Frag} {mg : Str → Option Value} {fa : Nat → Addr} {fd : Nat → FuncData} {ec : Nat → Addr} {fi : Nat → Addr} {di : Nat → FuncData} (T : Fx K mg fa fd ec fi di) : PySem.W.keepIn K (.ref (fa 29)) = true := T.p6.kp_gap_of
theorem Fx.g_gap_of {K : PySem.W.Frag} {mg : Str → Option Value} {fa : Nat → Addr} {fd : Nat → FuncData} {ec : Nat → Addr} {fi : Nat → Addr} {di : Nat → FuncData} (T : Fx K mg fa fd ec fi di) : mg "gap_of" = some (.ref (fa 29)) := T.p6.g_gap_of
theorem Fx.b_gap_of {K : PySem.W.Frag} {mg : Str → Option Value} {fa : Nat → Addr} {fd : Nat → FuncData} {ec : Nat → Addr} {fi : Nat → Addr} {di : Nat → FuncData} (T : Fx K mg fa fd ec fi di) : Binds K (fd 29) ["log"] [] := T.p6.b_gap_of
theorem Fx.F__law_cell {K : PySem.W.Frag} {mg : Str → Option Value} {fa : Nat → Addr} {fd : Nat → FuncData} {ec : Nat → Addr} {fi : Nat → Addr} {di : Nat → FuncData} (T : Fx K mg fa fd ec fi di) : Fun K "_law_cell" "_law_cell" s__law_cell (fa 30) (fd 30) := T.p6.F__law_cell
theorem Fx.kp__law_cell {K : PySem.W.Frag} {mg : Str → Option Value} {fa : Nat → Addr} {fd : Nat → FuncData} {ec : Nat → Addr} {fi : Nat → Addr} {di : Nat → FuncData} (T : Fx K mg fa fd ec fi di) : PySem.W.keepIn K (.ref (fa 30)) = true := T.p6.kp__law_cell
theorem Fx.g__law_cell {K : PySem.W.Frag} {mg : Str → Option Value} {fa : Nat → Addr} {fd : Nat → FuncData} {ec : Nat → Addr} {fi : Nat → Addr} {di : Nat → FuncData} (T : Fx K mg fa fd ec fi di) : mg "_law_cell" = some (.ref (fa 30)) := T.p6.g__law_cell
theorem Fx.b__law_cell {K : PySem.W.Frag} {mg : Str → Option Value} {fa : Nat → Addr} {fd : Nat → FuncData} {ec : Nat → Addr} {fi : Nat → Addr} {di : Nat → FuncData} (T : Fx K mg fa fd ec fi di) : Binds K (fd 30) ["script", "k"] [] := T.p6.b__law_cell
theorem Fx.F__law_row {K : PySem.W.Frag} {mg : Str → Option Value} {fa : Nat → Addr} {fd : Nat → FuncData} {ec : Nat → Addr} {fi : Nat → Addr} {di : Nat → FuncData} (T : Fx K mg fa fd ec fi di) : Fun K "_law_row" "_law_row" s__law_row (fa 31) (fd 31) := T.p6.F__law_row
theorem Fx.kp__law_row {K : PySem.W.Frag} {mg : Str → Option Value} {fa : Nat → Addr} {fd : Nat → FuncData} {ec : Nat → Addr} {fi : Nat → Addr} {di : Nat → FuncData} (T : Fx K mg fa fd ec fi di) : PySem.W.keepIn K (.ref (fa 31)) = true := T.p6.kp__law_row
theorem Fx.g__law_row {K : PySem.W.Frag} {mg : Str → Option Value} {fa : Nat → Addr} {fd : Nat → FuncData} {ec : Nat → Addr} {fi : Nat → Addr} {di : Nat → FuncData} (T : Fx K mg fa fd ec fi di) : mg "_law_row" = some (.ref (fa 31)) := T.p6.g__law_row
theorem Fx.b__law_row {K : PySem.W.Frag} {mg : Str → Option Value} {fa : Nat → Addr} {fd : Nat → FuncData} {ec : Nat → Addr} {fi : Nat → Addr} {di : Nat → FuncData} (T : Fx K mg fa fd ec fi di) : Binds K (fd 31) ["script", "k", "sizes"] [] := T.p6.b__law_row
theorem Fx.F__law_wire {K : PySem.W.Frag} {mg : Str → Option Value} {fa : Nat → Addr} {fd : Nat → FuncData} {ec : Nat → Addr} {fi : Nat → Addr} {di : Nat → FuncData} (T : Fx K mg fa fd ec fi di) : Fun K "_law_wire" "_law_wire" s__law_wire (fa 32) (fd 32) := T.p6.F__law_wire
theorem Fx.kp__law_wire {K : PySem.W.Frag} {mg : Str → Option Value} {fa : Nat → Addr} {fd : Nat → FuncData} {ec : Nat → Addr} {fi : Nat → Addr} {di : Nat → FuncData} (T : Fx K mg fa fd ec fi di) : PySem.W.keepIn K (.ref (fa 32)) = true := T.p6.kp__law_wire
theorem Fx.g__law_wire {K : PySem.W.Frag} {mg : Str → Option Value} {fa : Nat → Addr} {fd : Nat → FuncData} {ec : Nat → Addr} {fi : Nat → Addr} {di : Nat → FuncData} (T : Fx K mg fa fd ec fi di) : mg "_law_wire" = some (.ref (fa 32)) := T.p6.g__law_wire
theorem Fx.b__law_wire {K : PySem.W.Frag} {mg : Str → Option Value} {fa : Nat → Addr} {fd : Nat → FuncData} {ec : Nat → Addr} {fi : Nat → Addr} {di : Nat → FuncData} (T : Fx K mg fa fd ec fi di) : Binds K (fd 32) ["script"] [] := T.p6.b__law_wire
theorem Fx.z_min {K : PySem.W.Frag} {mg : Str → Option Value} {fa : Nat → Addr} {fd : Nat → FuncData} {ec : Nat → Addr} {fi : Nat → Addr} {di : Nat → FuncData} (T : Fx K mg fa fd ec fi di) : mg "min" = none := T.p6.z_min
theorem Fx.F__law_plan {K : PySem.W.Frag} {mg : Str → Option Value} {fa : Nat → Addr} {fd : Nat → FuncData} {ec : Nat → Addr} {fi : Nat → Addr} {di : Nat → FuncData} (T : Fx K mg fa fd ec fi di) : Fun K "_law_plan" "_law_plan" s__law_plan (fa 33) (fd 33) := T.p6.F__law_plan
theorem Fx.kp__law_plan {K : PySem.W.Frag} {mg : Str → Option Value} {fa : Nat → Addr} {fd : Nat → FuncData} {ec : Nat → Addr} {fi : Nat → Addr} {di : Nat → FuncData} (T : Fx K mg fa fd ec fi di) : PySem.W.keepIn K (.ref (fa 33)) = true := T.p6.kp__law_plan
theorem Fx.g__law_plan {K : PySem.W.Frag} {mg : Str → Option Value} {fa : Nat → Addr} {fd : Nat → FuncData} {ec : Nat → Addr} {fi : Nat → Addr} {di : Nat → FuncData} (T : Fx K mg fa fd ec fi di) : mg "_law_plan" = some (.ref (fa 33)) := T.p6.g__law_plan
theorem Fx.b__law_plan {K : PySem.W.Frag} {mg : Str → Option Value} {fa : Nat → Addr} {fd : Nat → FuncData} {ec : Nat → Addr} {fi : Nat → Addr} {di : Nat → FuncData} (T : Fx K mg fa fd ec fi di) : Binds K (fd 33) ["script", "wire"] [] := T.p6.b__law_plan
theorem Fx.F__law_memory {K : PySem.W.Frag} {mg : Str → Option Value} {fa : Nat → Addr} {fd : Nat → FuncData} {ec : Nat → Addr} {fi : Nat → Addr} {di : Nat → FuncData} (T : Fx K mg fa fd ec fi di) : Fun K "_law_memory" "_law_memory" s__law_memory (fa 34) (fd 34) := T.p6.F__law_memory
theorem Fx.kp__law_memory {K : PySem.W.Frag} {mg : Str → Option Value} {fa : Nat → Addr} {fd : Nat → FuncData} {ec : Nat → Addr} {fi : Nat → Addr} {di : Nat → FuncData} (T : Fx K mg fa fd ec fi di) : PySem.W.keepIn K (.ref (fa 34)) = true := T.p6.kp__law_memory
theorem Fx.g__law_memory {K : PySem.W.Frag} {mg : Str → Option Value} {fa : Nat → Addr} {fd : Nat → FuncData} {ec : Nat → Addr} {fi : Nat → Addr} {di : Nat → FuncData} (T : Fx K mg fa fd ec fi di) : mg "_law_memory" = some (.ref (fa 34)) := T.p6.g__law_memory
theorem Fx.b__law_memory {K : PySem.W.Frag} {mg : Str → Option Value} {fa : Nat → Addr} {fd : Nat → FuncData} {ec : Nat → Addr} {fi : Nat → Addr} {di : Nat → FuncData} (T : Fx K mg fa fd ec fi di) : Binds K (fd 34) ["script", "wire", "plan"] [] := T.p6.b__law_memory
theorem Fx.z_sorted {K : PySem.W.Frag} {mg : Str → Option Value} {fa : Nat → Addr} {fd : Nat → FuncData} {ec : Nat → Addr} {fi : Nat → Addr} {di : Nat → FuncData} (T : Fx K mg fa fd ec fi di) : mg "sorted" = none := T.p6.z_sorted
theorem Fx.F__law_fate {K : PySem.W.Frag} {mg : Str → Option Value} {fa : Nat → Addr} {fd : Nat → FuncData} {ec : Nat → Addr} {fi : Nat → Addr} {di : Nat → FuncData} (T : Fx K mg fa fd ec fi di) : Fun K "_law_fate" "_law_fate" s__law_fate (fa 35) (fd 35) := T.p6.F__law_fate
theorem Fx.kp__law_fate {K : PySem.W.Frag} {mg : Str → Option Value} {fa : Nat → Addr} {fd : Nat → FuncData} {ec : Nat → Addr} {fi : Nat → Addr} {di : Nat → FuncData} (T : Fx K mg fa fd ec fi di) : PySem.W.keepIn K (.ref (fa 35)) = true := T.p6.kp__law_fate
theorem Fx.g__law_fate {K : PySem.W.Frag} {mg : Str → Option Value} {fa : Nat → Addr} {fd : Nat → FuncData} {ec : Nat → Addr} {fi : Nat → Addr} {di : Nat → FuncData} (T : Fx K mg fa fd ec fi di) : mg "_law_fate" = some (.ref (fa 35)) := T.p6.g__law_fate
theorem Fx.b__law_fate {K : PySem.W.Frag} {mg : Str → Option Value} {fa : Nat → Addr} {fd : Nat → FuncData} {ec : Nat → Addr} {fi : Nat → Addr} {di : Nat → FuncData} (T : Fx K mg fa fd ec fi di) : Binds K (fd 35) ["row", "most", "losses", "extras"] [] := T.p6.b__law_fate
theorem Fx.F__law_run {K : PySem.W.Frag} {mg : Str → Option Value} {fa : Nat → Addr} {fd : Nat → FuncData} {ec : Nat → Addr} {fi : Nat → Addr} {di : Nat → FuncData} (T : Fx K mg fa fd ec fi di) : Fun K "_law_run" "_law_run" s__law_run (fa 36) (fd 36) := T.p7.F__law_run
theorem Fx.kp__law_run {K : PySem.W.Frag} {mg : Str → Option Value} {fa : Nat → Addr} {fd : Nat → FuncData} {ec : Nat → Addr} {fi : Nat → Addr} {di : Nat → FuncData} (T : Fx K mg fa fd ec fi di) : PySem.W.keepIn K (.ref (fa 36)) = true := T.p7.kp__law_run
theorem Fx.g__law_run {K : PySem.W.Frag} {mg : Str → Option Value} {fa : Nat → Addr} {fd : Nat → FuncData} {ec : Nat → Addr} {fi : Nat → Addr} {di : Nat → FuncData} (T : Fx K mg fa fd ec fi di) : mg "_law_run" = some (.ref (fa 36)) := T.p7.g__law_run
theorem Fx.b__law_run {K : PySem.W.Frag} {mg : Str → Option Value} {fa : Nat → Addr} {fd : Nat → FuncData} {ec : Nat → Addr} {fi : Nat → Addr} {di : Nat → FuncData} (T : Fx K mg fa fd ec fi di) : Binds K (fd 36) ["script", "wire", "plan", "crashes"] [] := T.p7.b__law_run
theorem Fx.F__law_fate_at {K : PySem.W.Frag} {mg : Str → Option Value} {fa : Nat → Addr} {fd : Nat → FuncData} {ec : Nat → Addr} {fi : Nat → Addr} {di : Nat → FuncData} (T : Fx K mg fa fd ec fi di) : Fun K "_law_fate_at" "_law_fate_at" s__law_fate_at (fa 37) (fd 37) := T.p7.F__law_fate_at
theorem Fx.kp__law_fate_at {K : PySem.W.Frag} {mg : Str → Option Value} {fa : Nat → Addr} {fd : Nat → FuncData} {ec : Nat → Addr} {fi : Nat → Addr} {di : Nat → FuncData} (T : Fx K mg fa fd ec fi di) : PySem.W.keepIn K (.ref (fa 37)) = true := T.p7.kp__law_fate_at
theorem Fx.g__law_fate_at {K : PySem.W.Frag} {mg : Str → Option Value} {fa : Nat → Addr} {fd : Nat → FuncData} {ec : Nat → Addr} {fi : Nat → Addr} {di : Nat → FuncData} (T : Fx K mg fa fd ec fi di) : mg "_law_fate_at" = some (.ref (fa 37)) := T.p7.g__law_fate_at
theorem Fx.b__law_fate_at {K : PySem.W.Frag} {mg : Str → Option Value} {fa : Nat → Addr} {fd : Nat → FuncData} {ec : Nat → Addr} {fi : Nat → Addr} {di : Nat → FuncData} (T : Fx K mg fa fd ec fi di) : Binds K (fd 37) ["fates", "at"] [] := T.p7.b__law_fate_at
theorem Fx.F__law_play {K : PySem.W.Frag} {mg : Str → Option Value} {fa : Nat → Addr} {fd : Nat → FuncData} {ec : Nat → Addr} {fi : Nat → Addr} {di : Nat → FuncData} (T : Fx K mg fa fd ec fi di) : Fun K "_law_play" "_law_play" s__law_play (fa 38) (fd 38) := T.p7.F__law_play
theorem Fx.kp__law_play {K : PySem.W.Frag} {mg : Str → Option Value} {fa : Nat → Addr} {fd : Nat → FuncData} {ec : Nat → Addr} {fi : Nat → Addr} {di : Nat → FuncData} (T : Fx K mg fa fd ec fi di) : PySem.W.keepIn K (.ref (fa 38)) = true := T.p7.kp__law_play
theorem Fx.g__law_play {K : PySem.W.Frag} {mg : Str → Option Value} {fa : Nat → Addr} {fd : Nat → FuncData} {ec : Nat → Addr} {fi : Nat → Addr} {di : Nat → FuncData} (T : Fx K mg fa fd ec fi di) : mg "_law_play" = some (.ref (fa 38)) := T.p7.g__law_play
theorem Fx.b__law_play {K : PySem.W.Frag} {mg : Str → Option Value} {fa : Nat → Addr} {fd : Nat → FuncData} {ec : Nat → Addr} {fi : Nat → Addr} {di : Nat → FuncData} (T : Fx K mg fa fd ec fi di) : Binds K (fd 38) ["wire", "plan", "memory", "run"] [] := T.p7.b__law_play
theorem Fx.z_str {K : PySem.W.Frag} {mg : Str → Option Value} {fa : Nat → Addr} {fd : Nat → FuncData} {ec : Nat → Addr} {fi : Nat → Addr} {di : Nat → FuncData} (T : Fx K mg fa fd ec fi di) : mg "str" = none := T.p7.z_str
theorem Fx.F__law_same {K : PySem.W.Frag} {mg : Str → Option Value} {fa : Nat → Addr} {fd : Nat → FuncData} {ec : Nat → Addr} {fi : Nat → Addr} {di : Nat → FuncData} (T : Fx K mg fa fd ec fi di) : Fun K "_law_same" "_law_same" s__law_same (fa 39) (fd 39) := T.p7.F__law_same
theorem Fx.kp__law_same {K : PySem.W.Frag} {mg : Str → Option Value} {fa : Nat → Addr} {fd : Nat → FuncData} {ec : Nat → Addr} {fi : Nat → Addr} {di : Nat → FuncData} (T : Fx K mg fa fd ec fi di) : PySem.W.keepIn K (.ref (fa 39)) = true := T.p7.kp__law_same
theorem Fx.g__law_same {K : PySem.W.Frag} {mg : Str → Option Value} {fa : Nat → Addr} {fd : Nat → FuncData} {ec : Nat → Addr} {fi : Nat → Addr} {di : Nat → FuncData} (T : Fx K mg fa fd ec fi di) : mg "_law_same" = some (.ref (fa 39)) := T.p7.g__law_same
theorem Fx.b__law_same {K : PySem.W.Frag} {mg : Str → Option Value} {fa : Nat → Addr} {fd : Nat → FuncData} {ec : Nat → Addr} {fi : Nat → Addr} {di : Nat → FuncData} (T : Fx K mg fa fd ec fi di) : Binds K (fd 39) ["actual", "due"] [] := T.p7.b__law_same
theorem Fx.F__law_is_right {K : PySem.W.Frag} {mg : Str → Option Value} {fa : Nat → Addr} {fd : Nat → FuncData} {ec : Nat → Addr} {fi : Nat → Addr} {di : Nat → FuncData} (T : Fx K mg fa fd ec fi di) : Fun K "_law_is_right" "_law_is_right" s__law_is_right (fa 40) (fd 40) := T.p7.F__law_is_right
theorem Fx.kp__law_is_right {K : PySem.W.Frag} {mg : Str → Option Value} {fa : Nat → Addr} {fd : Nat → FuncData} {ec : Nat → Addr} {fi : Nat → Addr} {di : Nat → FuncData} (T : Fx K mg fa fd ec fi di) : PySem.W.keepIn K (.ref (fa 40)) = true := T.p7.kp__law_is_right
theorem Fx.g__law_is_right {K : PySem.W.Frag} {mg : Str → Option Value} {fa : Nat → Addr} {fd : Nat → FuncData} {ec : Nat → Addr} {fi : Nat → Addr} {di : Nat → FuncData} (T : Fx K mg fa fd ec fi di) : mg "_law_is_right" = some (.ref (fa 40)) := T.p7.g__law_is_right
theorem Fx.b__law_is_right {K : PySem.W.Frag} {mg : Str → Option Value} {fa : Nat → Addr} {fd : Nat → FuncData} {ec : Nat → Addr} {fi : Nat → Addr} {di : Nat → FuncData} (T : Fx K mg fa fd ec fi di) : Binds K (fd 40) ["wire", "plan", "memory", "run"] [] := T.p7.b__law_is_right
theorem Fx.F_law {K : PySem.W.Frag} {mg : Str → Option Value} {fa : Nat → Addr} {fd : Nat → FuncData} {ec : Nat → Addr} {fi : Nat → Addr} {di : Nat → FuncData} (T : Fx K mg fa fd ec fi di) : Fun K "law" "law" s_law (fa 41) (fd 41) := T.p7.F_law
theorem Fx.kp_law {K : PySem.W.Frag} {mg : Str → Option Value} {fa : Nat → Addr} {fd : Nat → FuncData} {ec : Nat → Addr} {fi : Nat → Addr} {di : Nat → FuncData} (T : Fx K mg fa fd ec fi di) : PySem.W.keepIn K (.ref (fa 41)) = true := T.p7.kp_law
theorem Fx.g_law {K : PySem.W.Frag} {mg : Str → Option Value} {fa : Nat → Addr} {fd : Nat → FuncData} {ec : Nat → Addr} {fi : Nat → Addr} {di : Nat → FuncData} (T : Fx K mg fa fd ec fi di) : mg "law" = some (.ref (fa 41)) := T.p7.g_law
theorem Fx.b_law {K : PySem.W.Frag} {mg : Str → Option Value} {fa : Nat → Addr} {fd : Nat → FuncData} {ec : Nat → Addr} {fi : Nat → Addr} {di : Nat → FuncData} (T : Fx K mg fa fd ec fi di) : Binds K (fd 41) ["script"] [] := T.p7.b_law
theorem Fx.Fi_BadWire {K : PySem.W.Frag} {mg : Str → Option Value} {fa : Nat → Addr} {fd : Nat → FuncData} {ec : Nat → Addr} {fi : Nat → Addr} {di : Nat → FuncData} (T : Fx K mg fa fd ec fi di) : Fun K "__init__" "BadWire.__init__" i_BadWire (fi 1) (di 1) := T.p7.Fi_BadWire
theorem Fx.ii_BadWire {K : PySem.W.Frag} {mg : Str → Option Value} {fa : Nat → Addr} {fd : Nat → FuncData} {ec : Nat → Addr} {fi : Nat → Addr} {di : Nat → FuncData} (T : Fx K mg fa fd ec fi di) : PySem.W.findIn K (.ref (ec 1)) "__init__" = some (some (.ref (fi 1))) := T.p7.ii_BadWire
theorem Fx.ti_BadWire {K : PySem.W.Frag} {mg : Str → Option Value} {fa : Nat → Addr} {fd : Nat → FuncData} {ec : Nat → Addr} {fi : Nat → Addr} {di : Nat → FuncData} (T : Fx K mg fa fd ec fi di) : PySem.W.typeIn K (.ref (fi 1)) = some (.type "function") := T.p7.ti_BadWire
theorem Fx.bi_BadWire {K : PySem.W.Frag} {mg : Str → Option Value} {fa : Nat → Addr} {fd : Nat → FuncData} {ec : Nat → Addr} {fi : Nat → Addr} {di : Nat → FuncData} (T : Fx K mg fa fd ec fi di) : Binds K (di 1) ["self", "part"] [] := T.p7.bi_BadWire
theorem Fx.Fi_BadPlan {K : PySem.W.Frag} {mg : Str → Option Value} {fa : Nat → Addr} {fd : Nat → FuncData} {ec : Nat → Addr} {fi : Nat → Addr} {di : Nat → FuncData} (T : Fx K mg fa fd ec fi di) : Fun K "__init__" "BadPlan.__init__" i_BadPlan (fi 2) (di 2) := T.p7.Fi_BadPlan
theorem Fx.ii_BadPlan {K : PySem.W.Frag} {mg : Str → Option Value} {fa : Nat → Addr} {fd : Nat → FuncData} {ec : Nat → Addr} {fi : Nat → Addr} {di : Nat → FuncData} (T : Fx K mg fa fd ec fi di) : PySem.W.findIn K (.ref (ec 2)) "__init__" = some (some (.ref (fi 2))) := T.p8.ii_BadPlan
theorem Fx.ti_BadPlan {K : PySem.W.Frag} {mg : Str → Option Value} {fa : Nat → Addr} {fd : Nat → FuncData} {ec : Nat → Addr} {fi : Nat → Addr} {di : Nat → FuncData} (T : Fx K mg fa fd ec fi di) : PySem.W.typeIn K (.ref (fi 2)) = some (.type "function") := T.p8.ti_BadPlan
theorem Fx.bi_BadPlan {K : PySem.W.Frag} {mg : Str → Option Value} {fa : Nat → Addr} {fd : Nat → FuncData} {ec : Nat → Addr} {fi : Nat → Addr} {di : Nat → FuncData} (T : Fx K mg fa fd ec fi di) : Binds K (di 2) ["self", "part"] [] := T.p8.bi_BadPlan
theorem Fx.Fi_BadMemory {K : PySem.W.Frag} {mg : Str → Option Value} {fa : Nat → Addr} {fd : Nat → FuncData} {ec : Nat → Addr} {fi : Nat → Addr} {di : Nat → FuncData} (T : Fx K mg fa fd ec fi di) : Fun K "__init__" "BadMemory.__init__" i_BadMemory (fi 3) (di 3) := T.p8.Fi_BadMemory
theorem Fx.ii_BadMemory {K : PySem.W.Frag} {mg : Str → Option Value} {fa : Nat → Addr} {fd : Nat → FuncData} {ec : Nat → Addr} {fi : Nat → Addr} {di : Nat → FuncData} (T : Fx K mg fa fd ec fi di) : PySem.W.findIn K (.ref (ec 3)) "__init__" = some (some (.ref (fi 3))) := T.p8.ii_BadMemory
theorem Fx.ti_BadMemory {K : PySem.W.Frag} {mg : Str → Option Value} {fa : Nat → Addr} {fd : Nat → FuncData} {ec : Nat → Addr} {fi : Nat → Addr} {di : Nat → FuncData} (T : Fx K mg fa fd ec fi di) : PySem.W.typeIn K (.ref (fi 3)) = some (.type "function") := T.p8.ti_BadMemory
theorem Fx.bi_BadMemory {K : PySem.W.Frag} {mg : Str → Option Value} {fa : Nat → Addr} {fd : Nat → FuncData} {ec : Nat → Addr} {fi : Nat → Addr} {di : Nat → FuncData} (T : Fx K mg fa fd ec fi di) : Binds K (di 3) ["self", "part"] [] := T.p8.bi_BadMemory
theorem Fx.Fi_BadRun {K : PySem.W.Frag} {mg : Str → Option Value} {fa : Nat → Addr} {fd : Nat → FuncData} {ec : Nat → Addr} {fi : Nat → Addr} {di : Nat → FuncData} (T : Fx K mg fa fd ec fi di) : Fun K "__init__" "BadRun.__init__" i_BadRun (fi 4) (di 4) := T.p8.Fi_BadRun
theorem Fx.ii_BadRun {K : PySem.W.Frag} {mg : Str → Option Value} {fa : Nat → Addr} {fd : Nat → FuncData} {ec : Nat → Addr} {fi : Nat → Addr} {di : Nat → FuncData} (T : Fx K mg fa fd ec fi di) : PySem.W.findIn K (.ref (ec 4)) "__init__" = some (some (.ref (fi 4))) := T.p8.ii_BadRun
theorem Fx.ti_BadRun {K : PySem.W.Frag} {mg : Str → Option Value} {fa : Nat → Addr} {fd : Nat → FuncData} {ec : Nat → Addr} {fi : Nat → Addr} {di : Nat → FuncData} (T : Fx K mg fa fd ec fi di) : PySem.W.typeIn K (.ref (fi 4)) = some (.type "function") := T.p8.ti_BadRun
theorem Fx.bi_BadRun {K : PySem.W.Frag} {mg : Str → Option Value} {fa : Nat → Addr} {fd : Nat → FuncData} {ec : Nat → Addr} {fi : Nat → Addr} {di : Nat → FuncData} (T : Fx K mg fa fd ec fi di) : Binds K (di 4) ["self", "part"] [] := T.p8.bi_BadRun
section
variable {P : Program} {w : World} {K : PySem.W.Frag} {mg : Str → Option Value} {base : Heap} {fa : Nat → Addr} {fd : Nat → FuncData} {ec fi : Nat → Addr} {di : Nat → FuncData}
theorem sci_BadWire : FnScope ["self", "part"] ["self", "part"] (defScope i_BadWire) := ⟨rfl, rfl, rfl, by decide +kernel, rfl, by decide +kernel, by decide +kernel⟩
theorem oi_BadWire (T : Fx K mg fa fd ec fi di) : FnOk P w K mg base CX0 1 (fi 1) (di 1) ["self", "part"] (spInit (ec 1) ["part"]) := T.Fi_BadWire.ok sci_BadWire (init_len rfl) fun cdv A outer s H vs Q E hr h => ⟨_, pss_one (ps_ost (pv 0) (pv 1)), init1 (g := gg K ec) (N := ["self", "part"]) rfl T.ox_BadWire T.na_BadWire_part h⟩
theorem sci_BadPlan : FnScope ["self", "part"] ["self", "part"] (defScope i_BadPlan) := ⟨rfl, rfl, rfl, by decide +kernel, rfl, by decide +kernel, by decide +kernel⟩
theorem oi_BadPlan (T : Fx K mg fa fd ec fi di) : FnOk P w K mg base CX0 1 (fi 2) (di 2) ["self", "part"] (spInit (ec 2) ["part"]) := T.Fi_BadPlan.ok sci_BadPlan (init_len rfl) fun cdv A outer s H vs Q E hr h => ⟨_, pss_one (ps_ost (pv 0) (pv 1)), init1 (g := gg K ec) (N := ["self", "part"]) rfl T.ox_BadPlan T.na_BadPlan_part h⟩
theorem sci_BadMemory : FnScope ["self", "part"] ["self", "part"] (defScope i_BadMemory) := ⟨rfl, rfl, rfl, by decide +kernel, rfl, by decide +kernel, by decide +kernel⟩
theorem oi_BadMemory (T : Fx K mg fa fd ec fi di) : FnOk P w K mg base CX0 1 (fi 3) (di 3) ["self", "part"] (spInit (ec 3) ["part"]) := T.Fi_BadMemory.ok sci_BadMemory (init_len rfl) fun cdv A outer s H vs Q E hr h => ⟨_, pss_one (ps_ost (pv 0) (pv 1)), init1 (g := gg K ec) (N := ["self", "part"]) rfl T.ox_BadMemory T.na_BadMemory_part h⟩
theorem sci_BadRun : FnScope ["self", "part"] ["self", "part"] (defScope i_BadRun) := ⟨rfl, rfl, rfl, by decide +kernel, rfl, by decide +kernel, by decide +kernel⟩
theorem oi_BadRun (T : Fx K mg fa fd ec fi di) : FnOk P w K mg base CX0 1 (fi 4) (di 4) ["self", "part"] (spInit (ec 4) ["part"]) := T.Fi_BadRun.ok sci_BadRun (init_len rfl) fun cdv A outer s H vs Q E hr h => ⟨_, pss_one (ps_ost (pv 0) (pv 1)), init1 (g := gg K ec) (N := ["self", "part"]) rfl T.ox_BadRun T.na_BadRun_part h⟩
theorem sc_is_int : FnScope ["value"] ["value"] (defScope s_is_int) := ⟨rfl, rfl, rfl, by decide +kernel, rfl, by decide +kernel, by decide +kernel⟩
theorem ok_is_int (T : Fx K mg fa fd ec fi di) : FnOk P w K mg base (L2N.CX P w) 1 (fa 0) (fd 0) ["value"] (spM (gg K ec) 1 m_is_int) := by
  refine fn_gc (fn_ok (g := gg K ec) T.F_is_int sc_is_int (fun cdv A outer s H E hr => ?_))
  exact (fs_one (fs_ret (fe_and (fe_isi (T := "int") T.z_isinstance T.z_int (by decide +kernel) (f_var rfl 0)) (fe_one (fe_not (fe_isi (T := "bool") T.z_isinstance T.z_bool (by decide +kernel) (f_var rfl 0)))))))
theorem sc_is_int_in : FnScope ["value", "low", "high"] ["value", "low", "high"] (defScope s_is_int_in) := ⟨rfl, rfl, rfl, by decide +kernel, rfl, by decide +kernel, by decide +kernel⟩
theorem ok_is_int_in (T : Fx K mg fa fd ec fi di) : FnOk P w K mg base (L2N.CX P w) 2 (fa 1) (fd 1) ["value", "low", "high"] (spM (gg K ec) 3 m_is_int_in) := by
  refine fn_gc (fn_ok (g := gg K ec) T.F_is_int_in sc_is_int_in (fun cdv A outer s H E hr => ?_))
  exact (fs_one (fs_ret (fe_and (fe_call (ok_is_int T) (hr.mono (by decide)) T.g_is_int T.kp_is_int T.b_is_int (L2N.takes_of rfl rfl rfl rfl) (fa_cons (f_var rfl 0) (fa_nil rfl)) (na_cons na_nil)) (fe_one (fe_chain cr_le cr_le (f_var rfl 1) (f_var rfl 0) (f_var rfl 2))))))
theorem sc_is_ascending : FnScope ["things", "at"] ["things"] (defScope s_is_ascending) := ⟨rfl, rfl, rfl, by decide +kernel, rfl, by decide +kernel, by decide +kernel⟩
theorem ok_is_ascending (T : Fx K mg fa fd ec fi di) : FnOk P w K mg base (L2N.CX P w) 1 (fa 2) (fd 2) ["things"] (spM (gg K ec) 1 m_is_ascending) := by
  refine fn_gc (fn_ok (g := gg K ec) T.F_is_ascending sc_is_ascending (fun cdv A outer s H E hr => ?_))
  exact (fs_cons (fs_for (passes_of rfl) rfl (fi_range2 T.z_range (fa_cons (f_int rfl) (fa_cons (fe_blt (br_len rfl) T.z_len (fa_cons (f_var rfl 0) (fa_nil rfl))) (fa_nil rfl)))) (fg_name rfl sc_is_ascending.nd) (fs_one (fs_if (ft_not (ft_cmp cr_lt (fe_ix (f_var rfl 0) (f_sub (f_var rfl 1) (f_int rfl))) (fe_ix (f_var rfl 0) (f_var rfl 1)))) (fs_one (fs_ret (f_bl rfl))) (fs_nil rfl))))
 (fs_one (fs_ret (f_bl rfl))))
theorem sc_check_wire : FnScope ["wire", "part"] ["wire"] (defScope s_check_wire) := ⟨rfl, rfl, rfl, by decide +kernel, rfl, by decide +kernel, by decide +kernel⟩
theorem ok_check_wire (T : Fx K mg fa fd ec fi di) : FnOk P w K mg base (L2N.CX P w) 3 (fa 3) (fd 3) ["wire"] (spM (gg K ec) 1 m_check_wire) := by
  refine fn_gc (fn_ok (g := gg K ec) T.F_check_wire sc_check_wire (fun cdv A outer s H E hr => ?_))
  exact (fs_one (fs_for (passes_of rfl) rfl (fi_range1 T.z_range (fa_cons (fe_blt (br_len rfl) T.z_len (fa_cons (fe_cst rfl T.ct_WIRE_LIMITS) (fa_nil rfl))) (fa_nil rfl))) (fg_name rfl sc_check_wire.nd) (fs_one (fs_if (ft_not (ft_tru (fe_call (ok_is_int_in T) (hr.mono (by decide)) T.g_is_int_in T.kp_is_int_in T.b_is_int_in (L2N.takes_of rfl rfl rfl rfl) (fa_cons (fe_ix (f_var rfl 0) (f_var rfl 1)) (fa_cons (f_int rfl) (fa_cons (fe_ix (fe_cst rfl T.ct_WIRE_LIMITS) (f_var rfl 1)) (fa_nil rfl)))) (na_cons (na_cons (na_cons na_nil)))))) (fs_one (fs_raise (n := 1) (k := 1) (names := ["part"]) rfl (L2N.takes_of rfl rfl rfl rfl) T.ox_BadWire T.ii_BadWire T.ti_BadWire (oi_BadWire T) (hr.mono (by decide)) T.bi_BadWire T.gc_BadWire rfl (by decide) (fa_cons (f_var rfl 1) (fa_nil rfl)) (na_cons na_nil) (by decide))) (fs_nil rfl)))))
theorem sc__are_tries : FnScope ["tries", "tick"] ["tries"] (defScope s__are_tries) := ⟨rfl, rfl, rfl, by decide +kernel, rfl, by decide +kernel, by decide +kernel⟩
theorem ok__are_tries (T : Fx K mg fa fd ec fi di) : FnOk P w K mg base (L2N.CX P w) 3 (fa 4) (fd 4) ["tries"] (spM (gg K ec) 1 m__are_tries) := by
  refine fn_gc (fn_ok (g := gg K ec) T.F__are_tries sc__are_tries (fun cdv A outer s H E hr => ?_))
  exact (fs_cons (fs_if (ft_w (fw_or (ft_not (ft_tru (fe_isi (T := "tuple") T.z_isinstance T.z_tuple (by decide +kernel) (f_var rfl 0)))) (fw_or1 (ft_not (ft_chain cr_le cr_le (f_int rfl) (fe_blt (br_len rfl) T.z_len (fa_cons (f_var rfl 0) (fa_nil rfl))) (f_gint rfl T.c_MOST_TRIES)))))) (fs_one (fs_ret (f_bl rfl))) (fs_nil rfl))
 (fs_cons (fs_for (passes_of rfl) rfl (fi_any (f_var rfl 0)) (fg_name rfl sc__are_tries.nd) (fs_one (fs_if (ft_not (ft_tru (fe_call (ok_is_int_in T) (hr.mono (by decide)) T.g_is_int_in T.kp_is_int_in T.b_is_int_in (L2N.takes_of rfl rfl rfl rfl) (fa_cons (f_var rfl 1) (fa_cons (f_int rfl) (fa_cons (f_gint rfl T.c_LAST_TRY) (fa_nil rfl)))) (na_cons (na_cons (na_cons na_nil)))))) (fs_one (fs_ret (f_bl rfl))) (fs_nil rfl))))
 (fs_one (fs_ret (fe_and (fe_cmp (cr_eq rfl hr.units) (fe_ix (f_var rfl 0) (f_int rfl)) (f_int rfl)) (fe_one (fe_call (ok_is_ascending T) (hr.mono (by decide)) T.g_is_ascending T.kp_is_ascending T.b_is_ascending (L2N.takes_of rfl rfl rfl rfl) (fa_cons (f_var rfl 0) (fa_nil rfl)) (na_cons na_nil))))))))
theorem sc_check_plan : FnScope ["plan", "tries", "until"] ["plan"] (defScope s_check_plan) := ⟨rfl, rfl, rfl, by decide +kernel, rfl, by decide +kernel, by decide +kernel⟩
theorem ok_check_plan (T : Fx K mg fa fd ec fi di) : FnOk P w K mg base (L2N.CX P w) 4 (fa 5) (fd 5) ["plan"] (spM (gg K ec) 1 m_check_plan) := by
  refine fn_gc (fn_ok (g := gg K ec) T.F_check_plan sc_check_plan (fun cdv A outer s H E hr => ?_))
  exact (fs_cons (fs_asg (f_var rfl 0) (fg_tup rfl (fgs_cons (fg_name rfl sc_check_plan.nd) (fgs_cons (fg_name rfl sc_check_plan.nd) (fgs_nil rfl)))))
 (fs_cons (fs_if (ft_not (ft_tru (fe_call (ok__are_tries T) (hr.mono (by decide)) T.g__are_tries T.kp__are_tries T.b__are_tries (L2N.takes_of rfl rfl rfl rfl) (fa_cons (f_var rfl 1) (fa_nil rfl)) (na_cons na_nil)))) (fs_one (fs_raise (n := 2) (k := 1) (names := ["part"]) rfl (L2N.takes_of rfl rfl rfl rfl) T.ox_BadPlan T.ii_BadPlan T.ti_BadPlan (oi_BadPlan T) (hr.mono (by decide)) T.bi_BadPlan T.gc_BadPlan rfl (by decide) (fa_cons (f_int rfl) (fa_nil rfl)) (na_cons na_nil) (by decide))) (fs_nil rfl))
 (fs_one (fs_if (ft_not (ft_tru (fe_call (ok_is_int_in T) (hr.mono (by decide)) T.g_is_int_in T.kp_is_int_in T.b_is_int_in (L2N.takes_of rfl rfl rfl rfl) (fa_cons (f_var rfl 2) (fa_cons (fe_ix (f_var rfl 1) (f_neg (f_int rfl))) (fa_cons (f_gint rfl T.c_LAST_UNTIL) (fa_nil rfl)))) (na_cons (na_cons (na_cons na_nil)))))) (fs_one (fs_raise (n := 2) (k := 1) (names := ["part"]) rfl (L2N.takes_of rfl rfl rfl rfl) T.ox_BadPlan T.ii_BadPlan T.ti_BadPlan (oi_BadPlan T) (hr.mono (by decide)) T.bi_BadPlan T.gc_BadPlan rfl (by decide) (fa_cons (f_int rfl) (fa_nil rfl)) (na_cons na_nil) (by decide))) (fs_nil rfl)))))
theorem sc_check_memory : FnScope ["memory", "keep", "durable", "crashes"] ["memory"] (defScope s_check_memory) := ⟨rfl, rfl, rfl, by decide +kernel, rfl, by decide +kernel, by decide +kernel⟩
theorem ok_check_memory (T : Fx K mg fa fd ec fi di) : FnOk P w K mg base (L2N.CX P w) 3 (fa 6) (fd 6) ["memory"] (spM (gg K ec) 1 m_check_memory) := by
  refine fn_gc (fn_ok (g := gg K ec) T.F_check_memory sc_check_memory (fun cdv A outer s H E hr => ?_))
  exact (fs_cons (fs_asg (f_var rfl 0) (fg_tup rfl (fgs_cons (fg_name rfl sc_check_memory.nd) (fgs_cons (fg_name rfl sc_check_memory.nd) (fgs_cons (fg_name rfl sc_check_memory.nd) (fgs_nil rfl))))))
 (fs_cons (fs_if (ft_not (ft_tru (fe_call (ok_is_int_in T) (hr.mono (by decide)) T.g_is_int_in T.kp_is_int_in T.b_is_int_in (L2N.takes_of rfl rfl rfl rfl) (fa_cons (f_var rfl 1) (fa_cons (f_int rfl) (fa_cons (f_gint rfl T.c_MOST_KEEP) (fa_nil rfl)))) (na_cons (na_cons (na_cons na_nil)))))) (fs_one (fs_raise (n := 3) (k := 1) (names := ["part"]) rfl (L2N.takes_of rfl rfl rfl rfl) T.ox_BadMemory T.ii_BadMemory T.ti_BadMemory (oi_BadMemory T) (hr.mono (by decide)) T.bi_BadMemory T.gc_BadMemory rfl (by decide) (fa_cons (f_int rfl) (fa_nil rfl)) (na_cons na_nil) (by decide))) (fs_nil rfl))
 (fs_cons (fs_if (ft_not (ft_tru (fe_isi (T := "bool") T.z_isinstance T.z_bool (by decide +kernel) (f_var rfl 2)))) (fs_one (fs_raise (n := 3) (k := 1) (names := ["part"]) rfl (L2N.takes_of rfl rfl rfl rfl) T.ox_BadMemory T.ii_BadMemory T.ti_BadMemory (oi_BadMemory T) (hr.mono (by decide)) T.bi_BadMemory T.gc_BadMemory rfl (by decide) (fa_cons (f_int rfl) (fa_nil rfl)) (na_cons na_nil) (by decide))) (fs_nil rfl))
 (fs_one (fs_if (ft_not (ft_tru (fe_call (ok_is_int_in T) (hr.mono (by decide)) T.g_is_int_in T.kp_is_int_in T.b_is_int_in (L2N.takes_of rfl rfl rfl rfl) (fa_cons (f_var rfl 3) (fa_cons (f_int rfl) (fa_cons (f_gint rfl T.c_MOST_CRASHES) (fa_nil rfl)))) (na_cons (na_cons (na_cons na_nil)))))) (fs_one (fs_raise (n := 3) (k := 1) (names := ["part"]) rfl (L2N.takes_of rfl rfl rfl rfl) T.ox_BadMemory T.ii_BadMemory T.ti_BadMemory (oi_BadMemory T) (hr.mono (by decide)) T.bi_BadMemory T.gc_BadMemory rfl (by decide) (fa_cons (f_int rfl) (fa_nil rfl)) (na_cons na_nil) (by decide))) (fs_nil rfl))))))
theorem sc_is_fate : FnScope ["fate", "most", "at"] ["fate", "most"] (defScope s_is_fate) := ⟨rfl, rfl, rfl, by decide +kernel, rfl, by decide +kernel, by decide +kernel⟩
theorem ok_is_fate (T : Fx K mg fa fd ec fi di) : FnOk P w K mg base (L2N.CX P w) 3 (fa 7) (fd 7) ["fate", "most"] (spM (gg K ec) 2 m_is_fate) := by
  refine fn_gc (fn_ok (g := gg K ec) T.F_is_fate sc_is_fate (fun cdv A outer s H E hr => ?_))
  exact (fs_cons (fs_if (ft_not (ft_tru (fe_isi (T := "tuple") T.z_isinstance T.z_tuple (by decide +kernel) (f_var rfl 0)))) (fs_one (fs_ret (f_bl rfl))) (fs_nil rfl))
 (fs_cons (fs_for (passes_of rfl) rfl (fi_range1 T.z_range (fa_cons (fe_blt (br_len rfl) T.z_len (fa_cons (f_var rfl 0) (fa_nil rfl))) (fa_nil rfl))) (fg_name rfl sc_is_fate.nd) (fs_cons (fs_if (ft_not (ft_tru (fe_call (ok_is_int_in T) (hr.mono (by decide)) T.g_is_int_in T.kp_is_int_in T.b_is_int_in (L2N.takes_of rfl rfl rfl rfl) (fa_cons (fe_ix (f_var rfl 0) (f_var rfl 2)) (fa_cons (f_int rfl) (fa_cons (f_var rfl 1) (fa_nil rfl)))) (na_cons (na_cons (na_cons na_nil)))))) (fs_one (fs_ret (f_bl rfl))) (fs_nil rfl))
 (fs_one (fs_if (ft_w (fw_and (ft_cmp cr_gt (f_var rfl 2) (f_int rfl)) (fw_and1 (ft_cmp cr_lt (fe_ix (f_var rfl 0) (f_var rfl 2)) (fe_ix (f_var rfl 0) (f_sub (f_var rfl 2) (f_int rfl))))))) (fs_one (fs_ret (f_bl rfl))) (fs_nil rfl)))))
 (fs_one (fs_ret (f_bl rfl)))))
theorem sc__are_fates : FnScope ["fates", "limit", "most", "fate"] ["fates", "limit", "most"] (defScope s__are_fates) := ⟨rfl, rfl, rfl, by decide +kernel, rfl, by decide +kernel, by decide +kernel⟩
theorem ok__are_fates (T : Fx K mg fa fd ec fi di) : FnOk P w K mg base (L2N.CX P w) 4 (fa 8) (fd 8) ["fates", "limit", "most"] (spM (gg K ec) 3 m__are_fates) := by
  refine fn_gc (fn_ok (g := gg K ec) T.F__are_fates sc__are_fates (fun cdv A outer s H E hr => ?_))
  exact (fs_cons (fs_if (ft_w (fw_or (ft_not (ft_tru (fe_isi (T := "tuple") T.z_isinstance T.z_tuple (by decide +kernel) (f_var rfl 0)))) (fw_or1 (ft_cmp cr_gt (fe_blt (br_len rfl) T.z_len (fa_cons (f_var rfl 0) (fa_nil rfl))) (f_var rfl 1))))) (fs_one (fs_ret (f_bl rfl))) (fs_nil rfl))
 (fs_cons (fs_for (passes_of rfl) rfl (fi_any (f_var rfl 0)) (fg_name rfl sc__are_fates.nd) (fs_one (fs_if (ft_not (ft_tru (fe_call (ok_is_fate T) (hr.mono (by decide)) T.g_is_fate T.kp_is_fate T.b_is_fate (L2N.takes_of rfl rfl rfl rfl) (fa_cons (f_var rfl 3) (fa_cons (f_var rfl 2) (fa_nil rfl))) (na_cons (na_cons na_nil))))) (fs_one (fs_ret (f_bl rfl))) (fs_nil rfl))))
 (fs_one (fs_ret (f_bl rfl)))))
theorem sc_lost_count : FnScope ["fates", "fate"] ["fates"] (defScope s_lost_count) := ⟨rfl, rfl, rfl, by decide +kernel, rfl, by decide +kernel, by decide +kernel⟩
theorem ok_lost_count (T : Fx K mg fa fd ec fi di) : FnOk P w K mg base (L2N.CX P w) 1 (fa 9) (fd 9) ["fates"] (spM (gg K ec) 1 m_lost_count) := by
  refine fn_gc (fn_ok (g := gg K ec) T.F_lost_count sc_lost_count (fun cdv A outer s H E hr => ?_))
  exact (fs_one (fs_ret (fe_blt (br_len rfl) T.z_len (fa_cons (fe_lc (own := [("fate", 1)]) rfl sc_lost_count.nd (fi_any (f_var rfl 0)) (blkOk_by (own := [("fate", 1)]) (N := ["fates", "fate"]) (sc := defScope s_lost_count) (by decide +kernel)) (fun _ _ _ _ _ => (fg_name rfl sc_lost_count.nd)) (by decide) (fun _ _ _ _ _ => (fts_one (ft_cmp (cr_eq rfl hr.units) (fe_blt (br_len rfl) T.z_len (fa_cons (f_var rfl 1) (fa_nil rfl))) (f_int rfl)))) (fun _ _ _ _ _ => (f_var rfl 1))) (fa_nil rfl)))))
theorem sc_extra_count : FnScope ["fates", "fate"] ["fates"] (defScope s_extra_count) := ⟨rfl, rfl, rfl, by decide +kernel, rfl, by decide +kernel, by decide +kernel⟩
theorem ok_extra_count (T : Fx K mg fa fd ec fi di) : FnOk P w K mg base (L2N.CX P w) 1 (fa 10) (fd 10) ["fates"] (spM (gg K ec) 1 m_extra_count) := by
  refine fn_gc (fn_ok (g := gg K ec) T.F_extra_count sc_extra_count (fun cdv A outer s H E hr => ?_))
  exact (fs_one (fs_ret (fe_blt (br_sum rfl rfl) T.z_sum (fa_cons (fe_lc (own := [("fate", 1)]) rfl sc_extra_count.nd (fi_any (f_var rfl 0)) (blkOk_by (own := [("fate", 1)]) (N := ["fates", "fate"]) (sc := defScope s_extra_count) (by decide +kernel)) (fun _ _ _ _ _ => (fg_name rfl sc_extra_count.nd)) (by decide) (fun _ _ _ _ _ => (fts_one (ft_cmp cr_gt (fe_blt (br_len rfl) T.z_len (fa_cons (f_var rfl 1) (fa_nil rfl))) (f_int rfl)))) (fun _ _ _ _ _ => (f_sub (fe_blt (br_len rfl) T.z_len (fa_cons (f_var rfl 1) (fa_nil rfl))) (f_int rfl)))) (fa_nil rfl)))))
theorem sc__is_affordable : FnScope ["wire", "fates"] ["wire", "fates"] (defScope s__is_affordable) := ⟨rfl, rfl, rfl, by decide +kernel, rfl, by decide +kernel, by decide +kernel⟩
theorem ok__is_affordable (T : Fx K mg fa fd ec fi di) : FnOk P w K mg base (L2N.CX P w) 2 (fa 11) (fd 11) ["wire", "fates"] (spM (gg K ec) 2 m__is_affordable) := by
  refine fn_gc (fn_ok (g := gg K ec) T.F__is_affordable sc__is_affordable (fun cdv A outer s H E hr => ?_))
  exact (fs_one (fs_ret (fe_and (fe_cmp cr_le (fe_call (ok_lost_count T) (hr.mono (by decide)) T.g_lost_count T.kp_lost_count T.b_lost_count (L2N.takes_of rfl rfl rfl rfl) (fa_cons (f_var rfl 1) (fa_nil rfl)) (na_cons na_nil)) (fe_ix (f_var rfl 0) (f_int rfl))) (fe_one (fe_cmp cr_le (fe_call (ok_extra_count T) (hr.mono (by decide)) T.g_extra_count T.kp_extra_count T.b_extra_count (L2N.takes_of rfl rfl rfl rfl) (fa_cons (f_var rfl 1) (fa_nil rfl)) (na_cons na_nil)) (fe_ix (f_var rfl 0) (f_int rfl)))))))
theorem sc__are_crashes : FnScope ["crashes", "limit", "tick"] ["crashes", "limit"] (defScope s__are_crashes) := ⟨rfl, rfl, rfl, by decide +kernel, rfl, by decide +kernel, by decide +kernel⟩
theorem ok__are_crashes (T : Fx K mg fa fd ec fi di) : FnOk P w K mg base (L2N.CX P w) 3 (fa 12) (fd 12) ["crashes", "limit"] (spM (gg K ec) 2 m__are_crashes) := by
  refine fn_gc (fn_ok (g := gg K ec) T.F__are_crashes sc__are_crashes (fun cdv A outer s H E hr => ?_))
  exact (fs_cons (fs_if (ft_w (fw_or (ft_not (ft_tru (fe_isi (T := "tuple") T.z_isinstance T.z_tuple (by decide +kernel) (f_var rfl 0)))) (fw_or1 (ft_cmp cr_gt (fe_blt (br_len rfl) T.z_len (fa_cons (f_var rfl 0) (fa_nil rfl))) (f_var rfl 1))))) (fs_one (fs_ret (f_bl rfl))) (fs_nil rfl))
 (fs_cons (fs_for (passes_of rfl) rfl (fi_any (f_var rfl 0)) (fg_name rfl sc__are_crashes.nd) (fs_one (fs_if (ft_not (ft_tru (fe_call (ok_is_int_in T) (hr.mono (by decide)) T.g_is_int_in T.kp_is_int_in T.b_is_int_in (L2N.takes_of rfl rfl rfl rfl) (fa_cons (f_var rfl 2) (fa_cons (f_int rfl) (fa_cons (f_gint rfl T.c_LAST_CRASH) (fa_nil rfl)))) (na_cons (na_cons (na_cons na_nil)))))) (fs_one (fs_ret (f_bl rfl))) (fs_nil rfl))))
 (fs_one (fs_ret (fe_call (ok_is_ascending T) (hr.mono (by decide)) T.g_is_ascending T.kp_is_ascending T.b_is_ascending (L2N.takes_of rfl rfl rfl rfl) (fa_cons (f_var rfl 0) (fa_nil rfl)) (na_cons na_nil))))))
theorem sc_check_run : FnScope ["wire", "plan", "memory", "run", "asks", "tells", "crashes"] ["wire", "plan", "memory", "run"] (defScope s_check_run) := ⟨rfl, rfl, rfl, by decide +kernel, rfl, by decide +kernel, by decide +kernel⟩
theorem ok_check_run (T : Fx K mg fa fd ec fi di) : FnOk P w K mg base (L2N.CX P w) 5 (fa 13) (fd 13) ["wire", "plan", "memory", "run"] (spM (gg K ec) 4 m_check_run) := by
  refine fn_gc (fn_ok (g := gg K ec) T.F_check_run sc_check_run (fun cdv A outer s H E hr => ?_))
  exact (fs_cons (fs_asg (f_var rfl 3) (fg_tup rfl (fgs_cons (fg_name rfl sc_check_run.nd) (fgs_cons (fg_name rfl sc_check_run.nd) (fgs_cons (fg_name rfl sc_check_run.nd) (fgs_nil rfl))))))
 (fs_cons (fs_if (ft_w (fw_or (ft_not (ft_tru (fe_call (ok__are_fates T) (hr.mono (by decide)) T.g__are_fates T.kp__are_fates T.b__are_fates (L2N.takes_of rfl rfl rfl rfl) (fa_cons (f_var rfl 4) (fa_cons (fe_blt (br_len rfl) T.z_len (fa_cons (fe_ix (f_var rfl 1) (f_int rfl)) (fa_nil rfl))) (fa_cons (fe_ix (f_var rfl 0) (f_int rfl)) (fa_nil rfl)))) (na_cons (na_cons (na_cons na_nil)))))) (fw_or1 (ft_not (ft_tru (fe_call (ok__is_affordable T) (hr.mono (by decide)) T.g__is_affordable T.kp__is_affordable T.b__is_affordable (L2N.takes_of rfl rfl rfl rfl) (fa_cons (f_var rfl 0) (fa_cons (f_var rfl 4) (fa_nil rfl))) (na_cons (na_cons na_nil)))))))) (fs_one (fs_raise (n := 4) (k := 1) (names := ["part"]) rfl (L2N.takes_of rfl rfl rfl rfl) T.ox_BadRun T.ii_BadRun T.ti_BadRun (oi_BadRun T) (hr.mono (by decide)) T.bi_BadRun T.gc_BadRun rfl (by decide) (fa_cons (f_int rfl) (fa_nil rfl)) (na_cons na_nil) (by decide))) (fs_nil rfl))
 (fs_cons (fs_if (ft_w (fw_or (ft_not (ft_tru (fe_call (ok__are_fates T) (hr.mono (by decide)) T.g__are_fates T.kp__are_fates T.b__are_fates (L2N.takes_of rfl rfl rfl rfl) (fa_cons (f_var rfl 5) (fa_cons (f_gint rfl T.c_MOST_TELLS) (fa_cons (fe_ix (f_var rfl 0) (f_int rfl)) (fa_nil rfl)))) (na_cons (na_cons (na_cons na_nil)))))) (fw_or1 (ft_not (ft_tru (fe_call (ok__is_affordable T) (hr.mono (by decide)) T.g__is_affordable T.kp__is_affordable T.b__is_affordable (L2N.takes_of rfl rfl rfl rfl) (fa_cons (f_var rfl 0) (fa_cons (f_add (f_var rfl 4) (f_var rfl 5)) (fa_nil rfl))) (na_cons (na_cons na_nil)))))))) (fs_one (fs_raise (n := 4) (k := 1) (names := ["part"]) rfl (L2N.takes_of rfl rfl rfl rfl) T.ox_BadRun T.ii_BadRun T.ti_BadRun (oi_BadRun T) (hr.mono (by decide)) T.bi_BadRun T.gc_BadRun rfl (by decide) (fa_cons (f_int rfl) (fa_nil rfl)) (na_cons na_nil) (by decide))) (fs_nil rfl))
 (fs_one (fs_if (ft_not (ft_tru (fe_call (ok__are_crashes T) (hr.mono (by decide)) T.g__are_crashes T.kp__are_crashes T.b__are_crashes (L2N.takes_of rfl rfl rfl rfl) (fa_cons (f_var rfl 6) (fa_cons (fe_ix (f_var rfl 2) (f_int rfl)) (fa_nil rfl))) (na_cons (na_cons na_nil))))) (fs_one (fs_raise (n := 4) (k := 1) (names := ["part"]) rfl (L2N.takes_of rfl rfl rfl rfl) T.ox_BadRun T.ii_BadRun T.ti_BadRun (oi_BadRun T) (hr.mono (by decide)) T.bi_BadRun T.gc_BadRun rfl (by decide) (fa_cons (f_int rfl) (fa_nil rfl)) (na_cons na_nil) (by decide))) (fs_nil rfl))))))
theorem sc_fate_of : FnScope ["fates", "index"] ["fates", "index"] (defScope s_fate_of) := ⟨rfl, rfl, rfl, by decide +kernel, rfl, by decide +kernel, by decide +kernel⟩
theorem ok_fate_of (T : Fx K mg fa fd ec fi di) : FnOk P w K mg base (L2N.CX P w) 1 (fa 14) (fd 14) ["fates", "index"] (spM (gg K ec) 2 m_fate_of) := by
  refine fn_gc (fn_ok (g := gg K ec) T.F_fate_of sc_fate_of (fun cdv A outer s H E hr => ?_))
  exact (fs_cons (fs_if (ft_cmp cr_lt (f_var rfl 1) (fe_blt (br_len rfl) T.z_len (fa_cons (f_var rfl 0) (fa_nil rfl)))) (fs_one (fs_ret (fe_ix (f_var rfl 0) (f_var rfl 1)))) (fs_nil rfl))
 (fs_one (fs_ret (fe_tup (fa_cons (f_int rfl) (fa_nil rfl))))))
theorem sc_CallPlay____init__ : FnScope ["self", "wire", "plan", "memory", "run", "stops"] ["self", "wire", "plan", "memory", "run", "stops"] (defScope s_CallPlay____init__) := ⟨rfl, rfl, rfl, by decide +kernel, rfl, by decide +kernel, by decide +kernel⟩
theorem ok_CallPlay____init__ (T : Fx K mg fa fd ec fi di) : FnOk P w K mg base (L2N.CX P w) 1 (fa 15) (fd 15) ["self", "wire", "plan", "memory", "run", "stops"] (spM (gg K ec) 6 m_CallPlay____init__) := by
  refine id (fn_ok (g := gg K ec) T.F_CallPlay____init__ sc_CallPlay____init__ (fun cdv A outer s H E hr => ?_))
  exact (fs_cons (fs_fld T.fl_tries (f_var rfl 0) (fe_ix (f_var rfl 2) (f_int rfl)))
 (fs_cons (fs_fld T.fl_until (f_var rfl 0) (fe_ix (f_var rfl 2) (f_int rfl)))
 (fs_cons (fs_fld T.fl_keep (f_var rfl 0) (fe_ix (f_var rfl 3) (f_int rfl)))
 (fs_cons (fs_fld T.fl_durable (f_var rfl 0) (fe_ix (f_var rfl 3) (f_int rfl)))
 (fs_cons (fs_fld T.fl_asks (f_var rfl 0) (fe_ix (f_var rfl 4) (f_int rfl)))
 (fs_cons (fs_fld T.fl_tells (f_var rfl 0) (fe_ix (f_var rfl 4) (f_int rfl)))
 (fs_cons (fs_fld T.fl_crashes (f_var rfl 0) (fe_ix (f_var rfl 4) (f_int rfl)))
 (fs_cons (fs_fld T.fl_stops (f_var rfl 0) (f_var rfl 5))
 (fs_cons (fs_fld T.fl_last (f_var rfl 0) (fe_blt (br_max2 rfl) T.z_max (fa_cons (fe_ix (f_var rfl 2) (f_int rfl)) (fa_cons (f_add (f_add (fe_ix (fe_ix (f_var rfl 2) (f_int rfl)) (f_neg (f_int rfl))) (fe_ix (f_var rfl 1) (f_int rfl))) (fe_ix (f_var rfl 1) (f_int rfl))) (fa_nil rfl)))))
 (fs_cons (fs_if (ft_cmp cr_gt (fe_blt (br_len rfl) T.z_len (fa_cons (fe_ix (f_var rfl 4) (f_int rfl)) (fa_nil rfl))) (f_int rfl)) (fs_one (fs_fld T.fl_last (f_var rfl 0) (fe_blt (br_max2 rfl) T.z_max (fa_cons (fe_fld T.fl_last (f_var rfl 0)) (fa_cons (fe_ix (fe_ix (f_var rfl 4) (f_int rfl)) (f_neg (f_int rfl))) (fa_nil rfl)))))) (fs_nil rfl))
 (fs_cons (fs_fld T.fl_arriving (f_var rfl 0) (fe_dnew rfl))
 (fs_cons (fs_fld T.fl_hearing (f_var rfl 0) (fe_dnew rfl))
 (fs_cons (fs_fld T.fl_done_at (f_var rfl 0) (f_non rfl))
 (fs_cons (fs_fld T.fl_told (f_var rfl 0) (f_int rfl))
 (fs_cons (fs_fld T.fl_has_answer (f_var rfl 0) (f_bl rfl))
 (fs_cons (fs_fld T.fl_waiting (f_var rfl 0) (f_non rfl))
 (fs_cons (fs_fld T.fl_stopped_at (f_var rfl 0) (f_non rfl))
 (fs_one (fs_fld T.fl_history (f_var rfl 0) (fe_lst (fa_nil rfl)))))))))))))))))))))
theorem sc_CallPlay__play_tell : FnScope ["self", "tick", "word", "index", "offset"] ["self", "tick"] (defScope s_CallPlay__play_tell) := ⟨rfl, rfl, rfl, by decide +kernel, rfl, by decide +kernel, by decide +kernel⟩
theorem ok_CallPlay__play_tell (T : Fx K mg fa fd ec fi di) : FnOk P w K mg base (L2N.CX P w) 2 (fa 16) (fd 16) ["self", "tick"] (spM (gg K ec) 2 m_CallPlay__play_tell) := by
  refine id (fn_ok (g := gg K ec) T.F_CallPlay__play_tell sc_CallPlay__play_tell (fun cdv A outer s H E hr => ?_))
  exact (fs_cons (fs_set (i := 2) sc_CallPlay__play_tell.nd (f_str rfl))
 (fs_cons (fs_if (ft_w (fw_or (ft_cmp cr_isN (fe_fld T.fl_done_at (f_var rfl 0)) (f_non rfl)) (fw_or1 (ft_cmp cr_gt (f_sub (f_var rfl 1) (fe_fld T.fl_done_at (f_var rfl 0))) (fe_fld T.fl_keep (f_var rfl 0)))))) (fs_cons (fs_set (i := 2) sc_CallPlay__play_tell.nd (f_str rfl))
 (fs_one (fs_fld T.fl_done_at (f_var rfl 0) (f_var rfl 1)))) (fs_nil rfl))
 (fs_cons (fs_set (i := 3) sc_CallPlay__play_tell.nd (fe_fld T.fl_told (f_var rfl 0)))
 (fs_cons (fs_fldaug T.fl_told fa_add (f_var rfl 0) (f_int rfl))
 (fs_cons (fs_expr (fe_meth mr_append (fe_fld T.fl_history (f_var rfl 0)) (fa_cons (fe_tup (fa_cons (f_var rfl 1) (fa_cons (f_var rfl 2) (fa_cons (f_var rfl 3) (fa_nil rfl))))) (fa_nil rfl))))
 (fs_cons (fs_if (ft_w (fw_and (ft_tru (fe_fld T.fl_stops (f_var rfl 0))) (fw_and1 (ft_cmp cr_ge (f_var rfl 3) (fe_blt (br_len rfl) T.z_len (fa_cons (fe_fld T.fl_tells (f_var rfl 0)) (fa_nil rfl))))))) (fs_cons (fs_fld T.fl_waiting (f_var rfl 0) (fe_tup (fa_cons (f_str rfl) (fa_cons (f_var rfl 3) (fa_nil rfl)))))
 (fs_one (fs_retN rfl))) (fs_nil rfl))
 (fs_one (fs_for (passes_of rfl) rfl (fi_any (fe_call (ok_fate_of T) (hr.mono (by decide)) T.g_fate_of T.kp_fate_of T.b_fate_of (L2N.takes_of rfl rfl rfl rfl) (fa_cons (fe_fld T.fl_tells (f_var rfl 0)) (fa_cons (f_var rfl 3) (fa_nil rfl))) (na_cons (na_cons na_nil)))) (fg_name rfl sc_CallPlay__play_tell.nd) (fs_one (fs_expr (fe_meth mr_append (fe_dset2 (fe_fld T.fl_hearing (f_var rfl 0)) (f_add (f_var rfl 1) (f_var rfl 4)) (fe_lst (fa_nil rfl))) (fa_cons (f_var rfl 3) (fa_nil rfl)))))))))))))
theorem sc_CallPlay__play_arrivals : FnScope ["self", "tick", "index"] ["self", "tick"] (defScope s_CallPlay__play_arrivals) := ⟨rfl, rfl, rfl, by decide +kernel, rfl, by decide +kernel, by decide +kernel⟩
theorem ok_CallPlay__play_arrivals (T : Fx K mg fa fd ec fi di) : FnOk P w K mg base (L2N.CX P w) 3 (fa 17) (fd 17) ["self", "tick"] (spM (gg K ec) 2 m_CallPlay__play_arrivals) := by
  refine id (fn_ok (g := gg K ec) T.F_CallPlay__play_arrivals sc_CallPlay__play_arrivals (fun cdv A outer s H E hr => ?_))
  exact (fs_one (fs_for (passes_of rfl) rfl (fi_any (fe_dget2 hr.units (fe_fld T.fl_arriving (f_var rfl 0)) (f_var rfl 1) (fe_lst (fa_nil rfl)))) (fg_name rfl sc_CallPlay__play_arrivals.nd) (fs_cons (fs_expr (fe_meth mr_append (fe_fld T.fl_history (f_var rfl 0)) (fa_cons (fe_tup (fa_cons (f_var rfl 1) (fa_cons (f_str rfl) (fa_cons (f_var rfl 2) (fa_nil rfl))))) (fa_nil rfl))))
 (fs_cons (fs_expr (fe_imeth (c := 5) (f_var rfl 0) T.cl_CallPlay T.me_CallPlay__play_tell (ok_CallPlay__play_tell T) (hr.mono (by decide)) T.b_CallPlay__play_tell (L2N.takes_of rfl rfl rfl rfl) (fa_cons (f_var rfl 1) (fa_nil rfl)) (na_cons na_nil)))
 (fs_one (fs_if (ft_cmp cr_notN (fe_fld T.fl_waiting (f_var rfl 0)) (f_non rfl)) (fs_one (fs_retN rfl)) (fs_nil rfl)))))))
theorem sc_CallPlay__play_ask : FnScope ["self", "tick", "index", "offset"] ["self", "tick"] (defScope s_CallPlay__play_ask) := ⟨rfl, rfl, rfl, by decide +kernel, rfl, by decide +kernel, by decide +kernel⟩
theorem ok_CallPlay__play_ask (T : Fx K mg fa fd ec fi di) : FnOk P w K mg base (L2N.CX P w) 2 (fa 18) (fd 18) ["self", "tick"] (spM (gg K ec) 2 m_CallPlay__play_ask) := by
  refine id (fn_ok (g := gg K ec) T.F_CallPlay__play_ask sc_CallPlay__play_ask (fun cdv A outer s H E hr => ?_))
  exact (fs_cons (fs_set (i := 2) sc_CallPlay__play_ask.nd (fe_ixA (fe_fld T.fl_tries (f_var rfl 0)) (fa_cons (f_var rfl 1) (fa_nil rfl))))
 (fs_cons (fs_expr (fe_meth mr_append (fe_fld T.fl_history (f_var rfl 0)) (fa_cons (fe_tup (fa_cons (f_var rfl 1) (fa_cons (f_str rfl) (fa_cons (f_var rfl 2) (fa_nil rfl))))) (fa_nil rfl))))
 (fs_cons (fs_if (ft_w (fw_and (ft_tru (fe_fld T.fl_stops (f_var rfl 0))) (fw_and1 (ft_cmp cr_ge (f_var rfl 2) (fe_blt (br_len rfl) T.z_len (fa_cons (fe_fld T.fl_asks (f_var rfl 0)) (fa_nil rfl))))))) (fs_cons (fs_fld T.fl_waiting (f_var rfl 0) (fe_tup (fa_cons (f_str rfl) (fa_cons (f_var rfl 2) (fa_nil rfl)))))
 (fs_one (fs_retN rfl))) (fs_nil rfl))
 (fs_one (fs_for (passes_of rfl) rfl (fi_any (fe_call (ok_fate_of T) (hr.mono (by decide)) T.g_fate_of T.kp_fate_of T.b_fate_of (L2N.takes_of rfl rfl rfl rfl) (fa_cons (fe_fld T.fl_asks (f_var rfl 0)) (fa_cons (f_var rfl 2) (fa_nil rfl))) (na_cons (na_cons na_nil)))) (fg_name rfl sc_CallPlay__play_ask.nd) (fs_one (fs_expr (fe_meth mr_append (fe_dset2 (fe_fld T.fl_arriving (f_var rfl 0)) (f_add (f_var rfl 1) (f_var rfl 3)) (fe_lst (fa_nil rfl))) (fa_cons (f_var rfl 2) (fa_nil rfl))))))))))
theorem sc_CallPlay__play_crash : FnScope ["self", "tick"] ["self", "tick"] (defScope s_CallPlay__play_crash) := ⟨rfl, rfl, rfl, by decide +kernel, rfl, by decide +kernel, by decide +kernel⟩
theorem ok_CallPlay__play_crash (T : Fx K mg fa fd ec fi di) : FnOk P w K mg base (L2N.CX P w) 1 (fa 19) (fd 19) ["self", "tick"] (spM (gg K ec) 2 m_CallPlay__play_crash) := by
  refine id (fn_ok (g := gg K ec) T.F_CallPlay__play_crash sc_CallPlay__play_crash (fun cdv A outer s H E hr => ?_))
  exact (fs_cons (fs_expr (fe_meth mr_append (fe_fld T.fl_history (f_var rfl 0)) (fa_cons (fe_tup (fa_cons (f_var rfl 1) (fa_cons (f_str rfl) (fa_cons (f_neg (f_int rfl)) (fa_nil rfl))))) (fa_nil rfl))))
 (fs_one (fs_if (ft_not (ft_tru (fe_fld T.fl_durable (f_var rfl 0)))) (fs_one (fs_fld T.fl_done_at (f_var rfl 0) (f_non rfl))) (fs_nil rfl))))
theorem sc_CallPlay__play_replies : FnScope ["self", "tick", "index", "word"] ["self", "tick"] (defScope s_CallPlay__play_replies) := ⟨rfl, rfl, rfl, by decide +kernel, rfl, by decide +kernel, by decide +kernel⟩
theorem ok_CallPlay__play_replies (T : Fx K mg fa fd ec fi di) : FnOk P w K mg base (L2N.CX P w) 1 (fa 20) (fd 20) ["self", "tick"] (spM (gg K ec) 2 m_CallPlay__play_replies) := by
  refine id (fn_ok (g := gg K ec) T.F_CallPlay__play_replies sc_CallPlay__play_replies (fun cdv A outer s H E hr => ?_))
  exact (fs_one (fs_for (passes_of rfl) rfl (fi_any (fe_dget2 hr.units (fe_fld T.fl_hearing (f_var rfl 0)) (f_var rfl 1) (fe_lst (fa_nil rfl)))) (fg_name rfl sc_CallPlay__play_replies.nd) (fs_cons (fs_set (i := 3) sc_CallPlay__play_replies.nd (f_str rfl))
 (fs_cons (fs_if (ft_w (fw_and (ft_not (ft_tru (fe_fld T.fl_has_answer (f_var rfl 0)))) (fw_and1 (ft_cmp cr_le (f_var rfl 1) (fe_fld T.fl_until (f_var rfl 0)))))) (fs_cons (fs_set (i := 3) sc_CallPlay__play_replies.nd (f_str rfl))
 (fs_one (fs_fld T.fl_has_answer (f_var rfl 0) (f_bl rfl)))) (fs_nil rfl))
 (fs_one (fs_expr (fe_meth mr_append (fe_fld T.fl_history (f_var rfl 0)) (fa_cons (fe_tup (fa_cons (f_var rfl 1) (fa_cons (f_var rfl 3) (fa_cons (f_var rfl 2) (fa_nil rfl))))) (fa_nil rfl)))))))))
theorem sc_CallPlay__play_tick : FnScope ["self", "tick"] ["self", "tick"] (defScope s_CallPlay__play_tick) := ⟨rfl, rfl, rfl, by decide +kernel, rfl, by decide +kernel, by decide +kernel⟩
theorem ok_CallPlay__play_tick (T : Fx K mg fa fd ec fi di) : FnOk P w K mg base (L2N.CX P w) 4 (fa 21) (fd 21) ["self", "tick"] (spM (gg K ec) 2 m_CallPlay__play_tick) := by
  refine id (fn_ok (g := gg K ec) T.F_CallPlay__play_tick sc_CallPlay__play_tick (fun cdv A outer s H E hr => ?_))
  exact (fs_cons (fs_if (ft_cmp (cr_in rfl) (f_var rfl 1) (fe_fld T.fl_crashes (f_var rfl 0))) (fs_one (fs_expr (fe_imeth (c := 5) (f_var rfl 0) T.cl_CallPlay T.me_CallPlay__play_crash (ok_CallPlay__play_crash T) (hr.mono (by decide)) T.b_CallPlay__play_crash (L2N.takes_of rfl rfl rfl rfl) (fa_cons (f_var rfl 1) (fa_nil rfl)) (na_cons na_nil)))) (fs_nil rfl))
 (fs_cons (fs_if (ft_w (fw_and (ft_cmp (cr_in rfl) (f_var rfl 1) (fe_fld T.fl_tries (f_var rfl 0))) (fw_and1 (ft_not (ft_tru (fe_fld T.fl_has_answer (f_var rfl 0))))))) (fs_one (fs_expr (fe_imeth (c := 5) (f_var rfl 0) T.cl_CallPlay T.me_CallPlay__play_ask (ok_CallPlay__play_ask T) (hr.mono (by decide)) T.b_CallPlay__play_ask (L2N.takes_of rfl rfl rfl rfl) (fa_cons (f_var rfl 1) (fa_nil rfl)) (na_cons na_nil)))) (fs_nil rfl))
 (fs_cons (fs_if (ft_cmp cr_isN (fe_fld T.fl_waiting (f_var rfl 0)) (f_non rfl)) (fs_one (fs_expr (fe_imeth (c := 5) (f_var rfl 0) T.cl_CallPlay T.me_CallPlay__play_arrivals (ok_CallPlay__play_arrivals T) (hr.mono (by decide)) T.b_CallPlay__play_arrivals (L2N.takes_of rfl rfl rfl rfl) (fa_cons (f_var rfl 1) (fa_nil rfl)) (na_cons na_nil)))) (fs_nil rfl))
 (fs_cons (fs_if (ft_cmp cr_isN (fe_fld T.fl_waiting (f_var rfl 0)) (f_non rfl)) (fs_one (fs_expr (fe_imeth (c := 5) (f_var rfl 0) T.cl_CallPlay T.me_CallPlay__play_replies (ok_CallPlay__play_replies T) (hr.mono (by decide)) T.b_CallPlay__play_replies (L2N.takes_of rfl rfl rfl rfl) (fa_cons (f_var rfl 1) (fa_nil rfl)) (na_cons na_nil)))) (fs_nil rfl))
 (fs_one (fs_if (ft_w (fw_and (ft_cmp cr_isN (fe_fld T.fl_waiting (f_var rfl 0)) (f_non rfl)) (fw_and (ft_cmp (cr_eq rfl hr.units) (f_var rfl 1) (fe_fld T.fl_until (f_var rfl 0))) (fw_and1 (ft_not (ft_tru (fe_fld T.fl_has_answer (f_var rfl 0)))))))) (fs_one (fs_expr (fe_meth mr_append (fe_fld T.fl_history (f_var rfl 0)) (fa_cons (fe_tup (fa_cons (f_var rfl 1) (fa_cons (f_str rfl) (fa_cons (f_neg (f_int rfl)) (fa_nil rfl))))) (fa_nil rfl))))) (fs_nil rfl)))))))
theorem sc_CallPlay__play_all : FnScope ["self", "tick"] ["self"] (defScope s_CallPlay__play_all) := ⟨rfl, rfl, rfl, by decide +kernel, rfl, by decide +kernel, by decide +kernel⟩
theorem ok_CallPlay__play_all (T : Fx K mg fa fd ec fi di) : FnOk P w K mg base (L2N.CX P w) 5 (fa 22) (fd 22) ["self"] (spM (gg K ec) 1 m_CallPlay__play_all) := by
  refine id (fn_ok (g := gg K ec) T.F_CallPlay__play_all sc_CallPlay__play_all (fun cdv A outer s H E hr => ?_))
  exact (fs_one (fs_for (passes_of rfl) rfl (fi_range1 T.z_range (fa_cons (f_add (fe_fld T.fl_last (f_var rfl 0)) (f_int rfl)) (fa_nil rfl))) (fg_name rfl sc_CallPlay__play_all.nd) (fs_cons (fs_expr (fe_imeth (c := 5) (f_var rfl 0) T.cl_CallPlay T.me_CallPlay__play_tick (ok_CallPlay__play_tick T) (hr.mono (by decide)) T.b_CallPlay__play_tick (L2N.takes_of rfl rfl rfl rfl) (fa_cons (f_var rfl 1) (fa_nil rfl)) (na_cons na_nil)))
 (fs_one (fs_if (ft_cmp cr_notN (fe_fld T.fl_waiting (f_var rfl 0)) (f_non rfl)) (fs_cons (fs_fld T.fl_stopped_at (f_var rfl 0) (f_var rfl 1))
 (fs_one (fs_retN rfl))) (fs_nil rfl))))))
theorem sc_played_log : FnScope ["wire", "plan", "memory", "run", "play"] ["wire", "plan", "memory", "run"] (defScope s_played_log) := ⟨rfl, rfl, rfl, by decide +kernel, rfl, by decide +kernel, by decide +kernel⟩
theorem ok_played_log (T : Fx K mg fa fd ec fi di) : FnOk P w K mg base (L2N.CX P w) 6 (fa 23) (fd 23) ["wire", "plan", "memory", "run"] (spM (gg K ec) 4 m_played_log) := by
  refine fn_gc (fn_ok (g := gg K ec) T.F_played_log sc_played_log (fun cdv A outer s H E hr => ?_))
  exact (fs_cons (fs_set (i := 4) sc_played_log.nd (fe_make (c := 5) T.mk_CallPlay (ok_CallPlay____init__ T) (hr.mono (by decide)) T.gc_CallPlay T.b_CallPlay____init__ (L2N.takes_of rfl rfl rfl rfl) (fa_cons (f_var rfl 0) (fa_cons (f_var rfl 1) (fa_cons (f_var rfl 2) (fa_cons (f_var rfl 3) (fa_cons (f_bl rfl) (fa_nil rfl)))))) (na_cons (na_cons (na_cons (na_cons (na_cons na_nil)))))))
 (fs_cons (fs_expr (fe_imeth0 (c := 5) (f_var rfl 4) T.cl_CallPlay T.me_CallPlay__play_all (ok_CallPlay__play_all T) (hr.mono (by decide)) T.b_CallPlay__play_all (L2N.takes_of rfl rfl rfl rfl)))
 (fs_one (fs_ret (fe_bltT (br_tup rfl) T.z_tuple (fa_cons (fe_fld T.fl_history (f_var rfl 4)) (fa_nil rfl)))))))
theorem sc_play_call : FnScope ["wire", "plan", "memory", "run"] ["wire", "plan", "memory", "run"] (defScope s_play_call) := ⟨rfl, rfl, rfl, by decide +kernel, rfl, by decide +kernel, by decide +kernel⟩
theorem ok_play_call (T : Fx K mg fa fd ec fi di) : FnOk P w K mg base (L2N.CX P w) 7 (fa 24) (fd 24) ["wire", "plan", "memory", "run"] (spM (gg K ec) 4 m_play_call) := by
  refine fn_gc (fn_ok (g := gg K ec) T.F_play_call sc_play_call (fun cdv A outer s H E hr => ?_))
  exact (fs_cons (fs_expr (fe_call (ok_check_wire T) (hr.mono (by decide)) T.g_check_wire T.kp_check_wire T.b_check_wire (L2N.takes_of rfl rfl rfl rfl) (fa_cons (f_var rfl 0) (fa_nil rfl)) (na_cons na_nil)))
 (fs_cons (fs_expr (fe_call (ok_check_plan T) (hr.mono (by decide)) T.g_check_plan T.kp_check_plan T.b_check_plan (L2N.takes_of rfl rfl rfl rfl) (fa_cons (f_var rfl 1) (fa_nil rfl)) (na_cons na_nil)))
 (fs_cons (fs_expr (fe_call (ok_check_memory T) (hr.mono (by decide)) T.g_check_memory T.kp_check_memory T.b_check_memory (L2N.takes_of rfl rfl rfl rfl) (fa_cons (f_var rfl 2) (fa_nil rfl)) (na_cons na_nil)))
 (fs_cons (fs_expr (fe_call (ok_check_run T) (hr.mono (by decide)) T.g_check_run T.kp_check_run T.b_check_run (L2N.takes_of rfl rfl rfl rfl) (fa_cons (f_var rfl 0) (fa_cons (f_var rfl 1) (fa_cons (f_var rfl 2) (fa_cons (f_var rfl 3) (fa_nil rfl))))) (na_cons (na_cons (na_cons (na_cons na_nil))))))
 (fs_one (fs_ret (fe_call (ok_played_log T) (hr.mono (by decide)) T.g_played_log T.kp_played_log T.b_played_log (L2N.takes_of rfl rfl rfl rfl) (fa_cons (f_var rfl 0) (fa_cons (f_var rfl 1) (fa_cons (f_var rfl 2) (fa_cons (f_var rfl 3) (fa_nil rfl))))) (na_cons (na_cons (na_cons (na_cons na_nil)))))))))))
theorem sc_ticks_of : FnScope ["log", "word", "event"] ["log", "word"] (defScope s_ticks_of) := ⟨rfl, rfl, rfl, by decide +kernel, rfl, by decide +kernel, by decide +kernel⟩
theorem ok_ticks_of (T : Fx K mg fa fd ec fi di) : FnOk P w K mg base (L2N.CX P w) 1 (fa 25) (fd 25) ["log", "word"] (spM (gg K ec) 2 m_ticks_of) := by
  refine fn_gc (fn_ok (g := gg K ec) T.F_ticks_of sc_ticks_of (fun cdv A outer s H E hr => ?_))
  exact (fs_one (fs_ret (fe_gc (fe_bltT (br_tup rfl) T.z_tuple (fa_cons (fe_lc (own := [("event", 2)]) rfl sc_ticks_of.nd (fi_any (f_var rfl 0)) (blkOk_by (own := [("event", 2)]) (N := ["log", "word", "event"]) (sc := defScope s_ticks_of) (by decide +kernel)) (fun _ _ _ _ _ => (fg_name rfl sc_ticks_of.nd)) (by decide) (fun _ _ _ _ _ => (fts_one (ft_cmp (cr_eq rfl hr.units) (fe_ix (f_var rfl 2) (f_int rfl)) (f_var rfl 1)))) (fun _ _ _ _ _ => (fe_ix (f_var rfl 2) (f_int rfl)))) (fa_nil rfl))))))
theorem sc_done_ticks : FnScope ["log"] ["log"] (defScope s_done_ticks) := ⟨rfl, rfl, rfl, by decide +kernel, rfl, by decide +kernel, by decide +kernel⟩
theorem ok_done_ticks (T : Fx K mg fa fd ec fi di) : FnOk P w K mg base (L2N.CX P w) 2 (fa 26) (fd 26) ["log"] (spM (gg K ec) 1 m_done_ticks) := by
  refine fn_gc (fn_ok (g := gg K ec) T.F_done_ticks sc_done_ticks (fun cdv A outer s H E hr => ?_))
  exact (fs_one (fs_ret (fe_call (ok_ticks_of T) (hr.mono (by decide)) T.g_ticks_of T.kp_ticks_of T.b_ticks_of (L2N.takes_of rfl rfl rfl rfl) (fa_cons (f_var rfl 0) (fa_cons (f_str rfl) (fa_nil rfl))) (na_cons (na_cons na_nil)))))
theorem sc_arrivals : FnScope ["log"] ["log"] (defScope s_arrivals) := ⟨rfl, rfl, rfl, by decide +kernel, rfl, by decide +kernel, by decide +kernel⟩
theorem ok_arrivals (T : Fx K mg fa fd ec fi di) : FnOk P w K mg base (L2N.CX P w) 2 (fa 27) (fd 27) ["log"] (spM (gg K ec) 1 m_arrivals) := by
  refine fn_gc (fn_ok (g := gg K ec) T.F_arrivals sc_arrivals (fun cdv A outer s H E hr => ?_))
  exact (fs_one (fs_ret (fe_call (ok_ticks_of T) (hr.mono (by decide)) T.g_ticks_of T.kp_ticks_of T.b_ticks_of (L2N.takes_of rfl rfl rfl rfl) (fa_cons (f_var rfl 0) (fa_cons (f_str rfl) (fa_nil rfl))) (na_cons (na_cons na_nil)))))
theorem sc_answer_tick : FnScope ["log", "ticks"] ["log"] (defScope s_answer_tick) := ⟨rfl, rfl, rfl, by decide +kernel, rfl, by decide +kernel, by decide +kernel⟩
theorem ok_answer_tick (T : Fx K mg fa fd ec fi di) : FnOk P w K mg base (L2N.CX P w) 2 (fa 28) (fd 28) ["log"] (spM (gg K ec) 1 m_answer_tick) := by
  refine fn_gc (fn_ok (g := gg K ec) T.F_answer_tick sc_answer_tick (fun cdv A outer s H E hr => ?_))
  exact (fs_cons (fs_set (i := 1) sc_answer_tick.nd (fe_call (ok_ticks_of T) (hr.mono (by decide)) T.g_ticks_of T.kp_ticks_of T.b_ticks_of (L2N.takes_of rfl rfl rfl rfl) (fa_cons (f_var rfl 0) (fa_cons (f_str rfl) (fa_nil rfl))) (na_cons (na_cons na_nil))))
 (fs_cons (fs_if (ft_cmp (cr_eq rfl hr.units) (fe_blt (br_len rfl) T.z_len (fa_cons (f_var rfl 1) (fa_nil rfl))) (f_int rfl)) (fs_one (fs_ret (f_non rfl))) (fs_nil rfl))
 (fs_one (fs_ret (fe_ix (f_var rfl 1) (f_int rfl))))))
theorem sc_gap_of : FnScope ["log", "ticks"] ["log"] (defScope s_gap_of) := ⟨rfl, rfl, rfl, by decide +kernel, rfl, by decide +kernel, by decide +kernel⟩
theorem ok_gap_of (T : Fx K mg fa fd ec fi di) : FnOk P w K mg base (L2N.CX P w) 3 (fa 29) (fd 29) ["log"] (spM (gg K ec) 1 m_gap_of) := by
  refine fn_gc (fn_ok (g := gg K ec) T.F_gap_of sc_gap_of (fun cdv A outer s H E hr => ?_))
  exact (fs_cons (fs_set (i := 1) sc_gap_of.nd (fe_call (ok_arrivals T) (hr.mono (by decide)) T.g_arrivals T.kp_arrivals T.b_arrivals (L2N.takes_of rfl rfl rfl rfl) (fa_cons (f_var rfl 0) (fa_nil rfl)) (na_cons na_nil)))
 (fs_cons (fs_if (ft_cmp (cr_eq rfl hr.units) (fe_blt (br_len rfl) T.z_len (fa_cons (f_var rfl 1) (fa_nil rfl))) (f_int rfl)) (fs_one (fs_ret (f_int rfl))) (fs_nil rfl))
 (fs_one (fs_ret (f_sub (fe_ix (f_var rfl 1) (f_neg (f_int rfl))) (fe_ix (f_var rfl 1) (f_int rfl)))))))
theorem sc__law_cell : FnScope ["script", "k"] ["script", "k"] (defScope s__law_cell) := ⟨rfl, rfl, rfl, by decide +kernel, rfl, by decide +kernel, by decide +kernel⟩
theorem ok__law_cell (T : Fx K mg fa fd ec fi di) : FnOk P w K mg base (L2N.CX P w) 1 (fa 30) (fd 30) ["script", "k"] (spM (gg K ec) 2 m__law_cell) := by
  refine fn_gc (fn_ok (g := gg K ec) T.F__law_cell sc__law_cell (fun cdv A outer s H E hr => ?_))
  exact (fs_cons (fs_if (ft_cmp cr_lt (f_var rfl 1) (fe_blt (br_len rfl) T.z_len (fa_cons (f_var rfl 0) (fa_nil rfl)))) (fs_one (fs_ret (fe_ix (f_var rfl 0) (f_var rfl 1)))) (fs_nil rfl))
 (fs_cons (fs_if (ft_cmp (cr_eq rfl hr.units) (fe_blt (br_len rfl) T.z_len (fa_cons (f_var rfl 0) (fa_nil rfl))) (f_int rfl)) (fs_one (fs_ret (f_add (f_mul (f_int rfl) (f_var rfl 1)) (f_int rfl)))) (fs_nil rfl))
 (fs_one (fs_ret (f_add (f_add (f_mul (fe_ix (f_var rfl 0) (f_mod (fe_bltT br_int T.z_int (fa_cons (f_var rfl 1) (fa_nil rfl))) (fe_blt (br_len rfl) T.z_len (fa_cons (f_var rfl 0) (fa_nil rfl))))) (f_int rfl)) (f_mul (f_int rfl) (f_var rfl 1))) (f_int rfl))))))
theorem sc__law_row : FnScope ["script", "k", "sizes", "cell", "row", "rest", "size", "at", "first", "second"] ["script", "k", "sizes"] (defScope s__law_row) := ⟨rfl, rfl, rfl, by decide +kernel, rfl, by decide +kernel, by decide +kernel⟩
theorem ok__law_row (T : Fx K mg fa fd ec fi di) : FnOk P w K mg base (L2N.CX P w) 2 (fa 31) (fd 31) ["script", "k", "sizes"] (spM (gg K ec) 3 m__law_row) := by
  refine id (fn_ok (g := gg K ec) T.F__law_row sc__law_row (fun cdv A outer s H E hr => ?_))
  exact (fs_cons (fs_set (i := 3) sc__law_row.nd (fe_call (ok__law_cell T) (hr.mono (by decide)) T.g__law_cell T.kp__law_cell T.b__law_cell (L2N.takes_of rfl rfl rfl rfl) (fa_cons (f_var rfl 0) (fa_cons (f_var rfl 1) (fa_nil rfl))) (na_cons (na_cons na_nil))))
 (fs_cons (fs_set (i := 4) sc__law_row.nd (fe_lst (fa_nil rfl)))
 (fs_cons (fs_if (ft_cmp cr_ge (f_var rfl 3) (f_pow (f_int rfl) (f_int rfl))) (fs_cons (fs_set (i := 5) sc__law_row.nd (f_sub (f_var rfl 3) (f_pow (f_int rfl) (f_int rfl))))
 (fs_cons (fs_for (passes_of rfl) rfl (fi_any (f_var rfl 2)) (fg_name rfl sc__law_row.nd) (fs_cons (fs_expr (fe_meth mr_append (f_var rfl 4) (fa_cons (f_mod (fe_bltT br_int T.z_int (fa_cons (f_var rfl 5) (fa_nil rfl))) (f_var rfl 6)) (fa_nil rfl))))
 (fs_one (fs_set (i := 5) sc__law_row.nd (f_div (f_var rfl 5) (f_var rfl 6))))))
 (fs_one (fs_ret (f_var rfl 4))))) (fs_nil rfl))
 (fs_cons (fs_for (passes_of rfl) rfl (fi_range1 T.z_range (fa_cons (fe_blt (br_len rfl) T.z_len (fa_cons (f_var rfl 2) (fa_nil rfl))) (fa_nil rfl))) (fg_name rfl sc__law_row.nd) (fs_cons (fs_set (i := 8) sc__law_row.nd (f_mod (fe_bltT br_int T.z_int (fa_cons (f_add (f_add (f_mul (f_var rfl 3) (f_int rfl)) (f_mul (f_add (f_mul (f_int rfl) (f_var rfl 1)) (f_var rfl 7)) (f_int rfl))) (f_int rfl)) (fa_nil rfl))) (f_int rfl)))
 (fs_cons (fs_set (i := 9) sc__law_row.nd (f_mod (fe_bltT br_int T.z_int (fa_cons (f_add (f_add (f_mul (f_var rfl 8) (f_int rfl)) (f_div (f_var rfl 8) (f_int rfl))) (f_mul (f_var rfl 7) (f_int rfl))) (fa_nil rfl))) (f_int rfl)))
 (fs_one (fs_expr (fe_meth mr_append (f_var rfl 4) (fa_cons (f_mod (fe_bltT br_int T.z_int (fa_cons (f_div (f_var rfl 9) (f_int rfl)) (fa_nil rfl))) (fe_ix (f_var rfl 2) (f_var rfl 7))) (fa_nil rfl))))))))
 (fs_one (fs_ret (f_var rfl 4)))))))
theorem sc__law_wire : FnScope ["script", "row"] ["script"] (defScope s__law_wire) := ⟨rfl, rfl, rfl, by decide +kernel, rfl, by decide +kernel, by decide +kernel⟩
theorem ok__law_wire (T : Fx K mg fa fd ec fi di) : FnOk P w K mg base (L2N.CX P w) 3 (fa 32) (fd 32) ["script"] (spM (gg K ec) 1 m__law_wire) := by
  refine fn_gc (fn_ok (g := gg K ec) T.F__law_wire sc__law_wire (fun cdv A outer s H E hr => ?_))
  exact (fs_cons (fs_set (i := 1) sc__law_wire.nd (fe_call (ok__law_row T) (hr.mono (by decide)) T.g__law_row T.kp__law_row T.b__law_row (L2N.takes_of rfl rfl rfl rfl) (fa_cons (f_var rfl 0) (fa_cons (f_int rfl) (fa_cons (fe_lst (fa_cons (f_int rfl) (fa_cons (f_int rfl) (fa_cons (f_int rfl) (fa_cons (f_int rfl) (fa_cons (f_int rfl) (fa_cons (f_int rfl) (fa_cons (f_int rfl) (fa_nil rfl))))))))) (fa_nil rfl)))) (na_cons (na_cons (na_cons na_nil)))))
 (fs_cons (fs_if (ft_cmp cr_lt (fe_ix (f_var rfl 1) (f_int rfl)) (f_int rfl)) (fs_one (fs_ret (fe_tup (fa_cons (fe_ix (f_var rfl 1) (f_int rfl)) (fa_cons (fe_ix (f_var rfl 1) (f_int rfl)) (fa_cons (fe_ix (f_var rfl 1) (f_int rfl)) (fa_cons (fe_ix (f_var rfl 1) (f_int rfl)) (fa_nil rfl)))))))) (fs_nil rfl))
 (fs_one (fs_ret (fe_tup (fa_cons (fe_ix (f_var rfl 1) (f_int rfl)) (fa_cons (fe_ix (f_var rfl 1) (f_int rfl)) (fa_cons (f_mod (fe_bltT br_int T.z_int (fa_cons (fe_ix (f_var rfl 1) (f_int rfl)) (fa_nil rfl))) (f_int rfl)) (fa_cons (f_mod (fe_bltT br_int T.z_int (fa_cons (fe_ix (f_var rfl 1) (f_int rfl)) (fa_nil rfl))) (f_int rfl)) (fa_nil rfl))))))))))
theorem sc__law_plan : FnScope ["script", "wire", "row", "count", "tries", "at", "room", "step", "last", "until"] ["script", "wire"] (defScope s__law_plan) := ⟨rfl, rfl, rfl, by decide +kernel, rfl, by decide +kernel, by decide +kernel⟩
theorem ok__law_plan (T : Fx K mg fa fd ec fi di) : FnOk P w K mg base (L2N.CX P w) 3 (fa 33) (fd 33) ["script", "wire"] (spM (gg K ec) 2 m__law_plan) := by
  refine fn_gc (fn_ok (g := gg K ec) T.F__law_plan sc__law_plan (fun cdv A outer s H E hr => ?_))
  exact (fs_cons (fs_set (i := 2) sc__law_plan.nd (fe_call (ok__law_row T) (hr.mono (by decide)) T.g__law_row T.kp__law_row T.b__law_row (L2N.takes_of rfl rfl rfl rfl) (fa_cons (f_var rfl 0) (fa_cons (f_int rfl) (fa_cons (fe_lst (fa_cons (f_int rfl) (fa_cons (f_int rfl) (fa_cons (f_int rfl) (fa_cons (f_int rfl) (fa_cons (f_int rfl) (fa_cons (f_int rfl) (fa_cons (f_int rfl) (fa_cons (f_int rfl) (fa_cons (f_int rfl) (fa_cons (f_int rfl) (fa_cons (f_int rfl) (fa_cons (f_int rfl) (fa_cons (f_int rfl) (fa_nil rfl))))))))))))))) (fa_nil rfl)))) (na_cons (na_cons (na_cons na_nil)))))
 (fs_cons (fs_set (i := 3) sc__law_plan.nd (f_add (f_int rfl) (fe_ix (f_var rfl 2) (f_int rfl))))
 (fs_cons (fs_set (i := 4) sc__law_plan.nd (fe_lst (fa_cons (f_int rfl) (fa_nil rfl))))
 (fs_cons (fs_for (passes_of rfl) rfl (fi_range2 T.z_range (fa_cons (f_int rfl) (fa_cons (f_var rfl 3) (fa_nil rfl)))) (fg_name rfl sc__law_plan.nd) (fs_cons (fs_set (i := 6) sc__law_plan.nd (f_sub (f_sub (f_int rfl) (f_sub (f_sub (f_var rfl 3) (f_int rfl)) (f_var rfl 5))) (fe_ix (f_var rfl 4) (f_sub (f_var rfl 5) (f_int rfl)))))
 (fs_cons (fs_set (i := 7) sc__law_plan.nd (f_mod (fe_bltT br_int T.z_int (fa_cons (fe_ix (f_var rfl 2) (f_add (f_int rfl) (f_var rfl 5))) (fa_nil rfl))) (f_var rfl 6)))
 (fs_cons (fs_if (ft_cmp (cr_eq rfl hr.units) (fe_ix (f_var rfl 2) (f_int rfl)) (f_int rfl)) (fs_one (fs_set (i := 7) sc__law_plan.nd (f_mod (fe_bltT br_int T.z_int (fa_cons (fe_ix (f_var rfl 2) (f_add (f_int rfl) (f_var rfl 5))) (fa_nil rfl))) (fe_blt (br_min2 rfl) T.z_min (fa_cons (f_int rfl) (fa_cons (f_var rfl 6) (fa_nil rfl))))))) (fs_nil rfl))
 (fs_cons (fs_if (ft_cmp (cr_eq rfl hr.units) (fe_ix (f_var rfl 2) (f_int rfl)) (f_int rfl)) (fs_one (fs_set (i := 7) sc__law_plan.nd (f_mod (fe_bltT br_int T.z_int (fa_cons (fe_ix (f_var rfl 2) (f_add (f_int rfl) (f_var rfl 5))) (fa_nil rfl))) (fe_blt (br_min2 rfl) T.z_min (fa_cons (f_int rfl) (fa_cons (f_var rfl 6) (fa_nil rfl))))))) (fs_nil rfl))
 (fs_one (fs_expr (fe_meth mr_append (f_var rfl 4) (fa_cons (f_add (f_add (fe_ix (f_var rfl 4) (f_sub (f_var rfl 5) (f_int rfl))) (f_int rfl)) (f_var rfl 7)) (fa_nil rfl))))))))))
 (fs_cons (fs_set (i := 8) sc__law_plan.nd (fe_ix (f_var rfl 4) (f_sub (f_var rfl 3) (f_int rfl))))
 (fs_cons (fs_set (i := 9) sc__law_plan.nd (f_add (f_var rfl 8) (f_mod (fe_bltT br_int T.z_int (fa_cons (fe_ix (f_var rfl 2) (f_int rfl)) (fa_nil rfl))) (f_sub (f_int rfl) (f_var rfl 8)))))
 (fs_cons (fs_if (ft_cmp cr_gt (fe_ix (f_var rfl 2) (f_int rfl)) (f_int rfl)) (fs_cons (fs_set (i := 9) sc__law_plan.nd (f_sub (f_add (f_add (f_add (fe_ix (f_var rfl 4) (f_mod (fe_bltT br_int T.z_int (fa_cons (fe_ix (f_var rfl 2) (f_int rfl)) (fa_nil rfl))) (f_var rfl 3))) (fe_ix (f_var rfl 1) (f_int rfl))) (fe_ix (f_var rfl 1) (f_int rfl))) (fe_ix (f_var rfl 2) (f_int rfl))) (f_int rfl)))
 (fs_cons (fs_if (ft_cmp cr_lt (f_var rfl 9) (f_var rfl 8)) (fs_one (fs_set (i := 9) sc__law_plan.nd (f_var rfl 8))) (fs_nil rfl))
 (fs_one (fs_if (ft_cmp cr_gt (f_var rfl 9) (f_int rfl)) (fs_one (fs_set (i := 9) sc__law_plan.nd (f_int rfl))) (fs_nil rfl))))) (fs_nil rfl))
 (fs_one (fs_ret (fe_tup (fa_cons (fe_bltT (br_tup rfl) T.z_tuple (fa_cons (f_var rfl 4) (fa_nil rfl))) (fa_cons (f_var rfl 9) (fa_nil rfl)))))))))))))
theorem sc__law_memory : FnScope ["script", "wire", "plan", "row", "keep"] ["script", "wire", "plan"] (defScope s__law_memory) := ⟨rfl, rfl, rfl, by decide +kernel, rfl, by decide +kernel, by decide +kernel⟩
theorem ok__law_memory (T : Fx K mg fa fd ec fi di) : FnOk P w K mg base (L2N.CX P w) 3 (fa 34) (fd 34) ["script", "wire", "plan"] (spM (gg K ec) 3 m__law_memory) := by
  refine fn_gc (fn_ok (g := gg K ec) T.F__law_memory sc__law_memory (fun cdv A outer s H E hr => ?_))
  exact (fs_cons (fs_set (i := 3) sc__law_memory.nd (fe_call (ok__law_row T) (hr.mono (by decide)) T.g__law_row T.kp__law_row T.b__law_row (L2N.takes_of rfl rfl rfl rfl) (fa_cons (f_var rfl 0) (fa_cons (f_int rfl) (fa_cons (fe_lst (fa_cons (f_int rfl) (fa_cons (f_int rfl) (fa_cons (f_int rfl) (fa_cons (f_int rfl) (fa_cons (f_int rfl) (fa_cons (f_int rfl) (fa_cons (f_int rfl) (fa_nil rfl))))))))) (fa_nil rfl)))) (na_cons (na_cons (na_cons na_nil)))))
 (fs_cons (fs_set (i := 4) sc__law_memory.nd (fe_ix (f_var rfl 3) (f_int rfl)))
 (fs_cons (fs_if (ft_cmp cr_gt (fe_ix (f_var rfl 3) (f_int rfl)) (f_int rfl)) (fs_cons (fs_set (i := 4) sc__law_memory.nd (f_sub (f_add (f_add (fe_ix (fe_ix (f_var rfl 2) (f_int rfl)) (f_mod (fe_bltT br_int T.z_int (fa_cons (fe_ix (f_var rfl 3) (f_int rfl)) (fa_nil rfl))) (fe_blt (br_len rfl) T.z_len (fa_cons (fe_ix (f_var rfl 2) (f_int rfl)) (fa_nil rfl))))) (fe_ix (f_var rfl 1) (f_int rfl))) (fe_ix (f_var rfl 3) (f_int rfl))) (f_int rfl)))
 (fs_cons (fs_if (ft_w (fw_and (ft_cmp (cr_eq rfl hr.units) (fe_ix (f_var rfl 3) (f_int rfl)) (f_int rfl)) (fw_and1 (ft_cmp (cr_eq rfl hr.units) (fe_ix (f_var rfl 3) (f_int rfl)) (f_int rfl))))) (fs_one (fs_set (i := 4) sc__law_memory.nd (f_sub (f_add (f_add (fe_ix (f_var rfl 1) (f_int rfl)) (fe_ix (f_var rfl 1) (f_int rfl))) (fe_ix (f_var rfl 3) (f_int rfl))) (f_int rfl)))) (fs_nil rfl))
 (fs_one (fs_if (ft_cmp cr_lt (f_var rfl 4) (f_int rfl)) (fs_one (fs_set (i := 4) sc__law_memory.nd (f_int rfl))) (fs_nil rfl))))) (fs_nil rfl))
 (fs_one (fs_ret (fe_tup (fa_cons (f_var rfl 4) (fa_cons (fe_cmp (cr_eq rfl hr.units) (fe_ix (f_var rfl 3) (f_int rfl)) (f_int rfl)) (fa_cons (fe_ix (f_var rfl 3) (f_int rfl)) (fa_nil rfl))))))))))
theorem sc__law_fate : FnScope ["row", "most", "losses", "extras", "copies", "offsets", "at", "offset"] ["row", "most", "losses", "extras"] (defScope s__law_fate) := ⟨rfl, rfl, rfl, by decide +kernel, rfl, by decide +kernel, by decide +kernel⟩
theorem ok__law_fate (T : Fx K mg fa fd ec fi di) : FnOk P w K mg base (L2N.CX P w) 1 (fa 35) (fd 35) ["row", "most", "losses", "extras"] (spM (gg K ec) 4 m__law_fate) := by
  refine fn_gc (fn_ok (g := gg K ec) T.F__law_fate sc__law_fate (fun cdv A outer s H E hr => ?_))
  exact (fs_cons (fs_if (ft_w (fw_and (ft_cmp cr_lt (fe_ix (f_var rfl 0) (f_int rfl)) (f_int rfl)) (fw_and1 (ft_cmp cr_gt (f_var rfl 2) (f_int rfl))))) (fs_one (fs_ret (fe_tup (fa_nil rfl)))) (fs_nil rfl))
 (fs_cons (fs_set (i := 4) sc__law_fate.nd (f_int rfl))
 (fs_cons (fs_if (ft_w (fw_or (ft_cmp (cr_eq rfl hr.units) (fe_ix (f_var rfl 0) (f_int rfl)) (f_int rfl)) (fw_or1 (ft_cmp (cr_eq rfl hr.units) (fe_ix (f_var rfl 0) (f_int rfl)) (f_int rfl))))) (fs_one (fs_set (i := 4) sc__law_fate.nd (f_add (f_int rfl) (fe_blt (br_min2 rfl) T.z_min (fa_cons (fe_bltT br_int T.z_int (fa_cons (f_var rfl 3) (fa_nil rfl))) (fa_cons (f_add (f_int rfl) (fe_bltT br_int T.z_int (fa_cons (fe_ix (f_var rfl 0) (f_int rfl)) (fa_nil rfl)))) (fa_nil rfl))))))) (fs_nil rfl))
 (fs_cons (fs_set (i := 5) sc__law_fate.nd (fe_lst (fa_nil rfl)))
 (fs_cons (fs_for (passes_of rfl) rfl (fi_range1 T.z_range (fa_cons (f_var rfl 4) (fa_nil rfl))) (fg_name rfl sc__law_fate.nd) (fs_cons (fs_set (i := 7) sc__law_fate.nd (f_mod (fe_bltT br_int T.z_int (fa_cons (fe_ix (f_var rfl 0) (f_add (f_int rfl) (f_var rfl 6))) (fa_nil rfl))) (f_add (f_var rfl 1) (f_int rfl))))
 (fs_cons (fs_if (ft_cmp (cr_eq rfl hr.units) (fe_ix (f_var rfl 0) (f_int rfl)) (f_int rfl)) (fs_one (fs_set (i := 7) sc__law_fate.nd (f_int rfl))) (fs_nil rfl))
 (fs_cons (fs_if (ft_cmp (cr_eq rfl hr.units) (fe_ix (f_var rfl 0) (f_int rfl)) (f_int rfl)) (fs_one (fs_set (i := 7) sc__law_fate.nd (f_var rfl 1))) (fs_nil rfl))
 (fs_one (fs_expr (fe_meth mr_append (f_var rfl 5) (fa_cons (f_var rfl 7) (fa_nil rfl)))))))))
 (fs_one (fs_ret (fe_bltT (br_tup rfl) T.z_tuple (fa_cons (fe_blt (br_sorted rfl) T.z_sorted (fa_cons (fe_lc (own := [("offset", 7)]) rfl sc__law_fate.nd (fi_any (f_var rfl 5)) (blkOk_by (own := [("offset", 7)]) (N := ["row", "most", "losses", "extras", "copies", "offsets", "at", "offset"]) (sc := defScope s__law_fate) (by decide +kernel)) (fun _ _ _ _ _ => (fg_name rfl sc__law_fate.nd)) (by decide) (fun _ _ _ _ _ => fts_nil) (fun _ _ _ _ _ => (fe_bltT br_int T.z_int (fa_cons (f_var rfl 7) (fa_nil rfl))))) (fa_nil rfl))) (fa_nil rfl))))))))))
theorem sc__law_run : FnScope ["script", "wire", "plan", "crashes", "counts", "sizes", "losses", "extras", "fates", "side", "many", "k", "fate", "ticks", "row", "tick"] ["script", "wire", "plan", "crashes"] (defScope s__law_run) := ⟨rfl, rfl, rfl, by decide +kernel, rfl, by decide +kernel, by decide +kernel⟩
theorem ok__law_run (T : Fx K mg fa fd ec fi di) : FnOk P w K mg base (L2N.CX P w) 3 (fa 36) (fd 36) ["script", "wire", "plan", "crashes"] (spM (gg K ec) 4 m__law_run) := by
  refine fn_gc (fn_ok (g := gg K ec) T.F__law_run sc__law_run (fun cdv A outer s H E hr => ?_))
  exact (fs_cons (fs_set (i := 4) sc__law_run.nd (fe_call (ok__law_row T) (hr.mono (by decide)) T.g__law_row T.kp__law_row T.b__law_row (L2N.takes_of rfl rfl rfl rfl) (fa_cons (f_var rfl 0) (fa_cons (f_int rfl) (fa_cons (fe_lst (fa_cons (f_int rfl) (fa_cons (f_int rfl) (fa_cons (f_int rfl) (fa_cons (f_int rfl) (fa_nil rfl)))))) (fa_nil rfl)))) (na_cons (na_cons (na_cons na_nil)))))
 (fs_cons (fs_set (i := 5) sc__law_run.nd (fe_lst (fa_cons (f_int rfl) (fa_cons (f_int rfl) (fa_cons (f_int rfl) (fa_cons (f_int rfl) (fa_cons (f_int rfl) (fa_cons (f_int rfl) (fa_cons (f_int rfl) (fa_cons (f_int rfl) (fa_nil rfl)))))))))))
 (fs_cons (fs_set (i := 6) sc__law_run.nd (fe_ix (f_var rfl 1) (f_int rfl)))
 (fs_cons (fs_set (i := 7) sc__law_run.nd (fe_ix (f_var rfl 1) (f_int rfl)))
 (fs_cons (fs_set (i := 8) sc__law_run.nd (fe_lst (fa_cons (fe_lst (fa_nil rfl)) (fa_cons (fe_lst (fa_nil rfl)) (fa_nil rfl)))))
 (fs_cons (fs_for (passes_of rfl) rfl (fi_range1 T.z_range (fa_cons (f_int rfl) (fa_nil rfl))) (fg_name rfl sc__law_run.nd) (fs_cons (fs_set (i := 10) sc__law_run.nd (fe_ix (f_var rfl 4) (f_var rfl 9)))
 (fs_cons (fs_if (ft_w (fw_and (ft_cmp (cr_eq rfl hr.units) (f_var rfl 9) (f_int rfl)) (fw_and1 (ft_cmp cr_gt (f_var rfl 10) (fe_blt (br_len rfl) T.z_len (fa_cons (fe_ix (f_var rfl 2) (f_int rfl)) (fa_nil rfl))))))) (fs_one (fs_set (i := 10) sc__law_run.nd (fe_blt (br_len rfl) T.z_len (fa_cons (fe_ix (f_var rfl 2) (f_int rfl)) (fa_nil rfl))))) (fs_nil rfl))
 (fs_one (fs_for (passes_of rfl) rfl (fi_range1 T.z_range (fa_cons (f_var rfl 10) (fa_nil rfl))) (fg_name rfl sc__law_run.nd) (fs_cons (fs_set (i := 12) sc__law_run.nd (fe_call (ok__law_fate T) (hr.mono (by decide)) T.g__law_fate T.kp__law_fate T.b__law_fate (L2N.takes_of rfl rfl rfl rfl) (fa_cons (fe_call (ok__law_row T) (hr.mono (by decide)) T.g__law_row T.kp__law_row T.b__law_row (L2N.takes_of rfl rfl rfl rfl) (fa_cons (f_var rfl 0) (fa_cons (f_add (f_add (f_int rfl) (f_mul (f_int rfl) (f_var rfl 9))) (f_var rfl 11)) (fa_cons (f_var rfl 5) (fa_nil rfl)))) (na_cons (na_cons (na_cons na_nil)))) (fa_cons (fe_ix (f_var rfl 1) (f_var rfl 9)) (fa_cons (f_var rfl 6) (fa_cons (f_var rfl 7) (fa_nil rfl))))) (na_cons (na_cons (na_cons (na_cons na_nil))))))
 (fs_cons (fs_if (ft_cmp (cr_eq rfl hr.units) (fe_blt (br_len rfl) T.z_len (fa_cons (f_var rfl 12) (fa_nil rfl))) (f_int rfl)) (fs_one (fs_set (i := 6) sc__law_run.nd (f_sub (f_var rfl 6) (f_int rfl)))) (fs_one (fs_set (i := 7) sc__law_run.nd (f_sub (f_add (f_var rfl 7) (f_int rfl)) (fe_blt (br_len rfl) T.z_len (fa_cons (f_var rfl 12) (fa_nil rfl)))))))
 (fs_one (fs_expr (fe_meth mr_append (fe_ix (f_var rfl 8) (f_var rfl 9)) (fa_cons (f_var rfl 12) (fa_nil rfl))))))))))))
 (fs_cons (fs_set (i := 13) sc__law_run.nd (fe_lst (fa_nil rfl)))
 (fs_cons (fs_set (i := 14) sc__law_run.nd (fe_call (ok__law_row T) (hr.mono (by decide)) T.g__law_row T.kp__law_row T.b__law_row (L2N.takes_of rfl rfl rfl rfl) (fa_cons (f_var rfl 0) (fa_cons (f_int rfl) (fa_cons (fe_lst (fa_cons (f_int rfl) (fa_cons (f_int rfl) (fa_cons (f_int rfl) (fa_nil rfl))))) (fa_nil rfl)))) (na_cons (na_cons (na_cons na_nil)))))
 (fs_cons (fs_for (passes_of rfl) rfl (fi_range1 T.z_range (fa_cons (f_mod (fe_bltT br_int T.z_int (fa_cons (fe_ix (f_var rfl 4) (f_int rfl)) (fa_nil rfl))) (f_add (f_var rfl 3) (f_int rfl))) (fa_nil rfl))) (fg_name rfl sc__law_run.nd) (fs_cons (fs_set (i := 15) sc__law_run.nd (fe_ix (f_var rfl 14) (f_var rfl 11)))
 (fs_cons (fs_if (ft_cmp (cr_eq rfl hr.units) (fe_ix (f_var rfl 4) (f_int rfl)) (f_int rfl)) (fs_one (fs_set (i := 15) sc__law_run.nd (f_mod (fe_bltT br_int T.z_int (fa_cons (f_var rfl 15) (fa_nil rfl))) (f_int rfl)))) (fs_nil rfl))
 (fs_one (fs_if (ft_cmp (cr_notIn rfl) (f_var rfl 15) (f_var rfl 13)) (fs_one (fs_expr (fe_meth mr_append (f_var rfl 13) (fa_cons (f_var rfl 15) (fa_nil rfl))))) (fs_nil rfl))))))
 (fs_one (fs_ret (fe_tup (fa_cons (fe_bltT (br_tup rfl) T.z_tuple (fa_cons (fe_ix (f_var rfl 8) (f_int rfl)) (fa_nil rfl))) (fa_cons (fe_bltT (br_tup rfl) T.z_tuple (fa_cons (fe_ix (f_var rfl 8) (f_int rfl)) (fa_nil rfl))) (fa_cons (fe_bltT (br_tup rfl) T.z_tuple (fa_cons (fe_blt (br_sorted rfl) T.z_sorted (fa_cons (fe_lc (own := [("tick", 15)]) rfl sc__law_run.nd (fi_any (f_var rfl 13)) (blkOk_by (own := [("tick", 15)]) (N := ["script", "wire", "plan", "crashes", "counts", "sizes", "losses", "extras", "fates", "side", "many", "k", "fate", "ticks", "row", "tick"]) (sc := defScope s__law_run) (by decide +kernel)) (fun _ _ _ _ _ => (fg_name rfl sc__law_run.nd)) (by decide) (fun _ _ _ _ _ => fts_nil) (fun _ _ _ _ _ => (fe_bltT br_int T.z_int (fa_cons (f_var rfl 15) (fa_nil rfl))))) (fa_nil rfl))) (fa_nil rfl))) (fa_nil rfl))))))))))))))))
theorem sc__law_fate_at : FnScope ["fates", "at"] ["fates", "at"] (defScope s__law_fate_at) := ⟨rfl, rfl, rfl, by decide +kernel, rfl, by decide +kernel, by decide +kernel⟩
theorem ok__law_fate_at (T : Fx K mg fa fd ec fi di) : FnOk P w K mg base (L2N.CX P w) 1 (fa 37) (fd 37) ["fates", "at"] (spM (gg K ec) 2 m__law_fate_at) := by
  refine fn_gc (fn_ok (g := gg K ec) T.F__law_fate_at sc__law_fate_at (fun cdv A outer s H E hr => ?_))
  exact (fs_cons (fs_if (ft_cmp cr_lt (f_var rfl 1) (fe_blt (br_len rfl) T.z_len (fa_cons (f_var rfl 0) (fa_nil rfl)))) (fs_one (fs_ret (fe_ix (f_var rfl 0) (f_var rfl 1)))) (fs_nil rfl))
 (fs_one (fs_ret (fe_tup (fa_cons (f_int rfl) (fa_nil rfl))))))
theorem sc__law_play : FnScope ["wire", "plan", "memory", "run", "log", "arriving", "hearing", "done", "heard", "told", "end", "tick", "at", "offset", "row", "word"] ["wire", "plan", "memory", "run"] (defScope s__law_play) := ⟨rfl, rfl, rfl, by decide +kernel, rfl, by decide +kernel, by decide +kernel⟩
theorem ok__law_play (T : Fx K mg fa fd ec fi di) : FnOk P w K mg base (L2N.CX P w) 2 (fa 38) (fd 38) ["wire", "plan", "memory", "run"] (spM (gg K ec) 4 m__law_play) := by
  refine fn_gc (fn_ok (g := gg K ec) T.F__law_play sc__law_play (fun cdv A outer s H E hr => ?_))
  exact (fs_cons (fs_set (i := 4) sc__law_play.nd (fe_lst (fa_nil rfl)))
 (fs_cons (fs_set (i := 5) sc__law_play.nd (fe_lst (fa_nil rfl)))
 (fs_cons (fs_set (i := 6) sc__law_play.nd (fe_lst (fa_nil rfl)))
 (fs_cons (fs_set (i := 7) sc__law_play.nd (f_non rfl))
 (fs_cons (fs_set (i := 8) sc__law_play.nd (f_bl rfl))
 (fs_cons (fs_set (i := 9) sc__law_play.nd (f_int rfl))
 (fs_cons (fs_set (i := 10) sc__law_play.nd (f_add (f_int rfl) (fe_blt (br_max2 rfl) T.z_max (fa_cons (fe_bltT br_int T.z_int (fa_cons (fe_ix (f_var rfl 1) (f_int rfl)) (fa_nil rfl))) (fa_cons (f_add (f_add (fe_bltT br_int T.z_int (fa_cons (fe_ix (fe_ix (f_var rfl 1) (f_int rfl)) (f_sub (fe_blt (br_len rfl) T.z_len (fa_cons (fe_ix (f_var rfl 1) (f_int rfl)) (fa_nil rfl))) (f_int rfl))) (fa_nil rfl))) (fe_ix (f_var rfl 0) (f_int rfl))) (fe_ix (f_var rfl 0) (f_int rfl))) (fa_nil rfl))))))
 (fs_cons (fs_for (passes_of rfl) rfl (fi_range1 T.z_range (fa_cons (f_var rfl 10) (fa_nil rfl))) (fg_name rfl sc__law_play.nd) (fs_cons (fs_if (ft_cmp (cr_in rfl) (f_var rfl 11) (fe_ix (f_var rfl 3) (f_int rfl))) (fs_cons (fs_expr (fe_meth mr_append (f_var rfl 4) (fa_cons (fe_tup (fa_cons (f_var rfl 11) (fa_cons (f_str rfl) (fa_cons (f_neg (f_int rfl)) (fa_nil rfl))))) (fa_nil rfl))))
 (fs_one (fs_if (ft_not (ft_tru (fe_ix (f_var rfl 2) (f_int rfl)))) (fs_one (fs_set (i := 7) sc__law_play.nd (f_non rfl))) (fs_nil rfl)))) (fs_nil rfl))
 (fs_cons (fs_if (ft_w (fw_and (ft_cmp (cr_in rfl) (f_var rfl 11) (fe_ix (f_var rfl 1) (f_int rfl))) (fw_and1 (ft_not (ft_tru (f_var rfl 8)))))) (fs_cons (fs_set (i := 12) sc__law_play.nd (fe_ixA (fe_ix (f_var rfl 1) (f_int rfl)) (fa_cons (f_var rfl 11) (fa_nil rfl))))
 (fs_cons (fs_expr (fe_meth mr_append (f_var rfl 4) (fa_cons (fe_tup (fa_cons (f_var rfl 11) (fa_cons (f_str rfl) (fa_cons (f_var rfl 12) (fa_nil rfl))))) (fa_nil rfl))))
 (fs_one (fs_for (passes_of rfl) rfl (fi_any (fe_call (ok__law_fate_at T) (hr.mono (by decide)) T.g__law_fate_at T.kp__law_fate_at T.b__law_fate_at (L2N.takes_of rfl rfl rfl rfl) (fa_cons (fe_ix (f_var rfl 3) (f_int rfl)) (fa_cons (f_var rfl 12) (fa_nil rfl))) (na_cons (na_cons na_nil)))) (fg_name rfl sc__law_play.nd) (fs_one (fs_expr (fe_meth mr_append (f_var rfl 5) (fa_cons (fe_tup (fa_cons (f_add (f_var rfl 11) (f_var rfl 13)) (fa_cons (f_var rfl 12) (fa_nil rfl)))) (fa_nil rfl))))))))) (fs_nil rfl))
 (fs_cons (fs_for (passes_of rfl) rfl (fi_any (f_var rfl 5)) (fg_name rfl sc__law_play.nd) (fs_one (fs_if (ft_cmp (cr_eq rfl hr.units) (fe_ix (f_var rfl 14) (f_int rfl)) (f_var rfl 11)) (fs_cons (fs_expr (fe_meth mr_append (f_var rfl 4) (fa_cons (fe_tup (fa_cons (f_var rfl 11) (fa_cons (f_str rfl) (fa_cons (fe_ix (f_var rfl 14) (f_int rfl)) (fa_nil rfl))))) (fa_nil rfl))))
 (fs_cons (fs_set (i := 15) sc__law_play.nd (f_str rfl))
 (fs_cons (fs_if (ft_w (fw_or (ft_cmp cr_isN (f_var rfl 7) (f_non rfl)) (fw_or1 (ft_cmp cr_gt (f_sub (f_var rfl 11) (f_var rfl 7)) (fe_ix (f_var rfl 2) (f_int rfl)))))) (fs_cons (fs_set (i := 15) sc__law_play.nd (f_str rfl))
 (fs_one (fs_set (i := 7) sc__law_play.nd (f_var rfl 11)))) (fs_nil rfl))
 (fs_cons (fs_expr (fe_meth mr_append (f_var rfl 4) (fa_cons (fe_tup (fa_cons (f_var rfl 11) (fa_cons (f_var rfl 15) (fa_cons (f_var rfl 9) (fa_nil rfl))))) (fa_nil rfl))))
 (fs_cons (fs_for (passes_of rfl) rfl (fi_any (fe_call (ok__law_fate_at T) (hr.mono (by decide)) T.g__law_fate_at T.kp__law_fate_at T.b__law_fate_at (L2N.takes_of rfl rfl rfl rfl) (fa_cons (fe_ix (f_var rfl 3) (f_int rfl)) (fa_cons (f_var rfl 9) (fa_nil rfl))) (na_cons (na_cons na_nil)))) (fg_name rfl sc__law_play.nd) (fs_one (fs_expr (fe_meth mr_append (f_var rfl 6) (fa_cons (fe_tup (fa_cons (f_add (f_var rfl 11) (f_var rfl 13)) (fa_cons (f_var rfl 9) (fa_nil rfl)))) (fa_nil rfl))))))
 (fs_one (fs_set (i := 9) sc__law_play.nd (f_add (f_var rfl 9) (f_int rfl))))))))) (fs_nil rfl))))
 (fs_cons (fs_for (passes_of rfl) rfl (fi_any (f_var rfl 6)) (fg_name rfl sc__law_play.nd) (fs_one (fs_if (ft_w (fw_and (ft_cmp (cr_eq rfl hr.units) (fe_ix (f_var rfl 14) (f_int rfl)) (f_var rfl 11)) (fw_and (ft_not (ft_tru (f_var rfl 8))) (fw_and1 (ft_cmp cr_le (f_var rfl 11) (fe_ix (f_var rfl 1) (f_int rfl))))))) (fs_cons (fs_expr (fe_meth mr_append (f_var rfl 4) (fa_cons (fe_tup (fa_cons (f_var rfl 11) (fa_cons (f_str rfl) (fa_cons (fe_ix (f_var rfl 14) (f_int rfl)) (fa_nil rfl))))) (fa_nil rfl))))
 (fs_one (fs_set (i := 8) sc__law_play.nd (f_bl rfl)))) (fs_one (fs_if (ft_cmp (cr_eq rfl hr.units) (fe_ix (f_var rfl 14) (f_int rfl)) (f_var rfl 11)) (fs_one (fs_expr (fe_meth mr_append (f_var rfl 4) (fa_cons (fe_tup (fa_cons (f_var rfl 11) (fa_cons (f_str rfl) (fa_cons (fe_ix (f_var rfl 14) (f_int rfl)) (fa_nil rfl))))) (fa_nil rfl))))) (fs_nil rfl))))))
 (fs_one (fs_if (ft_w (fw_and (ft_cmp (cr_eq rfl hr.units) (f_var rfl 11) (fe_ix (f_var rfl 1) (f_int rfl))) (fw_and1 (ft_not (ft_tru (f_var rfl 8)))))) (fs_one (fs_expr (fe_meth mr_append (f_var rfl 4) (fa_cons (fe_tup (fa_cons (f_var rfl 11) (fa_cons (f_str rfl) (fa_cons (f_neg (f_int rfl)) (fa_nil rfl))))) (fa_nil rfl))))) (fs_nil rfl))))))))
 (fs_one (fs_ret (fe_bltT (br_tup rfl) T.z_tuple (fa_cons (f_add (f_var rfl 4) (fe_lc (own := [("tick", 11)]) rfl sc__law_play.nd (fi_any (fe_ix (f_var rfl 3) (f_int rfl))) (blkOk_by (own := [("tick", 11)]) (N := ["wire", "plan", "memory", "run", "log", "arriving", "hearing", "done", "heard", "told", "end", "tick", "at", "offset", "row", "word"]) (sc := defScope s__law_play) (by decide +kernel)) (fun _ _ _ _ _ => (fg_name rfl sc__law_play.nd)) (by decide) (fun _ _ _ _ _ => (fts_one (ft_cmp cr_ge (f_var rfl 11) (f_var rfl 10)))) (fun _ _ _ _ _ => (fe_tup (fa_cons (f_var rfl 11) (fa_cons (f_str rfl) (fa_cons (f_neg (f_int rfl)) (fa_nil rfl)))))))) (fa_nil rfl)))))))))))))
theorem sc__law_same : FnScope ["actual", "due", "at"] ["actual", "due"] (defScope s__law_same) := ⟨rfl, rfl, rfl, by decide +kernel, rfl, by decide +kernel, by decide +kernel⟩
theorem ok__law_same (T : Fx K mg fa fd ec fi di) : ∀ n, FnOk P w K mg base (L2N.CX P w) (1 + n) (fa 39) (fd 39) ["actual", "due"] (spM (gg K ec) 2 (m__law_same n))
  | 0 => fn_bad (g := gg K ec)
  | n + 1 => by
    have hF := ok__law_same T n
    refine fn_gc (fn_ok (g := gg K ec) T.F__law_same sc__law_same (fun cdv A outer s H E hr0 => ?_))
    have hr : Room 1 (A.deeper (PyProof.Rows.envOfC "_law_same" (defScope s__law_same) s.heap.objs.size (fa 39) cdv)) := hr0.mono (Nat.le_add_right _ _)
    exact (fs_cons (fs_if (ft_tru (fe_isi (T := "tuple") T.z_isinstance T.z_tuple (by decide +kernel) (f_var rfl 1))) (fs_cons (fs_if (ft_w (fw_or (ft_not (ft_tru (fe_isi (T := "tuple") T.z_isinstance T.z_tuple (by decide +kernel) (f_var rfl 0)))) (fw_or1 (ft_cmp (cr_ne rfl hr.units) (fe_blt (br_len rfl) T.z_len (fa_cons (f_var rfl 0) (fa_nil rfl))) (fe_blt (br_len rfl) T.z_len (fa_cons (f_var rfl 1) (fa_nil rfl))))))) (fs_one (fs_ret (f_bl rfl))) (fs_nil rfl))
 (fs_cons (fs_for (passes_of rfl) rfl (fi_range1 T.z_range (fa_cons (fe_blt (br_len rfl) T.z_len (fa_cons (f_var rfl 1) (fa_nil rfl))) (fa_nil rfl))) (fg_name rfl sc__law_same.nd) (fs_one (fs_if (ft_not (ft_tru (fe_call hF hr0 T.g__law_same T.kp__law_same T.b__law_same (L2N.takes_of rfl rfl rfl rfl) (fa_cons (fe_ix (f_var rfl 0) (f_var rfl 2)) (fa_cons (fe_ix (f_var rfl 1) (f_var rfl 2)) (fa_nil rfl))) (na_cons (na_cons na_nil))))) (fs_one (fs_ret (f_bl rfl))) (fs_nil rfl))))
 (fs_one (fs_ret (f_bl rfl))))) (fs_nil rfl))
 (fs_cons (fs_if (ft_cmp cr_isN (f_var rfl 1) (f_non rfl)) (fs_one (fs_ret (fe_cmp cr_isN (f_var rfl 0) (f_non rfl)))) (fs_nil rfl))
 (fs_cons (fs_if (ft_tru (fe_isi (T := "bool") T.z_isinstance T.z_bool (by decide +kernel) (f_var rfl 1))) (fs_one (fs_ret (fe_and (fe_isi (T := "bool") T.z_isinstance T.z_bool (by decide +kernel) (f_var rfl 0)) (fe_one (fe_cmp (cr_eq rfl hr.units) (f_var rfl 0) (f_var rfl 1)))))) (fs_nil rfl))
 (fs_cons (fs_if (ft_tru (fe_isi (T := "int") T.z_isinstance T.z_int (by decide +kernel) (f_var rfl 1))) (fs_one (fs_ret (fe_and (fe_isi (T := "int") T.z_isinstance T.z_int (by decide +kernel) (f_var rfl 0)) (fe_and (fe_not (fe_isi (T := "bool") T.z_isinstance T.z_bool (by decide +kernel) (f_var rfl 0))) (fe_one (fe_cmp (cr_eq rfl hr.units) (f_var rfl 0) (f_var rfl 1))))))) (fs_nil rfl))
 (fs_one (fs_ret (fe_and (fe_isi (T := "str") T.z_isinstance T.z_str (by decide +kernel) (f_var rfl 0)) (fe_one (fe_cmp (cr_eq rfl hr.units) (f_var rfl 0) (f_var rfl 1))))))))))
theorem sc__law_is_right : FnScope ["wire", "plan", "memory", "run", "due", "log", "hears", "answer", "ticks", "gap", "row"] ["wire", "plan", "memory", "run"] (defScope s__law_is_right) := ⟨rfl, rfl, rfl, by decide +kernel, rfl, by decide +kernel, by decide +kernel⟩
theorem ok__law_is_right (T : Fx K mg fa fd ec fi di) : FnOk P w K mg base (L2N.CX P w) 8 (fa 40) (fd 40) ["wire", "plan", "memory", "run"] (spM (gg K ec) 4 m__law_is_right) := by
  refine fn_gc (fn_ok (g := gg K ec) T.F__law_is_right sc__law_is_right (fun cdv A outer s H E hr => ?_))
  exact (fs_cons (fs_set (i := 4) sc__law_is_right.nd (fe_call (ok__law_play T) (hr.mono (by decide)) T.g__law_play T.kp__law_play T.b__law_play (L2N.takes_of rfl rfl rfl rfl) (fa_cons (f_var rfl 0) (fa_cons (f_var rfl 1) (fa_cons (f_var rfl 2) (fa_cons (f_var rfl 3) (fa_nil rfl))))) (na_cons (na_cons (na_cons (na_cons na_nil))))))
 (fs_cons (fs_set (i := 5) sc__law_is_right.nd (fe_call (ok_play_call T) (hr.mono (by decide)) T.g_play_call T.kp_play_call T.b_play_call (L2N.takes_of rfl rfl rfl rfl) (fa_cons (f_var rfl 0) (fa_cons (f_var rfl 1) (fa_cons (f_var rfl 2) (fa_cons (f_var rfl 3) (fa_nil rfl))))) (na_cons (na_cons (na_cons (na_cons na_nil))))))
 (fs_cons (fs_if (ft_not (ft_tru (fe_call (ok__law_same T 4) (hr.mono (by decide)) T.g__law_same T.kp__law_same T.b__law_same (L2N.takes_of rfl rfl rfl rfl) (fa_cons (f_var rfl 5) (fa_cons (f_var rfl 4) (fa_nil rfl))) (na_cons (na_cons na_nil))))) (fs_one (fs_ret (f_bl rfl))) (fs_nil rfl))
 (fs_cons (fs_setLc (own := [("row", 10)]) (i := 6) rfl sc__law_is_right.nd (sw_true rfl rfl rfl (by decide +kernel)) (fi_any (f_var rfl 4)) (blkOk_by (own := [("row", 10)]) (N := ["wire", "plan", "memory", "run", "due", "log", "hears", "answer", "ticks", "gap", "row"]) (sc := defScope s__law_is_right) (by decide +kernel)) (fun _ _ _ _ _ => (fg_name rfl sc__law_is_right.nd)) (by decide) (fun _ _ _ _ _ => (fts_one (ft_cmp (cr_eq rfl hr.units) (fe_ix (f_var rfl 10) (f_int rfl)) (f_str rfl)))) (fun _ _ _ _ _ => (fe_ix (f_var rfl 10) (f_int rfl))))
 (fs_cons (fs_set (i := 7) sc__law_is_right.nd (f_non rfl))
 (fs_cons (fs_if (ft_cmp cr_gt (fe_blt (br_len rfl) T.z_len (fa_cons (f_var rfl 6) (fa_nil rfl))) (f_int rfl)) (fs_one (fs_set (i := 7) sc__law_is_right.nd (fe_ix (f_var rfl 6) (f_int rfl)))) (fs_nil rfl))
 (fs_cons (fs_setLc (own := [("row", 10)]) (i := 8) rfl sc__law_is_right.nd (sw_true rfl rfl rfl (by decide +kernel)) (fi_any (f_var rfl 4)) (blkOk_by (own := [("row", 10)]) (N := ["wire", "plan", "memory", "run", "due", "log", "hears", "answer", "ticks", "gap", "row"]) (sc := defScope s__law_is_right) (by decide +kernel)) (fun _ _ _ _ _ => (fg_name rfl sc__law_is_right.nd)) (by decide) (fun _ _ _ _ _ => (fts_one (ft_cmp (cr_eq rfl hr.units) (fe_ix (f_var rfl 10) (f_int rfl)) (f_str rfl)))) (fun _ _ _ _ _ => (fe_ix (f_var rfl 10) (f_int rfl))))
 (fs_cons (fs_set (i := 9) sc__law_is_right.nd (f_int rfl))
 (fs_cons (fs_if (ft_cmp cr_gt (fe_blt (br_len rfl) T.z_len (fa_cons (f_var rfl 8) (fa_nil rfl))) (f_int rfl)) (fs_one (fs_set (i := 9) sc__law_is_right.nd (f_sub (fe_ix (f_var rfl 8) (f_sub (fe_blt (br_len rfl) T.z_len (fa_cons (f_var rfl 8) (fa_nil rfl))) (f_int rfl))) (fe_ix (f_var rfl 8) (f_int rfl))))) (fs_nil rfl))
 (fs_cons (fs_if (ft_w (fw_or (ft_not (ft_tru (fe_call (ok__law_same T 4) (hr.mono (by decide)) T.g__law_same T.kp__law_same T.b__law_same (L2N.takes_of rfl rfl rfl rfl) (fa_cons (fe_call (ok_answer_tick T) (hr.mono (by decide)) T.g_answer_tick T.kp_answer_tick T.b_answer_tick (L2N.takes_of rfl rfl rfl rfl) (fa_cons (f_var rfl 5) (fa_nil rfl)) (na_cons na_nil)) (fa_cons (f_var rfl 7) (fa_nil rfl))) (na_cons (na_cons na_nil))))) (fw_or1 (ft_not (ft_tru (fe_call (ok__law_same T 4) (hr.mono (by decide)) T.g__law_same T.kp__law_same T.b__law_same (L2N.takes_of rfl rfl rfl rfl) (fa_cons (fe_call (ok_gap_of T) (hr.mono (by decide)) T.g_gap_of T.kp_gap_of T.b_gap_of (L2N.takes_of rfl rfl rfl rfl) (fa_cons (f_var rfl 5) (fa_nil rfl)) (na_cons na_nil)) (fa_cons (f_var rfl 9) (fa_nil rfl))) (na_cons (na_cons na_nil)))))))) (fs_one (fs_ret (f_bl rfl))) (fs_nil rfl))
 (fs_cons (fs_if (ft_not (ft_tru (fe_call (ok__law_same T 4) (hr.mono (by decide)) T.g__law_same T.kp__law_same T.b__law_same (L2N.takes_of rfl rfl rfl rfl) (fa_cons (fe_call (ok_arrivals T) (hr.mono (by decide)) T.g_arrivals T.kp_arrivals T.b_arrivals (L2N.takes_of rfl rfl rfl rfl) (fa_cons (f_var rfl 5) (fa_nil rfl)) (na_cons na_nil)) (fa_cons (fe_bltT (br_tup rfl) T.z_tuple (fa_cons (f_var rfl 8) (fa_nil rfl))) (fa_nil rfl))) (na_cons (na_cons na_nil))))) (fs_one (fs_ret (f_bl rfl))) (fs_nil rfl))
 (fs_one (fs_ret (fe_call (ok__law_same T 4) (hr.mono (by decide)) T.g__law_same T.kp__law_same T.b__law_same (L2N.takes_of rfl rfl rfl rfl) (fa_cons (fe_call (ok_done_ticks T) (hr.mono (by decide)) T.g_done_ticks T.kp_done_ticks T.b_done_ticks (L2N.takes_of rfl rfl rfl rfl) (fa_cons (f_var rfl 5) (fa_nil rfl)) (na_cons na_nil)) (fa_cons (fe_gc (fe_bltT (br_tup rfl) T.z_tuple (fa_cons (fe_lc (own := [("row", 10)]) rfl sc__law_is_right.nd (fi_any (f_var rfl 4)) (blkOk_by (own := [("row", 10)]) (N := ["wire", "plan", "memory", "run", "due", "log", "hears", "answer", "ticks", "gap", "row"]) (sc := defScope s__law_is_right) (by decide +kernel)) (fun _ _ _ _ _ => (fg_name rfl sc__law_is_right.nd)) (by decide) (fun _ _ _ _ _ => (fts_one (ft_cmp (cr_eq rfl hr.units) (fe_ix (f_var rfl 10) (f_int rfl)) (f_str rfl)))) (fun _ _ _ _ _ => (fe_ix (f_var rfl 10) (f_int rfl)))) (fa_nil rfl)))) (fa_nil rfl))) (na_cons (na_cons na_nil))))))))))))))))
theorem sc_law : FnScope ["script", "wire", "plan", "memory", "run", "row", "less", "other"] ["script"] (defScope s_law) := ⟨rfl, rfl, rfl, by decide +kernel, rfl, by decide +kernel, by decide +kernel⟩
theorem ok_law (T : Fx K mg fa fd ec fi di) : FnOk P w K mg base (L2N.CX P w) 9 (fa 41) (fd 41) ["script"] (spM (gg K ec) 1 m_law) := by
  refine fn_gc (fn_ok (g := gg K ec) T.F_law sc_law (fun cdv A outer s H E hr => ?_))
  exact (fs_cons (fs_set (i := 1) sc_law.nd (fe_call (ok__law_wire T) (hr.mono (by decide)) T.g__law_wire T.kp__law_wire T.b__law_wire (L2N.takes_of rfl rfl rfl rfl) (fa_cons (f_var rfl 0) (fa_nil rfl)) (na_cons na_nil)))
 (fs_cons (fs_set (i := 2) sc_law.nd (fe_call (ok__law_plan T) (hr.mono (by decide)) T.g__law_plan T.kp__law_plan T.b__law_plan (L2N.takes_of rfl rfl rfl rfl) (fa_cons (f_var rfl 0) (fa_cons (f_var rfl 1) (fa_nil rfl))) (na_cons (na_cons na_nil))))
 (fs_cons (fs_set (i := 3) sc_law.nd (fe_call (ok__law_memory T) (hr.mono (by decide)) T.g__law_memory T.kp__law_memory T.b__law_memory (L2N.takes_of rfl rfl rfl rfl) (fa_cons (f_var rfl 0) (fa_cons (f_var rfl 1) (fa_cons (f_var rfl 2) (fa_nil rfl)))) (na_cons (na_cons (na_cons na_nil)))))
 (fs_cons (fs_set (i := 4) sc_law.nd (fe_call (ok__law_run T) (hr.mono (by decide)) T.g__law_run T.kp__law_run T.b__law_run (L2N.takes_of rfl rfl rfl rfl) (fa_cons (f_var rfl 0) (fa_cons (f_var rfl 1) (fa_cons (f_var rfl 2) (fa_cons (fe_ix (f_var rfl 3) (f_int rfl)) (fa_nil rfl))))) (na_cons (na_cons (na_cons (na_cons na_nil))))))
 (fs_cons (fs_set (i := 5) sc_law.nd (fe_call (ok__law_row T) (hr.mono (by decide)) T.g__law_row T.kp__law_row T.b__law_row (L2N.takes_of rfl rfl rfl rfl) (fa_cons (f_var rfl 0) (fa_cons (f_int rfl) (fa_cons (fe_lst (fa_cons (f_int rfl) (fa_cons (f_int rfl) (fa_cons (f_int rfl) (fa_cons (f_int rfl) (fa_nil rfl)))))) (fa_nil rfl)))) (na_cons (na_cons (na_cons na_nil)))))
 (fs_cons (fs_set (i := 6) sc_law.nd (fe_tup (fa_cons (fe_sl (fe_ix (f_var rfl 4) (f_int rfl)) fo_none (fo_some (fe_ix (f_var rfl 5) (f_int rfl)))) (fa_cons (fe_sl (fe_ix (f_var rfl 4) (f_int rfl)) fo_none (fo_some (fe_ix (f_var rfl 5) (f_int rfl)))) (fa_cons (fe_sl (fe_ix (f_var rfl 4) (f_int rfl)) fo_none (fo_some (fe_ix (f_var rfl 5) (f_int rfl)))) (fa_nil rfl))))))
 (fs_cons (fs_set (i := 7) sc_law.nd (fe_tup (fa_cons (fe_ix (f_var rfl 3) (f_int rfl)) (fa_cons (fe_not (fe_ix (f_var rfl 3) (f_int rfl))) (fa_cons (fe_ix (f_var rfl 3) (f_int rfl)) (fa_nil rfl))))))
 (fs_cons (fs_if (ft_w (fw_and (ft_cmp (cr_eq rfl hr.units) (fe_ix (f_var rfl 5) (f_int rfl)) (f_int rfl)) (fw_and1 (ft_cmp cr_lt (fe_ix (f_var rfl 3) (f_int rfl)) (f_int rfl))))) (fs_one (fs_set (i := 7) sc_law.nd (fe_tup (fa_cons (f_add (fe_ix (f_var rfl 3) (f_int rfl)) (f_int rfl)) (fa_cons (fe_ix (f_var rfl 3) (f_int rfl)) (fa_cons (fe_ix (f_var rfl 3) (f_int rfl)) (fa_nil rfl))))))) (fs_nil rfl))
 (fs_cons (fs_if (ft_w (fw_and (ft_cmp (cr_eq rfl hr.units) (fe_ix (f_var rfl 5) (f_int rfl)) (f_int rfl)) (fw_and1 (ft_cmp cr_gt (fe_ix (f_var rfl 3) (f_int rfl)) (f_int rfl))))) (fs_one (fs_set (i := 7) sc_law.nd (fe_tup (fa_cons (f_sub (fe_ix (f_var rfl 3) (f_int rfl)) (f_int rfl)) (fa_cons (fe_ix (f_var rfl 3) (f_int rfl)) (fa_cons (fe_ix (f_var rfl 3) (f_int rfl)) (fa_nil rfl))))))) (fs_nil rfl))
 (fs_cons (fs_if (ft_not (ft_tru (fe_call (ok__law_is_right T) (hr.mono (by decide)) T.g__law_is_right T.kp__law_is_right T.b__law_is_right (L2N.takes_of rfl rfl rfl rfl) (fa_cons (f_var rfl 1) (fa_cons (f_var rfl 2) (fa_cons (f_var rfl 3) (fa_cons (f_var rfl 4) (fa_nil rfl))))) (na_cons (na_cons (na_cons (na_cons na_nil))))))) (fs_one (fs_ret (f_bl rfl))) (fs_nil rfl))
 (fs_cons (fs_if (ft_w (fw_or (ft_not (ft_tru (fe_call (ok__law_is_right T) (hr.mono (by decide)) T.g__law_is_right T.kp__law_is_right T.b__law_is_right (L2N.takes_of rfl rfl rfl rfl) (fa_cons (f_var rfl 1) (fa_cons (f_var rfl 2) (fa_cons (f_var rfl 3) (fa_cons (f_var rfl 6) (fa_nil rfl))))) (na_cons (na_cons (na_cons (na_cons na_nil))))))) (fw_or1 (ft_not (ft_tru (fe_call (ok__law_is_right T) (hr.mono (by decide)) T.g__law_is_right T.kp__law_is_right T.b__law_is_right (L2N.takes_of rfl rfl rfl rfl) (fa_cons (f_var rfl 1) (fa_cons (f_var rfl 2) (fa_cons (f_var rfl 7) (fa_cons (f_var rfl 4) (fa_nil rfl))))) (na_cons (na_cons (na_cons (na_cons na_nil)))))))))) (fs_one (fs_ret (f_bl rfl))) (fs_nil rfl))
 (fs_one (fs_ret (fe_call (ok__law_same T 4) (hr.mono (by decide)) T.g__law_same T.kp__law_same T.b__law_same (L2N.takes_of rfl rfl rfl rfl) (fa_cons (fe_call (ok_play_call T) (hr.mono (by decide)) T.g_play_call T.kp_play_call T.b_play_call (L2N.takes_of rfl rfl rfl rfl) (fa_cons (f_var rfl 1) (fa_cons (f_var rfl 2) (fa_cons (f_var rfl 3) (fa_cons (f_var rfl 4) (fa_nil rfl))))) (na_cons (na_cons (na_cons (na_cons na_nil))))) (fa_cons (fe_call (ok__law_play T) (hr.mono (by decide)) T.g__law_play T.kp__law_play T.b__law_play (L2N.takes_of rfl rfl rfl rfl) (fa_cons (f_var rfl 1) (fa_cons (f_var rfl 2) (fa_cons (f_var rfl 3) (fa_cons (f_var rfl 4) (fa_nil rfl))))) (na_cons (na_cons (na_cons (na_cons na_nil))))) (fa_nil rfl))) (na_cons (na_cons na_nil))))))))))))))))
end
end K34
end

section
namespace K34
open PySem L2 FL
def fdZ : FuncData := PySem.W.fnOf "" "" (defArgs s_law) (defBody s_law) (defScope s_law) .none .none .none .none none .none .none
theorem mk0 {K : PySem.W.Frag} {h : Heap} {mg : Str → Option Value} {fa : Nat → Addr} {fd : Nat → FuncData} {ec fi : Nat → Addr} {di : Nat → FuncData} (X : K.In h) (G : h.Ns mainGlobals mg)
  {kV0 : Value} {dc0 : Value} {pm0 : Value} {an0 : Option Addr} {cd0 : Value} {ct0 : Value} {oc0 : Value} {od0 : Option Addr} {sl0 : Array (Option Value)} {kV1 : Value} {dc1 : Value} {pm1 : Value} {an1 : Option Addr} {cd1 : Value} {ct1 : Value} {oc1 : Value} {od1 : Option Addr} {sl1 : Array (Option Value)} {kV2 : Value} {dc2 : Value} {pm2 : Value} {an2 : Option Addr} {cd2 : Value} {ct2 : Value} {oc2 : Value} {od2 : Option Addr} {sl2 : Array (Option Value)} {Act_WIRE_LIMITS_1 : Addr} {tct_WIRE_LIMITS_2 : Tok} {tct_WIRE_LIMITS_3 : Tok} {tct_WIRE_LIMITS_4 : Tok} {tct_WIRE_LIMITS_5 : Tok} {nct_WIRE_LIMITS_1 : Nat} {slct_WIRE_LIMITS_1 : Array (Option Value)} {nm1 : Str} {q1 : Str} {N1 : Addr} {bs1 : List Value} {bm1 : List Value} {sn1 : List Str} {sub1 : List Value} {ab1 : Bool} {col1 : Option Bool} {dd1 : Option Addr} {m01 : Option Value} {m11 : Option Value} {m21 : Option Value} {m31 : Option Value} {m51 : Option Value} {kV3 : Value} {dc3 : Value} {pm3 : Value} {an3 : Option Addr} {cd3 : Value} {ct3 : Value} {oc3 : Value} {od3 : Option Addr} {sl3 : Array (Option Value)} {tc_MOST_TRIES : Tok} {tc_LAST_TRY : Tok} {kV4 : Value} {dc4 : Value} {pm4 : Value} {an4 : Option Addr} {cd4 : Value} {ct4 : Value} {oc4 : Value} {od4 : Option Addr} {sl4 : Array (Option Value)}
  (z_isinstance : PySem.W.nsIn K mainGlobals "isinstance" = some none)
  (z_int : PySem.W.nsIn K mainGlobals "int" = some none)
  (z_bool : PySem.W.nsIn K mainGlobals "bool" = some none)
  (wq0 : fd 0 = PySem.W.fnOf "is_int" "is_int" (defArgs s_is_int) (defBody s_is_int) (defScope s_is_int) .none kV0 dc0 pm0 an0 cd0 ct0)
  (l0 : K.lookup (fa 0) = some ⟨oc0, od0, .func (fd 0), sl0⟩)
  (c0 : PySem.W.codeIn K cd0 "is_int" = true)
  (k0 : PySem.W.keepIn K (.ref (fa 0)) = true)
  (a0 : PySem.W.nsIn K mainGlobals "is_int" = some (some (.ref (fa 0))))
  (wq1 : fd 1 = PySem.W.fnOf "is_int_in" "is_int_in" (defArgs s_is_int_in) (defBody s_is_int_in) (defScope s_is_int_in) .none kV1 dc1 pm1 an1 cd1 ct1)
  (l1 : K.lookup (fa 1) = some ⟨oc1, od1, .func (fd 1), sl1⟩)
  (c1 : PySem.W.codeIn K cd1 "is_int_in" = true)
  (k1 : PySem.W.keepIn K (.ref (fa 1)) = true)
  (a1 : PySem.W.nsIn K mainGlobals "is_int_in" = some (some (.ref (fa 1))))
  (z_len : PySem.W.nsIn K mainGlobals "len" = some none)
  (z_range : PySem.W.nsIn K mainGlobals "range" = some none)
  (wq2 : fd 2 = PySem.W.fnOf "is_ascending" "is_ascending" (defArgs s_is_ascending) (defBody s_is_ascending) (defScope s_is_ascending) .none kV2 dc2 pm2 an2 cd2 ct2)
  (l2 : K.lookup (fa 2) = some ⟨oc2, od2, .func (fd 2), sl2⟩)
  (c2 : PySem.W.codeIn K cd2 "is_ascending" = true)
  (k2 : PySem.W.keepIn K (.ref (fa 2)) = true)
  (a2 : PySem.W.nsIn K mainGlobals "is_ascending" = some (some (.ref (fa 2))))
  (gct_WIRE_LIMITS : PySem.W.nsIn K mainGlobals "WIRE_LIMITS" = some (some (.ref Act_WIRE_LIMITS_1)))
  (lct_WIRE_LIMITS_1 : K.lookup Act_WIRE_LIMITS_1 = some ⟨.type "tuple", none, .seq #[(.int 20 tct_WIRE_LIMITS_2), (.int 20 tct_WIRE_LIMITS_3), (.int 6 tct_WIRE_LIMITS_4), (.int 4 tct_WIRE_LIMITS_5)] nct_WIRE_LIMITS_1, slct_WIRE_LIMITS_1⟩)
  (x1 : K.lookup (ec 1) = some (excClassObj nm1 q1 (ec 1) N1 bs1 bm1 true sn1 sub1 ab1 col1 dd1 m01 m11 m21 m31 m51 "ValueError.__new__"))
  (rv1 : PySem.HandSPX.refsVE bm1 = true)
  (sa1 : PySem.W.findIn K (.ref (ec 1)) "__setattr__" = some (some (.builtin "object.__setattr__")))
  (eC1 : PySem.W.subIn K (.ref (ec 1)) (.type "BaseException") = some true)
  (tC1 : PySem.W.typeIn K (.ref (ec 1)) = some (.type "type"))
  (kC1 : PySem.W.keepIn K (.ref (ec 1)) = true)
  (aC1 : PySem.W.nsIn K mainGlobals "BadWire" = some (some (.ref (ec 1))))
  (na_BadWire_part : PySem.W.findIn K (.ref (ec 1)) "part" = some none)
  (wq3 : fd 3 = PySem.W.fnOf "check_wire" "check_wire" (defArgs s_check_wire) (defBody s_check_wire) (defScope s_check_wire) .none kV3 dc3 pm3 an3 cd3 ct3)
  (l3 : K.lookup (fa 3) = some ⟨oc3, od3, .func (fd 3), sl3⟩)
  (c3 : PySem.W.codeIn K cd3 "check_wire" = true)
  (k3 : PySem.W.keepIn K (.ref (fa 3)) = true)
  (a3 : PySem.W.nsIn K mainGlobals "check_wire" = some (some (.ref (fa 3))))
  (z_tuple : PySem.W.nsIn K mainGlobals "tuple" = some none)
  (c_MOST_TRIES : PySem.W.nsIn K mainGlobals "MOST_TRIES" = some (some (.int 8 tc_MOST_TRIES)))
  (c_LAST_TRY : PySem.W.nsIn K mainGlobals "LAST_TRY" = some (some (.int 90 tc_LAST_TRY)))
  (wq4 : fd 4 = PySem.W.fnOf "_are_tries" "_are_tries" (defArgs s__are_tries) (defBody s__are_tries) (defScope s__are_tries) .none kV4 dc4 pm4 an4 cd4 ct4)
  (l4 : K.lookup (fa 4) = some ⟨oc4, od4, .func (fd 4), sl4⟩)
  (c4 : PySem.W.codeIn K cd4 "_are_tries" = true)
  (k4 : PySem.W.keepIn K (.ref (fa 4)) = true) : Fx0 K mg fa fd ec fi di where
  z_isinstance := PySem.W.mg_none_of X G z_isinstance
  z_int := PySem.W.mg_none_of X G z_int
  z_bool := PySem.W.mg_none_of X G z_bool
  F_is_int := (⟨⟨oc0, od0, kV0, dc0, pm0, an0, cd0, ct0, sl0, wq0, l0, c0⟩, k0⟩ : Fun K "is_int" "is_int" s_is_int (fa 0) (fd 0))
  kp_is_int := k0
  g_is_int := PySem.W.mg_of X G a0
  b_is_int := (⟨⟨oc0, od0, kV0, dc0, pm0, an0, cd0, ct0, sl0, wq0, l0, c0⟩, k0⟩ : Fun K "is_int" "is_int" s_is_int (fa 0) (fd 0)).binds fun _ _ _ _ _ _ us hl => match us, hl with | [_], _ => rfl
  F_is_int_in := (⟨⟨oc1, od1, kV1, dc1, pm1, an1, cd1, ct1, sl1, wq1, l1, c1⟩, k1⟩ : Fun K "is_int_in" "is_int_in" s_is_int_in (fa 1) (fd 1))
  kp_is_int_in := k1
  g_is_int_in := PySem.W.mg_of X G a1
  b_is_int_in := (⟨⟨oc1, od1, kV1, dc1, pm1, an1, cd1, ct1, sl1, wq1, l1, c1⟩, k1⟩ : Fun K "is_int_in" "is_int_in" s_is_int_in (fa 1) (fd 1)).binds fun _ _ _ _ _ _ us hl => match us, hl with | [_, _, _], _ => rfl
  z_len := PySem.W.mg_none_of X G z_len
  z_range := PySem.W.mg_none_of X G z_range
  F_is_ascending := (⟨⟨oc2, od2, kV2, dc2, pm2, an2, cd2, ct2, sl2, wq2, l2, c2⟩, k2⟩ : Fun K "is_ascending" "is_ascending" s_is_ascending (fa 2) (fd 2))
  kp_is_ascending := k2
  g_is_ascending := PySem.W.mg_of X G a2
  b_is_ascending := (⟨⟨oc2, od2, kV2, dc2, pm2, an2, cd2, ct2, sl2, wq2, l2, c2⟩, k2⟩ : Fun K "is_ascending" "is_ascending" s_is_ascending (fa 2) (fd 2)).binds fun _ _ _ _ _ _ us hl => match us, hl with | [_], _ => rfl
  ct_WIRE_LIMITS := ⟨_, PySem.W.mg_of X G gct_WIRE_LIMITS, (.tup lct_WIRE_LIMITS_1 rfl rfl rfl (by show 4 ≤ sizeLine; decide) (.cons .int (.cons .int (.cons .int (.cons .int .nil)))))⟩
  ox_BadWire := ⟨⟨nm1, q1, N1, bs1, bm1, sn1, sub1, ab1, col1, dd1, m01, m11, m21, m31, m51, x1, rv1⟩, sa1, eC1, tC1, kC1⟩
  gc_BadWire := PySem.W.mg_of X G aC1
  na_BadWire_part := na_BadWire_part
  F_check_wire := (⟨⟨oc3, od3, kV3, dc3, pm3, an3, cd3, ct3, sl3, wq3, l3, c3⟩, k3⟩ : Fun K "check_wire" "check_wire" s_check_wire (fa 3) (fd 3))
  kp_check_wire := k3
  g_check_wire := PySem.W.mg_of X G a3
  b_check_wire := (⟨⟨oc3, od3, kV3, dc3, pm3, an3, cd3, ct3, sl3, wq3, l3, c3⟩, k3⟩ : Fun K "check_wire" "check_wire" s_check_wire (fa 3) (fd 3)).binds fun _ _ _ _ _ _ us hl => match us, hl with | [_], _ => rfl
  z_tuple := PySem.W.mg_none_of X G z_tuple
  c_MOST_TRIES := ⟨_, PySem.W.mg_of X G c_MOST_TRIES⟩
  c_LAST_TRY := ⟨_, PySem.W.mg_of X G c_LAST_TRY⟩
  F__are_tries := (⟨⟨oc4, od4, kV4, dc4, pm4, an4, cd4, ct4, sl4, wq4, l4, c4⟩, k4⟩ : Fun K "_are_tries" "_are_tries" s__are_tries (fa 4) (fd 4))
  kp__are_tries := k4
theorem mk1 {K : PySem.W.Frag} {h : Heap} {mg : Str → Option Value} {fa : Nat → Addr} {fd : Nat → FuncData} {ec fi : Nat → Addr} {di : Nat → FuncData} (X : K.In h) (G : h.Ns mainGlobals mg)
  {kV4 : Value} {dc4 : Value} {pm4 : Value} {an4 : Option Addr} {cd4 : Value} {ct4 : Value} {oc4 : Value} {od4 : Option Addr} {sl4 : Array (Option Value)} {nm2 : Str} {q2 : Str} {N2 : Addr} {bs2 : List Value} {bm2 : List Value} {sn2 : List Str} {sub2 : List Value} {ab2 : Bool} {col2 : Option Bool} {dd2 : Option Addr} {m02 : Option Value} {m12 : Option Value} {m22 : Option Value} {m32 : Option Value} {m52 : Option Value} {tc_LAST_UNTIL : Tok} {kV5 : Value} {dc5 : Value} {pm5 : Value} {an5 : Option Addr} {cd5 : Value} {ct5 : Value} {oc5 : Value} {od5 : Option Addr} {sl5 : Array (Option Value)} {tc_MOST_KEEP : Tok} {nm3 : Str} {q3 : Str} {N3 : Addr} {bs3 : List Value} {bm3 : List Value} {sn3 : List Str} {sub3 : List Value} {ab3 : Bool} {col3 : Option Bool} {dd3 : Option Addr} {m03 : Option Value} {m13 : Option Value} {m23 : Option Value} {m33 : Option Value} {m53 : Option Value} {tc_MOST_CRASHES : Tok} {kV6 : Value} {dc6 : Value} {pm6 : Value} {an6 : Option Addr} {cd6 : Value} {ct6 : Value} {oc6 : Value} {od6 : Option Addr} {sl6 : Array (Option Value)} {kV7 : Value} {dc7 : Value} {pm7 : Value} {an7 : Option Addr} {cd7 : Value} {ct7 : Value} {oc7 : Value} {od7 : Option Addr} {sl7 : Array (Option Value)} {kV8 : Value} {dc8 : Value} {pm8 : Value} {an8 : Option Addr} {cd8 : Value} {ct8 : Value} {oc8 : Value} {od8 : Option Addr} {sl8 : Array (Option Value)} {kV9 : Value} {dc9 : Value} {pm9 : Value} {an9 : Option Addr} {cd9 : Value} {ct9 : Value} {oc9 : Value} {od9 : Option Addr} {sl9 : Array (Option Value)}
  (a4 : PySem.W.nsIn K mainGlobals "_are_tries" = some (some (.ref (fa 4))))
  (wq4 : fd 4 = PySem.W.fnOf "_are_tries" "_are_tries" (defArgs s__are_tries) (defBody s__are_tries) (defScope s__are_tries) .none kV4 dc4 pm4 an4 cd4 ct4)
  (l4 : K.lookup (fa 4) = some ⟨oc4, od4, .func (fd 4), sl4⟩)
  (c4 : PySem.W.codeIn K cd4 "_are_tries" = true)
  (k4 : PySem.W.keepIn K (.ref (fa 4)) = true)
  (x2 : K.lookup (ec 2) = some (excClassObj nm2 q2 (ec 2) N2 bs2 bm2 true sn2 sub2 ab2 col2 dd2 m02 m12 m22 m32 m52 "ValueError.__new__"))
  (rv2 : PySem.HandSPX.refsVE bm2 = true)
  (sa2 : PySem.W.findIn K (.ref (ec 2)) "__setattr__" = some (some (.builtin "object.__setattr__")))
  (eC2 : PySem.W.subIn K (.ref (ec 2)) (.type "BaseException") = some true)
  (tC2 : PySem.W.typeIn K (.ref (ec 2)) = some (.type "type"))
  (kC2 : PySem.W.keepIn K (.ref (ec 2)) = true)
  (aC2 : PySem.W.nsIn K mainGlobals "BadPlan" = some (some (.ref (ec 2))))
  (na_BadPlan_part : PySem.W.findIn K (.ref (ec 2)) "part" = some none)
  (c_LAST_UNTIL : PySem.W.nsIn K mainGlobals "LAST_UNTIL" = some (some (.int 140 tc_LAST_UNTIL)))
  (wq5 : fd 5 = PySem.W.fnOf "check_plan" "check_plan" (defArgs s_check_plan) (defBody s_check_plan) (defScope s_check_plan) .none kV5 dc5 pm5 an5 cd5 ct5)
  (l5 : K.lookup (fa 5) = some ⟨oc5, od5, .func (fd 5), sl5⟩)
  (c5 : PySem.W.codeIn K cd5 "check_plan" = true)
  (k5 : PySem.W.keepIn K (.ref (fa 5)) = true)
  (a5 : PySem.W.nsIn K mainGlobals "check_plan" = some (some (.ref (fa 5))))
  (c_MOST_KEEP : PySem.W.nsIn K mainGlobals "MOST_KEEP" = some (some (.int 200 tc_MOST_KEEP)))
  (x3 : K.lookup (ec 3) = some (excClassObj nm3 q3 (ec 3) N3 bs3 bm3 true sn3 sub3 ab3 col3 dd3 m03 m13 m23 m33 m53 "ValueError.__new__"))
  (rv3 : PySem.HandSPX.refsVE bm3 = true)
  (sa3 : PySem.W.findIn K (.ref (ec 3)) "__setattr__" = some (some (.builtin "object.__setattr__")))
  (eC3 : PySem.W.subIn K (.ref (ec 3)) (.type "BaseException") = some true)
  (tC3 : PySem.W.typeIn K (.ref (ec 3)) = some (.type "type"))
  (kC3 : PySem.W.keepIn K (.ref (ec 3)) = true)
  (aC3 : PySem.W.nsIn K mainGlobals "BadMemory" = some (some (.ref (ec 3))))
  (na_BadMemory_part : PySem.W.findIn K (.ref (ec 3)) "part" = some none)
  (c_MOST_CRASHES : PySem.W.nsIn K mainGlobals "MOST_CRASHES" = some (some (.int 3 tc_MOST_CRASHES)))
  (wq6 : fd 6 = PySem.W.fnOf "check_memory" "check_memory" (defArgs s_check_memory) (defBody s_check_memory) (defScope s_check_memory) .none kV6 dc6 pm6 an6 cd6 ct6)
  (l6 : K.lookup (fa 6) = some ⟨oc6, od6, .func (fd 6), sl6⟩)
  (c6 : PySem.W.codeIn K cd6 "check_memory" = true)
  (k6 : PySem.W.keepIn K (.ref (fa 6)) = true)
  (a6 : PySem.W.nsIn K mainGlobals "check_memory" = some (some (.ref (fa 6))))
  (wq7 : fd 7 = PySem.W.fnOf "is_fate" "is_fate" (defArgs s_is_fate) (defBody s_is_fate) (defScope s_is_fate) .none kV7 dc7 pm7 an7 cd7 ct7)
  (l7 : K.lookup (fa 7) = some ⟨oc7, od7, .func (fd 7), sl7⟩)
  (c7 : PySem.W.codeIn K cd7 "is_fate" = true)
  (k7 : PySem.W.keepIn K (.ref (fa 7)) = true)
  (a7 : PySem.W.nsIn K mainGlobals "is_fate" = some (some (.ref (fa 7))))
  (wq8 : fd 8 = PySem.W.fnOf "_are_fates" "_are_fates" (defArgs s__are_fates) (defBody s__are_fates) (defScope s__are_fates) .none kV8 dc8 pm8 an8 cd8 ct8)
  (l8 : K.lookup (fa 8) = some ⟨oc8, od8, .func (fd 8), sl8⟩)
  (c8 : PySem.W.codeIn K cd8 "_are_fates" = true)
  (k8 : PySem.W.keepIn K (.ref (fa 8)) = true)
  (a8 : PySem.W.nsIn K mainGlobals "_are_fates" = some (some (.ref (fa 8))))
  (wq9 : fd 9 = PySem.W.fnOf "lost_count" "lost_count" (defArgs s_lost_count) (defBody s_lost_count) (defScope s_lost_count) .none kV9 dc9 pm9 an9 cd9 ct9)
  (l9 : K.lookup (fa 9) = some ⟨oc9, od9, .func (fd 9), sl9⟩)
  (c9 : PySem.W.codeIn K cd9 "lost_count" = true)
  (k9 : PySem.W.keepIn K (.ref (fa 9)) = true)
  (a9 : PySem.W.nsIn K mainGlobals "lost_count" = some (some (.ref (fa 9)))) : Fx1 K mg fa fd ec fi di where
  g__are_tries := PySem.W.mg_of X G a4
  b__are_tries := (⟨⟨oc4, od4, kV4, dc4, pm4, an4, cd4, ct4, sl4, wq4, l4, c4⟩, k4⟩ : Fun K "_are_tries" "_are_tries" s__are_tries (fa 4) (fd 4)).binds fun _ _ _ _ _ _ us hl => match us, hl with | [_], _ => rfl
  ox_BadPlan := ⟨⟨nm2, q2, N2, bs2, bm2, sn2, sub2, ab2, col2, dd2, m02, m12, m22, m32, m52, x2, rv2⟩, sa2, eC2, tC2, kC2⟩
  gc_BadPlan := PySem.W.mg_of X G aC2
  na_BadPlan_part := na_BadPlan_part
  c_LAST_UNTIL := ⟨_, PySem.W.mg_of X G c_LAST_UNTIL⟩
  F_check_plan := (⟨⟨oc5, od5, kV5, dc5, pm5, an5, cd5, ct5, sl5, wq5, l5, c5⟩, k5⟩ : Fun K "check_plan" "check_plan" s_check_plan (fa 5) (fd 5))
  kp_check_plan := k5
  g_check_plan := PySem.W.mg_of X G a5
  b_check_plan := (⟨⟨oc5, od5, kV5, dc5, pm5, an5, cd5, ct5, sl5, wq5, l5, c5⟩, k5⟩ : Fun K "check_plan" "check_plan" s_check_plan (fa 5) (fd 5)).binds fun _ _ _ _ _ _ us hl => match us, hl with | [_], _ => rfl
  c_MOST_KEEP := ⟨_, PySem.W.mg_of X G c_MOST_KEEP⟩
  ox_BadMemory := ⟨⟨nm3, q3, N3, bs3, bm3, sn3, sub3, ab3, col3, dd3, m03, m13, m23, m33, m53, x3, rv3⟩, sa3, eC3, tC3, kC3⟩
  gc_BadMemory := PySem.W.mg_of X G aC3
  na_BadMemory_part := na_BadMemory_part
  c_MOST_CRASHES := ⟨_, PySem.W.mg_of X G c_MOST_CRASHES⟩
  F_check_memory := (⟨⟨oc6, od6, kV6, dc6, pm6, an6, cd6, ct6, sl6, wq6, l6, c6⟩, k6⟩ : Fun K "check_memory" "check_memory" s_check_memory (fa 6) (fd 6))
  kp_check_memory := k6
  g_check_memory := PySem.W.mg_of X G a6
  b_check_memory := (⟨⟨oc6, od6, kV6, dc6, pm6, an6, cd6, ct6, sl6, wq6, l6, c6⟩, k6⟩ : Fun K "check_memory" "check_memory" s_check_memory (fa 6) (fd 6)).binds fun _ _ _ _ _ _ us hl => match us, hl with | [_], _ => rfl
  F_is_fate := (⟨⟨oc7, od7, kV7, dc7, pm7, an7, cd7, ct7, sl7, wq7, l7, c7⟩, k7⟩ : Fun K "is_fate" "is_fate" s_is_fate (fa 7) (fd 7))
  kp_is_fate := k7
  g_is_fate := PySem.W.mg_of X G a7
  b_is_fate := (⟨⟨oc7, od7, kV7, dc7, pm7, an7, cd7, ct7, sl7, wq7, l7, c7⟩, k7⟩ : Fun K "is_fate" "is_fate" s_is_fate (fa 7) (fd 7)).binds fun _ _ _ _ _ _ us hl => match us, hl with | [_, _], _ => rfl
  F__are_fates := (⟨⟨oc8, od8, kV8, dc8, pm8, an8, cd8, ct8, sl8, wq8, l8, c8⟩, k8⟩ : Fun K "_are_fates" "_are_fates" s__are_fates (fa 8) (fd 8))
  kp__are_fates := k8
  g__are_fates := PySem.W.mg_of X G a8
  b__are_fates := (⟨⟨oc8, od8, kV8, dc8, pm8, an8, cd8, ct8, sl8, wq8, l8, c8⟩, k8⟩ : Fun K "_are_fates" "_are_fates" s__are_fates (fa 8) (fd 8)).binds fun _ _ _ _ _ _ us hl => match us, hl with | [_, _, _], _ => rfl
  F_lost_count := (⟨⟨oc9, od9, kV9, dc9, pm9, an9, cd9, ct9, sl9, wq9, l9, c9⟩, k9⟩ : Fun K "lost_count" "lost_count" s_lost_count (fa 9) (fd 9))
  kp_lost_count := k9
  g_lost_count := PySem.W.mg_of X G a9
theorem mk2 {K : PySem.W.Frag} {h : Heap} {mg : Str → Option Value} {fa : Nat → Addr} {fd : Nat → FuncData} {ec fi : Nat → Addr} {di : Nat → FuncData} (X : K.In h) (G : h.Ns mainGlobals mg)
  {kV9 : Value} {dc9 : Value} {pm9 : Value} {an9 : Option Addr} {cd9 : Value} {ct9 : Value} {oc9 : Value} {od9 : Option Addr} {sl9 : Array (Option Value)} {kV10 : Value} {dc10 : Value} {pm10 : Value} {an10 : Option Addr} {cd10 : Value} {ct10 : Value} {oc10 : Value} {od10 : Option Addr} {sl10 : Array (Option Value)} {kV11 : Value} {dc11 : Value} {pm11 : Value} {an11 : Option Addr} {cd11 : Value} {ct11 : Value} {oc11 : Value} {od11 : Option Addr} {sl11 : Array (Option Value)} {tc_LAST_CRASH : Tok} {kV12 : Value} {dc12 : Value} {pm12 : Value} {an12 : Option Addr} {cd12 : Value} {ct12 : Value} {oc12 : Value} {od12 : Option Addr} {sl12 : Array (Option Value)} {nm4 : Str} {q4 : Str} {N4 : Addr} {bs4 : List Value} {bm4 : List Value} {sn4 : List Str} {sub4 : List Value} {ab4 : Bool} {col4 : Option Bool} {dd4 : Option Addr} {m04 : Option Value} {m14 : Option Value} {m24 : Option Value} {m34 : Option Value} {m54 : Option Value} {tc_MOST_TELLS : Tok} {kV13 : Value} {dc13 : Value} {pm13 : Value} {an13 : Option Addr} {cd13 : Value} {ct13 : Value} {oc13 : Value} {od13 : Option Addr} {sl13 : Array (Option Value)} {kV14 : Value} {dc14 : Value} {pm14 : Value} {an14 : Option Addr} {cd14 : Value} {ct14 : Value} {oc14 : Value} {od14 : Option Addr} {sl14 : Array (Option Value)}
  (wq9 : fd 9 = PySem.W.fnOf "lost_count" "lost_count" (defArgs s_lost_count) (defBody s_lost_count) (defScope s_lost_count) .none kV9 dc9 pm9 an9 cd9 ct9)
  (l9 : K.lookup (fa 9) = some ⟨oc9, od9, .func (fd 9), sl9⟩)
  (c9 : PySem.W.codeIn K cd9 "lost_count" = true)
  (k9 : PySem.W.keepIn K (.ref (fa 9)) = true)
  (z_sum : PySem.W.nsIn K mainGlobals "sum" = some none)
  (wq10 : fd 10 = PySem.W.fnOf "extra_count" "extra_count" (defArgs s_extra_count) (defBody s_extra_count) (defScope s_extra_count) .none kV10 dc10 pm10 an10 cd10 ct10)
  (l10 : K.lookup (fa 10) = some ⟨oc10, od10, .func (fd 10), sl10⟩)
  (c10 : PySem.W.codeIn K cd10 "extra_count" = true)
  (k10 : PySem.W.keepIn K (.ref (fa 10)) = true)
  (a10 : PySem.W.nsIn K mainGlobals "extra_count" = some (some (.ref (fa 10))))
  (wq11 : fd 11 = PySem.W.fnOf "_is_affordable" "_is_affordable" (defArgs s__is_affordable) (defBody s__is_affordable) (defScope s__is_affordable) .none kV11 dc11 pm11 an11 cd11 ct11)
  (l11 : K.lookup (fa 11) = some ⟨oc11, od11, .func (fd 11), sl11⟩)
  (c11 : PySem.W.codeIn K cd11 "_is_affordable" = true)
  (k11 : PySem.W.keepIn K (.ref (fa 11)) = true)
  (a11 : PySem.W.nsIn K mainGlobals "_is_affordable" = some (some (.ref (fa 11))))
  (c_LAST_CRASH : PySem.W.nsIn K mainGlobals "LAST_CRASH" = some (some (.int 400 tc_LAST_CRASH)))
  (wq12 : fd 12 = PySem.W.fnOf "_are_crashes" "_are_crashes" (defArgs s__are_crashes) (defBody s__are_crashes) (defScope s__are_crashes) .none kV12 dc12 pm12 an12 cd12 ct12)
  (l12 : K.lookup (fa 12) = some ⟨oc12, od12, .func (fd 12), sl12⟩)
  (c12 : PySem.W.codeIn K cd12 "_are_crashes" = true)
  (k12 : PySem.W.keepIn K (.ref (fa 12)) = true)
  (a12 : PySem.W.nsIn K mainGlobals "_are_crashes" = some (some (.ref (fa 12))))
  (x4 : K.lookup (ec 4) = some (excClassObj nm4 q4 (ec 4) N4 bs4 bm4 true sn4 sub4 ab4 col4 dd4 m04 m14 m24 m34 m54 "ValueError.__new__"))
  (rv4 : PySem.HandSPX.refsVE bm4 = true)
  (sa4 : PySem.W.findIn K (.ref (ec 4)) "__setattr__" = some (some (.builtin "object.__setattr__")))
  (eC4 : PySem.W.subIn K (.ref (ec 4)) (.type "BaseException") = some true)
  (tC4 : PySem.W.typeIn K (.ref (ec 4)) = some (.type "type"))
  (kC4 : PySem.W.keepIn K (.ref (ec 4)) = true)
  (aC4 : PySem.W.nsIn K mainGlobals "BadRun" = some (some (.ref (ec 4))))
  (na_BadRun_part : PySem.W.findIn K (.ref (ec 4)) "part" = some none)
  (c_MOST_TELLS : PySem.W.nsIn K mainGlobals "MOST_TELLS" = some (some (.int 40 tc_MOST_TELLS)))
  (wq13 : fd 13 = PySem.W.fnOf "check_run" "check_run" (defArgs s_check_run) (defBody s_check_run) (defScope s_check_run) .none kV13 dc13 pm13 an13 cd13 ct13)
  (l13 : K.lookup (fa 13) = some ⟨oc13, od13, .func (fd 13), sl13⟩)
  (c13 : PySem.W.codeIn K cd13 "check_run" = true)
  (k13 : PySem.W.keepIn K (.ref (fa 13)) = true)
  (a13 : PySem.W.nsIn K mainGlobals "check_run" = some (some (.ref (fa 13))))
  (wq14 : fd 14 = PySem.W.fnOf "fate_of" "fate_of" (defArgs s_fate_of) (defBody s_fate_of) (defScope s_fate_of) .none kV14 dc14 pm14 an14 cd14 ct14)
  (l14 : K.lookup (fa 14) = some ⟨oc14, od14, .func (fd 14), sl14⟩)
  (c14 : PySem.W.codeIn K cd14 "fate_of" = true)
  (k14 : PySem.W.keepIn K (.ref (fa 14)) = true)
  (a14 : PySem.W.nsIn K mainGlobals "fate_of" = some (some (.ref (fa 14))))
  (pg5 : PySem.W.plainGet K (ec 5) Str.empty = true)
  (hC5 : PySem.W.hasDictIn K (ec 5) = true)
  (po5 : PySem.W.plainOver K (ec 5) = true)
  (sa5 : PySem.W.findIn K (.ref (ec 5)) "__setattr__" = some (some (.builtin "object.__setattr__")))
  (nf_CallPlay_tries : PySem.W.findIn K (.ref (ec 5)) "tries" = some none) : Fx2 K mg fa fd ec fi di where
  b_lost_count := (⟨⟨oc9, od9, kV9, dc9, pm9, an9, cd9, ct9, sl9, wq9, l9, c9⟩, k9⟩ : Fun K "lost_count" "lost_count" s_lost_count (fa 9) (fd 9)).binds fun _ _ _ _ _ _ us hl => match us, hl with | [_], _ => rfl
  z_sum := PySem.W.mg_none_of X G z_sum
  F_extra_count := (⟨⟨oc10, od10, kV10, dc10, pm10, an10, cd10, ct10, sl10, wq10, l10, c10⟩, k10⟩ : Fun K "extra_count" "extra_count" s_extra_count (fa 10) (fd 10))
  kp_extra_count := k10
  g_extra_count := PySem.W.mg_of X G a10
  b_extra_count := (⟨⟨oc10, od10, kV10, dc10, pm10, an10, cd10, ct10, sl10, wq10, l10, c10⟩, k10⟩ : Fun K "extra_count" "extra_count" s_extra_count (fa 10) (fd 10)).binds fun _ _ _ _ _ _ us hl => match us, hl with | [_], _ => rfl
  F__is_affordable := (⟨⟨oc11, od11, kV11, dc11, pm11, an11, cd11, ct11, sl11, wq11, l11, c11⟩, k11⟩ : Fun K "_is_affordable" "_is_affordable" s__is_affordable (fa 11) (fd 11))
  kp__is_affordable := k11
  g__is_affordable := PySem.W.mg_of X G a11
  b__is_affordable := (⟨⟨oc11, od11, kV11, dc11, pm11, an11, cd11, ct11, sl11, wq11, l11, c11⟩, k11⟩ : Fun K "_is_affordable" "_is_affordable" s__is_affordable (fa 11) (fd 11)).binds fun _ _ _ _ _ _ us hl => match us, hl with | [_, _], _ => rfl
  c_LAST_CRASH := ⟨_, PySem.W.mg_of X G c_LAST_CRASH⟩
  F__are_crashes := (⟨⟨oc12, od12, kV12, dc12, pm12, an12, cd12, ct12, sl12, wq12, l12, c12⟩, k12⟩ : Fun K "_are_crashes" "_are_crashes" s__are_crashes (fa 12) (fd 12))
  kp__are_crashes := k12
  g__are_crashes := PySem.W.mg_of X G a12
  b__are_crashes := (⟨⟨oc12, od12, kV12, dc12, pm12, an12, cd12, ct12, sl12, wq12, l12, c12⟩, k12⟩ : Fun K "_are_crashes" "_are_crashes" s__are_crashes (fa 12) (fd 12)).binds fun _ _ _ _ _ _ us hl => match us, hl with | [_, _], _ => rfl
  ox_BadRun := ⟨⟨nm4, q4, N4, bs4, bm4, sn4, sub4, ab4, col4, dd4, m04, m14, m24, m34, m54, x4, rv4⟩, sa4, eC4, tC4, kC4⟩
  gc_BadRun := PySem.W.mg_of X G aC4
  na_BadRun_part := na_BadRun_part
  c_MOST_TELLS := ⟨_, PySem.W.mg_of X G c_MOST_TELLS⟩
  F_check_run := (⟨⟨oc13, od13, kV13, dc13, pm13, an13, cd13, ct13, sl13, wq13, l13, c13⟩, k13⟩ : Fun K "check_run" "check_run" s_check_run (fa 13) (fd 13))
  kp_check_run := k13
  g_check_run := PySem.W.mg_of X G a13
  b_check_run := (⟨⟨oc13, od13, kV13, dc13, pm13, an13, cd13, ct13, sl13, wq13, l13, c13⟩, k13⟩ : Fun K "check_run" "check_run" s_check_run (fa 13) (fd 13)).binds fun _ _ _ _ _ _ us hl => match us, hl with | [_, _, _, _], _ => rfl
  F_fate_of := (⟨⟨oc14, od14, kV14, dc14, pm14, an14, cd14, ct14, sl14, wq14, l14, c14⟩, k14⟩ : Fun K "fate_of" "fate_of" s_fate_of (fa 14) (fd 14))
  kp_fate_of := k14
  g_fate_of := PySem.W.mg_of X G a14
  b_fate_of := (⟨⟨oc14, od14, kV14, dc14, pm14, an14, cd14, ct14, sl14, wq14, l14, c14⟩, k14⟩ : Fun K "fate_of" "fate_of" s_fate_of (fa 14) (fd 14)).binds fun _ _ _ _ _ _ us hl => match us, hl with | [_, _], _ => rfl
  cl_CallPlay := ⟨pg5, hC5, po5, sa5⟩
  nf_CallPlay_tries := nf_CallPlay_tries
  fl_tries := (by intro c hc; rcases List.mem_cons.mp hc with z | hc; (· subst z; exact ⟨⟨pg5, hC5, po5, sa5⟩, nf_CallPlay_tries⟩); exact absurd hc List.not_mem_nil)
theorem mk3 {K : PySem.W.Frag} {h : Heap} {mg : Str → Option Value} {fa : Nat → Addr} {fd : Nat → FuncData} {ec fi : Nat → Addr} {di : Nat → FuncData} (X : K.In h) (G : h.Ns mainGlobals mg)
  
  (nf_CallPlay_until : PySem.W.findIn K (.ref (ec 5)) "until" = some none)
  (pg5 : PySem.W.plainGet K (ec 5) Str.empty = true)
  (hC5 : PySem.W.hasDictIn K (ec 5) = true)
  (po5 : PySem.W.plainOver K (ec 5) = true)
  (sa5 : PySem.W.findIn K (.ref (ec 5)) "__setattr__" = some (some (.builtin "object.__setattr__")))
  (nf_CallPlay_keep : PySem.W.findIn K (.ref (ec 5)) "keep" = some none)
  (nf_CallPlay_durable : PySem.W.findIn K (.ref (ec 5)) "durable" = some none)
  (nf_CallPlay_asks : PySem.W.findIn K (.ref (ec 5)) "asks" = some none)
  (nf_CallPlay_tells : PySem.W.findIn K (.ref (ec 5)) "tells" = some none)
  (nf_CallPlay_crashes : PySem.W.findIn K (.ref (ec 5)) "crashes" = some none)
  (nf_CallPlay_stops : PySem.W.findIn K (.ref (ec 5)) "stops" = some none)
  (z_max : PySem.W.nsIn K mainGlobals "max" = some none)
  (nf_CallPlay_last : PySem.W.findIn K (.ref (ec 5)) "last" = some none)
  (nf_CallPlay_arriving : PySem.W.findIn K (.ref (ec 5)) "arriving" = some none)
  (nf_CallPlay_hearing : PySem.W.findIn K (.ref (ec 5)) "hearing" = some none)
  (nf_CallPlay_done_at : PySem.W.findIn K (.ref (ec 5)) "done_at" = some none)
  (nf_CallPlay_told : PySem.W.findIn K (.ref (ec 5)) "told" = some none)
  (nf_CallPlay_has_answer : PySem.W.findIn K (.ref (ec 5)) "has_answer" = some none)
  (nf_CallPlay_waiting : PySem.W.findIn K (.ref (ec 5)) "waiting" = some none)
  (nf_CallPlay_stopped_at : PySem.W.findIn K (.ref (ec 5)) "stopped_at" = some none) : Fx3 K mg fa fd ec fi di where
  nf_CallPlay_until := nf_CallPlay_until
  fl_until := (by intro c hc; rcases List.mem_cons.mp hc with z | hc; (· subst z; exact ⟨⟨pg5, hC5, po5, sa5⟩, nf_CallPlay_until⟩); exact absurd hc List.not_mem_nil)
  nf_CallPlay_keep := nf_CallPlay_keep
  fl_keep := (by intro c hc; rcases List.mem_cons.mp hc with z | hc; (· subst z; exact ⟨⟨pg5, hC5, po5, sa5⟩, nf_CallPlay_keep⟩); exact absurd hc List.not_mem_nil)
  nf_CallPlay_durable := nf_CallPlay_durable
  fl_durable := (by intro c hc; rcases List.mem_cons.mp hc with z | hc; (· subst z; exact ⟨⟨pg5, hC5, po5, sa5⟩, nf_CallPlay_durable⟩); exact absurd hc List.not_mem_nil)
  nf_CallPlay_asks := nf_CallPlay_asks
  fl_asks := (by intro c hc; rcases List.mem_cons.mp hc with z | hc; (· subst z; exact ⟨⟨pg5, hC5, po5, sa5⟩, nf_CallPlay_asks⟩); exact absurd hc List.not_mem_nil)
  nf_CallPlay_tells := nf_CallPlay_tells
  fl_tells := (by intro c hc; rcases List.mem_cons.mp hc with z | hc; (· subst z; exact ⟨⟨pg5, hC5, po5, sa5⟩, nf_CallPlay_tells⟩); exact absurd hc List.not_mem_nil)
  nf_CallPlay_crashes := nf_CallPlay_crashes
  fl_crashes := (by intro c hc; rcases List.mem_cons.mp hc with z | hc; (· subst z; exact ⟨⟨pg5, hC5, po5, sa5⟩, nf_CallPlay_crashes⟩); exact absurd hc List.not_mem_nil)
  nf_CallPlay_stops := nf_CallPlay_stops
  fl_stops := (by intro c hc; rcases List.mem_cons.mp hc with z | hc; (· subst z; exact ⟨⟨pg5, hC5, po5, sa5⟩, nf_CallPlay_stops⟩); exact absurd hc List.not_mem_nil)
  z_max := PySem.W.mg_none_of X G z_max
  nf_CallPlay_last := nf_CallPlay_last
  fl_last := (by intro c hc; rcases List.mem_cons.mp hc with z | hc; (· subst z; exact ⟨⟨pg5, hC5, po5, sa5⟩, nf_CallPlay_last⟩); exact absurd hc List.not_mem_nil)
  nf_CallPlay_arriving := nf_CallPlay_arriving
  fl_arriving := (by intro c hc; rcases List.mem_cons.mp hc with z | hc; (· subst z; exact ⟨⟨pg5, hC5, po5, sa5⟩, nf_CallPlay_arriving⟩); exact absurd hc List.not_mem_nil)
  nf_CallPlay_hearing := nf_CallPlay_hearing
  fl_hearing := (by intro c hc; rcases List.mem_cons.mp hc with z | hc; (· subst z; exact ⟨⟨pg5, hC5, po5, sa5⟩, nf_CallPlay_hearing⟩); exact absurd hc List.not_mem_nil)
  nf_CallPlay_done_at := nf_CallPlay_done_at
  fl_done_at := (by intro c hc; rcases List.mem_cons.mp hc with z | hc; (· subst z; exact ⟨⟨pg5, hC5, po5, sa5⟩, nf_CallPlay_done_at⟩); exact absurd hc List.not_mem_nil)
  nf_CallPlay_told := nf_CallPlay_told
  fl_told := (by intro c hc; rcases List.mem_cons.mp hc with z | hc; (· subst z; exact ⟨⟨pg5, hC5, po5, sa5⟩, nf_CallPlay_told⟩); exact absurd hc List.not_mem_nil)
  nf_CallPlay_has_answer := nf_CallPlay_has_answer
  fl_has_answer := (by intro c hc; rcases List.mem_cons.mp hc with z | hc; (· subst z; exact ⟨⟨pg5, hC5, po5, sa5⟩, nf_CallPlay_has_answer⟩); exact absurd hc List.not_mem_nil)
  nf_CallPlay_waiting := nf_CallPlay_waiting
  fl_waiting := (by intro c hc; rcases List.mem_cons.mp hc with z | hc; (· subst z; exact ⟨⟨pg5, hC5, po5, sa5⟩, nf_CallPlay_waiting⟩); exact absurd hc List.not_mem_nil)
  nf_CallPlay_stopped_at := nf_CallPlay_stopped_at
theorem mk4 {K : PySem.W.Frag} {h : Heap} {mg : Str → Option Value} {fa : Nat → Addr} {fd : Nat → FuncData} {ec fi : Nat → Addr} {di : Nat → FuncData} (X : K.In h) (G : h.Ns mainGlobals mg)
  {kV15 : Value} {dc15 : Value} {pm15 : Value} {an15 : Option Addr} {cd15 : Value} {ct15 : Value} {oc15 : Value} {od15 : Option Addr} {sl15 : Array (Option Value)} {kV16 : Value} {dc16 : Value} {pm16 : Value} {an16 : Option Addr} {cd16 : Value} {ct16 : Value} {oc16 : Value} {od16 : Option Addr} {sl16 : Array (Option Value)} {kV17 : Value} {dc17 : Value} {pm17 : Value} {an17 : Option Addr} {cd17 : Value} {ct17 : Value} {oc17 : Value} {od17 : Option Addr} {sl17 : Array (Option Value)} {kV18 : Value} {dc18 : Value} {pm18 : Value} {an18 : Option Addr} {cd18 : Value} {ct18 : Value} {oc18 : Value} {od18 : Option Addr} {sl18 : Array (Option Value)} {kV19 : Value} {dc19 : Value} {pm19 : Value} {an19 : Option Addr} {cd19 : Value} {ct19 : Value} {oc19 : Value} {od19 : Option Addr} {sl19 : Array (Option Value)} {kV20 : Value} {dc20 : Value} {pm20 : Value} {an20 : Option Addr} {cd20 : Value} {ct20 : Value} {oc20 : Value} {od20 : Option Addr} {sl20 : Array (Option Value)} {kV21 : Value} {dc21 : Value} {pm21 : Value} {an21 : Option Addr} {cd21 : Value} {ct21 : Value} {oc21 : Value} {od21 : Option Addr} {sl21 : Array (Option Value)}
  (pg5 : PySem.W.plainGet K (ec 5) Str.empty = true)
  (hC5 : PySem.W.hasDictIn K (ec 5) = true)
  (po5 : PySem.W.plainOver K (ec 5) = true)
  (sa5 : PySem.W.findIn K (.ref (ec 5)) "__setattr__" = some (some (.builtin "object.__setattr__")))
  (nf_CallPlay_stopped_at : PySem.W.findIn K (.ref (ec 5)) "stopped_at" = some none)
  (nf_CallPlay_history : PySem.W.findIn K (.ref (ec 5)) "history" = some none)
  (wq15 : fd 15 = PySem.W.fnOf "__init__" "CallPlay.__init__" (defArgs s_CallPlay____init__) (defBody s_CallPlay____init__) (defScope s_CallPlay____init__) .none kV15 dc15 pm15 an15 cd15 ct15)
  (l15 : K.lookup (fa 15) = some ⟨oc15, od15, .func (fd 15), sl15⟩)
  (c15 : PySem.W.codeIn K cd15 "CallPlay.__init__" = true)
  (k15 : PySem.W.keepIn K (.ref (fa 15)) = true)
  (wq16 : fd 16 = PySem.W.fnOf "play_tell" "CallPlay.play_tell" (defArgs s_CallPlay__play_tell) (defBody s_CallPlay__play_tell) (defScope s_CallPlay__play_tell) .none kV16 dc16 pm16 an16 cd16 ct16)
  (l16 : K.lookup (fa 16) = some ⟨oc16, od16, .func (fd 16), sl16⟩)
  (c16 : PySem.W.codeIn K cd16 "CallPlay.play_tell" = true)
  (k16 : PySem.W.keepIn K (.ref (fa 16)) = true)
  (a16 : PySem.W.findIn K (.ref (ec 5)) "play_tell" = some (some (.ref (fa 16))))
  (fn16 : PySem.W.isFn K (.ref (fa 16)) = true)
  (wq17 : fd 17 = PySem.W.fnOf "play_arrivals" "CallPlay.play_arrivals" (defArgs s_CallPlay__play_arrivals) (defBody s_CallPlay__play_arrivals) (defScope s_CallPlay__play_arrivals) .none kV17 dc17 pm17 an17 cd17 ct17)
  (l17 : K.lookup (fa 17) = some ⟨oc17, od17, .func (fd 17), sl17⟩)
  (c17 : PySem.W.codeIn K cd17 "CallPlay.play_arrivals" = true)
  (k17 : PySem.W.keepIn K (.ref (fa 17)) = true)
  (wq18 : fd 18 = PySem.W.fnOf "play_ask" "CallPlay.play_ask" (defArgs s_CallPlay__play_ask) (defBody s_CallPlay__play_ask) (defScope s_CallPlay__play_ask) .none kV18 dc18 pm18 an18 cd18 ct18)
  (l18 : K.lookup (fa 18) = some ⟨oc18, od18, .func (fd 18), sl18⟩)
  (c18 : PySem.W.codeIn K cd18 "CallPlay.play_ask" = true)
  (k18 : PySem.W.keepIn K (.ref (fa 18)) = true)
  (wq19 : fd 19 = PySem.W.fnOf "play_crash" "CallPlay.play_crash" (defArgs s_CallPlay__play_crash) (defBody s_CallPlay__play_crash) (defScope s_CallPlay__play_crash) .none kV19 dc19 pm19 an19 cd19 ct19)
  (l19 : K.lookup (fa 19) = some ⟨oc19, od19, .func (fd 19), sl19⟩)
  (c19 : PySem.W.codeIn K cd19 "CallPlay.play_crash" = true)
  (k19 : PySem.W.keepIn K (.ref (fa 19)) = true)
  (wq20 : fd 20 = PySem.W.fnOf "play_replies" "CallPlay.play_replies" (defArgs s_CallPlay__play_replies) (defBody s_CallPlay__play_replies) (defScope s_CallPlay__play_replies) .none kV20 dc20 pm20 an20 cd20 ct20)
  (l20 : K.lookup (fa 20) = some ⟨oc20, od20, .func (fd 20), sl20⟩)
  (c20 : PySem.W.codeIn K cd20 "CallPlay.play_replies" = true)
  (k20 : PySem.W.keepIn K (.ref (fa 20)) = true)
  (a19 : PySem.W.findIn K (.ref (ec 5)) "play_crash" = some (some (.ref (fa 19))))
  (fn19 : PySem.W.isFn K (.ref (fa 19)) = true)
  (a18 : PySem.W.findIn K (.ref (ec 5)) "play_ask" = some (some (.ref (fa 18))))
  (fn18 : PySem.W.isFn K (.ref (fa 18)) = true)
  (a17 : PySem.W.findIn K (.ref (ec 5)) "play_arrivals" = some (some (.ref (fa 17))))
  (fn17 : PySem.W.isFn K (.ref (fa 17)) = true)
  (a20 : PySem.W.findIn K (.ref (ec 5)) "play_replies" = some (some (.ref (fa 20))))
  (fn20 : PySem.W.isFn K (.ref (fa 20)) = true)
  (wq21 : fd 21 = PySem.W.fnOf "play_tick" "CallPlay.play_tick" (defArgs s_CallPlay__play_tick) (defBody s_CallPlay__play_tick) (defScope s_CallPlay__play_tick) .none kV21 dc21 pm21 an21 cd21 ct21)
  (l21 : K.lookup (fa 21) = some ⟨oc21, od21, .func (fd 21), sl21⟩)
  (c21 : PySem.W.codeIn K cd21 "CallPlay.play_tick" = true)
  (k21 : PySem.W.keepIn K (.ref (fa 21)) = true)
  (a21 : PySem.W.findIn K (.ref (ec 5)) "play_tick" = some (some (.ref (fa 21))))
  (fn21 : PySem.W.isFn K (.ref (fa 21)) = true) : Fx4 K mg fa fd ec fi di where
  fl_stopped_at := (by intro c hc; rcases List.mem_cons.mp hc with z | hc; (· subst z; exact ⟨⟨pg5, hC5, po5, sa5⟩, nf_CallPlay_stopped_at⟩); exact absurd hc List.not_mem_nil)
  nf_CallPlay_history := nf_CallPlay_history
  fl_history := (by intro c hc; rcases List.mem_cons.mp hc with z | hc; (· subst z; exact ⟨⟨pg5, hC5, po5, sa5⟩, nf_CallPlay_history⟩); exact absurd hc List.not_mem_nil)
  F_CallPlay____init__ := (⟨⟨oc15, od15, kV15, dc15, pm15, an15, cd15, ct15, sl15, wq15, l15, c15⟩, k15⟩ : Fun K "__init__" "CallPlay.__init__" s_CallPlay____init__ (fa 15) (fd 15))
  kp_CallPlay____init__ := k15
  b_CallPlay____init__ := (⟨⟨oc15, od15, kV15, dc15, pm15, an15, cd15, ct15, sl15, wq15, l15, c15⟩, k15⟩ : Fun K "__init__" "CallPlay.__init__" s_CallPlay____init__ (fa 15) (fd 15)).binds fun _ _ _ _ _ _ us hl => match us, hl with | [_, _, _, _, _, _], _ => rfl
  F_CallPlay__play_tell := (⟨⟨oc16, od16, kV16, dc16, pm16, an16, cd16, ct16, sl16, wq16, l16, c16⟩, k16⟩ : Fun K "play_tell" "CallPlay.play_tell" s_CallPlay__play_tell (fa 16) (fd 16))
  kp_CallPlay__play_tell := k16
  b_CallPlay__play_tell := (⟨⟨oc16, od16, kV16, dc16, pm16, an16, cd16, ct16, sl16, wq16, l16, c16⟩, k16⟩ : Fun K "play_tell" "CallPlay.play_tell" s_CallPlay__play_tell (fa 16) (fd 16)).binds fun _ _ _ _ _ _ us hl => match us, hl with | [_, _], _ => rfl
  me_CallPlay__play_tell := ⟨a16, fn16, k16⟩
  F_CallPlay__play_arrivals := (⟨⟨oc17, od17, kV17, dc17, pm17, an17, cd17, ct17, sl17, wq17, l17, c17⟩, k17⟩ : Fun K "play_arrivals" "CallPlay.play_arrivals" s_CallPlay__play_arrivals (fa 17) (fd 17))
  kp_CallPlay__play_arrivals := k17
  b_CallPlay__play_arrivals := (⟨⟨oc17, od17, kV17, dc17, pm17, an17, cd17, ct17, sl17, wq17, l17, c17⟩, k17⟩ : Fun K "play_arrivals" "CallPlay.play_arrivals" s_CallPlay__play_arrivals (fa 17) (fd 17)).binds fun _ _ _ _ _ _ us hl => match us, hl with | [_, _], _ => rfl
  F_CallPlay__play_ask := (⟨⟨oc18, od18, kV18, dc18, pm18, an18, cd18, ct18, sl18, wq18, l18, c18⟩, k18⟩ : Fun K "play_ask" "CallPlay.play_ask" s_CallPlay__play_ask (fa 18) (fd 18))
  kp_CallPlay__play_ask := k18
  b_CallPlay__play_ask := (⟨⟨oc18, od18, kV18, dc18, pm18, an18, cd18, ct18, sl18, wq18, l18, c18⟩, k18⟩ : Fun K "play_ask" "CallPlay.play_ask" s_CallPlay__play_ask (fa 18) (fd 18)).binds fun _ _ _ _ _ _ us hl => match us, hl with | [_, _], _ => rfl
  F_CallPlay__play_crash := (⟨⟨oc19, od19, kV19, dc19, pm19, an19, cd19, ct19, sl19, wq19, l19, c19⟩, k19⟩ : Fun K "play_crash" "CallPlay.play_crash" s_CallPlay__play_crash (fa 19) (fd 19))
  kp_CallPlay__play_crash := k19
  b_CallPlay__play_crash := (⟨⟨oc19, od19, kV19, dc19, pm19, an19, cd19, ct19, sl19, wq19, l19, c19⟩, k19⟩ : Fun K "play_crash" "CallPlay.play_crash" s_CallPlay__play_crash (fa 19) (fd 19)).binds fun _ _ _ _ _ _ us hl => match us, hl with | [_, _], _ => rfl
  F_CallPlay__play_replies := (⟨⟨oc20, od20, kV20, dc20, pm20, an20, cd20, ct20, sl20, wq20, l20, c20⟩, k20⟩ : Fun K "play_replies" "CallPlay.play_replies" s_CallPlay__play_replies (fa 20) (fd 20))
  kp_CallPlay__play_replies := k20
  b_CallPlay__play_replies := (⟨⟨oc20, od20, kV20, dc20, pm20, an20, cd20, ct20, sl20, wq20, l20, c20⟩, k20⟩ : Fun K "play_replies" "CallPlay.play_replies" s_CallPlay__play_replies (fa 20) (fd 20)).binds fun _ _ _ _ _ _ us hl => match us, hl with | [_, _], _ => rfl
  me_CallPlay__play_crash := ⟨a19, fn19, k19⟩
  me_CallPlay__play_ask := ⟨a18, fn18, k18⟩
  me_CallPlay__play_arrivals := ⟨a17, fn17, k17⟩
  me_CallPlay__play_replies := ⟨a20, fn20, k20⟩
  F_CallPlay__play_tick := (⟨⟨oc21, od21, kV21, dc21, pm21, an21, cd21, ct21, sl21, wq21, l21, c21⟩, k21⟩ : Fun K "play_tick" "CallPlay.play_tick" s_CallPlay__play_tick (fa 21) (fd 21))
  kp_CallPlay__play_tick := k21
  b_CallPlay__play_tick := (⟨⟨oc21, od21, kV21, dc21, pm21, an21, cd21, ct21, sl21, wq21, l21, c21⟩, k21⟩ : Fun K "play_tick" "CallPlay.play_tick" s_CallPlay__play_tick (fa 21) (fd 21)).binds fun _ _ _ _ _ _ us hl => match us, hl with | [_, _], _ => rfl
  me_CallPlay__play_tick := ⟨a21, fn21, k21⟩
theorem mk5 {K : PySem.W.Frag} {h : Heap} {mg : Str → Option Value} {fa : Nat → Addr} {fd : Nat → FuncData} {ec fi : Nat → Addr} {di : Nat → FuncData} (X : K.In h) (G : h.Ns mainGlobals mg)
  {kV22 : Value} {dc22 : Value} {pm22 : Value} {an22 : Option Addr} {cd22 : Value} {ct22 : Value} {oc22 : Value} {od22 : Option Addr} {sl22 : Array (Option Value)} {kV23 : Value} {dc23 : Value} {pm23 : Value} {an23 : Option Addr} {cd23 : Value} {ct23 : Value} {oc23 : Value} {od23 : Option Addr} {sl23 : Array (Option Value)} {kV24 : Value} {dc24 : Value} {pm24 : Value} {an24 : Option Addr} {cd24 : Value} {ct24 : Value} {oc24 : Value} {od24 : Option Addr} {sl24 : Array (Option Value)} {kV25 : Value} {dc25 : Value} {pm25 : Value} {an25 : Option Addr} {cd25 : Value} {ct25 : Value} {oc25 : Value} {od25 : Option Addr} {sl25 : Array (Option Value)} {kV26 : Value} {dc26 : Value} {pm26 : Value} {an26 : Option Addr} {cd26 : Value} {ct26 : Value} {oc26 : Value} {od26 : Option Addr} {sl26 : Array (Option Value)} {kV27 : Value} {dc27 : Value} {pm27 : Value} {an27 : Option Addr} {cd27 : Value} {ct27 : Value} {oc27 : Value} {od27 : Option Addr} {sl27 : Array (Option Value)} {kV28 : Value} {dc28 : Value} {pm28 : Value} {an28 : Option Addr} {cd28 : Value} {ct28 : Value} {oc28 : Value} {od28 : Option Addr} {sl28 : Array (Option Value)}
  (wq22 : fd 22 = PySem.W.fnOf "play_all" "CallPlay.play_all" (defArgs s_CallPlay__play_all) (defBody s_CallPlay__play_all) (defScope s_CallPlay__play_all) .none kV22 dc22 pm22 an22 cd22 ct22)
  (l22 : K.lookup (fa 22) = some ⟨oc22, od22, .func (fd 22), sl22⟩)
  (c22 : PySem.W.codeIn K cd22 "CallPlay.play_all" = true)
  (k22 : PySem.W.keepIn K (.ref (fa 22)) = true)
  (aC5 : PySem.W.nsIn K mainGlobals "CallPlay" = some (some (.ref (ec 5))))
  (mkC5 : PySem.W.makesIn K (ec 5) = true)
  (a15 : PySem.W.findIn K (.ref (ec 5)) "__init__" = some (some (.ref (fa 15))))
  (fn15 : PySem.W.isFn K (.ref (fa 15)) = true)
  (kC5 : PySem.W.keepIn K (.ref (ec 5)) = true)
  (a22 : PySem.W.findIn K (.ref (ec 5)) "play_all" = some (some (.ref (fa 22))))
  (fn22 : PySem.W.isFn K (.ref (fa 22)) = true)
  (wq23 : fd 23 = PySem.W.fnOf "played_log" "played_log" (defArgs s_played_log) (defBody s_played_log) (defScope s_played_log) .none kV23 dc23 pm23 an23 cd23 ct23)
  (l23 : K.lookup (fa 23) = some ⟨oc23, od23, .func (fd 23), sl23⟩)
  (c23 : PySem.W.codeIn K cd23 "played_log" = true)
  (k23 : PySem.W.keepIn K (.ref (fa 23)) = true)
  (a23 : PySem.W.nsIn K mainGlobals "played_log" = some (some (.ref (fa 23))))
  (wq24 : fd 24 = PySem.W.fnOf "play_call" "play_call" (defArgs s_play_call) (defBody s_play_call) (defScope s_play_call) .none kV24 dc24 pm24 an24 cd24 ct24)
  (l24 : K.lookup (fa 24) = some ⟨oc24, od24, .func (fd 24), sl24⟩)
  (c24 : PySem.W.codeIn K cd24 "play_call" = true)
  (k24 : PySem.W.keepIn K (.ref (fa 24)) = true)
  (a24 : PySem.W.nsIn K mainGlobals "play_call" = some (some (.ref (fa 24))))
  (wq25 : fd 25 = PySem.W.fnOf "ticks_of" "ticks_of" (defArgs s_ticks_of) (defBody s_ticks_of) (defScope s_ticks_of) .none kV25 dc25 pm25 an25 cd25 ct25)
  (l25 : K.lookup (fa 25) = some ⟨oc25, od25, .func (fd 25), sl25⟩)
  (c25 : PySem.W.codeIn K cd25 "ticks_of" = true)
  (k25 : PySem.W.keepIn K (.ref (fa 25)) = true)
  (a25 : PySem.W.nsIn K mainGlobals "ticks_of" = some (some (.ref (fa 25))))
  (wq26 : fd 26 = PySem.W.fnOf "done_ticks" "done_ticks" (defArgs s_done_ticks) (defBody s_done_ticks) (defScope s_done_ticks) .none kV26 dc26 pm26 an26 cd26 ct26)
  (l26 : K.lookup (fa 26) = some ⟨oc26, od26, .func (fd 26), sl26⟩)
  (c26 : PySem.W.codeIn K cd26 "done_ticks" = true)
  (k26 : PySem.W.keepIn K (.ref (fa 26)) = true)
  (a26 : PySem.W.nsIn K mainGlobals "done_ticks" = some (some (.ref (fa 26))))
  (wq27 : fd 27 = PySem.W.fnOf "arrivals" "arrivals" (defArgs s_arrivals) (defBody s_arrivals) (defScope s_arrivals) .none kV27 dc27 pm27 an27 cd27 ct27)
  (l27 : K.lookup (fa 27) = some ⟨oc27, od27, .func (fd 27), sl27⟩)
  (c27 : PySem.W.codeIn K cd27 "arrivals" = true)
  (k27 : PySem.W.keepIn K (.ref (fa 27)) = true)
  (a27 : PySem.W.nsIn K mainGlobals "arrivals" = some (some (.ref (fa 27))))
  (wq28 : fd 28 = PySem.W.fnOf "answer_tick" "answer_tick" (defArgs s_answer_tick) (defBody s_answer_tick) (defScope s_answer_tick) .none kV28 dc28 pm28 an28 cd28 ct28)
  (l28 : K.lookup (fa 28) = some ⟨oc28, od28, .func (fd 28), sl28⟩)
  (c28 : PySem.W.codeIn K cd28 "answer_tick" = true)
  (k28 : PySem.W.keepIn K (.ref (fa 28)) = true)
  (a28 : PySem.W.nsIn K mainGlobals "answer_tick" = some (some (.ref (fa 28)))) : Fx5 K mg fa fd ec fi di where
  F_CallPlay__play_all := (⟨⟨oc22, od22, kV22, dc22, pm22, an22, cd22, ct22, sl22, wq22, l22, c22⟩, k22⟩ : Fun K "play_all" "CallPlay.play_all" s_CallPlay__play_all (fa 22) (fd 22))
  kp_CallPlay__play_all := k22
  b_CallPlay__play_all := (⟨⟨oc22, od22, kV22, dc22, pm22, an22, cd22, ct22, sl22, wq22, l22, c22⟩, k22⟩ : Fun K "play_all" "CallPlay.play_all" s_CallPlay__play_all (fa 22) (fd 22)).binds fun _ _ _ _ _ _ us hl => match us, hl with | [_], _ => rfl
  gc_CallPlay := PySem.W.mg_of X G aC5
  mk_CallPlay := ⟨mkC5, a15, fn15, kC5⟩
  me_CallPlay__play_all := ⟨a22, fn22, k22⟩
  F_played_log := (⟨⟨oc23, od23, kV23, dc23, pm23, an23, cd23, ct23, sl23, wq23, l23, c23⟩, k23⟩ : Fun K "played_log" "played_log" s_played_log (fa 23) (fd 23))
  kp_played_log := k23
  g_played_log := PySem.W.mg_of X G a23
  b_played_log := (⟨⟨oc23, od23, kV23, dc23, pm23, an23, cd23, ct23, sl23, wq23, l23, c23⟩, k23⟩ : Fun K "played_log" "played_log" s_played_log (fa 23) (fd 23)).binds fun _ _ _ _ _ _ us hl => match us, hl with | [_, _, _, _], _ => rfl
  F_play_call := (⟨⟨oc24, od24, kV24, dc24, pm24, an24, cd24, ct24, sl24, wq24, l24, c24⟩, k24⟩ : Fun K "play_call" "play_call" s_play_call (fa 24) (fd 24))
  kp_play_call := k24
  g_play_call := PySem.W.mg_of X G a24
  b_play_call := (⟨⟨oc24, od24, kV24, dc24, pm24, an24, cd24, ct24, sl24, wq24, l24, c24⟩, k24⟩ : Fun K "play_call" "play_call" s_play_call (fa 24) (fd 24)).binds fun _ _ _ _ _ _ us hl => match us, hl with | [_, _, _, _], _ => rfl
  F_ticks_of := (⟨⟨oc25, od25, kV25, dc25, pm25, an25, cd25, ct25, sl25, wq25, l25, c25⟩, k25⟩ : Fun K "ticks_of" "ticks_of" s_ticks_of (fa 25) (fd 25))
  kp_ticks_of := k25
  g_ticks_of := PySem.W.mg_of X G a25
  b_ticks_of := (⟨⟨oc25, od25, kV25, dc25, pm25, an25, cd25, ct25, sl25, wq25, l25, c25⟩, k25⟩ : Fun K "ticks_of" "ticks_of" s_ticks_of (fa 25) (fd 25)).binds fun _ _ _ _ _ _ us hl => match us, hl with | [_, _], _ => rfl
  F_done_ticks := (⟨⟨oc26, od26, kV26, dc26, pm26, an26, cd26, ct26, sl26, wq26, l26, c26⟩, k26⟩ : Fun K "done_ticks" "done_ticks" s_done_ticks (fa 26) (fd 26))
  kp_done_ticks := k26
  g_done_ticks := PySem.W.mg_of X G a26
  b_done_ticks := (⟨⟨oc26, od26, kV26, dc26, pm26, an26, cd26, ct26, sl26, wq26, l26, c26⟩, k26⟩ : Fun K "done_ticks" "done_ticks" s_done_ticks (fa 26) (fd 26)).binds fun _ _ _ _ _ _ us hl => match us, hl with | [_], _ => rfl
  F_arrivals := (⟨⟨oc27, od27, kV27, dc27, pm27, an27, cd27, ct27, sl27, wq27, l27, c27⟩, k27⟩ : Fun K "arrivals" "arrivals" s_arrivals (fa 27) (fd 27))
  kp_arrivals := k27
  g_arrivals := PySem.W.mg_of X G a27
  b_arrivals := (⟨⟨oc27, od27, kV27, dc27, pm27, an27, cd27, ct27, sl27, wq27, l27, c27⟩, k27⟩ : Fun K "arrivals" "arrivals" s_arrivals (fa 27) (fd 27)).binds fun _ _ _ _ _ _ us hl => match us, hl with | [_], _ => rfl
  F_answer_tick := (⟨⟨oc28, od28, kV28, dc28, pm28, an28, cd28, ct28, sl28, wq28, l28, c28⟩, k28⟩ : Fun K "answer_tick" "answer_tick" s_answer_tick (fa 28) (fd 28))
  kp_answer_tick := k28
  g_answer_tick := PySem.W.mg_of X G a28
  b_answer_tick := (⟨⟨oc28, od28, kV28, dc28, pm28, an28, cd28, ct28, sl28, wq28, l28, c28⟩, k28⟩ : Fun K "answer_tick" "answer_tick" s_answer_tick (fa 28) (fd 28)).binds fun _ _ _ _ _ _ us hl => match us, hl with | [_], _ => rfl
theorem mk6 {K : PySem.W.Frag} {h : Heap} {mg : Str → Option Value} {fa : Nat → Addr} {fd : Nat → FuncData} {ec fi : Nat → Addr} {di : Nat → FuncData} (X : K.In h) (G : h.Ns mainGlobals mg)
  {kV29 : Value} {dc29 : Value} {pm29 : Value} {an29 : Option Addr} {cd29 : Value} {ct29 : Value} {oc29 : Value} {od29 : Option Addr} {sl29 : Array (Option Value)} {kV30 : Value} {dc30 : Value} {pm30 : Value} {an30 : Option Addr} {cd30 : Value} {ct30 : Value} {oc30 : Value} {od30 : Option Addr} {sl30 : Array (Option Value)} {kV31 : Value} {dc31 : Value} {pm31 : Value} {an31 : Option Addr} {cd31 : Value} {ct31 : Value} {oc31 : Value} {od31 : Option Addr} {sl31 : Array (Option Value)} {kV32 : Value} {dc32 : Value} {pm32 : Value} {an32 : Option Addr} {cd32 : Value} {ct32 : Value} {oc32 : Value} {od32 : Option Addr} {sl32 : Array (Option Value)} {kV33 : Value} {dc33 : Value} {pm33 : Value} {an33 : Option Addr} {cd33 : Value} {ct33 : Value} {oc33 : Value} {od33 : Option Addr} {sl33 : Array (Option Value)} {kV34 : Value} {dc34 : Value} {pm34 : Value} {an34 : Option Addr} {cd34 : Value} {ct34 : Value} {oc34 : Value} {od34 : Option Addr} {sl34 : Array (Option Value)} {kV35 : Value} {dc35 : Value} {pm35 : Value} {an35 : Option Addr} {cd35 : Value} {ct35 : Value} {oc35 : Value} {od35 : Option Addr} {sl35 : Array (Option Value)}
  (wq29 : fd 29 = PySem.W.fnOf "gap_of" "gap_of" (defArgs s_gap_of) (defBody s_gap_of) (defScope s_gap_of) .none kV29 dc29 pm29 an29 cd29 ct29)
  (l29 : K.lookup (fa 29) = some ⟨oc29, od29, .func (fd 29), sl29⟩)
  (c29 : PySem.W.codeIn K cd29 "gap_of" = true)
  (k29 : PySem.W.keepIn K (.ref (fa 29)) = true)
  (a29 : PySem.W.nsIn K mainGlobals "gap_of" = some (some (.ref (fa 29))))
  (wq30 : fd 30 = PySem.W.fnOf "_law_cell" "_law_cell" (defArgs s__law_cell) (defBody s__law_cell) (defScope s__law_cell) .none kV30 dc30 pm30 an30 cd30 ct30)
  (l30 : K.lookup (fa 30) = some ⟨oc30, od30, .func (fd 30), sl30⟩)
  (c30 : PySem.W.codeIn K cd30 "_law_cell" = true)
  (k30 : PySem.W.keepIn K (.ref (fa 30)) = true)
  (a30 : PySem.W.nsIn K mainGlobals "_law_cell" = some (some (.ref (fa 30))))
  (wq31 : fd 31 = PySem.W.fnOf "_law_row" "_law_row" (defArgs s__law_row) (defBody s__law_row) (defScope s__law_row) .none kV31 dc31 pm31 an31 cd31 ct31)
  (l31 : K.lookup (fa 31) = some ⟨oc31, od31, .func (fd 31), sl31⟩)
  (c31 : PySem.W.codeIn K cd31 "_law_row" = true)
  (k31 : PySem.W.keepIn K (.ref (fa 31)) = true)
  (a31 : PySem.W.nsIn K mainGlobals "_law_row" = some (some (.ref (fa 31))))
  (wq32 : fd 32 = PySem.W.fnOf "_law_wire" "_law_wire" (defArgs s__law_wire) (defBody s__law_wire) (defScope s__law_wire) .none kV32 dc32 pm32 an32 cd32 ct32)
  (l32 : K.lookup (fa 32) = some ⟨oc32, od32, .func (fd 32), sl32⟩)
  (c32 : PySem.W.codeIn K cd32 "_law_wire" = true)
  (k32 : PySem.W.keepIn K (.ref (fa 32)) = true)
  (a32 : PySem.W.nsIn K mainGlobals "_law_wire" = some (some (.ref (fa 32))))
  (z_min : PySem.W.nsIn K mainGlobals "min" = some none)
  (wq33 : fd 33 = PySem.W.fnOf "_law_plan" "_law_plan" (defArgs s__law_plan) (defBody s__law_plan) (defScope s__law_plan) .none kV33 dc33 pm33 an33 cd33 ct33)
  (l33 : K.lookup (fa 33) = some ⟨oc33, od33, .func (fd 33), sl33⟩)
  (c33 : PySem.W.codeIn K cd33 "_law_plan" = true)
  (k33 : PySem.W.keepIn K (.ref (fa 33)) = true)
  (a33 : PySem.W.nsIn K mainGlobals "_law_plan" = some (some (.ref (fa 33))))
  (wq34 : fd 34 = PySem.W.fnOf "_law_memory" "_law_memory" (defArgs s__law_memory) (defBody s__law_memory) (defScope s__law_memory) .none kV34 dc34 pm34 an34 cd34 ct34)
  (l34 : K.lookup (fa 34) = some ⟨oc34, od34, .func (fd 34), sl34⟩)
  (c34 : PySem.W.codeIn K cd34 "_law_memory" = true)
  (k34 : PySem.W.keepIn K (.ref (fa 34)) = true)
  (a34 : PySem.W.nsIn K mainGlobals "_law_memory" = some (some (.ref (fa 34))))
  (z_sorted : PySem.W.nsIn K mainGlobals "sorted" = some none)
  (wq35 : fd 35 = PySem.W.fnOf "_law_fate" "_law_fate" (defArgs s__law_fate) (defBody s__law_fate) (defScope s__law_fate) .none kV35 dc35 pm35 an35 cd35 ct35)
  (l35 : K.lookup (fa 35) = some ⟨oc35, od35, .func (fd 35), sl35⟩)
  (c35 : PySem.W.codeIn K cd35 "_law_fate" = true)
  (k35 : PySem.W.keepIn K (.ref (fa 35)) = true)
  (a35 : PySem.W.nsIn K mainGlobals "_law_fate" = some (some (.ref (fa 35)))) : Fx6 K mg fa fd ec fi di where
  F_gap_of := (⟨⟨oc29, od29, kV29, dc29, pm29, an29, cd29, ct29, sl29, wq29, l29, c29⟩, k29⟩ : Fun K "gap_of" "gap_of" s_gap_of (fa 29) (fd 29))
  kp_gap_of := k29
  g_gap_of := PySem.W.mg_of X G a29
  b_gap_of := (⟨⟨oc29, od29, kV29, dc29, pm29, an29, cd29, ct29, sl29, wq29, l29, c29⟩, k29⟩ : Fun K "gap_of" "gap_of" s_gap_of (fa 29) (fd 29)).binds fun _ _ _ _ _ _ us hl => match us, hl with | [_], _ => rfl
  F__law_cell := (⟨⟨oc30, od30, kV30, dc30, pm30, an30, cd30, ct30, sl30, wq30, l30, c30⟩, k30⟩ : Fun K "_law_cell" "_law_cell" s__law_cell (fa 30) (fd 30))
  kp__law_cell := k30
  g__law_cell := PySem.W.mg_of X G a30
  b__law_cell := (⟨⟨oc30, od30, kV30, dc30, pm30, an30, cd30, ct30, sl30, wq30, l30, c30⟩, k30⟩ : Fun K "_law_cell" "_law_cell" s__law_cell (fa 30) (fd 30)).binds fun _ _ _ _ _ _ us hl => match us, hl with | [_, _], _ => rfl
  F__law_row := (⟨⟨oc31, od31, kV31, dc31, pm31, an31, cd31, ct31, sl31, wq31, l31, c31⟩, k31⟩ : Fun K "_law_row" "_law_row" s__law_row (fa 31) (fd 31))
  kp__law_row := k31
  g__law_row := PySem.W.mg_of X G a31
  b__law_row := (⟨⟨oc31, od31, kV31, dc31, pm31, an31, cd31, ct31, sl31, wq31, l31, c31⟩, k31⟩ : Fun K "_law_row" "_law_row" s__law_row (fa 31) (fd 31)).binds fun _ _ _ _ _ _ us hl => match us, hl with | [_, _, _], _ => rfl
  F__law_wire := (⟨⟨oc32, od32, kV32, dc32, pm32, an32, cd32, ct32, sl32, wq32, l32, c32⟩, k32⟩ : Fun K "_law_wire" "_law_wire" s__law_wire (fa 32) (fd 32))
  kp__law_wire := k32
  g__law_wire := PySem.W.mg_of X G a32
  b__law_wire := (⟨⟨oc32, od32, kV32, dc32, pm32, an32, cd32, ct32, sl32, wq32, l32, c32⟩, k32⟩ : Fun K "_law_wire" "_law_wire" s__law_wire (fa 32) (fd 32)).binds fun _ _ _ _ _ _ us hl => match us, hl with | [_], _ => rfl
  z_min := PySem.W.mg_none_of X G z_min
  F__law_plan := (⟨⟨oc33, od33, kV33, dc33, pm33, an33, cd33, ct33, sl33, wq33, l33, c33⟩, k33⟩ : Fun K "_law_plan" "_law_plan" s__law_plan (fa 33) (fd 33))
  kp__law_plan := k33
  g__law_plan := PySem.W.mg_of X G a33
  b__law_plan := (⟨⟨oc33, od33, kV33, dc33, pm33, an33, cd33, ct33, sl33, wq33, l33, c33⟩, k33⟩ : Fun K "_law_plan" "_law_plan" s__law_plan (fa 33) (fd 33)).binds fun _ _ _ _ _ _ us hl => match us, hl with | [_, _], _ => rfl
  F__law_memory := (⟨⟨oc34, od34, kV34, dc34, pm34, an34, cd34, ct34, sl34, wq34, l34, c34⟩, k34⟩ : Fun K "_law_memory" "_law_memory" s__law_memory (fa 34) (fd 34))
  kp__law_memory := k34
  g__law_memory := PySem.W.mg_of X G a34
  b__law_memory := (⟨⟨oc34, od34, kV34, dc34, pm34, an34, cd34, ct34, sl34, wq34, l34, c34⟩, k34⟩ : Fun K "_law_memory" "_law_memory" s__law_memory (fa 34) (fd 34)).binds fun _ _ _ _ _ _ us hl => match us, hl with | [_, _, _], _ => rfl
  z_sorted := PySem.W.mg_none_of X G z_sorted
  F__law_fate := (⟨⟨oc35, od35, kV35, dc35, pm35, an35, cd35, ct35, sl35, wq35, l35, c35⟩, k35⟩ : Fun K "_law_fate" "_law_fate" s__law_fate (fa 35) (fd 35))
  kp__law_fate := k35
  g__law_fate := PySem.W.mg_of X G a35
  b__law_fate := (⟨⟨oc35, od35, kV35, dc35, pm35, an35, cd35, ct35, sl35, wq35, l35, c35⟩, k35⟩ : Fun K "_law_fate" "_law_fate" s__law_fate (fa 35) (fd 35)).binds fun _ _ _ _ _ _ us hl => match us, hl with | [_, _, _, _], _ => rfl
theorem mk7 {K : PySem.W.Frag} {h : Heap} {mg : Str → Option Value} {fa : Nat → Addr} {fd : Nat → FuncData} {ec fi : Nat → Addr} {di : Nat → FuncData} (X : K.In h) (G : h.Ns mainGlobals mg)
  {kV36 : Value} {dc36 : Value} {pm36 : Value} {an36 : Option Addr} {cd36 : Value} {ct36 : Value} {oc36 : Value} {od36 : Option Addr} {sl36 : Array (Option Value)} {kV37 : Value} {dc37 : Value} {pm37 : Value} {an37 : Option Addr} {cd37 : Value} {ct37 : Value} {oc37 : Value} {od37 : Option Addr} {sl37 : Array (Option Value)} {kV38 : Value} {dc38 : Value} {pm38 : Value} {an38 : Option Addr} {cd38 : Value} {ct38 : Value} {oc38 : Value} {od38 : Option Addr} {sl38 : Array (Option Value)} {kV39 : Value} {dc39 : Value} {pm39 : Value} {an39 : Option Addr} {cd39 : Value} {ct39 : Value} {oc39 : Value} {od39 : Option Addr} {sl39 : Array (Option Value)} {kV40 : Value} {dc40 : Value} {pm40 : Value} {an40 : Option Addr} {cd40 : Value} {ct40 : Value} {oc40 : Value} {od40 : Option Addr} {sl40 : Array (Option Value)} {kV41 : Value} {dc41 : Value} {pm41 : Value} {an41 : Option Addr} {cd41 : Value} {ct41 : Value} {oc41 : Value} {od41 : Option Addr} {sl41 : Array (Option Value)} {kVI1 : Value} {dcI1 : Value} {pmI1 : Value} {anI1 : Option Addr} {cdI1 : Value} {ctI1 : Value} {ocI1 : Value} {odI1 : Option Addr} {slI1 : Array (Option Value)} {kVI2 : Value} {dcI2 : Value} {pmI2 : Value} {anI2 : Option Addr} {cdI2 : Value} {ctI2 : Value} {ocI2 : Value} {odI2 : Option Addr} {slI2 : Array (Option Value)}
  (wq36 : fd 36 = PySem.W.fnOf "_law_run" "_law_run" (defArgs s__law_run) (defBody s__law_run) (defScope s__law_run) .none kV36 dc36 pm36 an36 cd36 ct36)
  (l36 : K.lookup (fa 36) = some ⟨oc36, od36, .func (fd 36), sl36⟩)
  (c36 : PySem.W.codeIn K cd36 "_law_run" = true)
  (k36 : PySem.W.keepIn K (.ref (fa 36)) = true)
  (a36 : PySem.W.nsIn K mainGlobals "_law_run" = some (some (.ref (fa 36))))
  (wq37 : fd 37 = PySem.W.fnOf "_law_fate_at" "_law_fate_at" (defArgs s__law_fate_at) (defBody s__law_fate_at) (defScope s__law_fate_at) .none kV37 dc37 pm37 an37 cd37 ct37)
  (l37 : K.lookup (fa 37) = some ⟨oc37, od37, .func (fd 37), sl37⟩)
  (c37 : PySem.W.codeIn K cd37 "_law_fate_at" = true)
  (k37 : PySem.W.keepIn K (.ref (fa 37)) = true)
  (a37 : PySem.W.nsIn K mainGlobals "_law_fate_at" = some (some (.ref (fa 37))))
  (wq38 : fd 38 = PySem.W.fnOf "_law_play" "_law_play" (defArgs s__law_play) (defBody s__law_play) (defScope s__law_play) .none kV38 dc38 pm38 an38 cd38 ct38)
  (l38 : K.lookup (fa 38) = some ⟨oc38, od38, .func (fd 38), sl38⟩)
  (c38 : PySem.W.codeIn K cd38 "_law_play" = true)
  (k38 : PySem.W.keepIn K (.ref (fa 38)) = true)
  (a38 : PySem.W.nsIn K mainGlobals "_law_play" = some (some (.ref (fa 38))))
  (z_str : PySem.W.nsIn K mainGlobals "str" = some none)
  (wq39 : fd 39 = PySem.W.fnOf "_law_same" "_law_same" (defArgs s__law_same) (defBody s__law_same) (defScope s__law_same) .none kV39 dc39 pm39 an39 cd39 ct39)
  (l39 : K.lookup (fa 39) = some ⟨oc39, od39, .func (fd 39), sl39⟩)
  (c39 : PySem.W.codeIn K cd39 "_law_same" = true)
  (k39 : PySem.W.keepIn K (.ref (fa 39)) = true)
  (a39 : PySem.W.nsIn K mainGlobals "_law_same" = some (some (.ref (fa 39))))
  (wq40 : fd 40 = PySem.W.fnOf "_law_is_right" "_law_is_right" (defArgs s__law_is_right) (defBody s__law_is_right) (defScope s__law_is_right) .none kV40 dc40 pm40 an40 cd40 ct40)
  (l40 : K.lookup (fa 40) = some ⟨oc40, od40, .func (fd 40), sl40⟩)
  (c40 : PySem.W.codeIn K cd40 "_law_is_right" = true)
  (k40 : PySem.W.keepIn K (.ref (fa 40)) = true)
  (a40 : PySem.W.nsIn K mainGlobals "_law_is_right" = some (some (.ref (fa 40))))
  (wq41 : fd 41 = PySem.W.fnOf "law" "law" (defArgs s_law) (defBody s_law) (defScope s_law) .none kV41 dc41 pm41 an41 cd41 ct41)
  (l41 : K.lookup (fa 41) = some ⟨oc41, od41, .func (fd 41), sl41⟩)
  (c41 : PySem.W.codeIn K cd41 "law" = true)
  (k41 : PySem.W.keepIn K (.ref (fa 41)) = true)
  (a41 : PySem.W.nsIn K mainGlobals "law" = some (some (.ref (fa 41))))
  (wqi1 : di 1 = PySem.W.fnOf "__init__" "BadWire.__init__" (defArgs i_BadWire) (defBody i_BadWire) (defScope i_BadWire) .none kVI1 dcI1 pmI1 anI1 cdI1 ctI1)
  (li1 : K.lookup (fi 1) = some ⟨ocI1, odI1, .func (di 1), slI1⟩)
  (ci1 : PySem.W.codeIn K cdI1 "BadWire.__init__" = true)
  (ki1 : PySem.W.keepIn K (.ref (fi 1)) = true)
  (ai1 : PySem.W.findIn K (.ref (ec 1)) "__init__" = some (some (.ref (fi 1))))
  (ti1 : PySem.W.typeIn K (.ref (fi 1)) = some (.type "function"))
  (wqi2 : di 2 = PySem.W.fnOf "__init__" "BadPlan.__init__" (defArgs i_BadPlan) (defBody i_BadPlan) (defScope i_BadPlan) .none kVI2 dcI2 pmI2 anI2 cdI2 ctI2)
  (li2 : K.lookup (fi 2) = some ⟨ocI2, odI2, .func (di 2), slI2⟩)
  (ci2 : PySem.W.codeIn K cdI2 "BadPlan.__init__" = true)
  (ki2 : PySem.W.keepIn K (.ref (fi 2)) = true) : Fx7 K mg fa fd ec fi di where
  F__law_run := (⟨⟨oc36, od36, kV36, dc36, pm36, an36, cd36, ct36, sl36, wq36, l36, c36⟩, k36⟩ : Fun K "_law_run" "_law_run" s__law_run (fa 36) (fd 36))
  kp__law_run := k36
  g__law_run := PySem.W.mg_of X G a36
  b__law_run := (⟨⟨oc36, od36, kV36, dc36, pm36, an36, cd36, ct36, sl36, wq36, l36, c36⟩, k36⟩ : Fun K "_law_run" "_law_run" s__law_run (fa 36) (fd 36)).binds fun _ _ _ _ _ _ us hl => match us, hl with | [_, _, _, _], _ => rfl
  F__law_fate_at := (⟨⟨oc37, od37, kV37, dc37, pm37, an37, cd37, ct37, sl37, wq37, l37, c37⟩, k37⟩ : Fun K "_law_fate_at" "_law_fate_at" s__law_fate_at (fa 37) (fd 37))
  kp__law_fate_at := k37
  g__law_fate_at := PySem.W.mg_of X G a37
  b__law_fate_at := (⟨⟨oc37, od37, kV37, dc37, pm37, an37, cd37, ct37, sl37, wq37, l37, c37⟩, k37⟩ : Fun K "_law_fate_at" "_law_fate_at" s__law_fate_at (fa 37) (fd 37)).binds fun _ _ _ _ _ _ us hl => match us, hl with | [_, _], _ => rfl
  F__law_play := (⟨⟨oc38, od38, kV38, dc38, pm38, an38, cd38, ct38, sl38, wq38, l38, c38⟩, k38⟩ : Fun K "_law_play" "_law_play" s__law_play (fa 38) (fd 38))
  kp__law_play := k38
  g__law_play := PySem.W.mg_of X G a38
  b__law_play := (⟨⟨oc38, od38, kV38, dc38, pm38, an38, cd38, ct38, sl38, wq38, l38, c38⟩, k38⟩ : Fun K "_law_play" "_law_play" s__law_play (fa 38) (fd 38)).binds fun _ _ _ _ _ _ us hl => match us, hl with | [_, _, _, _], _ => rfl
  z_str := PySem.W.mg_none_of X G z_str
  F__law_same := (⟨⟨oc39, od39, kV39, dc39, pm39, an39, cd39, ct39, sl39, wq39, l39, c39⟩, k39⟩ : Fun K "_law_same" "_law_same" s__law_same (fa 39) (fd 39))
  kp__law_same := k39
  g__law_same := PySem.W.mg_of X G a39
  b__law_same := (⟨⟨oc39, od39, kV39, dc39, pm39, an39, cd39, ct39, sl39, wq39, l39, c39⟩, k39⟩ : Fun K "_law_same" "_law_same" s__law_same (fa 39) (fd 39)).binds fun _ _ _ _ _ _ us hl => match us, hl with | [_, _], _ => rfl
  F__law_is_right := (⟨⟨oc40, od40, kV40, dc40, pm40, an40, cd40, ct40, sl40, wq40, l40, c40⟩, k40⟩ : Fun K "_law_is_right" "_law_is_right" s__law_is_right (fa 40) (fd 40))
  kp__law_is_right := k40
  g__law_is_right := PySem.W.mg_of X G a40
  b__law_is_right := (⟨⟨oc40, od40, kV40, dc40, pm40, an40, cd40, ct40, sl40, wq40, l40, c40⟩, k40⟩ : Fun K "_law_is_right" "_law_is_right" s__law_is_right (fa 40) (fd 40)).binds fun _ _ _ _ _ _ us hl => match us, hl with | [_, _, _, _], _ => rfl
  F_law := (⟨⟨oc41, od41, kV41, dc41, pm41, an41, cd41, ct41, sl41, wq41, l41, c41⟩, k41⟩ : Fun K "law" "law" s_law (fa 41) (fd 41))
  kp_law := k41
  g_law := PySem.W.mg_of X G a41
  b_law := (⟨⟨oc41, od41, kV41, dc41, pm41, an41, cd41, ct41, sl41, wq41, l41, c41⟩, k41⟩ : Fun K "law" "law" s_law (fa 41) (fd 41)).binds fun _ _ _ _ _ _ us hl => match us, hl with | [_], _ => rfl
  Fi_BadWire := (⟨⟨ocI1, odI1, kVI1, dcI1, pmI1, anI1, cdI1, ctI1, slI1, wqi1, li1, ci1⟩, ki1⟩ : Fun K "__init__" "BadWire.__init__" i_BadWire (fi 1) (di 1))
  ii_BadWire := ai1
  ti_BadWire := ti1
  bi_BadWire := (⟨⟨ocI1, odI1, kVI1, dcI1, pmI1, anI1, cdI1, ctI1, slI1, wqi1, li1, ci1⟩, ki1⟩ : Fun K "__init__" "BadWire.__init__" i_BadWire (fi 1) (di 1)).binds fun _ _ _ _ _ _ us hl => match us, hl with | [_, _], _ => rfl
  Fi_BadPlan := (⟨⟨ocI2, odI2, kVI2, dcI2, pmI2, anI2, cdI2, ctI2, slI2, wqi2, li2, ci2⟩, ki2⟩ : Fun K "__init__" "BadPlan.__init__" i_BadPlan (fi 2) (di 2))
theorem mk8 {K : PySem.W.Frag} {h : Heap} {mg : Str → Option Value} {fa : Nat → Addr} {fd : Nat → FuncData} {ec fi : Nat → Addr} {di : Nat → FuncData} (X : K.In h) (G : h.Ns mainGlobals mg)
  {kVI2 : Value} {dcI2 : Value} {pmI2 : Value} {anI2 : Option Addr} {cdI2 : Value} {ctI2 : Value} {ocI2 : Value} {odI2 : Option Addr} {slI2 : Array (Option Value)} {kVI3 : Value} {dcI3 : Value} {pmI3 : Value} {anI3 : Option Addr} {cdI3 : Value} {ctI3 : Value} {ocI3 : Value} {odI3 : Option Addr} {slI3 : Array (Option Value)} {kVI4 : Value} {dcI4 : Value} {pmI4 : Value} {anI4 : Option Addr} {cdI4 : Value} {ctI4 : Value} {ocI4 : Value} {odI4 : Option Addr} {slI4 : Array (Option Value)}
  (ai2 : PySem.W.findIn K (.ref (ec 2)) "__init__" = some (some (.ref (fi 2))))
  (ti2 : PySem.W.typeIn K (.ref (fi 2)) = some (.type "function"))
  (wqi2 : di 2 = PySem.W.fnOf "__init__" "BadPlan.__init__" (defArgs i_BadPlan) (defBody i_BadPlan) (defScope i_BadPlan) .none kVI2 dcI2 pmI2 anI2 cdI2 ctI2)
  (li2 : K.lookup (fi 2) = some ⟨ocI2, odI2, .func (di 2), slI2⟩)
  (ci2 : PySem.W.codeIn K cdI2 "BadPlan.__init__" = true)
  (ki2 : PySem.W.keepIn K (.ref (fi 2)) = true)
  (wqi3 : di 3 = PySem.W.fnOf "__init__" "BadMemory.__init__" (defArgs i_BadMemory) (defBody i_BadMemory) (defScope i_BadMemory) .none kVI3 dcI3 pmI3 anI3 cdI3 ctI3)
  (li3 : K.lookup (fi 3) = some ⟨ocI3, odI3, .func (di 3), slI3⟩)
  (ci3 : PySem.W.codeIn K cdI3 "BadMemory.__init__" = true)
  (ki3 : PySem.W.keepIn K (.ref (fi 3)) = true)
  (ai3 : PySem.W.findIn K (.ref (ec 3)) "__init__" = some (some (.ref (fi 3))))
  (ti3 : PySem.W.typeIn K (.ref (fi 3)) = some (.type "function"))
  (wqi4 : di 4 = PySem.W.fnOf "__init__" "BadRun.__init__" (defArgs i_BadRun) (defBody i_BadRun) (defScope i_BadRun) .none kVI4 dcI4 pmI4 anI4 cdI4 ctI4)
  (li4 : K.lookup (fi 4) = some ⟨ocI4, odI4, .func (di 4), slI4⟩)
  (ci4 : PySem.W.codeIn K cdI4 "BadRun.__init__" = true)
  (ki4 : PySem.W.keepIn K (.ref (fi 4)) = true)
  (ai4 : PySem.W.findIn K (.ref (ec 4)) "__init__" = some (some (.ref (fi 4))))
  (ti4 : PySem.W.typeIn K (.ref (fi 4)) = some (.type "function")) : Fx8 K mg fa fd ec fi di where
  ii_BadPlan := ai2
  ti_BadPlan := ti2
  bi_BadPlan := (⟨⟨ocI2, odI2, kVI2, dcI2, pmI2, anI2, cdI2, ctI2, slI2, wqi2, li2, ci2⟩, ki2⟩ : Fun K "__init__" "BadPlan.__init__" i_BadPlan (fi 2) (di 2)).binds fun _ _ _ _ _ _ us hl => match us, hl with | [_, _], _ => rfl
  Fi_BadMemory := (⟨⟨ocI3, odI3, kVI3, dcI3, pmI3, anI3, cdI3, ctI3, slI3, wqi3, li3, ci3⟩, ki3⟩ : Fun K "__init__" "BadMemory.__init__" i_BadMemory (fi 3) (di 3))
  ii_BadMemory := ai3
  ti_BadMemory := ti3
  bi_BadMemory := (⟨⟨ocI3, odI3, kVI3, dcI3, pmI3, anI3, cdI3, ctI3, slI3, wqi3, li3, ci3⟩, ki3⟩ : Fun K "__init__" "BadMemory.__init__" i_BadMemory (fi 3) (di 3)).binds fun _ _ _ _ _ _ us hl => match us, hl with | [_, _], _ => rfl
  Fi_BadRun := (⟨⟨ocI4, odI4, kVI4, dcI4, pmI4, anI4, cdI4, ctI4, slI4, wqi4, li4, ci4⟩, ki4⟩ : Fun K "__init__" "BadRun.__init__" i_BadRun (fi 4) (di 4))
  ii_BadRun := ai4
  ti_BadRun := ti4
  bi_BadRun := (⟨⟨ocI4, odI4, kVI4, dcI4, pmI4, anI4, cdI4, ctI4, slI4, wqi4, li4, ci4⟩, ki4⟩ : Fun K "__init__" "BadRun.__init__" i_BadRun (fi 4) (di 4)).binds fun _ _ _ _ _ _ us hl => match us, hl with | [_, _], _ => rfl
theorem all_mk {P : Program} {w : World} {K : PySem.W.Frag} {h : Heap} {mg : Str → Option Value} {fl : Addr} (X : K.In h) (G : h.Ns mainGlobals mg) (hfa : mg "law" = some (.ref fl))
  {f0 : Addr} {od0 an0 : Option Addr} {sl0 : Array (Option Value)} {oc0 kV0 dc0 pm0 cd0 ct0 : Value}
  {f1 : Addr} {od1 an1 : Option Addr} {sl1 : Array (Option Value)} {oc1 kV1 dc1 pm1 cd1 ct1 : Value}
  {f2 : Addr} {od2 an2 : Option Addr} {sl2 : Array (Option Value)} {oc2 kV2 dc2 pm2 cd2 ct2 : Value}
  {f3 : Addr} {od3 an3 : Option Addr} {sl3 : Array (Option Value)} {oc3 kV3 dc3 pm3 cd3 ct3 : Value}
  {f4 : Addr} {od4 an4 : Option Addr} {sl4 : Array (Option Value)} {oc4 kV4 dc4 pm4 cd4 ct4 : Value}
  {f5 : Addr} {od5 an5 : Option Addr} {sl5 : Array (Option Value)} {oc5 kV5 dc5 pm5 cd5 ct5 : Value}
  {f6 : Addr} {od6 an6 : Option Addr} {sl6 : Array (Option Value)} {oc6 kV6 dc6 pm6 cd6 ct6 : Value}
  {f7 : Addr} {od7 an7 : Option Addr} {sl7 : Array (Option Value)} {oc7 kV7 dc7 pm7 cd7 ct7 : Value}
  {f8 : Addr} {od8 an8 : Option Addr} {sl8 : Array (Option Value)} {oc8 kV8 dc8 pm8 cd8 ct8 : Value}
  {f9 : Addr} {od9 an9 : Option Addr} {sl9 : Array (Option Value)} {oc9 kV9 dc9 pm9 cd9 ct9 : Value}
  {f10 : Addr} {od10 an10 : Option Addr} {sl10 : Array (Option Value)} {oc10 kV10 dc10 pm10 cd10 ct10 : Value}
  {f11 : Addr} {od11 an11 : Option Addr} {sl11 : Array (Option Value)} {oc11 kV11 dc11 pm11 cd11 ct11 : Value}
  {f12 : Addr} {od12 an12 : Option Addr} {sl12 : Array (Option Value)} {oc12 kV12 dc12 pm12 cd12 ct12 : Value}
  {f13 : Addr} {od13 an13 : Option Addr} {sl13 : Array (Option Value)} {oc13 kV13 dc13 pm13 cd13 ct13 : Value}
  {f14 : Addr} {od14 an14 : Option Addr} {sl14 : Array (Option Value)} {oc14 kV14 dc14 pm14 cd14 ct14 : Value}
  {f15 : Addr} {od15 an15 : Option Addr} {sl15 : Array (Option Value)} {oc15 kV15 dc15 pm15 cd15 ct15 : Value}
  {f16 : Addr} {od16 an16 : Option Addr} {sl16 : Array (Option Value)} {oc16 kV16 dc16 pm16 cd16 ct16 : Value}
  {f17 : Addr} {od17 an17 : Option Addr} {sl17 : Array (Option Value)} {oc17 kV17 dc17 pm17 cd17 ct17 : Value}
  {f18 : Addr} {od18 an18 : Option Addr} {sl18 : Array (Option Value)} {oc18 kV18 dc18 pm18 cd18 ct18 : Value}
  {f19 : Addr} {od19 an19 : Option Addr} {sl19 : Array (Option Value)} {oc19 kV19 dc19 pm19 cd19 ct19 : Value}
  {f20 : Addr} {od20 an20 : Option Addr} {sl20 : Array (Option Value)} {oc20 kV20 dc20 pm20 cd20 ct20 : Value}
  {f21 : Addr} {od21 an21 : Option Addr} {sl21 : Array (Option Value)} {oc21 kV21 dc21 pm21 cd21 ct21 : Value}
  {f22 : Addr} {od22 an22 : Option Addr} {sl22 : Array (Option Value)} {oc22 kV22 dc22 pm22 cd22 ct22 : Value}
  {f23 : Addr} {od23 an23 : Option Addr} {sl23 : Array (Option Value)} {oc23 kV23 dc23 pm23 cd23 ct23 : Value}
  {f24 : Addr} {od24 an24 : Option Addr} {sl24 : Array (Option Value)} {oc24 kV24 dc24 pm24 cd24 ct24 : Value}
  {f25 : Addr} {od25 an25 : Option Addr} {sl25 : Array (Option Value)} {oc25 kV25 dc25 pm25 cd25 ct25 : Value}
  {f26 : Addr} {od26 an26 : Option Addr} {sl26 : Array (Option Value)} {oc26 kV26 dc26 pm26 cd26 ct26 : Value}
  {f27 : Addr} {od27 an27 : Option Addr} {sl27 : Array (Option Value)} {oc27 kV27 dc27 pm27 cd27 ct27 : Value}
  {f28 : Addr} {od28 an28 : Option Addr} {sl28 : Array (Option Value)} {oc28 kV28 dc28 pm28 cd28 ct28 : Value}
  {f29 : Addr} {od29 an29 : Option Addr} {sl29 : Array (Option Value)} {oc29 kV29 dc29 pm29 cd29 ct29 : Value}
  {f30 : Addr} {od30 an30 : Option Addr} {sl30 : Array (Option Value)} {oc30 kV30 dc30 pm30 cd30 ct30 : Value}
  {f31 : Addr} {od31 an31 : Option Addr} {sl31 : Array (Option Value)} {oc31 kV31 dc31 pm31 cd31 ct31 : Value}
  {f32 : Addr} {od32 an32 : Option Addr} {sl32 : Array (Option Value)} {oc32 kV32 dc32 pm32 cd32 ct32 : Value}
  {f33 : Addr} {od33 an33 : Option Addr} {sl33 : Array (Option Value)} {oc33 kV33 dc33 pm33 cd33 ct33 : Value}
  {f34 : Addr} {od34 an34 : Option Addr} {sl34 : Array (Option Value)} {oc34 kV34 dc34 pm34 cd34 ct34 : Value}
  {f35 : Addr} {od35 an35 : Option Addr} {sl35 : Array (Option Value)} {oc35 kV35 dc35 pm35 cd35 ct35 : Value}
  {f36 : Addr} {od36 an36 : Option Addr} {sl36 : Array (Option Value)} {oc36 kV36 dc36 pm36 cd36 ct36 : Value}
  {f37 : Addr} {od37 an37 : Option Addr} {sl37 : Array (Option Value)} {oc37 kV37 dc37 pm37 cd37 ct37 : Value}
  {f38 : Addr} {od38 an38 : Option Addr} {sl38 : Array (Option Value)} {oc38 kV38 dc38 pm38 cd38 ct38 : Value}
  {f39 : Addr} {od39 an39 : Option Addr} {sl39 : Array (Option Value)} {oc39 kV39 dc39 pm39 cd39 ct39 : Value}
  {f40 : Addr} {od40 an40 : Option Addr} {sl40 : Array (Option Value)} {oc40 kV40 dc40 pm40 cd40 ct40 : Value}
  {f41 : Addr} {od41 an41 : Option Addr} {sl41 : Array (Option Value)} {oc41 kV41 dc41 pm41 cd41 ct41 : Value}
  {C1 : Addr}
  {N1 : Addr} {nm1 q1 : Str} {bs1 : List Value} {sn1 : List Str} {sub1 : List Value} {ab1 : Bool} {col1 : Option Bool} {dd1 : Option Addr} {m01 m11 m21 m31 m51 : Option Value}
  {bm1 : List Value}
  {fI1 : Addr} {odI1 anI1 : Option Addr} {slI1 : Array (Option Value)} {ocI1 kVI1 dcI1 pmI1 cdI1 ctI1 : Value}
  {C2 : Addr}
  {N2 : Addr} {nm2 q2 : Str} {bs2 : List Value} {sn2 : List Str} {sub2 : List Value} {ab2 : Bool} {col2 : Option Bool} {dd2 : Option Addr} {m02 m12 m22 m32 m52 : Option Value}
  {bm2 : List Value}
  {fI2 : Addr} {odI2 anI2 : Option Addr} {slI2 : Array (Option Value)} {ocI2 kVI2 dcI2 pmI2 cdI2 ctI2 : Value}
  {C3 : Addr}
  {N3 : Addr} {nm3 q3 : Str} {bs3 : List Value} {sn3 : List Str} {sub3 : List Value} {ab3 : Bool} {col3 : Option Bool} {dd3 : Option Addr} {m03 m13 m23 m33 m53 : Option Value}
  {bm3 : List Value}
  {fI3 : Addr} {odI3 anI3 : Option Addr} {slI3 : Array (Option Value)} {ocI3 kVI3 dcI3 pmI3 cdI3 ctI3 : Value}
  {C4 : Addr}
  {N4 : Addr} {nm4 q4 : Str} {bs4 : List Value} {sn4 : List Str} {sub4 : List Value} {ab4 : Bool} {col4 : Option Bool} {dd4 : Option Addr} {m04 m14 m24 m34 m54 : Option Value}
  {bm4 : List Value}
  {fI4 : Addr} {odI4 anI4 : Option Addr} {slI4 : Array (Option Value)} {ocI4 kVI4 dcI4 pmI4 cdI4 ctI4 : Value}
  {C5 : Addr}
  {Act_WIRE_LIMITS_1 : Addr} {nct_WIRE_LIMITS_1 : Nat} {slct_WIRE_LIMITS_1 : Array (Option Value)}
  {tct_WIRE_LIMITS_2 : Tok}
  {tct_WIRE_LIMITS_3 : Tok}
  {tct_WIRE_LIMITS_4 : Tok}
  {tct_WIRE_LIMITS_5 : Tok}
  {tc_MOST_TRIES : Tok}
  {tc_LAST_TRY : Tok}
  {tc_LAST_UNTIL : Tok}
  {tc_MOST_KEEP : Tok}
  {tc_MOST_CRASHES : Tok}
  {tc_LAST_CRASH : Tok}
  {tc_MOST_TELLS : Tok}
  (a0 : PySem.W.nsIn K mainGlobals "is_int" = some (some (.ref f0)))
  (l0 : K.lookup f0 = some ⟨oc0, od0, .func (PySem.W.fnOf "is_int" "is_int" (defArgs s_is_int) (defBody s_is_int) (defScope s_is_int) .none kV0 dc0 pm0 an0 cd0 ct0), sl0⟩)
  (c0 : PySem.W.codeIn K cd0 "is_int" = true)
  (k0 : PySem.W.keepIn K (.ref f0) = true)
  (a1 : PySem.W.nsIn K mainGlobals "is_int_in" = some (some (.ref f1)))
  (l1 : K.lookup f1 = some ⟨oc1, od1, .func (PySem.W.fnOf "is_int_in" "is_int_in" (defArgs s_is_int_in) (defBody s_is_int_in) (defScope s_is_int_in) .none kV1 dc1 pm1 an1 cd1 ct1), sl1⟩)
  (c1 : PySem.W.codeIn K cd1 "is_int_in" = true)
  (k1 : PySem.W.keepIn K (.ref f1) = true)
  (a2 : PySem.W.nsIn K mainGlobals "is_ascending" = some (some (.ref f2)))
  (l2 : K.lookup f2 = some ⟨oc2, od2, .func (PySem.W.fnOf "is_ascending" "is_ascending" (defArgs s_is_ascending) (defBody s_is_ascending) (defScope s_is_ascending) .none kV2 dc2 pm2 an2 cd2 ct2), sl2⟩)
  (c2 : PySem.W.codeIn K cd2 "is_ascending" = true)
  (k2 : PySem.W.keepIn K (.ref f2) = true)
  (a3 : PySem.W.nsIn K mainGlobals "check_wire" = some (some (.ref f3)))
  (l3 : K.lookup f3 = some ⟨oc3, od3, .func (PySem.W.fnOf "check_wire" "check_wire" (defArgs s_check_wire) (defBody s_check_wire) (defScope s_check_wire) .none kV3 dc3 pm3 an3 cd3 ct3), sl3⟩)
  (c3 : PySem.W.codeIn K cd3 "check_wire" = true)
  (k3 : PySem.W.keepIn K (.ref f3) = true)
  (a4 : PySem.W.nsIn K mainGlobals "_are_tries" = some (some (.ref f4)))
  (l4 : K.lookup f4 = some ⟨oc4, od4, .func (PySem.W.fnOf "_are_tries" "_are_tries" (defArgs s__are_tries) (defBody s__are_tries) (defScope s__are_tries) .none kV4 dc4 pm4 an4 cd4 ct4), sl4⟩)
  (c4 : PySem.W.codeIn K cd4 "_are_tries" = true)
  (k4 : PySem.W.keepIn K (.ref f4) = true)
  (a5 : PySem.W.nsIn K mainGlobals "check_plan" = some (some (.ref f5)))
  (l5 : K.lookup f5 = some ⟨oc5, od5, .func (PySem.W.fnOf "check_plan" "check_plan" (defArgs s_check_plan) (defBody s_check_plan) (defScope s_check_plan) .none kV5 dc5 pm5 an5 cd5 ct5), sl5⟩)
  (c5 : PySem.W.codeIn K cd5 "check_plan" = true)
  (k5 : PySem.W.keepIn K (.ref f5) = true)
  (a6 : PySem.W.nsIn K mainGlobals "check_memory" = some (some (.ref f6)))
  (l6 : K.lookup f6 = some ⟨oc6, od6, .func (PySem.W.fnOf "check_memory" "check_memory" (defArgs s_check_memory) (defBody s_check_memory) (defScope s_check_memory) .none kV6 dc6 pm6 an6 cd6 ct6), sl6⟩)
  (c6 : PySem.W.codeIn K cd6 "check_memory" = true)
  (k6 : PySem.W.keepIn K (.ref f6) = true)
  (a7 : PySem.W.nsIn K mainGlobals "is_fate" = some (some (.ref f7)))
  (l7 : K.lookup f7 = some ⟨oc7, od7, .func (PySem.W.fnOf "is_fate" "is_fate" (defArgs s_is_fate) (defBody s_is_fate) (defScope s_is_fate) .none kV7 dc7 pm7 an7 cd7 ct7), sl7⟩)
  (c7 : PySem.W.codeIn K cd7 "is_fate" = true)
  (k7 : PySem.W.keepIn K (.ref f7) = true)
  (a8 : PySem.W.nsIn K mainGlobals "_are_fates" = some (some (.ref f8)))
  (l8 : K.lookup f8 = some ⟨oc8, od8, .func (PySem.W.fnOf "_are_fates" "_are_fates" (defArgs s__are_fates) (defBody s__are_fates) (defScope s__are_fates) .none kV8 dc8 pm8 an8 cd8 ct8), sl8⟩)
  (c8 : PySem.W.codeIn K cd8 "_are_fates" = true)
  (k8 : PySem.W.keepIn K (.ref f8) = true)
  (a9 : PySem.W.nsIn K mainGlobals "lost_count" = some (some (.ref f9)))
  (l9 : K.lookup f9 = some ⟨oc9, od9, .func (PySem.W.fnOf "lost_count" "lost_count" (defArgs s_lost_count) (defBody s_lost_count) (defScope s_lost_count) .none kV9 dc9 pm9 an9 cd9 ct9), sl9⟩)
  (c9 : PySem.W.codeIn K cd9 "lost_count" = true)
  (k9 : PySem.W.keepIn K (.ref f9) = true)
  (a10 : PySem.W.nsIn K mainGlobals "extra_count" = some (some (.ref f10)))
  (l10 : K.lookup f10 = some ⟨oc10, od10, .func (PySem.W.fnOf "extra_count" "extra_count" (defArgs s_extra_count) (defBody s_extra_count) (defScope s_extra_count) .none kV10 dc10 pm10 an10 cd10 ct10), sl10⟩)
  (c10 : PySem.W.codeIn K cd10 "extra_count" = true)
  (k10 : PySem.W.keepIn K (.ref f10) = true)
  (a11 : PySem.W.nsIn K mainGlobals "_is_affordable" = some (some (.ref f11)))
  (l11 : K.lookup f11 = some ⟨oc11, od11, .func (PySem.W.fnOf "_is_affordable" "_is_affordable" (defArgs s__is_affordable) (defBody s__is_affordable) (defScope s__is_affordable) .none kV11 dc11 pm11 an11 cd11 ct11), sl11⟩)
  (c11 : PySem.W.codeIn K cd11 "_is_affordable" = true)
  (k11 : PySem.W.keepIn K (.ref f11) = true)
  (a12 : PySem.W.nsIn K mainGlobals "_are_crashes" = some (some (.ref f12)))
  (l12 : K.lookup f12 = some ⟨oc12, od12, .func (PySem.W.fnOf "_are_crashes" "_are_crashes" (defArgs s__are_crashes) (defBody s__are_crashes) (defScope s__are_crashes) .none kV12 dc12 pm12 an12 cd12 ct12), sl12⟩)
  (c12 : PySem.W.codeIn K cd12 "_are_crashes" = true)
  (k12 : PySem.W.keepIn K (.ref f12) = true)
  (a13 : PySem.W.nsIn K mainGlobals "check_run" = some (some (.ref f13)))
  (l13 : K.lookup f13 = some ⟨oc13, od13, .func (PySem.W.fnOf "check_run" "check_run" (defArgs s_check_run) (defBody s_check_run) (defScope s_check_run) .none kV13 dc13 pm13 an13 cd13 ct13), sl13⟩)
  (c13 : PySem.W.codeIn K cd13 "check_run" = true)
  (k13 : PySem.W.keepIn K (.ref f13) = true)
  (a14 : PySem.W.nsIn K mainGlobals "fate_of" = some (some (.ref f14)))
  (l14 : K.lookup f14 = some ⟨oc14, od14, .func (PySem.W.fnOf "fate_of" "fate_of" (defArgs s_fate_of) (defBody s_fate_of) (defScope s_fate_of) .none kV14 dc14 pm14 an14 cd14 ct14), sl14⟩)
  (c14 : PySem.W.codeIn K cd14 "fate_of" = true)
  (k14 : PySem.W.keepIn K (.ref f14) = true)
  (a15 : PySem.W.findIn K (.ref C5) "__init__" = some (some (.ref f15)))
  (l15 : K.lookup f15 = some ⟨oc15, od15, .func (PySem.W.fnOf "__init__" "CallPlay.__init__" (defArgs s_CallPlay____init__) (defBody s_CallPlay____init__) (defScope s_CallPlay____init__) .none kV15 dc15 pm15 an15 cd15 ct15), sl15⟩)
  (c15 : PySem.W.codeIn K cd15 "CallPlay.__init__" = true)
  (k15 : PySem.W.keepIn K (.ref f15) = true)
  (fn15 : PySem.W.isFn K (.ref f15) = true)
  (mkC5 : PySem.W.makesIn K C5 = true)
  (a16 : PySem.W.findIn K (.ref C5) "play_tell" = some (some (.ref f16)))
  (l16 : K.lookup f16 = some ⟨oc16, od16, .func (PySem.W.fnOf "play_tell" "CallPlay.play_tell" (defArgs s_CallPlay__play_tell) (defBody s_CallPlay__play_tell) (defScope s_CallPlay__play_tell) .none kV16 dc16 pm16 an16 cd16 ct16), sl16⟩)
  (c16 : PySem.W.codeIn K cd16 "CallPlay.play_tell" = true)
  (k16 : PySem.W.keepIn K (.ref f16) = true)
  (fn16 : PySem.W.isFn K (.ref f16) = true)
  (a17 : PySem.W.findIn K (.ref C5) "play_arrivals" = some (some (.ref f17)))
  (l17 : K.lookup f17 = some ⟨oc17, od17, .func (PySem.W.fnOf "play_arrivals" "CallPlay.play_arrivals" (defArgs s_CallPlay__play_arrivals) (defBody s_CallPlay__play_arrivals) (defScope s_CallPlay__play_arrivals) .none kV17 dc17 pm17 an17 cd17 ct17), sl17⟩)
  (c17 : PySem.W.codeIn K cd17 "CallPlay.play_arrivals" = true)
  (k17 : PySem.W.keepIn K (.ref f17) = true)
  (fn17 : PySem.W.isFn K (.ref f17) = true)
  (a18 : PySem.W.findIn K (.ref C5) "play_ask" = some (some (.ref f18)))
  (l18 : K.lookup f18 = some ⟨oc18, od18, .func (PySem.W.fnOf "play_ask" "CallPlay.play_ask" (defArgs s_CallPlay__play_ask) (defBody s_CallPlay__play_ask) (defScope s_CallPlay__play_ask) .none kV18 dc18 pm18 an18 cd18 ct18), sl18⟩)
  (c18 : PySem.W.codeIn K cd18 "CallPlay.play_ask" = true)
  (k18 : PySem.W.keepIn K (.ref f18) = true)
  (fn18 : PySem.W.isFn K (.ref f18) = true)
  (a19 : PySem.W.findIn K (.ref C5) "play_crash" = some (some (.ref f19)))
  (l19 : K.lookup f19 = some ⟨oc19, od19, .func (PySem.W.fnOf "play_crash" "CallPlay.play_crash" (defArgs s_CallPlay__play_crash) (defBody s_CallPlay__play_crash) (defScope s_CallPlay__play_crash) .none kV19 dc19 pm19 an19 cd19 ct19), sl19⟩)
  (c19 : PySem.W.codeIn K cd19 "CallPlay.play_crash" = true)
  (k19 : PySem.W.keepIn K (.ref f19) = true)
  (fn19 : PySem.W.isFn K (.ref f19) = true)
  (a20 : PySem.W.findIn K (.ref C5) "play_replies" = some (some (.ref f20)))
  (l20 : K.lookup f20 = some ⟨oc20, od20, .func (PySem.W.fnOf "play_replies" "CallPlay.play_replies" (defArgs s_CallPlay__play_replies) (defBody s_CallPlay__play_replies) (defScope s_CallPlay__play_replies) .none kV20 dc20 pm20 an20 cd20 ct20), sl20⟩)
  (c20 : PySem.W.codeIn K cd20 "CallPlay.play_replies" = true)
  (k20 : PySem.W.keepIn K (.ref f20) = true)
  (fn20 : PySem.W.isFn K (.ref f20) = true)
  (a21 : PySem.W.findIn K (.ref C5) "play_tick" = some (some (.ref f21)))
  (l21 : K.lookup f21 = some ⟨oc21, od21, .func (PySem.W.fnOf "play_tick" "CallPlay.play_tick" (defArgs s_CallPlay__play_tick) (defBody s_CallPlay__play_tick) (defScope s_CallPlay__play_tick) .none kV21 dc21 pm21 an21 cd21 ct21), sl21⟩)
  (c21 : PySem.W.codeIn K cd21 "CallPlay.play_tick" = true)
  (k21 : PySem.W.keepIn K (.ref f21) = true)
  (fn21 : PySem.W.isFn K (.ref f21) = true)
  (a22 : PySem.W.findIn K (.ref C5) "play_all" = some (some (.ref f22)))
  (l22 : K.lookup f22 = some ⟨oc22, od22, .func (PySem.W.fnOf "play_all" "CallPlay.play_all" (defArgs s_CallPlay__play_all) (defBody s_CallPlay__play_all) (defScope s_CallPlay__play_all) .none kV22 dc22 pm22 an22 cd22 ct22), sl22⟩)
  (c22 : PySem.W.codeIn K cd22 "CallPlay.play_all" = true)
  (k22 : PySem.W.keepIn K (.ref f22) = true)
  (fn22 : PySem.W.isFn K (.ref f22) = true)
  (a23 : PySem.W.nsIn K mainGlobals "played_log" = some (some (.ref f23)))
  (l23 : K.lookup f23 = some ⟨oc23, od23, .func (PySem.W.fnOf "played_log" "played_log" (defArgs s_played_log) (defBody s_played_log) (defScope s_played_log) .none kV23 dc23 pm23 an23 cd23 ct23), sl23⟩)
  (c23 : PySem.W.codeIn K cd23 "played_log" = true)
  (k23 : PySem.W.keepIn K (.ref f23) = true)
  (a24 : PySem.W.nsIn K mainGlobals "play_call" = some (some (.ref f24)))
  (l24 : K.lookup f24 = some ⟨oc24, od24, .func (PySem.W.fnOf "play_call" "play_call" (defArgs s_play_call) (defBody s_play_call) (defScope s_play_call) .none kV24 dc24 pm24 an24 cd24 ct24), sl24⟩)
  (c24 : PySem.W.codeIn K cd24 "play_call" = true)
  (k24 : PySem.W.keepIn K (.ref f24) = true)
  (a25 : PySem.W.nsIn K mainGlobals "ticks_of" = some (some (.ref f25)))
  (l25 : K.lookup f25 = some ⟨oc25, od25, .func (PySem.W.fnOf "ticks_of" "ticks_of" (defArgs s_ticks_of) (defBody s_ticks_of) (defScope s_ticks_of) .none kV25 dc25 pm25 an25 cd25 ct25), sl25⟩)
  (c25 : PySem.W.codeIn K cd25 "ticks_of" = true)
  (k25 : PySem.W.keepIn K (.ref f25) = true)
  (a26 : PySem.W.nsIn K mainGlobals "done_ticks" = some (some (.ref f26)))
  (l26 : K.lookup f26 = some ⟨oc26, od26, .func (PySem.W.fnOf "done_ticks" "done_ticks" (defArgs s_done_ticks) (defBody s_done_ticks) (defScope s_done_ticks) .none kV26 dc26 pm26 an26 cd26 ct26), sl26⟩)
  (c26 : PySem.W.codeIn K cd26 "done_ticks" = true)
  (k26 : PySem.W.keepIn K (.ref f26) = true)
  (a27 : PySem.W.nsIn K mainGlobals "arrivals" = some (some (.ref f27)))
  (l27 : K.lookup f27 = some ⟨oc27, od27, .func (PySem.W.fnOf "arrivals" "arrivals" (defArgs s_arrivals) (defBody s_arrivals) (defScope s_arrivals) .none kV27 dc27 pm27 an27 cd27 ct27), sl27⟩)
  (c27 : PySem.W.codeIn K cd27 "arrivals" = true)
  (k27 : PySem.W.keepIn K (.ref f27) = true)
  (a28 : PySem.W.nsIn K mainGlobals "answer_tick" = some (some (.ref f28)))
  (l28 : K.lookup f28 = some ⟨oc28, od28, .func (PySem.W.fnOf "answer_tick" "answer_tick" (defArgs s_answer_tick) (defBody s_answer_tick) (defScope s_answer_tick) .none kV28 dc28 pm28 an28 cd28 ct28), sl28⟩)
  (c28 : PySem.W.codeIn K cd28 "answer_tick" = true)
  (k28 : PySem.W.keepIn K (.ref f28) = true)
  (a29 : PySem.W.nsIn K mainGlobals "gap_of" = some (some (.ref f29)))
  (l29 : K.lookup f29 = some ⟨oc29, od29, .func (PySem.W.fnOf "gap_of" "gap_of" (defArgs s_gap_of) (defBody s_gap_of) (defScope s_gap_of) .none kV29 dc29 pm29 an29 cd29 ct29), sl29⟩)
  (c29 : PySem.W.codeIn K cd29 "gap_of" = true)
  (k29 : PySem.W.keepIn K (.ref f29) = true)
  (a30 : PySem.W.nsIn K mainGlobals "_law_cell" = some (some (.ref f30)))
  (l30 : K.lookup f30 = some ⟨oc30, od30, .func (PySem.W.fnOf "_law_cell" "_law_cell" (defArgs s__law_cell) (defBody s__law_cell) (defScope s__law_cell) .none kV30 dc30 pm30 an30 cd30 ct30), sl30⟩)
  (c30 : PySem.W.codeIn K cd30 "_law_cell" = true)
  (k30 : PySem.W.keepIn K (.ref f30) = true)
  (a31 : PySem.W.nsIn K mainGlobals "_law_row" = some (some (.ref f31)))
  (l31 : K.lookup f31 = some ⟨oc31, od31, .func (PySem.W.fnOf "_law_row" "_law_row" (defArgs s__law_row) (defBody s__law_row) (defScope s__law_row) .none kV31 dc31 pm31 an31 cd31 ct31), sl31⟩)
  (c31 : PySem.W.codeIn K cd31 "_law_row" = true)
  (k31 : PySem.W.keepIn K (.ref f31) = true)
  (a32 : PySem.W.nsIn K mainGlobals "_law_wire" = some (some (.ref f32)))
  (l32 : K.lookup f32 = some ⟨oc32, od32, .func (PySem.W.fnOf "_law_wire" "_law_wire" (defArgs s__law_wire) (defBody s__law_wire) (defScope s__law_wire) .none kV32 dc32 pm32 an32 cd32 ct32), sl32⟩)
  (c32 : PySem.W.codeIn K cd32 "_law_wire" = true)
  (k32 : PySem.W.keepIn K (.ref f32) = true)
  (a33 : PySem.W.nsIn K mainGlobals "_law_plan" = some (some (.ref f33)))
  (l33 : K.lookup f33 = some ⟨oc33, od33, .func (PySem.W.fnOf "_law_plan" "_law_plan" (defArgs s__law_plan) (defBody s__law_plan) (defScope s__law_plan) .none kV33 dc33 pm33 an33 cd33 ct33), sl33⟩)
  (c33 : PySem.W.codeIn K cd33 "_law_plan" = true)
  (k33 : PySem.W.keepIn K (.ref f33) = true)
  (a34 : PySem.W.nsIn K mainGlobals "_law_memory" = some (some (.ref f34)))
  (l34 : K.lookup f34 = some ⟨oc34, od34, .func (PySem.W.fnOf "_law_memory" "_law_memory" (defArgs s__law_memory) (defBody s__law_memory) (defScope s__law_memory) .none kV34 dc34 pm34 an34 cd34 ct34), sl34⟩)
  (c34 : PySem.W.codeIn K cd34 "_law_memory" = true)
  (k34 : PySem.W.keepIn K (.ref f34) = true)
  (a35 : PySem.W.nsIn K mainGlobals "_law_fate" = some (some (.ref f35)))
  (l35 : K.lookup f35 = some ⟨oc35, od35, .func (PySem.W.fnOf "_law_fate" "_law_fate" (defArgs s__law_fate) (defBody s__law_fate) (defScope s__law_fate) .none kV35 dc35 pm35 an35 cd35 ct35), sl35⟩)
  (c35 : PySem.W.codeIn K cd35 "_law_fate" = true)
  (k35 : PySem.W.keepIn K (.ref f35) = true)
  (a36 : PySem.W.nsIn K mainGlobals "_law_run" = some (some (.ref f36)))
  (l36 : K.lookup f36 = some ⟨oc36, od36, .func (PySem.W.fnOf "_law_run" "_law_run" (defArgs s__law_run) (defBody s__law_run) (defScope s__law_run) .none kV36 dc36 pm36 an36 cd36 ct36), sl36⟩)
  (c36 : PySem.W.codeIn K cd36 "_law_run" = true)
  (k36 : PySem.W.keepIn K (.ref f36) = true)
  (a37 : PySem.W.nsIn K mainGlobals "_law_fate_at" = some (some (.ref f37)))
  (l37 : K.lookup f37 = some ⟨oc37, od37, .func (PySem.W.fnOf "_law_fate_at" "_law_fate_at" (defArgs s__law_fate_at) (defBody s__law_fate_at) (defScope s__law_fate_at) .none kV37 dc37 pm37 an37 cd37 ct37), sl37⟩)
  (c37 : PySem.W.codeIn K cd37 "_law_fate_at" = true)
  (k37 : PySem.W.keepIn K (.ref f37) = true)
  (a38 : PySem.W.nsIn K mainGlobals "_law_play" = some (some (.ref f38)))
  (l38 : K.lookup f38 = some ⟨oc38, od38, .func (PySem.W.fnOf "_law_play" "_law_play" (defArgs s__law_play) (defBody s__law_play) (defScope s__law_play) .none kV38 dc38 pm38 an38 cd38 ct38), sl38⟩)
  (c38 : PySem.W.codeIn K cd38 "_law_play" = true)
  (k38 : PySem.W.keepIn K (.ref f38) = true)
  (a39 : PySem.W.nsIn K mainGlobals "_law_same" = some (some (.ref f39)))
  (l39 : K.lookup f39 = some ⟨oc39, od39, .func (PySem.W.fnOf "_law_same" "_law_same" (defArgs s__law_same) (defBody s__law_same) (defScope s__law_same) .none kV39 dc39 pm39 an39 cd39 ct39), sl39⟩)
  (c39 : PySem.W.codeIn K cd39 "_law_same" = true)
  (k39 : PySem.W.keepIn K (.ref f39) = true)
  (a40 : PySem.W.nsIn K mainGlobals "_law_is_right" = some (some (.ref f40)))
  (l40 : K.lookup f40 = some ⟨oc40, od40, .func (PySem.W.fnOf "_law_is_right" "_law_is_right" (defArgs s__law_is_right) (defBody s__law_is_right) (defScope s__law_is_right) .none kV40 dc40 pm40 an40 cd40 ct40), sl40⟩)
  (c40 : PySem.W.codeIn K cd40 "_law_is_right" = true)
  (k40 : PySem.W.keepIn K (.ref f40) = true)
  (a41 : PySem.W.nsIn K mainGlobals "law" = some (some (.ref f41)))
  (l41 : K.lookup f41 = some ⟨oc41, od41, .func (PySem.W.fnOf "law" "law" (defArgs s_law) (defBody s_law) (defScope s_law) .none kV41 dc41 pm41 an41 cd41 ct41), sl41⟩)
  (c41 : PySem.W.codeIn K cd41 "law" = true)
  (k41 : PySem.W.keepIn K (.ref f41) = true)
  (aC1 : PySem.W.nsIn K mainGlobals "BadWire" = some (some (.ref C1)))
  (sa1 : PySem.W.findIn K (.ref C1) "__setattr__" = some (some (.builtin "object.__setattr__")))
  (ga1 : PySem.W.findIn K (.ref C1) "__getattribute__" = some (some (.builtin "BaseException.__getattribute__")))
  (gt1 : PySem.W.findIn K (.ref C1) "__getattr__" = some none)
  (eC1 : PySem.W.subIn K (.ref C1) (.type "BaseException") = some true)
  (tC1 : PySem.W.typeIn K (.ref C1) = some (.type "type"))
  (kC1 : PySem.W.keepIn K (.ref C1) = true)
  (hC1 : PySem.W.hasDictIn K C1 = true)
  (iC1 : PySem.W.isClsIn K C1 = true)
  (cC1 : PySem.W.findIn K (.ref C1) "__class__" = some (some (.builtin "object.__class__")))
  (mC1 : PySem.W.mroIn K C1 (.type "object") = some true)
  (sC1 : PySem.W.subIn K (.ref C1) (.ref C1) = some true)
  (x1 : K.lookup C1 = some (excClassObj nm1 q1 C1 N1 bs1 bm1 true sn1 sub1 ab1 col1 dd1 m01 m11 m21 m31 m51 "ValueError.__new__"))
  (rv1 : PySem.HandSPX.refsVE bm1 = true)
  (ai1 : PySem.W.findIn K (.ref C1) "__init__" = some (some (.ref fI1)))
  (ti1 : PySem.W.typeIn K (.ref fI1) = some (.type "function"))
  (li1 : K.lookup fI1 = some ⟨ocI1, odI1, .func (PySem.W.fnOf "__init__" "BadWire.__init__" (defArgs i_BadWire) (defBody i_BadWire) (defScope i_BadWire) .none kVI1 dcI1 pmI1 anI1 cdI1 ctI1), slI1⟩)
  (ci1 : PySem.W.codeIn K cdI1 "BadWire.__init__" = true)
  (ki1 : PySem.W.keepIn K (.ref fI1) = true)
  (aC2 : PySem.W.nsIn K mainGlobals "BadPlan" = some (some (.ref C2)))
  (sa2 : PySem.W.findIn K (.ref C2) "__setattr__" = some (some (.builtin "object.__setattr__")))
  (ga2 : PySem.W.findIn K (.ref C2) "__getattribute__" = some (some (.builtin "BaseException.__getattribute__")))
  (gt2 : PySem.W.findIn K (.ref C2) "__getattr__" = some none)
  (eC2 : PySem.W.subIn K (.ref C2) (.type "BaseException") = some true)
  (tC2 : PySem.W.typeIn K (.ref C2) = some (.type "type"))
  (kC2 : PySem.W.keepIn K (.ref C2) = true)
  (hC2 : PySem.W.hasDictIn K C2 = true)
  (iC2 : PySem.W.isClsIn K C2 = true)
  (cC2 : PySem.W.findIn K (.ref C2) "__class__" = some (some (.builtin "object.__class__")))
  (mC2 : PySem.W.mroIn K C2 (.type "object") = some true)
  (sC2 : PySem.W.subIn K (.ref C2) (.ref C2) = some true)
  (x2 : K.lookup C2 = some (excClassObj nm2 q2 C2 N2 bs2 bm2 true sn2 sub2 ab2 col2 dd2 m02 m12 m22 m32 m52 "ValueError.__new__"))
  (rv2 : PySem.HandSPX.refsVE bm2 = true)
  (ai2 : PySem.W.findIn K (.ref C2) "__init__" = some (some (.ref fI2)))
  (ti2 : PySem.W.typeIn K (.ref fI2) = some (.type "function"))
  (li2 : K.lookup fI2 = some ⟨ocI2, odI2, .func (PySem.W.fnOf "__init__" "BadPlan.__init__" (defArgs i_BadPlan) (defBody i_BadPlan) (defScope i_BadPlan) .none kVI2 dcI2 pmI2 anI2 cdI2 ctI2), slI2⟩)
  (ci2 : PySem.W.codeIn K cdI2 "BadPlan.__init__" = true)
  (ki2 : PySem.W.keepIn K (.ref fI2) = true)
  (aC3 : PySem.W.nsIn K mainGlobals "BadMemory" = some (some (.ref C3)))
  (sa3 : PySem.W.findIn K (.ref C3) "__setattr__" = some (some (.builtin "object.__setattr__")))
  (ga3 : PySem.W.findIn K (.ref C3) "__getattribute__" = some (some (.builtin "BaseException.__getattribute__")))
  (gt3 : PySem.W.findIn K (.ref C3) "__getattr__" = some none)
  (eC3 : PySem.W.subIn K (.ref C3) (.type "BaseException") = some true)
  (tC3 : PySem.W.typeIn K (.ref C3) = some (.type "type"))
  (kC3 : PySem.W.keepIn K (.ref C3) = true)
  (hC3 : PySem.W.hasDictIn K C3 = true)
  (iC3 : PySem.W.isClsIn K C3 = true)
  (cC3 : PySem.W.findIn K (.ref C3) "__class__" = some (some (.builtin "object.__class__")))
  (mC3 : PySem.W.mroIn K C3 (.type "object") = some true)
  (sC3 : PySem.W.subIn K (.ref C3) (.ref C3) = some true)
  (x3 : K.lookup C3 = some (excClassObj nm3 q3 C3 N3 bs3 bm3 true sn3 sub3 ab3 col3 dd3 m03 m13 m23 m33 m53 "ValueError.__new__"))
  (rv3 : PySem.HandSPX.refsVE bm3 = true)
  (ai3 : PySem.W.findIn K (.ref C3) "__init__" = some (some (.ref fI3)))
  (ti3 : PySem.W.typeIn K (.ref fI3) = some (.type "function"))
  (li3 : K.lookup fI3 = some ⟨ocI3, odI3, .func (PySem.W.fnOf "__init__" "BadMemory.__init__" (defArgs i_BadMemory) (defBody i_BadMemory) (defScope i_BadMemory) .none kVI3 dcI3 pmI3 anI3 cdI3 ctI3), slI3⟩)
  (ci3 : PySem.W.codeIn K cdI3 "BadMemory.__init__" = true)
  (ki3 : PySem.W.keepIn K (.ref fI3) = true)
  (aC4 : PySem.W.nsIn K mainGlobals "BadRun" = some (some (.ref C4)))
  (sa4 : PySem.W.findIn K (.ref C4) "__setattr__" = some (some (.builtin "object.__setattr__")))
  (ga4 : PySem.W.findIn K (.ref C4) "__getattribute__" = some (some (.builtin "BaseException.__getattribute__")))
  (gt4 : PySem.W.findIn K (.ref C4) "__getattr__" = some none)
  (eC4 : PySem.W.subIn K (.ref C4) (.type "BaseException") = some true)
  (tC4 : PySem.W.typeIn K (.ref C4) = some (.type "type"))
  (kC4 : PySem.W.keepIn K (.ref C4) = true)
  (hC4 : PySem.W.hasDictIn K C4 = true)
  (iC4 : PySem.W.isClsIn K C4 = true)
  (cC4 : PySem.W.findIn K (.ref C4) "__class__" = some (some (.builtin "object.__class__")))
  (mC4 : PySem.W.mroIn K C4 (.type "object") = some true)
  (sC4 : PySem.W.subIn K (.ref C4) (.ref C4) = some true)
  (x4 : K.lookup C4 = some (excClassObj nm4 q4 C4 N4 bs4 bm4 true sn4 sub4 ab4 col4 dd4 m04 m14 m24 m34 m54 "ValueError.__new__"))
  (rv4 : PySem.HandSPX.refsVE bm4 = true)
  (ai4 : PySem.W.findIn K (.ref C4) "__init__" = some (some (.ref fI4)))
  (ti4 : PySem.W.typeIn K (.ref fI4) = some (.type "function"))
  (li4 : K.lookup fI4 = some ⟨ocI4, odI4, .func (PySem.W.fnOf "__init__" "BadRun.__init__" (defArgs i_BadRun) (defBody i_BadRun) (defScope i_BadRun) .none kVI4 dcI4 pmI4 anI4 cdI4 ctI4), slI4⟩)
  (ci4 : PySem.W.codeIn K cdI4 "BadRun.__init__" = true)
  (ki4 : PySem.W.keepIn K (.ref fI4) = true)
  (aC5 : PySem.W.nsIn K mainGlobals "CallPlay" = some (some (.ref C5)))
  (pg5 : PySem.W.plainGet K C5 Str.empty = true)
  (hC5 : PySem.W.hasDictIn K C5 = true)
  (po5 : PySem.W.plainOver K C5 = true)
  (sa5 : PySem.W.findIn K (.ref C5) "__setattr__" = some (some (.builtin "object.__setattr__")))
  (kC5 : PySem.W.keepIn K (.ref C5) = true)
  (nf_CallPlay_tries : PySem.W.findIn K (.ref C5) "tries" = some none)
  (nf_CallPlay_until : PySem.W.findIn K (.ref C5) "until" = some none)
  (nf_CallPlay_keep : PySem.W.findIn K (.ref C5) "keep" = some none)
  (nf_CallPlay_durable : PySem.W.findIn K (.ref C5) "durable" = some none)
  (nf_CallPlay_asks : PySem.W.findIn K (.ref C5) "asks" = some none)
  (nf_CallPlay_tells : PySem.W.findIn K (.ref C5) "tells" = some none)
  (nf_CallPlay_crashes : PySem.W.findIn K (.ref C5) "crashes" = some none)
  (nf_CallPlay_stops : PySem.W.findIn K (.ref C5) "stops" = some none)
  (nf_CallPlay_last : PySem.W.findIn K (.ref C5) "last" = some none)
  (nf_CallPlay_arriving : PySem.W.findIn K (.ref C5) "arriving" = some none)
  (nf_CallPlay_hearing : PySem.W.findIn K (.ref C5) "hearing" = some none)
  (nf_CallPlay_done_at : PySem.W.findIn K (.ref C5) "done_at" = some none)
  (nf_CallPlay_told : PySem.W.findIn K (.ref C5) "told" = some none)
  (nf_CallPlay_has_answer : PySem.W.findIn K (.ref C5) "has_answer" = some none)
  (nf_CallPlay_waiting : PySem.W.findIn K (.ref C5) "waiting" = some none)
  (nf_CallPlay_stopped_at : PySem.W.findIn K (.ref C5) "stopped_at" = some none)
  (nf_CallPlay_history : PySem.W.findIn K (.ref C5) "history" = some none)
  (z_isinstance : PySem.W.nsIn K mainGlobals "isinstance" = some none)
  (z_int : PySem.W.nsIn K mainGlobals "int" = some none)
  (z_bool : PySem.W.nsIn K mainGlobals "bool" = some none)
  (z_len : PySem.W.nsIn K mainGlobals "len" = some none)
  (z_range : PySem.W.nsIn K mainGlobals "range" = some none)
  (lct_WIRE_LIMITS_1 : K.lookup Act_WIRE_LIMITS_1 = some ⟨.type "tuple", none, .seq #[(.int 20 tct_WIRE_LIMITS_2), (.int 20 tct_WIRE_LIMITS_3), (.int 6 tct_WIRE_LIMITS_4), (.int 4 tct_WIRE_LIMITS_5)] nct_WIRE_LIMITS_1, slct_WIRE_LIMITS_1⟩)
  (gct_WIRE_LIMITS : PySem.W.nsIn K mainGlobals "WIRE_LIMITS" = some (some (.ref Act_WIRE_LIMITS_1)))
  (na_BadWire_part : PySem.W.findIn K (.ref C1) "part" = some none)
  (z_tuple : PySem.W.nsIn K mainGlobals "tuple" = some none)
  (c_MOST_TRIES : PySem.W.nsIn K mainGlobals "MOST_TRIES" = some (some (.int 8 tc_MOST_TRIES)))
  (c_LAST_TRY : PySem.W.nsIn K mainGlobals "LAST_TRY" = some (some (.int 90 tc_LAST_TRY)))
  (na_BadPlan_part : PySem.W.findIn K (.ref C2) "part" = some none)
  (c_LAST_UNTIL : PySem.W.nsIn K mainGlobals "LAST_UNTIL" = some (some (.int 140 tc_LAST_UNTIL)))
  (c_MOST_KEEP : PySem.W.nsIn K mainGlobals "MOST_KEEP" = some (some (.int 200 tc_MOST_KEEP)))
  (na_BadMemory_part : PySem.W.findIn K (.ref C3) "part" = some none)
  (c_MOST_CRASHES : PySem.W.nsIn K mainGlobals "MOST_CRASHES" = some (some (.int 3 tc_MOST_CRASHES)))
  (z_sum : PySem.W.nsIn K mainGlobals "sum" = some none)
  (c_LAST_CRASH : PySem.W.nsIn K mainGlobals "LAST_CRASH" = some (some (.int 400 tc_LAST_CRASH)))
  (na_BadRun_part : PySem.W.findIn K (.ref C4) "part" = some none)
  (c_MOST_TELLS : PySem.W.nsIn K mainGlobals "MOST_TELLS" = some (some (.int 40 tc_MOST_TELLS)))
  (z_max : PySem.W.nsIn K mainGlobals "max" = some none)
  (z_min : PySem.W.nsIn K mainGlobals "min" = some none)
  (z_sorted : PySem.W.nsIn K mainGlobals "sorted" = some none)
  (z_str : PySem.W.nsIn K mainGlobals "str" = some none) :
  ∃ fdl : FuncData, (∀ (s : Shared) (v : Value), BindsTo s fdl ⟨[v], []⟩ [("script", v)]) ∧ ∀ base : Heap, K.In base → base.Ns mainGlobals mg → FnOk P w K mg base (L2N.CX P w) 9 fl fdl ["script"] (spLaw K) := by
  have e := (PySem.W.mg_of X G a41).symm.trans hfa
  rw [← Value.ref.inj (Option.some.inj e)]
  let FA : Nat → Addr := fun n => ([f0, f1, f2, f3, f4, f5, f6, f7, f8, f9, f10, f11, f12, f13, f14, f15, f16, f17, f18, f19, f20, f21, f22, f23, f24, f25, f26, f27, f28, f29, f30, f31, f32, f33, f34, f35, f36, f37, f38, f39, f40, f41] : List Addr).getD n 0
  let FD : Nat → FuncData := fun n => ([PySem.W.fnOf "is_int" "is_int" (defArgs s_is_int) (defBody s_is_int) (defScope s_is_int) .none kV0 dc0 pm0 an0 cd0 ct0, PySem.W.fnOf "is_int_in" "is_int_in" (defArgs s_is_int_in) (defBody s_is_int_in) (defScope s_is_int_in) .none kV1 dc1 pm1 an1 cd1 ct1, PySem.W.fnOf "is_ascending" "is_ascending" (defArgs s_is_ascending) (defBody s_is_ascending) (defScope s_is_ascending) .none kV2 dc2 pm2 an2 cd2 ct2, PySem.W.fnOf "check_wire" "check_wire" (defArgs s_check_wire) (defBody s_check_wire) (defScope s_check_wire) .none kV3 dc3 pm3 an3 cd3 ct3, PySem.W.fnOf "_are_tries" "_are_tries" (defArgs s__are_tries) (defBody s__are_tries) (defScope s__are_tries) .none kV4 dc4 pm4 an4 cd4 ct4, PySem.W.fnOf "check_plan" "check_plan" (defArgs s_check_plan) (defBody s_check_plan) (defScope s_check_plan) .none kV5 dc5 pm5 an5 cd5 ct5, PySem.W.fnOf "check_memory" "check_memory" (defArgs s_check_memory) (defBody s_check_memory) (defScope s_check_memory) .none kV6 dc6 pm6 an6 cd6 ct6, PySem.W.fnOf "is_fate" "is_fate" (defArgs s_is_fate) (defBody s_is_fate) (defScope s_is_fate) .none kV7 dc7 pm7 an7 cd7 ct7, PySem.W.fnOf "_are_fates" "_are_fates" (defArgs s__are_fates) (defBody s__are_fates) (defScope s__are_fates) .none kV8 dc8 pm8 an8 cd8 ct8, PySem.W.fnOf "lost_count" "lost_count" (defArgs s_lost_count) (defBody s_lost_count) (defScope s_lost_count) .none kV9 dc9 pm9 an9 cd9 ct9, PySem.W.fnOf "extra_count" "extra_count" (defArgs s_extra_count) (defBody s_extra_count) (defScope s_extra_count) .none kV10 dc10 pm10 an10 cd10 ct10, PySem.W.fnOf "_is_affordable" "_is_affordable" (defArgs s__is_affordable) (defBody s__is_affordable) (defScope s__is_affordable) .none kV11 dc11 pm11 an11 cd11 ct11, PySem.W.fnOf "_are_crashes" "_are_crashes" (defArgs s__are_crashes) (defBody s__are_crashes) (defScope s__are_crashes) .none kV12 dc12 pm12 an12 cd12 ct12, PySem.W.fnOf "check_run" "check_run" (defArgs s_check_run) (defBody s_check_run) (defScope s_check_run) .none kV13 dc13 pm13 an13 cd13 ct13, PySem.W.fnOf "fate_of" "fate_of" (defArgs s_fate_of) (defBody s_fate_of) (defScope s_fate_of) .none kV14 dc14 pm14 an14 cd14 ct14, PySem.W.fnOf "__init__" "CallPlay.__init__" (defArgs s_CallPlay____init__) (defBody s_CallPlay____init__) (defScope s_CallPlay____init__) .none kV15 dc15 pm15 an15 cd15 ct15, PySem.W.fnOf "play_tell" "CallPlay.play_tell" (defArgs s_CallPlay__play_tell) (defBody s_CallPlay__play_tell) (defScope s_CallPlay__play_tell) .none kV16 dc16 pm16 an16 cd16 ct16, PySem.W.fnOf "play_arrivals" "CallPlay.play_arrivals" (defArgs s_CallPlay__play_arrivals) (defBody s_CallPlay__play_arrivals) (defScope s_CallPlay__play_arrivals) .none kV17 dc17 pm17 an17 cd17 ct17, PySem.W.fnOf "play_ask" "CallPlay.play_ask" (defArgs s_CallPlay__play_ask) (defBody s_CallPlay__play_ask) (defScope s_CallPlay__play_ask) .none kV18 dc18 pm18 an18 cd18 ct18, PySem.W.fnOf "play_crash" "CallPlay.play_crash" (defArgs s_CallPlay__play_crash) (defBody s_CallPlay__play_crash) (defScope s_CallPlay__play_crash) .none kV19 dc19 pm19 an19 cd19 ct19, PySem.W.fnOf "play_replies" "CallPlay.play_replies" (defArgs s_CallPlay__play_replies) (defBody s_CallPlay__play_replies) (defScope s_CallPlay__play_replies) .none kV20 dc20 pm20 an20 cd20 ct20, PySem.W.fnOf "play_tick" "CallPlay.play_tick" (defArgs s_CallPlay__play_tick) (defBody s_CallPlay__play_tick) (defScope s_CallPlay__play_tick) .none kV21 dc21 pm21 an21 cd21 ct21, PySem.W.fnOf "play_all" "CallPlay.play_all" (defArgs s_CallPlay__play_all) (defBody s_CallPlay__play_all) (defScope s_CallPlay__play_all) .none kV22 dc22 pm22 an22 cd22 ct22, PySem.W.fnOf "played_log" "played_log" (defArgs s_played_log) (defBody s_played_log) (defScope s_played_log) .none kV23 dc23 pm23 an23 cd23 ct23, PySem.W.fnOf "play_call" "play_call" (defArgs s_play_call) (defBody s_play_call) (defScope s_play_call) .none kV24 dc24 pm24 an24 cd24 ct24, PySem.W.fnOf "ticks_of" "ticks_of" (defArgs s_ticks_of) (defBody s_ticks_of) (defScope s_ticks_of) .none kV25 dc25 pm25 an25 cd25 ct25, PySem.W.fnOf "done_ticks" "done_ticks" (defArgs s_done_ticks) (defBody s_done_ticks) (defScope s_done_ticks) .none kV26 dc26 pm26 an26 cd26 ct26, PySem.W.fnOf "arrivals" "arrivals" (defArgs s_arrivals) (defBody s_arrivals) (defScope s_arrivals) .none kV27 dc27 pm27 an27 cd27 ct27, PySem.W.fnOf "answer_tick" "answer_tick" (defArgs s_answer_tick) (defBody s_answer_tick) (defScope s_answer_tick) .none kV28 dc28 pm28 an28 cd28 ct28, PySem.W.fnOf "gap_of" "gap_of" (defArgs s_gap_of) (defBody s_gap_of) (defScope s_gap_of) .none kV29 dc29 pm29 an29 cd29 ct29, PySem.W.fnOf "_law_cell" "_law_cell" (defArgs s__law_cell) (defBody s__law_cell) (defScope s__law_cell) .none kV30 dc30 pm30 an30 cd30 ct30, PySem.W.fnOf "_law_row" "_law_row" (defArgs s__law_row) (defBody s__law_row) (defScope s__law_row) .none kV31 dc31 pm31 an31 cd31 ct31, PySem.W.fnOf "_law_wire" "_law_wire" (defArgs s__law_wire) (defBody s__law_wire) (defScope s__law_wire) .none kV32 dc32 pm32 an32 cd32 ct32, PySem.W.fnOf "_law_plan" "_law_plan" (defArgs s__law_plan) (defBody s__law_plan) (defScope s__law_plan) .none kV33 dc33 pm33 an33 cd33 ct33, PySem.W.fnOf "_law_memory" "_law_memory" (defArgs s__law_memory) (defBody s__law_memory) (defScope s__law_memory) .none kV34 dc34 pm34 an34 cd34 ct34, PySem.W.fnOf "_law_fate" "_law_fate" (defArgs s__law_fate) (defBody s__law_fate) (defScope s__law_fate) .none kV35 dc35 pm35 an35 cd35 ct35, PySem.W.fnOf "_law_run" "_law_run" (defArgs s__law_run) (defBody s__law_run) (defScope s__law_run) .none kV36 dc36 pm36 an36 cd36 ct36, PySem.W.fnOf "_law_fate_at" "_law_fate_at" (defArgs s__law_fate_at) (defBody s__law_fate_at) (defScope s__law_fate_at) .none kV37 dc37 pm37 an37 cd37 ct37, PySem.W.fnOf "_law_play" "_law_play" (defArgs s__law_play) (defBody s__law_play) (defScope s__law_play) .none kV38 dc38 pm38 an38 cd38 ct38, PySem.W.fnOf "_law_same" "_law_same" (defArgs s__law_same) (defBody s__law_same) (defScope s__law_same) .none kV39 dc39 pm39 an39 cd39 ct39, PySem.W.fnOf "_law_is_right" "_law_is_right" (defArgs s__law_is_right) (defBody s__law_is_right) (defScope s__law_is_right) .none kV40 dc40 pm40 an40 cd40 ct40, PySem.W.fnOf "law" "law" (defArgs s_law) (defBody s_law) (defScope s_law) .none kV41 dc41 pm41 an41 cd41 ct41] : List FuncData).getD n fdZ
  let EC : Nat → Addr := fun n => ([0, C1, C2, C3, C4, C5] : List Addr).getD n 0
  let FI : Nat → Addr := fun n => ([0, fI1, fI2, fI3, fI4, 0] : List Addr).getD n 0
  let DI : Nat → FuncData := fun n => ([fdZ, PySem.W.fnOf "__init__" "BadWire.__init__" (defArgs i_BadWire) (defBody i_BadWire) (defScope i_BadWire) .none kVI1 dcI1 pmI1 anI1 cdI1 ctI1, PySem.W.fnOf "__init__" "BadPlan.__init__" (defArgs i_BadPlan) (defBody i_BadPlan) (defScope i_BadPlan) .none kVI2 dcI2 pmI2 anI2 cdI2 ctI2, PySem.W.fnOf "__init__" "BadMemory.__init__" (defArgs i_BadMemory) (defBody i_BadMemory) (defScope i_BadMemory) .none kVI3 dcI3 pmI3 anI3 cdI3 ctI3, PySem.W.fnOf "__init__" "BadRun.__init__" (defArgs i_BadRun) (defBody i_BadRun) (defScope i_BadRun) .none kVI4 dcI4 pmI4 anI4 cdI4 ctI4, fdZ] : List FuncData).getD n fdZ
  have T0 : Fx0 K mg FA FD EC FI DI := mk0 X G z_isinstance z_int z_bool rfl l0 c0 k0 a0 rfl l1 c1 k1 a1 z_len z_range rfl l2 c2 k2 a2 gct_WIRE_LIMITS lct_WIRE_LIMITS_1 x1 rv1 sa1 eC1 tC1 kC1 aC1 na_BadWire_part rfl l3 c3 k3 a3 z_tuple c_MOST_TRIES c_LAST_TRY rfl l4 c4 k4
  have T1 : Fx1 K mg FA FD EC FI DI := mk1 X G a4 rfl l4 c4 k4 x2 rv2 sa2 eC2 tC2 kC2 aC2 na_BadPlan_part c_LAST_UNTIL rfl l5 c5 k5 a5 c_MOST_KEEP x3 rv3 sa3 eC3 tC3 kC3 aC3 na_BadMemory_part c_MOST_CRASHES rfl l6 c6 k6 a6 rfl l7 c7 k7 a7 rfl l8 c8 k8 a8 rfl l9 c9 k9 a9
  have T2 : Fx2 K mg FA FD EC FI DI := mk2 X G rfl l9 c9 k9 z_sum rfl l10 c10 k10 a10 rfl l11 c11 k11 a11 c_LAST_CRASH rfl l12 c12 k12 a12 x4 rv4 sa4 eC4 tC4 kC4 aC4 na_BadRun_part c_MOST_TELLS rfl l13 c13 k13 a13 rfl l14 c14 k14 a14 pg5 hC5 po5 sa5 nf_CallPlay_tries
  have T3 : Fx3 K mg FA FD EC FI DI := mk3 X G nf_CallPlay_until pg5 hC5 po5 sa5 nf_CallPlay_keep nf_CallPlay_durable nf_CallPlay_asks nf_CallPlay_tells nf_CallPlay_crashes nf_CallPlay_stops z_max nf_CallPlay_last nf_CallPlay_arriving nf_CallPlay_hearing nf_CallPlay_done_at nf_CallPlay_told nf_CallPlay_has_answer nf_CallPlay_waiting nf_CallPlay_stopped_at
  have T4 : Fx4 K mg FA FD EC FI DI := mk4 X G pg5 hC5 po5 sa5 nf_CallPlay_stopped_at nf_CallPlay_history rfl l15 c15 k15 rfl l16 c16 k16 a16 fn16 rfl l17 c17 k17 rfl l18 c18 k18 rfl l19 c19 k19 rfl l20 c20 k20 a19 fn19 a18 fn18 a17 fn17 a20 fn20 rfl l21 c21 k21 a21 fn21
  have T5 : Fx5 K mg FA FD EC FI DI := mk5 X G rfl l22 c22 k22 aC5 mkC5 a15 fn15 kC5 a22 fn22 rfl l23 c23 k23 a23 rfl l24 c24 k24 a24 rfl l25 c25 k25 a25 rfl l26 c26 k26 a26 rfl l27 c27 k27 a27 rfl l28 c28 k28 a28
  have T6 : Fx6 K mg FA FD EC FI DI := mk6 X G rfl l29 c29 k29 a29 rfl l30 c30 k30 a30 rfl l31 c31 k31 a31 rfl l32 c32 k32 a32 z_min rfl l33 c33 k33 a33 rfl l34 c34 k34 a34 z_sorted rfl l35 c35 k35 a35
  have T7 : Fx7 K mg FA FD EC FI DI := mk7 X G rfl l36 c36 k36 a36 rfl l37 c37 k37 a37 rfl l38 c38 k38 a38 z_str rfl l39 c39 k39 a39 rfl l40 c40 k40 a40 rfl l41 c41 k41 a41 rfl li1 ci1 ki1 ai1 ti1 rfl li2 ci2 ki2
  have T8 : Fx8 K mg FA FD EC FI DI := mk8 X G ai2 ti2 rfl li2 ci2 ki2 rfl li3 ci3 ki3 ai3 ti3 rfl li4 ci4 ki4 ai4 ti4
  have T : Fx K mg FA FD EC FI DI := ⟨T0, T1, T2, T3, T4, T5, T6, T7, T8⟩
  exact ⟨_, fun s v => .of_eq rfl, fun base _ _ => law_fn (g := gg K _) rfl law_true (ok_law T)⟩
end K34
end

section
open PySem PySem.W PyProof.Rows
set_option maxRecDepth 100000 in
set_option maxHeartbeats 0 in
theorem PySem.Challenge.cw_trunkcall_k34_play_one_call_holds : PySem.Challenge.rw_trunkcall_k34_play_one_call.Holds := by
  w_on; o_law; k_head; (case hw => w_witness2)
  k_fill
  refine FL.walk_law (k := 9) (l := PySem.Challenge.rw_trunkcall_k34_play_one_call) rfl rfl ⟨rfl, by decide, by decide⟩ (fun w h Y => PySem.W.kIn_of Y) ?F
  case F =>
    intro w mg fl h KX G hmg
    refine' K34.all_mk KX G hmg ?a0 ?l0 ?c0 ?k0 ?a1 ?l1 ?c1 ?k1 ?a2 ?l2 ?c2 ?k2 ?a3 ?l3 ?c3 ?k3 ?a4 ?l4 ?c4 ?k4 ?a5 ?l5 ?c5 ?k5 ?a6 ?l6 ?c6 ?k6 ?a7 ?l7 ?c7 ?k7 ?a8 ?l8 ?c8 ?k8 ?a9 ?l9 ?c9 ?k9 ?a10 ?l10 ?c10 ?k10 ?a11 ?l11 ?c11 ?k11 ?a12 ?l12 ?c12 ?k12 ?a13 ?l13 ?c13 ?k13 ?a14 ?l14 ?c14 ?k14 ?a15 ?l15 ?c15 ?k15 ?fn15 ?mkC5 ?a16 ?l16 ?c16 ?k16 ?fn16 ?a17 ?l17 ?c17 ?k17 ?fn17 ?a18 ?l18 ?c18 ?k18 ?fn18 ?a19 ?l19 ?c19 ?k19 ?fn19 ?a20 ?l20 ?c20 ?k20 ?fn20 ?a21 ?l21 ?c21 ?k21 ?fn21 ?a22 ?l22 ?c22 ?k22 ?fn22 ?a23 ?l23 ?c23 ?k23 ?a24 ?l24 ?c24 ?k24 ?a25 ?l25 ?c25 ?k25 ?a26 ?l26 ?c26 ?k26 ?a27 ?l27 ?c27 ?k27 ?a28 ?l28 ?c28 ?k28 ?a29 ?l29 ?c29 ?k29 ?a30 ?l30 ?c30 ?k30 ?a31 ?l31 ?c31 ?k31 ?a32 ?l32 ?c32 ?k32 ?a33 ?l33 ?c33 ?k33 ?a34 ?l34 ?c34 ?k34 ?a35 ?l35 ?c35 ?k35 ?a36 ?l36 ?c36 ?k36 ?a37 ?l37 ?c37 ?k37 ?a38 ?l38 ?c38 ?k38 ?a39 ?l39 ?c39 ?k39 ?a40 ?l40 ?c40 ?k40 ?a41 ?l41 ?c41 ?k41 ?aC1 ?sa1 ?ga1 ?gt1 ?eC1 ?tC1 ?kC1 ?hC1 ?iC1 ?cC1 ?mC1 ?sC1 ?x1 ?rv1 ?ai1 ?ti1 ?li1 ?ci1 ?ki1 ?aC2 ?sa2 ?ga2 ?gt2 ?eC2 ?tC2 ?kC2 ?hC2 ?iC2 ?cC2 ?mC2 ?sC2 ?x2 ?rv2 ?ai2 ?ti2 ?li2 ?ci2 ?ki2 ?aC3 ?sa3 ?ga3 ?gt3 ?eC3 ?tC3 ?kC3 ?hC3 ?iC3 ?cC3 ?mC3 ?sC3 ?x3 ?rv3 ?ai3 ?ti3 ?li3 ?ci3 ?ki3 ?aC4 ?sa4 ?ga4 ?gt4 ?eC4 ?tC4 ?kC4 ?hC4 ?iC4 ?cC4 ?mC4 ?sC4 ?x4 ?rv4 ?ai4 ?ti4 ?li4 ?ci4 ?ki4 ?aC5 ?pg5 ?hC5 ?po5 ?sa5 ?kC5 ?nf_CallPlay_tries ?nf_CallPlay_until ?nf_CallPlay_keep ?nf_CallPlay_durable ?nf_CallPlay_asks ?nf_CallPlay_tells ?nf_CallPlay_crashes ?nf_CallPlay_stops ?nf_CallPlay_last ?nf_CallPlay_arriving ?nf_CallPlay_hearing ?nf_CallPlay_done_at ?nf_CallPlay_told ?nf_CallPlay_has_answer ?nf_CallPlay_waiting ?nf_CallPlay_stopped_at ?nf_CallPlay_history ?z_isinstance ?z_int ?z_bool ?z_len ?z_range ?lct_WIRE_LIMITS_1 ?gct_WIRE_LIMITS ?na_BadWire_part ?z_tuple ?c_MOST_TRIES ?c_LAST_TRY ?na_BadPlan_part ?c_LAST_UNTIL ?c_MOST_KEEP ?na_BadMemory_part ?c_MOST_CRASHES ?z_sum ?c_LAST_CRASH ?na_BadRun_part ?c_MOST_TELLS ?z_max ?z_min ?z_sorted ?z_str
    (case aC1 => k_is)
    (case aC2 => k_is)
    (case aC3 => k_is)
    (case aC4 => k_is)
    (case aC5 => k_is)
    (case gct_WIRE_LIMITS => k_is)
    (case lct_WIRE_LIMITS_1 => k_is)
    (case a0 => k_is)
    (case l0 => k_is)
    (case c0 => k_is)
    (case k0 => k_is)
    (case a1 => k_is)
    (case l1 => k_is)
    (case c1 => k_is)
    (case k1 => k_is)
    (case a2 => k_is)
    (case l2 => k_is)
    (case c2 => k_is)
    (case k2 => k_is)
    (case a3 => k_is)
    (case l3 => k_is)
    (case c3 => k_is)
    (case k3 => k_is)
    (case a4 => k_is)
    (case l4 => k_is)
    (case c4 => k_is)
    (case k4 => k_is)
    (case a5 => k_is)
    (case l5 => k_is)
    (case c5 => k_is)
    (case k5 => k_is)
    (case a6 => k_is)
    (case l6 => k_is)
    (case c6 => k_is)
    (case k6 => k_is)
    (case a7 => k_is)
    (case l7 => k_is)
    (case c7 => k_is)
    (case k7 => k_is)
    (case a8 => k_is)
    (case l8 => k_is)
    (case c8 => k_is)
    (case k8 => k_is)
    (case a9 => k_is)
    (case l9 => k_is)
    (case c9 => k_is)
    (case k9 => k_is)
    (case a10 => k_is)
    (case l10 => k_is)
    (case c10 => k_is)
    (case k10 => k_is)
    (case a11 => k_is)
    (case l11 => k_is)
    (case c11 => k_is)
    (case k11 => k_is)
    (case a12 => k_is)
    (case l12 => k_is)
    (case c12 => k_is)
    (case k12 => k_is)
    (case a13 => k_is)
    (case l13 => k_is)
    (case c13 => k_is)
    (case k13 => k_is)
    (case a14 => k_is)
    (case l14 => k_is)
    (case c14 => k_is)
    (case k14 => k_is)
    (case a15 => k_is)
    (case l15 => k_is)
    (case c15 => k_is)
    (case k15 => k_is)
    (case fn15 => k_is)
    (case mkC5 => k_is)
    (case a16 => k_is)
    (case l16 => k_is)
    (case c16 => k_is)
    (case k16 => k_is)
    (case fn16 => k_is)
    (case a17 => k_is)
    (case l17 => k_is)
    (case c17 => k_is)
    (case k17 => k_is)
    (case fn17 => k_is)
    (case a18 => k_is)
    (case l18 => k_is)
    (case c18 => k_is)
    (case k18 => k_is)
    (case fn18 => k_is)
    (case a19 => k_is)
    (case l19 => k_is)
    (case c19 => k_is)
    (case k19 => k_is)
    (case fn19 => k_is)
    (case a20 => k_is)
    (case l20 => k_is)
    (case c20 => k_is)
    (case k20 => k_is)
    (case fn20 => k_is)
    (case a21 => k_is)
    (case l21 => k_is)
    (case c21 => k_is)
    (case k21 => k_is)
    (case fn21 => k_is)
    (case a22 => k_is)
    (case l22 => k_is)
    (case c22 => k_is)
    (case k22 => k_is)
    (case fn22 => k_is)
    (case a23 => k_is)
    (case l23 => k_is)
    (case c23 => k_is)
    (case k23 => k_is)
    (case a24 => k_is)
    (case l24 => k_is)
    (case c24 => k_is)
    (case k24 => k_is)
    (case a25 => k_is)
    (case l25 => k_is)
    (case c25 => k_is)
    (case k25 => k_is)
    (case a26 => k_is)
    (case l26 => k_is)
    (case c26 => k_is)
    (case k26 => k_is)
    (case a27 => k_is)
    (case l27 => k_is)
    (case c27 => k_is)
    (case k27 => k_is)
    (case a28 => k_is)
    (case l28 => k_is)
    (case c28 => k_is)
    (case k28 => k_is)
    (case a29 => k_is)
    (case l29 => k_is)
    (case c29 => k_is)
    (case k29 => k_is)
    (case a30 => k_is)
    (case l30 => k_is)
    (case c30 => k_is)
    (case k30 => k_is)
    (case a31 => k_is)
    (case l31 => k_is)
    (case c31 => k_is)
    (case k31 => k_is)
    (case a32 => k_is)
    (case l32 => k_is)
    (case c32 => k_is)
    (case k32 => k_is)
    (case a33 => k_is)
    (case l33 => k_is)
    (case c33 => k_is)
    (case k33 => k_is)
    (case a34 => k_is)
    (case l34 => k_is)
    (case c34 => k_is)
    (case k34 => k_is)
    (case a35 => k_is)
    (case l35 => k_is)
    (case c35 => k_is)
    (case k35 => k_is)
    (case a36 => k_is)
    (case l36 => k_is)
    (case c36 => k_is)
    (case k36 => k_is)
    (case a37 => k_is)
    (case l37 => k_is)
    (case c37 => k_is)
    (case k37 => k_is)
    (case a38 => k_is)
    (case l38 => k_is)
    (case c38 => k_is)
    (case k38 => k_is)
    (case a39 => k_is)
    (case l39 => k_is)
    (case c39 => k_is)
    (case k39 => k_is)
    (case a40 => k_is)
    (case l40 => k_is)
    (case c40 => k_is)
    (case k40 => k_is)
    (case a41 => k_is)
    (case l41 => k_is)
    (case c41 => k_is)
    (case k41 => k_is)
    (case sa1 => k_is)
    (case ga1 => k_is)
    (case gt1 => k_is)
    (case eC1 => k_is)
    (case tC1 => k_is)
    (case kC1 => k_is)
    (case hC1 => k_is)
    (case iC1 => k_is)
    (case cC1 => k_is)
    (case mC1 => k_is)
    (case sC1 => k_is)
    (case x1 => k_is)
    (case rv1 => decide +kernel)
    (case ai1 => k_is)
    (case ti1 => k_is)
    (case li1 => k_is)
    (case ci1 => k_is)
    (case ki1 => k_is)
    (case sa2 => k_is)
    (case ga2 => k_is)
    (case gt2 => k_is)
    (case eC2 => k_is)
    (case tC2 => k_is)
    (case kC2 => k_is)
    (case hC2 => k_is)
    (case iC2 => k_is)
    (case cC2 => k_is)
    (case mC2 => k_is)
    (case sC2 => k_is)
    (case x2 => k_is)
    (case rv2 => decide +kernel)
    (case ai2 => k_is)
    (case ti2 => k_is)
    (case li2 => k_is)
    (case ci2 => k_is)
    (case ki2 => k_is)
    (case sa3 => k_is)
    (case ga3 => k_is)
    (case gt3 => k_is)
    (case eC3 => k_is)
    (case tC3 => k_is)
    (case kC3 => k_is)
    (case hC3 => k_is)
    (case iC3 => k_is)
    (case cC3 => k_is)
    (case mC3 => k_is)
    (case sC3 => k_is)
    (case x3 => k_is)
    (case rv3 => decide +kernel)
    (case ai3 => k_is)
    (case ti3 => k_is)
    (case li3 => k_is)
    (case ci3 => k_is)
    (case ki3 => k_is)
    (case sa4 => k_is)
    (case ga4 => k_is)
    (case gt4 => k_is)
    (case eC4 => k_is)
    (case tC4 => k_is)
    (case kC4 => k_is)
    (case hC4 => k_is)
    (case iC4 => k_is)
    (case cC4 => k_is)
    (case mC4 => k_is)
    (case sC4 => k_is)
    (case x4 => k_is)
    (case rv4 => decide +kernel)
    (case ai4 => k_is)
    (case ti4 => k_is)
    (case li4 => k_is)
    (case ci4 => k_is)
    (case ki4 => k_is)
    (case pg5 => k_is)
    (case hC5 => k_is)
    (case po5 => k_is)
    (case sa5 => k_is)
    (case kC5 => k_is)
    (case nf_CallPlay_tries => k_is)
    (case nf_CallPlay_until => k_is)
    (case nf_CallPlay_keep => k_is)
    (case nf_CallPlay_durable => k_is)
    (case nf_CallPlay_asks => k_is)
    (case nf_CallPlay_tells => k_is)
    (case nf_CallPlay_crashes => k_is)
    (case nf_CallPlay_stops => k_is)
    (case nf_CallPlay_last => k_is)
    (case nf_CallPlay_arriving => k_is)
    (case nf_CallPlay_hearing => k_is)
    (case nf_CallPlay_done_at => k_is)
    (case nf_CallPlay_told => k_is)
    (case nf_CallPlay_has_answer => k_is)
    (case nf_CallPlay_waiting => k_is)
    (case nf_CallPlay_stopped_at => k_is)
    (case nf_CallPlay_history => k_is)
    (case z_isinstance => k_is)
    (case z_int => k_is)
    (case z_bool => k_is)
    (case z_len => k_is)
    (case z_range => k_is)
    (case na_BadWire_part => k_is)
    (case z_tuple => k_is)
    (case c_MOST_TRIES => k_is)
    (case c_LAST_TRY => k_is)
    (case na_BadPlan_part => k_is)
    (case c_LAST_UNTIL => k_is)
    (case c_MOST_KEEP => k_is)
    (case na_BadMemory_part => k_is)
    (case c_MOST_CRASHES => k_is)
    (case z_sum => k_is)
    (case c_LAST_CRASH => k_is)
    (case na_BadRun_part => k_is)
    (case c_MOST_TELLS => k_is)
    (case z_max => k_is)
    (case z_min => k_is)
    (case z_sorted => k_is)
    (case z_str => k_is)
end
