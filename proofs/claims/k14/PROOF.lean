import PyProof.Rows.All
import Wide.All
import OpenK.AllK
import Wide.FinOn
import HandS.ForMost
import HandS.Flow
import HandS.Small
import HandS.TupAny
import HandS.TupMul
import HandS.Walk
import HandS.Strs
import HandS.WrittenGet
import HandS.Defaults
import HandS.DictComp
import HandS.IsInst
import HandS.Conv
import HandS.Wide
import KE.KDictCopyH
import KE.KDictPairs
import KE.KDictList
import HandS.Zip
import KE.GoesEnumKw
import PySem.Challenge.RW_letterbench_k14_whole_only_what_hangs_tu
set_option Elab.async false
set_option linter.all false
set_option maxRecDepth 100000
/-! text LbT -/
set_option maxHeartbeats 1000000
/-! Tuples that are tracked with their very object, which has no dict of its own. -/
namespace Lb
open PySem L2 PySem.Spec PyProof.Rows

def SqF (K : PySem.W.Frag) (H : Hp) (a : Addr) (xs : List V) : Prop :=
  (∃ o : Obj, H a = some (.frz o (.tup xs)) ∧ o.dict = none) ∨
    ∃ (o : Obj) (its : Array Value) (n : Nat), K.lookup a = some o ∧ o.cls = .type "tuple" ∧ o.dict = none ∧ o.data = .seq its n ∧ its.size ≤ sizeLine ∧ Vals xs its.toList
theorem SqF.sqT {K : PySem.W.Frag} {H : Hp} {a : Addr} {xs : List V} (h : SqF K H a xs) : SqT K H a xs := by
  rcases h with ⟨o, h, _⟩ | ⟨o, its, n, h1, h2, _, h3⟩
  · exact .inl (.inr ⟨o, h⟩)
  · exact .inr ⟨o, its, n, h1, h2, h3⟩
theorem SqF.of {K : PySem.W.Frag} {H : Hp} {a : Addr} {xs : List V} {o : Obj} (h : H a = some (.frz o (.tup xs))) (d : o.dict = none) : SqF K H a xs := .inl ⟨o, h, d⟩
section
variable {X : Cx} {pins : List (Addr × Obj)} {σ : L2.St} {H : Hp} {s : Shared} {a : Addr} {xs ys : List V}
theorem tupF (I : Inv X pins σ H s) (h : SqF X.K H a xs) : ∃ (its : List Value) (o : Obj) (n : Nat), Vals xs its ∧ s.heap.get? a = some o ∧ o.cls = .type "tuple" ∧ o.dict = none ∧ o.data = .seq its.toArray n ∧ xs.length ≤ sizeLine := by
  rcases h with ⟨o, h, d⟩ | ⟨o, its, n, hk, hc, hd, hs, hz, r⟩
  · obtain ⟨e, z, its, r, o', e', c, n, dd⟩ := (show ObjOk X.prog X.w H s.heap a (.frz o (.tup xs)) from I.hok a _ h)
    rw [e] at e'
    cases e'
    exact ⟨its, o, n, r, e, c, d, dd, z⟩
  · refine ⟨its.toList, o, n, r, I.kIn a o hk, hc, hd, by simpa using hs, ?_⟩
    have e := r.length
    simp only [Array.length_toList] at e
    omega
/-- a new tuple is laid -/
theorem laidF (I : Inv X pins σ H s) {its : List Value} (r : Vals xs its) (z : xs.length ≤ sizeLine) :
    ∃ o : Obj, o.dict = none ∧ Inv X pins σ (upd H s.heap.objs.size (.frz o (.tup xs))) { s with heap := s.heap.push { cls := .type "tuple", data := .seq its.toArray } } := by
  refine ⟨{ cls := .type "tuple", data := .seq its.toArray }, rfl, I.laid (t' := s.toks) (fun b ob q => Heap.get?_push_of_some _ q) (Nat.le_refl _) ?_⟩
  exact ⟨Heap.get?_push_size _ rfl, z, its, r, ⟨_, Heap.get?_push_size _ rfl, rfl, _, rfl⟩⟩
end
/-- a place for a new tuple -/
abbrev NewT (H : Hp) (xs : List V) (Q : VK) : Prop := ∀ (p : Addr) (o : Obj), H p = none → o.dict = none → Q (.ref p) (upd H p (.frz o (.tup xs)))
section
variable {X : Cx} {e : Expr} {es : List Expr} {te : TE} {t : TA} {pos : Pos}
def tTupF (t : TA) : TE := fun σ H Q => t σ H fun xs H1 => xs.length ≤ sizeLine ∧ NewT H1 xs Q
theorem pe_tupF {x1} (h : PA X es t) : PE X (.Tuple es x1 pos) (tTupF t) := by
  refine ⟨fun pins s σ H Q I hq => ?_⟩
  refine wpAny_Tuple_spliced (thn (h.run pos pins s σ H _ I hq) fun us s1 ⟨xs, H1, I1, r, z, q⟩ => ⟨by rw [← r.length]; exact z, ?_⟩)
  have hf : H1 s1.heap.objs.size = none := I1.hok.fresh (Nat.le_refl _)
  obtain ⟨o, d, J⟩ := laidF I1 r z
  exact ⟨.ref s1.heap.objs.size, _, J, rfl, q _ o hf d⟩
def rCatF (K : PySem.W.Frag) : R2 := fun x y H Q => ∃ a b xs ys, x = .ref a ∧ y = .ref b ∧ SqF K H a xs ∧ SqF K H b ys ∧ xs.length + ys.length ≤ sizeLine ∧
  (xs = [] → Q (.ref b) H) ∧ (xs ≠ [] → ys = [] → Q (.ref a) H) ∧ (xs ≠ [] → ys ≠ [] → NewT H (xs ++ ys) Q)
theorem op_catF : OpR X (binaryOp .Add) (rCatF X.K) := by
  intro pins s σ H x y v u Q I rx ry h
  obtain ⟨a, b, xs, ys, rfl, rfl, ha, hb, hz, q0, q1, q2⟩ := h
  cases rx
  cases ry
  obtain ⟨its, r1, p1, _⟩ := I.tuple ha.sqT
  obtain ⟨its2, r2, p2, _⟩ := I.tuple hb.sqT
  by_cases hx : xs = []
  · subst hx
    cases r1
    exact L2.cat_tup0 p1 p2 ⟨.ref b, H, I, rfl, q0 rfl⟩
  · refine HT.cat_tup p1 p2 (fun z => hx (r1.nil_iff.mp z)) (fun z => ⟨.ref a, H, I, rfl, q1 hx (r2.nil_iff.mp z)⟩) (fun z => ?_) (by rw [← r1.length, ← r2.length]; exact hz)
    obtain ⟨o, d, J⟩ := laidF I (r1.append r2) (by rw [List.length_append]; exact hz)
    exact ⟨.ref s.heap.objs.size, _, J, rfl, q2 hx (fun w => z (r2.nil_iff.mpr w)) _ o (I.hok.fresh (Nat.le_refl _)) d⟩
def rSlF (K : PySem.W.Frag) : V → Option Int → Option Int → Hp → VK → Prop := fun x lo hi H Q => ∃ a xs, x = .ref a ∧ SqF K H a xs ∧
  (HT.sIx xs.length 0 lo = 0 ∧ HT.sIx xs.length xs.length hi = xs.length → Q (.ref a) H) ∧ (¬ (HT.sIx xs.length 0 lo = 0 ∧ HT.sIx xs.length xs.length hi = xs.length) → NewT H (cutV xs lo hi) Q)
theorem sl_tupF : SlR X (rSlF X.K) := by
  intro pins s σ H x v vl vu lo hi sl Q I rx hs pl pu h
  obtain ⟨a, xs, rfl, hx, q1, q2⟩ := h
  cases rx
  obtain ⟨its, r, ht, hz⟩ := I.tuple hx.sqT
  have hlen : its.toArray.size = xs.length := by rw [List.size_toArray]; exact r.length.symm
  refine ⟨"tuple", _, PyProof.Rows.slot_tuple_getitem.lookup, ht.typeIs, ?_⟩
  by_cases hw : HT.sIx xs.length 0 lo = 0 ∧ HT.sIx xs.length xs.length hi = xs.length
  · exact getItem_tuple_whole ht hs pl pu (by rw [hlen]; exact hw) ⟨.ref a, H, I, rfl, q1 hw⟩
  · refine HT.getItem_tuple_cut ht hs pl pu (by rw [hlen]; exact hw) ?_ (by rw [hlen]; exact hz)
    rw [hlen]
    obtain ⟨o, d, J⟩ := laidF I ((r.drop (HT.sIx xs.length 0 lo)).take (HT.sIx xs.length xs.length hi - HT.sIx xs.length 0 lo)) (Nat.le_trans (cutV_length xs lo hi) hz)
    exact ⟨.ref s.heap.objs.size, _, J, rfl, q2 hw _ o (I.hok.fresh (Nat.le_refl _)) d⟩
/-- tuple(list) -/
def rTupOf (K : PySem.W.Frag) : List V → Hp → VK → Prop := fun xs H Q => ∃ p ys, xs = [.ref p] ∧ SqL K H p ys ∧ NewT H ys Q
theorem c_tupOf : CallR X (.type "tuple") (rTupOf X.K) := by
  intro pins s σ H xs us Q I r h
  obtain ⟨p, ys, rfl, hq, q⟩ := h
  obtain ⟨u, rfl, rx⟩ := vals1 r
  cases rx
  obtain ⟨its, r', pl, hz⟩ := I.list hq
  have hlen := r'.length
  refine call_tuple_list pl.isList (fun h' kp => ?_) (by simp only [List.size_toArray] <;> omega)
  have I1 : Inv X pins σ H { s with heap := h' } := I.kept (t' := s.toks) kp
  obtain ⟨o, d, J⟩ := laidF I1 r' hz
  exact ⟨.ref h'.objs.size, _, J, rfl, q _ o (I1.hok.fresh (Nat.le_refl _)) d⟩
end
section
theorem mulW1 (l : Addr) (items : Array Value) (n : Nat) (dd : Option Addr) (sl : Array (Option Value)) (x : Int) (u : Tok) (c0 : (decide (x < -(2 ^ 63)) || decide (x ≥ 2 ^ 63)) = false) (c1 : (items.isEmpty || x == 1) = true) :
    Meets (Builtin.«tuple.__mul__» ⟨[.ref l, .int x u], []⟩) (fun _ R s => s.heap.get? l = some { cls := .type "tuple", dict := dd, data := .seq items n, slots := sl } ∧ R (.ok (.ret (Value.ref l))) s) :=
  .of_wp fun prog w A R s h => by
    obtain ⟨hp, g, d, tk, os⟩ := s
    obtain ⟨hl, h⟩ := h
    have f1 := AutoSeq1.idx_int
    have hT : (⟨hp, g, d, tk, os⟩ : Shared).TypeIs (.ref l) "tuple" := ⟨_, hl, rfl⟩
    wp_walk using wpAny_loadPart' hl
    repeat (first
      | (refine wpAny_ite_false (decide_eq_false (by rw [c0]; exact Bool.false_ne_true)) ?_; wp_walk using wpAny_loadPart' hl)
      | (refine wpAny_ite_true (decide_eq_true c1) ?_; wp_walk using wpAny_loadPart' hl))
    exact ⟨_, rfl, h⟩
theorem mulW0 (l : Addr) (items : Array Value) (n : Nat) (dd : Option Addr) (sl : Array (Option Value)) (x : Int) (u : Tok) (c0 : (decide (x < -(2 ^ 63)) || decide (x ≥ 2 ^ 63)) = false) (c1 : (items.isEmpty || x == 1) = false) (c2 : (decide (x ≤ 0) || items.isEmpty) = true) :
    Meets (Builtin.«tuple.__mul__» ⟨[.ref l, .int x u], []⟩) (fun _ R s => s.heap.get? l = some { cls := .type "tuple", dict := dd, data := .seq items n, slots := sl } ∧
      R (.ok (.ret (Value.ref s.heap.objs.size))) { s with heap := s.heap.push { cls := Value.type "tuple", data := Data.seq #[] }, toks := s.toks }) :=
  .of_wp fun prog w A R s h => by
    obtain ⟨hp, g, d, tk, os⟩ := s
    obtain ⟨hl, h⟩ := h
    have f1 := AutoSeq1.idx_int
    wp_walk using wpAny_loadPart' hl
    repeat (first
      | (refine wpAny_ite_false (decide_eq_false (by rw [c0]; exact Bool.false_ne_true)) ?_; wp_walk using wpAny_loadPart' hl)
      | (refine wpAny_ite_false (decide_eq_false (by rw [c1]; exact Bool.false_ne_true)) ?_; wp_walk using wpAny_loadPart' hl)
      | (refine wpAny_ite_true (decide_eq_true c2) ?_; wp_walk using wpAny_loadPart' hl))
    exact ⟨_, rfl, h⟩
end
section
variable {X : Cx} {e : Expr} {es : List Expr} {te : TE} {t : TA} {pos : Pos}
def rRepF (K : PySem.W.Frag) : R2 := fun x y H Q => ∃ l k xs, x = .ref l ∧ y = .int k ∧ SqF K H l xs ∧ xs ≠ [] ∧ 0 ≤ k ∧ k ≤ 1000 ∧ xs.length ≤ 1000 ∧
  (k = 1 → Q (.ref l) H) ∧ (k ≠ 1 → NewT H (List.replicate k.toNat xs).flatten Q)
theorem op_repF : OpR X (binaryOp .Mult) (rRepF X.K) := by
  intro pins s σ H x y v u Q I rx ry h
  obtain ⟨l, k, xs, rfl, rfl, hF, hne, h1, h2, hz, q1, q2⟩ := h
  cases rx
  obtain ⟨t, rfl⟩ := ry
  obtain ⟨its, ⟨cls, dd, data, sl⟩, n, r, ho, hc, hd0, hd, hs⟩ := tupF I hF
  simp only at hc hd hd0
  subst hc hd hd0
  have hle : its.length = xs.length := r.length.symm
  have hn : its ≠ [] := fun e => hne (by
    rw [e] at hle
    exact List.eq_nil_of_length_eq_zero hle.symm)
  have hi : its.toArray.isEmpty = false := by
    cases its with
    | nil => exact absurd rfl hn
    | cons a b => rfl
  have hsz0 : its.toArray.size = xs.length := by rw [List.size_toArray, hle]
  have c0 : (decide (k < -(2 ^ 63)) || decide (k ≥ 2 ^ 63)) = false := by
    rw [decide_eq_false (by omega), decide_eq_false (by omega)] <;> rfl
  by_cases k1 : k = 1
  · subst k1
    exact wpAny_binaryOp_repeat_ref (T := "tuple") (U := "int") (by decide) ⟨_, ho, rfl⟩ (fun s' => typeIs_int s' 1 t) noFill_tuple_mul PySem.F.fills_int_mul PySem.F.slot_int_rmul repeat_tuple PySem.F.slot_int_index.lookup
      (call_meets PySem.F.slot_int_rmul (typeIs_int s 1 t) PySem.F.entry_int_rmul (PySem.F.args_int_rmul_2 _ _) (int_rmul_tuple 1 t l its.toArray n none sl)
        ⟨ho, rfl, ⟨_, ho, rfl⟩, call_meets PySem.F.slot_tuple_mul ⟨_, ho, rfl⟩ PySem.F.entry_tuple_mul (PySem.F.args_tuple_mul_2 _ _) (mulW1 l its.toArray n none sl 1 t c0 (by rw [hi]; rfl)) ⟨ho, ⟨.ref l, H, I, rfl, q1 rfl⟩⟩⟩)
  have c1 : (its.toArray.isEmpty || k == 1) = false := by
    rw [hi, Bool.false_or]
    exact beq_eq_false_iff_ne.mpr k1
  by_cases k0 : k = 0
  · subst k0
    refine wpAny_binaryOp_repeat_ref (T := "tuple") (U := "int") (by decide) ⟨_, ho, rfl⟩ (fun s' => typeIs_int s' 0 t) noFill_tuple_mul PySem.F.fills_int_mul PySem.F.slot_int_rmul repeat_tuple PySem.F.slot_int_index.lookup
      (call_meets PySem.F.slot_int_rmul (typeIs_int s 0 t) PySem.F.entry_int_rmul (PySem.F.args_int_rmul_2 _ _) (int_rmul_tuple 0 t l its.toArray n none sl)
        ⟨ho, rfl, ⟨_, ho, rfl⟩, call_meets PySem.F.slot_tuple_mul ⟨_, ho, rfl⟩ PySem.F.entry_tuple_mul (PySem.F.args_tuple_mul_2 _ _) (mulW0 l its.toArray n none sl 0 t c0 c1 rfl) ⟨ho, ?_⟩⟩)
    obtain ⟨o, d, J⟩ := laidF (xs := []) (its := []) I .nil (Nat.zero_le _)
    exact ⟨.ref s.heap.objs.size, _, J, rfl, q2 k1 _ o (I.hok.fresh (Nat.le_refl _)) d⟩
  have hm : ((its.toArray.size : Nat) : Int) * k ≤ 1000000 := by
    rw [hsz0]
    have a1 : ((xs.length : Nat) : Int) * k ≤ 1000 * k := Int.mul_le_mul_of_nonneg_right (by omega) (by omega)
    omega
  have flen : (List.replicate k.toNat its).flatten.length ≤ sizeLine := by
    rw [PyProof.Rows.lm_len_rep_flat, hle, sizeLine_eq]
    have a1 : k.toNat * xs.length ≤ 1000 * 1000 := Nat.mul_le_mul (by omega) hz
    omega
  have c2 : (decide (k ≤ 0) || its.toArray.isEmpty) = false := by
    rw [hi, Bool.or_false]
    exact decide_eq_false (by omega)
  have c4 : Builtin.Tuple.tupleTooMany (((its.toArray.size : Nat) : Int) * k) = false := by
    unfold Builtin.Tuple.tupleTooMany
    rw [sizeLine_eq]
    exact decide_eq_false (by omega)
  refine wpAny_binaryOp_repeat_ref (T := "tuple") (U := "int") (by decide) ⟨_, ho, rfl⟩ (fun s' => typeIs_int s' k t) noFill_tuple_mul PySem.F.fills_int_mul PySem.F.slot_int_rmul repeat_tuple PySem.F.slot_int_index.lookup
    (call_meets PySem.F.slot_int_rmul (typeIs_int s k t) PySem.F.entry_int_rmul (PySem.F.args_int_rmul_2 _ _) (int_rmul_tuple k t l its.toArray n none sl)
      ⟨ho, rfl, ⟨_, ho, rfl⟩, call_meets PySem.F.slot_tuple_mul ⟨_, ho, rfl⟩ PySem.F.entry_tuple_mul (PySem.F.args_tuple_mul_2 _ _) (tuple_mulW l its.toArray n none sl k t c0 c1 c2 (by omega) c4 (by rw [size_rep, List.size_toArray]; exact flen)) ⟨ho, ?_⟩⟩)
  rw [size_rep]
  obtain ⟨o, d, J⟩ := laidF I (r.rep k.toNat) (by rw [PyProof.Rows.lm_len_rep_flat, sizeLine_eq]; have a1 : k.toNat * xs.length ≤ 1000 * 1000 := Nat.mul_le_mul (by omega) hz; omega)
  exact ⟨.ref s.heap.objs.size, _, J, rfl, q2 k1 _ o (I.hok.fresh (Nat.le_refl _)) d⟩
/-- t.index(n) of a tuple of ints: the first place -/
def tIdxF (K : PySem.W.Frag) (to te : TE) : TE := fun σ H Q => to σ H fun x H1 => ∃ p, ∃ ys : List Int, x = .ref p ∧ SqF K H1 p (ys.map V.int) ∧ te σ H1 fun y H2 => ∃ z j, y = .int z ∧ SqF K H2 p (ys.map V.int) ∧ ys[j]? = some z ∧ (∀ m, m < j → ys[m]? ≠ some z) ∧ Q (.int (j : Nat)) H2
theorem flat_ints (ys : List Int) : (ys.map V.int).all flatV = true := by
  rw [List.all_map]
  exact List.all_eq_true.mpr fun _ _ => rfl
theorem index_run {pins : List (Addr × Obj)} {s : Shared} {σ : L2.St} {H : Hp} {p : Addr} {ys : List Int} {z : Int} {j : Nat} {u : Value} {Q : VK} (I : Inv X pins σ H s) (hF : SqF X.K H p (ys.map V.int)) (ru : RelV (.int z) u) (hy : ys[j]? = some z) (hno : ∀ m, m < j → ys[m]? ≠ some z)
    (q : Q (.int (j : Nat)) H) : wpAny (model X.prog X.w) X.A (call (.builtin "tuple.index") [.ref p, u]) (EP X pins σ Q) X.xe s := by
  obtain ⟨its, ⟨cls, dd, dt, sl⟩, n, r, ho, hc, _, hd, hz⟩ := tupF I hF
  simp only at hc hd
  subst hc
  subst hd
  obtain ⟨t, rfl⟩ := ru
  have hl : its.toArray.size = ys.length := by rw [List.size_toArray, ← r.length, List.length_map]
  have hj : j < its.toArray.size := by rw [hl]; exact (List.getElem?_eq_some_iff.mp hy).1
  have at' : ∀ (m : Nat) (hm : m < its.toArray.size), ∃ y t', ys[m]? = some y ∧ its.toArray[m] = Value.int y t' := fun m hm => by
    have hm' : m < ys.length := by rw [← hl]; exact hm
    obtain ⟨w, hw, t', hw'⟩ := r.get (i := m) (x := .int ys[m]) (by simp [hm'])
    refine ⟨ys[m], t', List.getElem?_eq_getElem hm', ?_⟩
    have e := (List.getElem?_eq_some_iff.mp hw).2
    rw [← hw', ← e]
    simp
  refine call_meets PySem.F.slot_tuple_index ⟨_, ho, rfl⟩ PySem.F.entry_tuple_index (PySem.F.args_tuple_index_2 _ _) (TI.tuple_indexAt p its.toArray n dd sl (.int z t) (eqU (.int z)) j hj ?_ ?_)
    ⟨ho, fun w hw => mem_eqAt (x := .int z) ⟨t, rfl⟩ rfl r (flat_ints ys) w (by simpa using hw), ⟨.int (j : Nat), H, I.tok _, ⟨_, rfl⟩, q⟩⟩
  · obtain ⟨y, t', h1, h2⟩ := at' j hj
    rw [hy] at h1
    cases h1
    rw [h2]
    show (z == z) = true
    exact beq_self_eq_true z
  · intro m hm hmj
    obtain ⟨y, t', h1, h2⟩ := at' m hm
    rw [h2]
    show (y == z) = false
    exact beq_eq_false_iff_ne.mpr fun e' => hno m hmj (by rw [h1, e'])
theorem pe_idxF {o : Expr} {apos cpos : Pos} {to : TE} (ho : PE X o to) (he : PE X e te)
    (hbase : attributeBase o "index" X.env (eval o X.env) = eval o X.env := by rfl)
    (hfew : ((backTo cpos (starEach [e] X.env)).all (fun x => !x.1) && (backToKw cpos (keywordEach [] X.env)).all (fun x => x.1.isSome)
      && decide (([e] : List Expr).length + ([] : List Keyword).length + (if ([] : List Keyword).isEmpty then 0 else 1) < 30)) = true := by rfl)
    (hline : (apos.endLine == cpos.line) = true := by rfl) (hs : starEach [e] X.env = (false, eval e X.env) :: starEach [] X.env := by rfl) :
    PE X (.Call (.Attribute o "index" apos) [e] [] cpos) (tIdxF X.K to te) := by
  refine ⟨fun pins s σ H Q I h => ?_⟩
  refine wpAny_Call_method_late hbase hfew hline rfl (thn (ho.run pins s σ H _ I h) fun v s1 ⟨x, H1, I1, r1, p, ys, ex, hF, q1⟩ => ?_)
  subst ex
  cases r1
  obtain ⟨its, o', n, r, ho', hc, hd0, hd, hz⟩ := tupF I1 hF
  refine ⟨"tuple", "tuple.index", PySem.F.plainAttrs_tuple, PySem.F.slot_tuple_index, PySem.F.type_tuple_index, ⟨o', ho', hc⟩, fun a ea => by cases ea; exact ⟨o', ho', hd0⟩, ?_⟩
  have hA := (pa_cons he pa_nil hs).run cpos pins s1 σ H1 (fun vs H2 => ∃ y, vs = [y] ∧ ∃ z j, y = .int z ∧ SqF X.K H2 p (ys.map V.int) ∧ ys[j]? = some z ∧ (∀ m, m < j → ys[m]? ≠ some z) ∧ Q (.int (j : Nat)) H2) I1 (by
    show te σ H1 (fun y H2 => ∃ y', [y] = [y'] ∧ ∃ z j, y' = .int z ∧ SqF X.K H2 p (ys.map V.int) ∧ ys[j]? = some z ∧ (∀ m, m < j → ys[m]? ≠ some z) ∧ Q (.int (j : Nat)) H2)
    have e0 : (fun (y : V) (H2 : Hp) => ∃ y', [y] = [y'] ∧ ∃ z j, y' = .int z ∧ SqF X.K H2 p (ys.map V.int) ∧ ys[j]? = some z ∧ (∀ m, m < j → ys[m]? ≠ some z) ∧ Q (.int (j : Nat)) H2) =
        fun y H2 => ∃ z j, y = .int z ∧ SqF X.K H2 p (ys.map V.int) ∧ ys[j]? = some z ∧ (∀ m, m < j → ys[m]? ≠ some z) ∧ Q (.int (j : Nat)) H2 := by
      funext y H2
      refine propext ⟨fun ⟨y', e1, z⟩ => ?_, fun z => ⟨y, rfl, z⟩⟩
      injection e1 with e1 _
      subst e1
      exact z
    rw [e0]
    exact q1)
  rw [hs] at hA ⊢
  refine Calls.callWith_builtin rfl (Calls.evalArgs_plain ?_)
  refine thn hA fun us s2 ⟨vs, H2, I2, r2, y, ev, z, j, ey, hF2, h1, h2, q2⟩ => ?_
  subst ev ey
  obtain ⟨u, rfl, ru⟩ := vals1 r2
  exact index_run I2 hF2 ru h1 h2 q2
end
end Lb
/-! text LbA -/
/-! Data that never changes (ints, texts, none, truths, tuples) and references; how they lie in the tracked heap. -/
namespace Lb
open PySem L2

inductive Dat where
  | non
  | bl (b : Bool)
  | int (i : Int)
  | str (s : Str)
  | obj (a : Addr)
  | tup (ds : List Dat)

/-- what never changes -/
def Imm : HO → Prop
  | .tup _ => True
  | .frz _ _ => True
  | _ => False
/-- all that was tracked is as it was, but for what is in A and may change -/
def Off (A : List Addr) (H H' : Hp) : Prop := ∀ b o, H b = some o → (b ∈ A → Imm o) → H' b = some o
theorem Off.refl {A : List Addr} {H : Hp} : Off A H H := fun _ _ e _ => e
theorem Off.trans {A : List Addr} {H H1 H2 : Hp} (a : Off A H H1) (b : Off A H1 H2) : Off A H H2 := fun c o e m => b c o (a c o e m) m
theorem Off.mono {A B : List Addr} {H H' : Hp} (a : Off A H H') (s : ∀ x ∈ A, x ∈ B) : Off B H H' := fun b o e m => a b o e fun z => m (s b z)
theorem Off.of_same {A : List Addr} {H H' : Hp} (a : Same H H') : Off A H H' := fun b o e _ => a b o e
theorem Off.same {H H' : Hp} (a : Off [] H H') : Same H H' := fun b o e => a b o e fun z => nomatch z
theorem Off.new {A : List Addr} {H : Hp} {p : Addr} {o : HO} (h : H p = none) : Off A H (upd H p o) := fun b u e _ => by
  rw [upd_ne (ne_of_none e h)]
  exact e
theorem Off.put {A : List Addr} {H : Hp} {p : Addr} {o u : HO} (hp : p ∈ A) (h : H p = some u) (hi : ¬ Imm u) : Off A H (upd H p o) := fun b v e m => by
  by_cases q : b = p
  · subst q
    rw [h] at e
    cases e
    exact absurd (m hp) hi
  · rw [upd_ne q]
    exact e
/-- an address that was not tracked may change afterwards -/
theorem Off.late {A : List Addr} {H H1 H2 : Hp} {p : Addr} (a : Off A H H1) (h : H p = none) (b : Off (p :: A) H1 H2) : Off A H H2 := fun c o e m => b c o (a c o e m) fun z => by
  rcases List.mem_cons.mp z with q | q
  · subst q
    rw [h] at e
    cases e
  · exact m q
theorem Off.at_ {A : List Addr} {H H' : Hp} {p : Addr} {o : HO} (a : Off A H H') (h : H p = some o) (hp : p ∉ A) : H' p = some o := a p o h fun z => absurd z hp
theorem Off.free {A : List Addr} {H H' : Hp} {p : Addr} (a : Off A H H') (t : ∀ x ∈ A, H x ≠ none → H' x ≠ none) (h : H' p = none) : H p = none := by
  cases q : H p with
  | none => rfl
  | some o =>
    by_cases hp : p ∈ A
    · exact absurd h (t p hp (by rw [q]; exact fun z => nomatch z))
    · rw [a.at_ q hp] at h
      cases h
theorem Off.rd {A : List Addr} {H H' : Hp} {p : Addr} {xs : List V} (a : Off A H H') (h : Rd H p (.tup xs)) : Rd H' p (.tup xs) := by
  rcases h with h | ⟨o, h⟩
  · exact .inl (a p _ h fun _ => True.intro)
  · exact .inr ⟨o, a p _ h fun _ => True.intro⟩
theorem Off.sqF {A : List Addr} {K : PySem.W.Frag} {H H' : Hp} {p : Addr} {xs : List V} (a : Off A H H') (h : SqF K H p xs) : SqF K H' p xs := by
  rcases h with ⟨o, h, d⟩ | h
  · exact .inl ⟨o, a p _ h fun _ => True.intro, d⟩
  · exact .inr h
theorem Off.sqT {A : List Addr} {K : PySem.W.Frag} {H H' : Hp} {p : Addr} {xs : List V} (a : Off A H H') (h : SqT K H p xs) : SqT K H' p xs := by
  rcases h with h | h
  · exact .inl (a.rd h)
  · exact .inr h

mutual
inductive At (K : PySem.W.Frag) (H : Hp) : V → Dat → Prop
  | non : At K H .non .non
  | bl (b : Bool) : At K H (.bl b) (.bl b)
  | int (i : Int) : At K H (.int i) (.int i)
  | str (s : Str) : At K H (.str s) (.str s)
  | obj (a : Addr) : At K H (.ref a) (.obj a)
  | tup {a : Addr} {xs : List V} {ds : List Dat} : SqF K H a xs → AtL K H xs ds → At K H (.ref a) (.tup ds)
inductive AtL (K : PySem.W.Frag) (H : Hp) : List V → List Dat → Prop
  | nil : AtL K H [] []
  | cons {v : V} {d : Dat} {vs : List V} {ds : List Dat} : At K H v d → AtL K H vs ds → AtL K H (v :: vs) (d :: ds)
end

section
variable {A : List Addr} {K : PySem.W.Frag} {H H' : Hp}
mutual
theorem At.mono (t : Off A H H') : ∀ {v : V} {d : Dat}, At K H v d → At K H' v d
  | _, _, .non => .non
  | _, _, .bl b => .bl b
  | _, _, .int i => .int i
  | _, _, .str s => .str s
  | _, _, .obj a => .obj a
  | _, _, .tup h r => .tup (t.sqF h) (AtL.mono t r)
theorem AtL.mono (t : Off A H H') : ∀ {vs : List V} {ds : List Dat}, AtL K H vs ds → AtL K H' vs ds
  | _, _, .nil => .nil
  | _, _, .cons h r => .cons (At.mono t h) (AtL.mono t r)
end
theorem AtL.len : ∀ {vs : List V} {ds : List Dat}, AtL K H vs ds → vs.length = ds.length
  | _, _, .nil => rfl
  | _, _, .cons _ r => by rw [List.length_cons, List.length_cons, r.len]
theorem AtL.get : ∀ {vs : List V} {ds : List Dat} {i : Nat} {d : Dat}, AtL K H vs ds → ds[i]? = some d → ∃ v, vs[i]? = some v ∧ At K H v d
  | _, _, _, _, .nil, e => by simp at e
  | _, _, 0, _, .cons h _, e => by simp at e; subst e; exact ⟨_, rfl, h⟩
  | _, _, i + 1, d, .cons _ r, e => by
    obtain ⟨v, q1, q2⟩ := AtL.get (i := i) (d := d) r (by simpa using e)
    exact ⟨v, by simpa using q1, q2⟩
theorem AtL.get' : ∀ {vs : List V} {ds : List Dat} {i : Nat} {v : V}, AtL K H vs ds → vs[i]? = some v → ∃ d, ds[i]? = some d ∧ At K H v d
  | _, _, _, _, .nil, e => by simp at e
  | _, _, 0, _, .cons h _, e => by simp at e; subst e; exact ⟨_, rfl, h⟩
  | _, _, i + 1, v, .cons _ r, e => by
    obtain ⟨d, q1, q2⟩ := AtL.get' (i := i) (v := v) r (by simpa using e)
    exact ⟨d, by simpa using q1, q2⟩
theorem AtL.append : ∀ {vs ws : List V} {ds es : List Dat}, AtL K H vs ds → AtL K H ws es → AtL K H (vs ++ ws) (ds ++ es)
  | _, _, _, _, .nil, s => s
  | _, _, _, _, .cons h r, s => .cons h (AtL.append r s)
theorem AtL.take : ∀ {vs : List V} {ds : List Dat} (n : Nat), AtL K H vs ds → AtL K H (vs.take n) (ds.take n)
  | _, _, 0, _ => by simp; exact .nil
  | _, _, _ + 1, .nil => .nil
  | _, _, n + 1, .cons h r => .cons h (AtL.take n r)
theorem AtL.drop : ∀ {vs : List V} {ds : List Dat} (n : Nat), AtL K H vs ds → AtL K H (vs.drop n) (ds.drop n)
  | _, _, 0, r => r
  | _, _, _ + 1, .nil => .nil
  | _, _, n + 1, .cons _ r => AtL.drop n r
theorem AtL.reverse : ∀ {vs : List V} {ds : List Dat}, AtL K H vs ds → AtL K H vs.reverse ds.reverse
  | _, _, .nil => .nil
  | _, _, .cons h r => by rw [List.reverse_cons, List.reverse_cons]; exact AtL.append (AtL.reverse r) (.cons h .nil)
theorem AtL.ints : ∀ {vs : List V} {ns : List Int}, AtL K H vs (ns.map Dat.int) → vs = ns.map V.int
  | _, [], .nil => rfl
  | _, n :: ns, .cons (.int _) r => by rw [List.map_cons, AtL.ints r]
theorem AtL.of_ints : ∀ (ns : List Int), AtL K H (ns.map V.int) (ns.map Dat.int)
  | [] => .nil
  | n :: ns => .cons (.int n) (AtL.of_ints ns)
theorem AtL.bls : ∀ {vs : List V} {ns : List Bool}, AtL K H vs (ns.map Dat.bl) → vs = ns.map V.bl
  | _, [], .nil => rfl
  | _, n :: ns, .cons (.bl _) r => by rw [List.map_cons, AtL.bls r]
theorem AtL.strs : ∀ {vs : List V} {ns : List Str}, AtL K H vs (ns.map Dat.str) → vs = ns.map V.str
  | _, [], .nil => rfl
  | _, n :: ns, .cons (.str _) r => by rw [List.map_cons, AtL.strs r]
theorem AtL.of_strs : ∀ (ns : List Str), AtL K H (ns.map V.str) (ns.map Dat.str)
  | [] => .nil
  | n :: ns => .cons (.str n) (AtL.of_strs ns)
theorem At.int_inv {v : V} {i : Int} (h : At K H v (.int i)) : v = .int i := by cases h; rfl
theorem At.bl_inv {v : V} {i : Bool} (h : At K H v (.bl i)) : v = .bl i := by cases h; rfl
theorem At.str_inv {v : V} {s : Str} (h : At K H v (.str s)) : v = .str s := by cases h; rfl
theorem At.non_inv {v : V} (h : At K H v .non) : v = .non := by cases h; rfl
theorem At.obj_inv {v : V} {a : Addr} (h : At K H v (.obj a)) : v = .ref a := by cases h; rfl
theorem At.tup_inv {v : V} {ds : List Dat} (h : At K H v (.tup ds)) : ∃ a xs, v = .ref a ∧ SqF K H a xs ∧ AtL K H xs ds := by cases h with | tup a b => exact ⟨_, _, rfl, a, b⟩
theorem AtL.two {vs : List V} {d e : Dat} (h : AtL K H vs [d, e]) : ∃ v w, vs = [v, w] ∧ At K H v d ∧ At K H w e := by
  cases h with
  | cons a r => cases r with | cons b s => cases s; exact ⟨_, _, rfl, a, b⟩
theorem AtL.one {vs : List V} {d : Dat} (h : AtL K H vs [d]) : ∃ v, vs = [v] ∧ At K H v d := by
  cases h with
  | cons a r => cases r; exact ⟨_, rfl, a⟩
end

/-! ### equality of data -/
mutual
def Dat.py : Dat → PyData
  | .non => .none
  | .bl b => .bool b
  | .int i => .int i
  | .str s => .str s
  | .obj _ => .none
  | .tup ds => .tuple (Dat.pyL ds)
def Dat.pyL : List Dat → List PyData
  | [] => []
  | d :: ds => d.py :: Dat.pyL ds
end
mutual
def Dat.fine : Nat → Dat → Bool
  | _, .obj _ => false
  | _, .str s => PyData.strOk s
  | 0, .tup _ => false
  | n + 1, .tup ds => Dat.fineL n ds
  | _, _ => true
def Dat.fineL : Nat → List Dat → Bool
  | _, [] => true
  | n, d :: ds => Dat.fine n d && Dat.fineL n ds
end
section
variable {K : PySem.W.Frag} {H : Hp}
mutual
theorem At.dp : ∀ {n : Nat} {v : V} {d : Dat}, Dat.fine n d = true → At K H v d → Dp K H v d.py
  | _, _, _, _, .non => by rw [Dat.py]; exact .non
  | _, _, _, _, .bl b => by rw [Dat.py]; exact .bl b
  | _, _, _, _, .int i => by rw [Dat.py]; exact .int i
  | _, _, _, _, .str s => by rw [Dat.py]; exact .str s
  | n, _, .obj _, h, _ => by cases n <;> simp [Dat.fine] at h
  | 0, _, _, h, .tup a b => by simp [Dat.fine] at h
  | n + 1, _, _, h, .tup a b => by rw [Dat.py]; exact .tup a.sqT (AtL.dp (n := n) (by simpa [Dat.fine] using h) b)
theorem AtL.dp : ∀ {n : Nat} {vs : List V} {ds : List Dat}, Dat.fineL n ds = true → AtL K H vs ds → DpAll K H vs (Dat.pyL ds)
  | _, _, _, _, .nil => by rw [Dat.pyL]; exact .nil
  | n, _, _, h, .cons a b => by
    rw [Dat.fineL, Bool.and_eq_true] at h
    rw [Dat.pyL]
    exact .cons (At.dp h.1 a) (AtL.dp h.2 b)
end
end
mutual
theorem Dat.lay : ∀ {n : Nat} {d : Dat}, Dat.fine n d = true → d.py.canLay0 = true ∧ d.py.depth ≤ n
  | _, .non, _ => by rw [Dat.py]; exact ⟨rfl, Nat.zero_le _⟩
  | _, .bl _, _ => by rw [Dat.py]; exact ⟨rfl, Nat.zero_le _⟩
  | _, .int _, _ => by rw [Dat.py]; exact ⟨rfl, Nat.zero_le _⟩
  | n, .str s, h => by
    rw [Dat.py]
    refine ⟨?_, Nat.zero_le _⟩
    have h' : PyData.strOk s = true := by cases n <;> simpa [Dat.fine] using h
    exact h'
  | n, .obj _, h => by cases n <;> simp [Dat.fine] at h
  | 0, .tup _, h => by simp [Dat.fine] at h
  | n + 1, .tup ds, h => by
    rw [Dat.py]
    obtain ⟨h1, h2⟩ := Dat.layL (n := n) (ds := ds) (by simpa [Dat.fine] using h)
    exact ⟨by simpa [PyData.canLay0] using h1, by simpa [PyData.depth] using h2⟩
theorem Dat.layL : ∀ {n : Nat} {ds : List Dat}, Dat.fineL n ds = true → PyData.canLayAll0 (Dat.pyL ds) = true ∧ PyData.depthAll (Dat.pyL ds) ≤ n
  | _, [], _ => by rw [Dat.pyL]; exact ⟨rfl, Nat.zero_le _⟩
  | n, d :: ds, h => by
    rw [Dat.fineL, Bool.and_eq_true] at h
    obtain ⟨a1, a2⟩ := Dat.lay h.1
    obtain ⟨b1, b2⟩ := Dat.layL h.2
    rw [Dat.pyL]
    exact ⟨by simp [PyData.canLayAll0, a1, b1], by simp [PyData.depthAll]; omega⟩
end
theorem Dat.shaped {n : Nat} {d : Dat} (h : Dat.fine n d = true) (hn : n ≤ 64) : SeqAt.shaped d.py = true := by
  obtain ⟨a, b⟩ := Dat.lay h
  unfold SeqAt.shaped
  rw [a, Bool.true_and, decide_eq_true_iff]
  omega
end Lb
/-! text LbR1 -/
/-! More rules: a call of any expression's value, an attribute as a target, a conditional test, t[::-1] of a tuple. -/
namespace Lb
open PySem L2 PySem.Spec PyProof.Rows
section
variable {X : Cx} {pos : Pos}
/-- a def at an address with its promise -/
structure Cal (P : Program) (w : World) (K : PySem.W.Frag) (mg : Str → Option Value) (base : Heap) (k : Nat) (f : Addr) (sp : Sp) : Prop where
  ex : ∃ (fd : FuncData) (ps : List Str), FnOk P w K mg base CX0 k f fd ps sp ∧ PySem.W.keepIn K (.ref f) = true ∧ Binds K fd ps []
/-- (e)(a, ..): the value is one of these defs -/
def tCallS (S : Addr → Option Sp) (tf : TE) (t : TA) : TE := fun σ H Q => tf σ H fun x H1 => ∃ f sp, x = .ref f ∧ S f = some sp ∧ t σ H1 fun vs H2 => sp vs H2 Q E0
theorem pe_callS' {S : Addr → Option Sp} {k : Nat} {func e : Expr} {es : List Expr} {tf : TE} {t : TA} (A : ∀ f sp, S f = some sp → Cal X.prog X.w X.K X.mg X.base k f sp) (hr : Room k X.A) (hf : PE X func tf) (ha : PA X (e :: es) t)
    (hE : eval (.Call func (e :: es) [] pos) X.env = (do callWith pos (← eval func X.env) [] (backTo pos (starEach (e :: es) X.env)) (backToKw pos (keywordEach [] X.env))) := by rfl)
    (he : starEach (e :: es) X.env = (false, eval e X.env) :: starEach es X.env := by rfl) (hpl : (backTo pos (starEach es X.env)).any (·.1) = false := by rfl) : PE X (.Call func (e :: es) [] pos) (tCallS S tf t) := by
  refine ⟨fun pins s σ H Q I h => ?_⟩
  refine PyProof.Rows.Call_ (thn (hf.run pins s σ H _ I h) fun u s1 ⟨x, H1, I1, r1, q1⟩ => ?_) hE
  obtain ⟨f, sp, ex, hS, ht⟩ := q1
  subst ex
  cases r1
  obtain ⟨fd, ps, F, hk, hb⟩ := (A f sp hS).ex
  refine PySem.W.callWith_K (h₀ := X.base) I1.ok.mod.kin hk (thn (ha.run pos pins s1 σ H1 _ I1 ht) fun us s2 ⟨vs, H2, I2, r, q⟩ => ⟨I2.kIn, ?_⟩) he hpl
  exact run_fn (dvs := []) (E := E0) F hr hb .nil pass0 I2 r (by rw [List.append_nil]; exact q)
/-- o.f as a target -/
def gFld (K : PySem.W.Frag) (ta : TE) (f : Str) : TG := fun v σ H Q => ta σ H fun x H1 => ∃ a C dx fs, x = .ref a ∧ H1 a = some (.ins C dx fs) ∧ Cls K C ∧ NoAttr K C f ∧ fs.length < 1000 ∧ Q σ (upd H1 a (.ins C dx (putF f v fs)))
theorem pg_fld {o : Expr} {f : Str} {ta : TE} (ho : PE X o ta)
    (ha : ∀ v, assign (.Attribute o f pos) X.env v = (do
      let ov ← holding [v] (eval o X.env)
      standAt pos.atName
      holding [v, ov] (setAttr ov f v)
      release [v, ov] []) := by intro _; rfl) : PG X (.Attribute o f pos) (gFld X.K ta f) := by
  refine ⟨fun pins s σ H v u Q I r h => ?_⟩
  rw [ha]
  refine wpAny_bind (wpAny_holding (thn (ho.run pins s σ H _ I h) fun ov s1 ⟨x, H1, I1, r1, q1⟩ => ?_))
  obtain ⟨a, C, dx, fs, ex, ea, c, n, l, q⟩ := q1
  subst ex
  obtain rfl : ov = Value.ref a := r1
  refine wpAny_bind (wpAny_standAt (wpAny_bind (wpAny_holding (setattr_ok I1 ea c n l r fun s3 I3 => ?_))))
  exact wpAny_release ⟨σ, _, I3, q⟩
/-- a if c else b as a test -/
def tIfT (c a b : TT) : TT := fun σ H Q => c σ H fun k H1 => if k = true then a σ H1 Q else b σ H1 Q
theorem pt_ifx {c a b : Expr} {tc ta tb : TT} (hc : PT X c tc) (ha : PT X a ta) (hb : PT X b tb) : PT X (.IfExp c a b pos) (tIfT tc ta tb) := by
  refine ⟨fun pins s σ H Q I h => ?_⟩
  have e : ∀ whole, isTrue (.IfExp c a b pos) X.env whole = (do if ← isTrue c X.env (eval c X.env) then isTrue a X.env (eval a X.env) else isTrue b X.env (eval b X.env)) := fun _ => rfl
  rw [e]
  refine wpAny_bind (thn (hc.run pins s σ H _ I h) fun k s1 ⟨H1, I1, q1⟩ => ?_)
  cases k with
  | true => exact ha.run pins s1 σ H1 Q I1 q1
  | false => exact hb.run pins s1 σ H1 Q I1 q1

/-! ### t[::-1] -/
theorem sliceApplied_back {prog : Program} {w : World} {A : Around} {E : Value → Shared → Prop} {s : Shared} {sl : Addr} {vs : Value} {n : Nat} {Q : Int × Int × Nat → Shared → Prop} (hs : s.heap.IsSliceOf sl .none .none vs) (ps : IsPart vs (some (-1)))
    (h : Q ((n : Int) - 1, -1, n) s) : wpAny (model prog w) A (Builtin.Slice.sliceApplied (.ref sl) (pure (n : Int))) Q E s := by
  obtain ⟨os, hos, hcs, hds⟩ := id hs
  unfold Builtin.Slice.sliceApplied Builtin.Slice.sliceFields
  refine wpAny_bind (wpAny_bind (wpAny_field hos hds (x := .none) rfl (wpAny_bind (wpAny_field hos hds (x := .none) rfl (wpAny_bind (wpAny_field hos hds (x := vs) rfl (wpAny_pure ?_)))))))
  refine wpAny_bind (HT.slicePart_ ps ?_)
  show wpAny _ _ (if ((-1 : Int) == 0) = true then _ else _) _ _ s
  rw [if_neg (by decide)]
  refine wpAny_bind (slicePart_none (wpAny_bind (slicePart_none (wpAny_bind (wpAny_pure ?_)))))
  show wpAny _ _ (match Builtin.Slice.sliceAdjust none none (-1) (n : Int) with | (lo, hi) => pure (lo, (-1 : Int), Builtin.Slice.slicePlaces lo hi (-1))) _ _ s
  have e1 : Builtin.Slice.sliceAdjust none none (-1) (n : Int) = ((n : Int) - 1, -1) := by
    unfold Builtin.Slice.sliceAdjust
    simp
  have e2 : Builtin.Slice.slicePlaces ((n : Int) - 1) (-1) (-1) = n := by
    unfold Builtin.Slice.slicePlaces
    simp
    omega
  rw [e1]
  show wpAny _ _ (pure ((n : Int) - 1, (-1 : Int), Builtin.Slice.slicePlaces ((n : Int) - 1) (-1) (-1))) _ _ s
  rw [e2]
  exact wpAny_pure h
theorem fm_map {α β : Type} {f : α → Option β} {g : α → β} : ∀ l : List α, (∀ m ∈ l, f m = some (g m)) → l.filterMap f = l.map g
  | [], _ => rfl
  | a :: l, h => by
    rw [List.filterMap_cons_some (h a List.mem_cons_self), List.map_cons, fm_map l fun m hm => h m (List.mem_cons_of_mem _ hm)]
theorem pick_back (xs : List Value) : (List.range xs.length).filterMap (fun (m : Nat) => xs.toArray[((xs.length : Int) - 1 + (m : Int) * (-1)).toNat]?) = xs.reverse := by
  have hm : (List.range xs.length).filterMap (fun (m : Nat) => xs.toArray[((xs.length : Int) - 1 + (m : Int) * (-1)).toNat]?) = (List.range xs.length).map fun m => (xs.reverse)[m]?.getD .none := by
    refine fm_map _ fun m hm => ?_
    have hm' : m < xs.length := List.mem_range.mp hm
    have e : ((xs.length : Int) - 1 + (m : Int) * (-1)).toNat = xs.length - 1 - m := by omega
    rw [e, List.getElem?_toArray, List.getElem?_reverse hm', List.getElem?_eq_getElem (by omega)]
    rfl
  rw [hm]
  apply List.ext_getElem?
  intro i
  rw [List.getElem?_map]
  by_cases hi : i < xs.length
  · rw [List.getElem?_range hi, Option.map_some, List.getElem?_eq_getElem (by rw [List.length_reverse]; exact hi)]
    rfl
  · rw [List.getElem?_eq_none (by simp; omega), List.getElem?_eq_none (by simp; omega)]
    rfl
theorem getItem_tuple_back {prog : Program} {w : World} {A : Around} {E : Value → Shared → Prop} {s : Shared} {t sl : Addr} {items : List Value} {vs : Value} {Q : Value → Shared → Prop} (ht : IsTup s.heap t items.toArray) (hs : s.heap.IsSliceOf sl .none .none vs) (ps : IsPart vs (some (-1)))
    (h : Q (.ref s.heap.objs.size) { s with heap := s.heap.push { cls := .type "tuple", data := .seq items.reverse.toArray } })
    (hsz : items.length ≤ sizeLine) : wpAny (model prog w) A (getItem (.ref t) (.ref sl)) Q E s := by
  have htake : sizeOk (.seq items.reverse.toArray) := by
    show items.reverse.toArray.size ≤ sizeLine
    rw [List.size_toArray, List.length_reverse]
    exact hsz
  obtain ⟨os, hos, hcs, hds⟩ := id hs
  have hTs : s.TypeIs (.ref sl) "slice" := ⟨os, hos, hcs⟩
  unfold getItem
  try with_reducible refine wpAny_holding ?_
  first | refine wpAny_bind (wpAny_pure ?_) | skip
  refine wpAny_bind (wpAny_sequenceKey ht.typeIs (by decide) ?_)
  refine wpAny_bind (wpAny_callSpecial?_slot (name := Str.ofString "__getitem__") ht.typeIs PyProof.Rows.slot_tuple_getitem
    (wpAny_call_entry PyProof.Rows.slot_tuple_getitem ht.typeIs entry_tuple_getitem ?_ (args_tuple_getitem _ _)))
  show wpAny _ _ (Builtin.Tuple.tupleItemsOf (.ref t) >>= _) _ _ s
  refine wpAny_bind (tupleItemsOf_ ht ?_)
  refine wpAny_bind (wpAny_typeOf hTs ?_)
  rw [if_pos (by decide)]
  refine wpAny_bind (sliceApplied_back (n := items.toArray.size) hs ps ?_)
  show wpAny _ _ (if (((items.toArray.size : Int) - 1) == 0 && (-1 : Int) == 1 && (items.toArray.size) == items.toArray.size) = true then _ else _) _ _ s
  rw [if_neg (by simp), List.size_toArray]
  rw [pick_back]
  first
    | exact wpAny_bind (m := Builtin.Tuple.tupleExact _) (wpAny_newObj_type (wpAny_pure ⟨_, rfl, wpAny_pure h⟩) htake)
    | exact wpAny_bind (m := Builtin.Tuple.tupleExact _) (wpAny_newObj_type (wpAny_bind (wpAny_pure (wpAny_pure ⟨_, rfl, wpAny_pure h⟩))) htake)
    | exact wpAny_bind (wpAny_bind (m := Builtin.Tuple.tupleExact _) (wpAny_newObj_type (wpAny_pure (wpAny_pure ⟨_, rfl, wpAny_pure h⟩)) htake))
    | exact wpAny_bind (wpAny_bind (m := Builtin.Tuple.tupleExact _) (wpAny_newObj_type (wpAny_pure ⟨_, rfl, wpAny_pure h⟩) htake))
def tRevT (K : PySem.W.Frag) (te : TE) : TE := fun σ H Q => te σ H fun x H1 => ∃ a xs, x = .ref a ∧ SqF K H1 a xs ∧ NewT H1 xs.reverse Q
theorem pe_revT {e : Expr} {te : TE} {k : Nat} {p1 p2 p3 : Pos} (he : PE X e te) : PE X (.Subscript e (.Slice none none (some (.UnaryOp .USub (.Constant (.int 1) k p1) p2)) p3) pos) (tRevT X.K te) := by
  refine ⟨fun pins s σ H Q I h => ?_⟩
  refine Subscript_ (thn (he.run pins s σ H _ I h) fun v s1 ⟨x, H1, I1, r1, q1⟩ => ?_)
  obtain ⟨a, xs, ex, hx, q⟩ := q1
  subst ex
  cases r1
  have hst : PO X (some (.UnaryOp .USub (.Constant (.int 1) k p1) p2)) (tPart (tUn (rU fun i => .int (-i)) (tC (.int 1)))) := po_some (pe_un un_neg pe_int)
  refine wpAny_Slice (thn (po_none.run pins s1 σ H1 (fun o H2 => o = none ∧ H2 = H1) I1 ⟨rfl, rfl⟩) fun vl s2 ⟨l, H2, I2, pl, el, e2⟩ => ?_)
  subst el e2
  refine thn (po_none.run pins s2 σ H2 (fun o H3 => o = none ∧ H3 = H2) I2 ⟨rfl, rfl⟩) fun vu s3 ⟨u, H3, I3, pu, eu, e3⟩ => ?_
  subst eu e3
  refine thn (hst.run pins s3 σ H3 (fun o H4 => o = some (-1) ∧ H4 = H3) I3 ⟨1, rfl, -1, rfl, rfl, rfl⟩) fun vs s4 ⟨o, H4, I4, ps, eo, e4⟩ => ?_
  subst eo e4
  cases pl
  cases pu
  have I5 : Inv X pins σ H4 { s4 with heap := s4.heap.push { cls := .type "slice", data := .fields #[.none, .none, vs] } } := I4.kept (t' := s4.toks) fun b ob q => Heap.get?_push_of_some _ q
  obtain ⟨its, r, ht, hz⟩ := I5.tuple hx.sqT
  have hlen := r.length
  show wpAny (model X.prog X.w) X.A (subscriptTail e (.Slice none none (some (.UnaryOp .USub (.Constant (.int 1) k p1) p2)) p3) (.ref a) (.ref s4.heap.objs.size)) (EP X pins σ Q) X.xe { s4 with heap := s4.heap.push { cls := .type "slice", data := .fields #[.none, .none, vs] } }
  refine tail_any (ops := [.ref a, .ref s4.heap.objs.size]) ht.typeIs (PyProof.Rows.slot_tuple_getitem.lookup) ?_ (by with_unfolding_all rfl)
  refine getItem_tuple_back ht (Heap.IsSliceOf.new _ .none .none vs) ps ?_ (by omega)
  obtain ⟨o, d, J⟩ := laidF I5 r.reverse (by rw [List.length_reverse]; exact hz)
  exact ⟨.ref _, _, J, rfl, q _ o (I5.hok.fresh (Nat.le_refl _)) d⟩
end
end Lb
/-! text LbR2 -/
set_option maxHeartbeats 1000000
/-! zip(t, u, strict=True) of two tuples of one length. -/
namespace Lb
open PySem L2 PySem.Spec PyProof.Rows
open PySem.Sem (wp)
abbrev IsZipS (h : Heap) (z TI TO : Addr) (f0 : Value) : Prop :=
  h.get? z = some { cls := .type "zip", dict := none, data := .fields #[f0, .bool false, .bool true, .ref TI, .ref TO], slots := #[] }
section
variable {prog : Program} {w : World} {A : Around} {E : Value → Shared → Prop} {s : Shared}
theorem draw_item {it l : Addr} {i : Nat} {items} {x : Value} {Q : Option Value → Shared → Prop} (hit : s.heap.IsTupleIter it l i)
    (hl : s.heap.IsTuple l items) (hx : items[i]? = some x)
    (hQ : ∀ h', h'.IsTupleIter it l (i + 1) → Heap.SameBut it s.heap h' → Q (some x) { s with heap := h' }) :
    wpAny (model prog w) A (Builtin.SmallTypes.nextOrEnd (.ref it)) Q E s := by
  unfold Builtin.SmallTypes.nextOrEnd
  exact wpAny_bind (wpAny_attempt (RZ.nextOf_tuple_item hit hl hx fun h' a b => wpAny_pure (hQ h' a b)))
theorem draw_end {it l : Addr} {i : Nat} {items} {Q : Option Value → Shared → Prop} (hh : A.handled = none)
    (hit : s.heap.IsTupleIter it l i) (hl : s.heap.IsTuple l items) (hx : items[i]? = none)
    (hQ : ∀ h', Heap.ExtBut it s.heap h' → Q none { s with heap := h' }) :
    wpAny (model prog w) A (Builtin.SmallTypes.nextOrEnd (.ref it)) Q E s := by
  unfold Builtin.SmallTypes.nextOrEnd
  refine wpAny_bind (wpAny_attempt (RZ.nextOf_tuple_end hh hit hl hx fun h' e hk he => ?_))
  obtain ⟨o, ho, hc⟩ := he
  refine wpAny_bind (wpAny_isInstance (T := "StopIteration") (b := true) ⟨o, ho, hc⟩ isSubtype_stop ?_)
  exact wpAny_pure (hQ _ hk)
theorem stop_new {Q : Fin → Shared → Prop} (hh : A.handled = none)
    (hE : ∀ h' e, (∀ c o, s.heap.get? c = some o → h'.get? c = some o) → (∃ o, h'.get? e = some o ∧ o.cls = .type "StopIteration") → E (.ref e) { s with heap := h' }) :
    wpAny (model prog w) A (Builtin.SmallTypes.stopIteration (α := PySem.Fin)) Q E s := by
  unfold Builtin.SmallTypes.stopIteration
  refine wpAny_bind ?_
  simp only [newExc, newTuple]
  refine wpAny_bind (wpAny_newObj_type ?_ (by size_fits))
  refine wpAny_bind (m := firstArgMember _ _) (wpAny_of_eq (a := Value.none) (by first | rfl | (simp only [firstArgMember]; rfl)) ?_)
  refine wpAny_newObj_type ?_ (by size_fits)
  simp only [raiseNew]
  refine wpAny_bind (wpAny_handled ?_)
  rw [hh]
  refine wpAny_bind (wpAny_pure (wpAny_throw ?_))
  exact hE _ _ (fun c o q => Heap.get?_push_of_some _ (Heap.get?_push_of_some _ q)) ⟨_, Heap.get?_push_size _ rfl, rfl⟩
theorem zipS_next_item {z TI TO i1 i2 l1 l2 : Addr} {k1 k2 : Nat} {xs ys : Array Value} {x y a b : Value} {Q : Value → Shared → Prop} (D : ZipApart z TI TO i1 i2 l1 l2)
    (hz : IsZipS s.heap z TI TO .none) (hTI : IsPair s.heap TI (.ref i1) (.ref i2)) (hTO : IsPair s.heap TO a b)
    (h1 : s.heap.IsTupleIter i1 l1 k1) (h2 : s.heap.IsTupleIter i2 l2 k2) (hl1 : s.heap.IsTuple l1 xs) (hl2 : s.heap.IsTuple l2 ys) (hx : xs[k1]? = some x) (hy : ys[k2]? = some y)
    (hQ : ∀ h', IsZipS h' z TI TO (rawInt s.heap.objs.size) → IsPair h' TO x y → h'.IsTupleIter i1 l1 (k1 + 1) → h'.IsTupleIter i2 l2 (k2 + 1) → IsPair h' s.heap.objs.size x y → h'.objs.size = s.heap.objs.size + 1 →
      (∀ c o, c ≠ z → c ≠ TO → c ≠ i1 → c ≠ i2 → s.heap.get? c = some o → h'.get? c = some o) → Q (.ref s.heap.objs.size) { s with heap := h' }) :
    wpAny (model prog w) A (Builtin.«zip.__next__» ⟨[.ref z], []⟩) (fun fin s' => ∃ v, fin = .done (.ret v) ∧ Q v s') E s := by
  show wpAny _ _ (field (.ref z) 2 >>= _) _ _ _
  refine wpAny_bind (wpAny_field hz rfl (x := .bool true) rfl ?_)
  show wpAny _ _ (field (.ref z) 3 >>= _) _ _ _
  refine wpAny_bind (wpAny_field hz rfl (x := .ref TI) rfl ?_)
  refine wpAny_bind (wpAny_seqItems hTI rfl ?_)
  show wpAny _ _ (Builtin.SmallTypes.ownedTupleIsFree (.ref z) >>= _) _ _ _
  refine wpAny_bind ?_
  unfold Builtin.SmallTypes.ownedTupleIsFree
  refine wpAny_bind (wpAny_field hz rfl (x := .none) rfl (wpAny_pure ?_))
  simp only [if_true]
  refine wpAny_bind (wpAny_rule ?_)
  refine wpAny_bind (wpAny_field hz rfl (x := .ref TO) rfl ?_)
  refine wpAny_bind (wpAny_setField_rec hz (by simp) fun h₁ hz₁ hs₁ => ?_)
  replace hz₁ : IsZipS h₁ z TI TO .ellipsis := hz₁
  refine wpAny_bind ?_
  simp only [List.zipIdx_cons, List.zipIdx_nil, List.forIn_cons, List.forIn_nil]

  refine wpAny_bind (wpAny_bind (wpAny_onRaise ?_))
  show wpAny _ _ (Builtin.SmallTypes.nextOrEnd (.ref i1)) _ _ _
  refine draw_item (h1.extBut hs₁.extBut D.i1z) (hl1.extBut hs₁.extBut D.l1z) hx fun h₂ h1₂ hs₂ => ?_
  have hTO₂ : IsPair h₂ TO a b := hs₂.extBut _ _ D.TOi1 (hs₁.extBut _ _ D.TOz hTO)
  refine wpAny_bind (wpAny_seqItems hTO₂ rfl ?_)
  refine wpAny_bind (wpAny_updateSeq_pair hTO₂ fun h₃ hTO₃ hs₃ => ?_)
  replace hTO₃ : IsPair h₃ TO x b := hTO₃
  refine wpAny_bind (wpAny_letGo (wpAny_pure ?_))

  refine wpAny_bind (wpAny_bind (wpAny_onRaise ?_))
  show wpAny _ _ (Builtin.SmallTypes.nextOrEnd (.ref i2)) _ _ _
  refine draw_item (((h2.extBut hs₁.extBut D.i2z).extBut hs₂.extBut D.i12.symm).extBut hs₃.extBut D.TOi2.symm)
    (((hl2.extBut hs₁.extBut D.l2z).extBut hs₂.extBut D.l2i1).extBut hs₃.extBut D.l2TO) hy fun h₄ h2₄ hs₄ => ?_
  have hTO₄ : IsPair h₄ TO x b := hs₄.extBut _ _ D.TOi2 hTO₃
  refine wpAny_bind (wpAny_seqItems hTO₄ rfl ?_)
  refine wpAny_bind (wpAny_updateSeq_pair hTO₄ fun h₅ hTO₅ hs₅ => ?_)
  replace hTO₅ : IsPair h₅ TO x y := hTO₅
  refine wpAny_bind (wpAny_letGo (wpAny_pure (wpAny_pure ?_)))

  refine wpAny_bind (wpAny_seqItems hTO₅ rfl ?_)
  refine wpAny_bind (wpAny_newTuple ?_)
  have hsz : h₅.objs.size = s.heap.objs.size := by rw [hs₅.1, hs₄.1, hs₃.1, hs₂.1, hs₁.1]
  have hz₅ : IsZipS h₅ z TI TO .ellipsis := hs₅.extBut _ _ D.TOz.symm (hs₄.extBut _ _ D.i2z.symm (hs₃.extBut _ _ D.TOz.symm (hs₂.extBut _ _ D.i1z.symm hz₁)))
  have hk₅ : ∀ c o, c ≠ z → c ≠ TO → c ≠ i1 → c ≠ i2 → s.heap.get? c = some o → h₅.get? c = some o := fun c o c1 c2 c3 c4 e =>
    hs₅.extBut _ _ c2 (hs₄.extBut _ _ c4 (hs₃.extBut _ _ c2 (hs₂.extBut _ _ c3 (hs₁.extBut _ _ c1 e))))
  have h1₅ : h₅.IsTupleIter i1 l1 (k1 + 1) := ((h1₂.extBut hs₃.extBut D.TOi1.symm).extBut hs₄.extBut D.i12).extBut hs₅.extBut D.TOi1.symm
  have h2₅ : h₅.IsTupleIter i2 l2 (k2 + 1) := h2₄.extBut hs₅.extBut D.TOi2.symm
  have hzlt : z < h₅.objs.size := Heap.lt_size hz₅
  show wpAny _ _ (Builtin.SmallTypes.ownedTupleHandOut (.ref z) (.ref h₅.objs.size) >>= _) _ _ _
  refine wpAny_bind ?_
  unfold Builtin.SmallTypes.ownedTupleHandOut
  have hz₆ : IsZipS (h₅.push { cls := .type "tuple", data := .seq #[x, y] }) z TI TO .ellipsis := Heap.get?_push_of_some _ hz₅
  refine wpAny_bind (wpAny_setField_rec hz₆ (by simp) fun h₇ hz₇ hs₇ => ?_)
  replace hz₇ : IsZipS h₇ z TI TO (rawInt h₅.objs.size) := hz₇
  refine wpAny_setField_rec hz₇ (by simp) fun h₈ hz₈ hs₈ => ?_
  replace hz₈ : IsZipS h₈ z TI TO (rawInt h₅.objs.size) := hz₈
  have up : ∀ c o, c ≠ z → h₅.get? c = some o → h₈.get? c = some o := fun c o c1 e => hs₈.extBut _ _ c1 (hs₇.extBut _ _ c1 (Heap.get?_push_of_some _ e))
  have hT₈ : IsPair h₈ h₅.objs.size x y := hs₈.extBut _ _ (Nat.ne_of_gt hzlt) (hs₇.extBut _ _ (Nat.ne_of_gt hzlt) (Heap.get?_push_size _ rfl))
  have hz8 : h₈.objs.size = h₅.objs.size + 1 := by rw [hs₈.1, hs₇.1, Heap.size_push]
  rw [hsz] at hz₈ hT₈ hz8
  refine wpAny_pure ⟨_, rfl, ?_⟩
  show Q (.ref h₅.objs.size) _
  rw [hsz]
  exact hQ h₈ hz₈ (up _ _ D.TOz hTO₅) (h1₅.at fun o e => up _ o D.i1z e) (h2₅.at fun o e => up _ o D.i2z e) hT₈ hz8 fun c o c1 c2 c3 c4 e => up c o c1 (hk₅ c o c1 c2 c3 c4 e)

theorem zipS_next_end {z TI TO i1 i2 l1 l2 : Addr} {k1 k2 : Nat} {xs ys : Array Value} {a b : Value} {Q : PySem.Fin → Shared → Prop} (hh : A.handled = none) (D : ZipApart z TI TO i1 i2 l1 l2)
    (hz : IsZipS s.heap z TI TO .none) (hTI : IsPair s.heap TI (.ref i1) (.ref i2)) (hTO : IsPair s.heap TO a b)
    (h1 : s.heap.IsTupleIter i1 l1 k1) (h2 : s.heap.IsTupleIter i2 l2 k2) (hl1 : s.heap.IsTuple l1 xs) (hl2 : s.heap.IsTuple l2 ys) (hx : xs[k1]? = none) (hy : ys[k2]? = none)
    (hE : ∀ h' e, (∀ c o, c ≠ z → c ≠ TO → c ≠ i1 → c ≠ i2 → s.heap.get? c = some o → h'.get? c = some o) → (∃ o, h'.get? e = some o ∧ o.cls = .type "StopIteration") → E (.ref e) { s with heap := h' }) :
    wpAny (model prog w) A (Builtin.«zip.__next__» ⟨[.ref z], []⟩) Q E s := by
  show wpAny _ _ (field (.ref z) 2 >>= _) _ _ _
  refine wpAny_bind (wpAny_field hz rfl (x := .bool true) rfl ?_)
  show wpAny _ _ (field (.ref z) 3 >>= _) _ _ _
  refine wpAny_bind (wpAny_field hz rfl (x := .ref TI) rfl ?_)
  refine wpAny_bind (wpAny_seqItems hTI rfl ?_)
  show wpAny _ _ (Builtin.SmallTypes.ownedTupleIsFree (.ref z) >>= _) _ _ _
  refine wpAny_bind ?_
  unfold Builtin.SmallTypes.ownedTupleIsFree
  refine wpAny_bind (wpAny_field hz rfl (x := .none) rfl (wpAny_pure ?_))
  simp only [if_true]
  refine wpAny_bind (wpAny_rule ?_)
  refine wpAny_bind (wpAny_field hz rfl (x := .ref TO) rfl ?_)
  refine wpAny_bind (wpAny_setField_rec hz (by simp) fun h₁ hz₁ hs₁ => ?_)
  replace hz₁ : IsZipS h₁ z TI TO .ellipsis := hz₁
  refine wpAny_bind ?_
  simp only [List.zipIdx_cons, List.zipIdx_nil, List.forIn_cons, List.forIn_nil]
  refine wpAny_bind (wpAny_bind (wpAny_onRaise ?_))
  show wpAny _ _ (Builtin.SmallTypes.nextOrEnd (.ref i1)) _ _ _
  refine draw_end hh (h1.extBut hs₁.extBut D.i1z) (hl1.extBut hs₁.extBut D.l1z) hx fun h₂ hs₂ => ?_
  have hz₂ : IsZipS h₂ z TI TO .ellipsis := hs₂ _ _ D.i1z.symm hz₁
  refine wpAny_bind (wpAny_setField_rec hz₂ (by simp) fun h₃ hz₃ hs₃ => ?_)
  have h2₃ : h₃.IsTupleIter i2 l2 k2 := ((h2.extBut hs₁.extBut D.i2z).extBut hs₂ D.i12.symm).extBut hs₃.extBut D.i2z
  have hl2₃ : h₃.IsTuple l2 ys := ((hl2.extBut hs₁.extBut D.l2z).extBut hs₂ D.l2i1).extBut hs₃.extBut D.l2z
  refine wpAny_bind (wpAny_bind ?_)
  simp only [List.drop_succ_cons, List.drop_zero, List.zipIdx_cons, List.zipIdx_nil, List.forIn_cons, List.forIn_nil]
  refine wpAny_bind (wpAny_bind (draw_end hh h2₃ hl2₃ hy fun h₄ hs₄ => ?_))
  simp only [Option.isSome_none, Bool.false_eq_true, if_false]
  refine wpAny_pure (wpAny_pure (wpAny_bind (wpAny_rule (stop_new hh fun h₅ e hk he => ?_))))
  refine hE h₅ e (fun c o c1 c2 c3 c4 q => hk c o (hs₄ _ _ c4 (hs₃.extBut _ _ c1 (hs₂ _ _ c3 (hs₁.extBut _ _ c1 q))))) he

theorem pyNext_zipS_item {z TI TO i1 i2 l1 l2 : Addr} {k1 k2 : Nat} {xs ys : Array Value} {x y a b : Value} {Q : Option Value → Shared → Prop} (D : ZipApart z TI TO i1 i2 l1 l2)
    (hz : IsZipS s.heap z TI TO .none) (hTI : IsPair s.heap TI (.ref i1) (.ref i2)) (hTO : IsPair s.heap TO a b)
    (h1 : s.heap.IsTupleIter i1 l1 k1) (h2 : s.heap.IsTupleIter i2 l2 k2) (hl1 : s.heap.IsTuple l1 xs) (hl2 : s.heap.IsTuple l2 ys) (hx : xs[k1]? = some x) (hy : ys[k2]? = some y)
    (hQ : ∀ h', IsZipS h' z TI TO (rawInt s.heap.objs.size) → IsPair h' TO x y → h'.IsTupleIter i1 l1 (k1 + 1) → h'.IsTupleIter i2 l2 (k2 + 1) → IsPair h' s.heap.objs.size x y → h'.objs.size = s.heap.objs.size + 1 →
      (∀ c o, c ≠ z → c ≠ TO → c ≠ i1 → c ≠ i2 → s.heap.get? c = some o → h'.get? c = some o) → Q (some (.ref s.heap.objs.size)) { s with heap := h' }) :
    wpAny (model prog w) A (pyNext (.ref z)) Q E s := by
  have hT : s.TypeIs (.ref z) "zip" := ⟨_, hz, rfl⟩
  unfold pyNext
  exact wpAny_bind (wpAny_attempt (wpAny_callSpecial?_slot (name := Str.ofString "__next__") hT PySem.F.slot_zip_next
    (wpAny_call_entry PySem.F.slot_zip_next hT PySem.F.entry_zip_next
      (zipS_next_item D hz hTI hTO h1 h2 hl1 hl2 hx hy fun h' a1 a2 a3 a4 a5 a6 a7 => wpAny_pure (hQ h' a1 a2 a3 a4 a5 a6 a7)) (PySem.F.args_zip_next_1 _))))
theorem pyNext_zipS_end {z TI TO i1 i2 l1 l2 : Addr} {k1 k2 : Nat} {xs ys : Array Value} {a b : Value} {Q : Option Value → Shared → Prop} (hh : A.handled = none) (D : ZipApart z TI TO i1 i2 l1 l2)
    (hz : IsZipS s.heap z TI TO .none) (hTI : IsPair s.heap TI (.ref i1) (.ref i2)) (hTO : IsPair s.heap TO a b)
    (h1 : s.heap.IsTupleIter i1 l1 k1) (h2 : s.heap.IsTupleIter i2 l2 k2) (hl1 : s.heap.IsTuple l1 xs) (hl2 : s.heap.IsTuple l2 ys) (hx : xs[k1]? = none) (hy : ys[k2]? = none)
    (hQ : ∀ h', (∀ c o, c ≠ z → c ≠ TO → c ≠ i1 → c ≠ i2 → s.heap.get? c = some o → h'.get? c = some o) → Q none { s with heap := h' }) : wpAny (model prog w) A (pyNext (.ref z)) Q E s := by
  have hT : s.TypeIs (.ref z) "zip" := ⟨_, hz, rfl⟩
  unfold pyNext
  refine wpAny_bind (wpAny_attempt (wpAny_callSpecial?_slot (name := Str.ofString "__next__") hT PySem.F.slot_zip_next
    (wpAny_call_entry PySem.F.slot_zip_next hT PySem.F.entry_zip_next (zipS_next_end hh D hz hTI hTO h1 h2 hl1 hl2 hx hy fun h' e hk he => ?_) (PySem.F.args_zip_next_1 _))))
  obtain ⟨o, ho, hc⟩ := he
  refine wpAny_bind (wpAny_isInstance (T := "StopIteration") (b := true) ⟨o, ho, hc⟩ isSubtype_stop ?_)
  exact wpAny_pure (hQ _ hk)
theorem iter_zipS {z TI TO : Addr} {f0 : Value} {Q : Value → Shared → Prop} (hz : IsZipS s.heap z TI TO f0) (h : Q (.ref z) s) : wpAny (model prog w) A (pyIter (.ref z)) Q E s := by
  have hT : s.TypeIs (.ref z) "zip" := ⟨_, hz, rfl⟩
  refine wpAny_pyIter_slot hT PySem.F.slot_zip_iter (wpAny_call_entry PySem.F.slot_zip_iter hT PySem.F.entry_zip_iter ?_ (PySem.F.args_zip_iter_1 _))
  show wpAny _ _ (ret (.ref z)) _ _ s
  exact wpAny_pure ⟨_, rfl, "zip", _, hT, PySem.F.slot_zip_next.lookup, h⟩
theorem letGo_zipS {elts : List Expr} {x1} {pos : Pos} {z TI TO T : Addr} {Q : Unit → Shared → Prop} (hz : IsZipS s.heap z TI TO (rawInt T))
    (hQ : ∀ h', IsZipS h' z TI TO .none → Heap.SameBut z s.heap h' → Q () { s with heap := h' }) :
    wpAny (model prog w) A (letOwnedTupleGo (.Tuple elts x1 pos) (.ref z) (.ref T)) Q E s := by
  unfold letOwnedTupleGo
  refine wpAny_bind (wpAny_load hz ?_)
  show wpAny _ _ (if (["enumerate", "zip", "dict_itemiterator", "dict_reverseitemiterator", "odict_iterator", "itertools.zip_longest", "itertools.pairwise"].contains "zip" &&
      (#[rawInt T, .bool false, .bool true, .ref TI, .ref TO] : Array Value)[0]? == some (rawInt T)) = true then _ else _) Q E s
  rw [if_pos (by simp)]
  refine wpAny_bind (wpAny_rule ?_)
  show wpAny _ _ (setField (.ref z) 0 .none) Q E s
  exact wpAny_setField_rec hz (by simp) fun h' hz' hs' => hQ h' hz' hs'
end
theorem typeCall_zipS (a b c : Value) : checkTypeCall "zip" ⟨[a, b], [(Str.ofString "strict", c)]⟩ = pure () := by kernel_rfl
theorem newCall_zipS (a b c : Value) : checkBuiltinCall "zip.__new__" ⟨[.type "zip", a, b], [(Str.ofString "strict", c)]⟩ = pure () := by kernel_rfl
theorem init_zipS (obj a b c : Value) : argsOk "object.__init__" ⟨[obj, a, b], [(Str.ofString "strict", c)]⟩ := by unfold argsOk; kernel_rfl
abbrev zsH5 (h : Heap) (l1 l2 : Addr) : Heap := (RZ.zipTH4 h l1 l2).push { cls := .type "zip", data := .fields #[.none, .bool false, .bool true, .ref (RZ.zipTH2 h l1 l2).objs.size, .ref (RZ.zipTH3 h l1 l2).objs.size] }
theorem meets_zipS_new (l1 l2 : Addr) (xs ys : Array Value) :
    Meets (Builtin.«zip.__new__» ⟨[.type "zip", .ref l1, .ref l2], [(Str.ofString "strict", .bool true)]⟩) (fun _ R s => s.heap.IsTuple l1 xs ∧ s.heap.IsTuple l2 ys ∧
      R (.ok (.ret (.ref (RZ.zipTH4 s.heap l1 l2).objs.size))) { s with heap := zsH5 s.heap l1 l2 }) :=
  .of_wp fun prog w A R s h => by
    obtain ⟨hp, g, d, tk, os⟩ := s; obtain ⟨hl1, hl2, h⟩ := h
    have hsub := sub_zip
    have hL1 : Heap.IsTuple (Shared.heap ⟨hp, g, d, tk, os⟩) l1 xs := hl1
    have hL2 : Heap.IsTuple (Shared.heap ⟨hp.push { cls := .type "tuple_iterator", data := .fields #[.ref l1, .int 0 0] }, g, d, tk, os⟩) l2 ys := Heap.IsTuple.push hl2 _
    have e2 : (Str.ofString "strict" != ("strict" : Str)) = false := by decide +kernel
    wp_walk using wpAny_pyIter_tuple hL1, wpAny_pyIter_tuple hL2
    exact ⟨_, rfl, h⟩
end Lb
/-! text LbR3 -/
set_option maxHeartbeats 1000000
/-! for .. in zip(t, u, strict=True). -/
namespace Lb
open PySem L2 PySem.Spec PyProof.Rows
section
variable {M : Model} {A : Around} {E : Value → Shared → Prop} {s : Shared} {env : PySem.Env}
theorem callWith_typeKw {pos : Pos} {T : String} {e : Expr} {rest : List Expr} {kws : List Keyword} {Q : Value → Shared → Prop}
    (h : wpAny M A (spliced (backTo pos (starEach (e :: rest) env))) (fun vs s₁ => wpAny M A (evalAll ((backToKw pos (keywordEach kws env)).map (·.2)))
      (fun kvs s₂ => wpAny M A (call (.type T) vs (((backToKw pos (keywordEach kws env)).filterMap (·.1)).zip kvs)) Q E s₂) E s₁) E s)
    (he : backTo pos (starEach (e :: rest) env) = (false, eval e env) :: backTo pos (starEach rest env) := by rfl)
    (hplain : (backTo pos (starEach (e :: rest) env)).any (·.1) = false := by rfl)
    (hall : (backToKw pos (keywordEach kws env)).all (·.1.isSome) = true := by rfl)
    (hkw : (backToKw pos (keywordEach kws env)).any (·.1.isNone) = false := by rfl) :
    wpAny M A (callWith pos (.type T) [] (backTo pos (starEach (e :: rest) env)) (backToKw pos (keywordEach kws env))) Q E s := by
  unfold callWith
  refine wpAny_bind (wpAny_holding (wpAny_mono (Q := fun a s₁ => wpAny M A (call (.type T) a.pos a.kw) Q E s₁) ?_ (fun a s₁ h₁ => wpAny_bind (wpAny_standAt ?_)) fun _ _ x => x))
  · rw [he] at h ⊢
    exact evalArgs_kwB hall h
  · simp only [hplain, hkw, Bool.or_false]
    refine wpAny_bind (wpAny_pure ?_)
    exact wpAny_bind (wpAny_mono h₁ (fun r s₂ hr => wpAny_bind (wpAny_holding (wpAny_point (wpAny_pure hr)))) fun _ _ x => x)
end
section
variable {prog : Program} {w : World} {A : Around} {E : Value → Shared → Prop} {s : Shared}
theorem call_zipS {l1 l2 : Addr} {xs ys : Array Value} {Q : Value → Shared → Prop} (hl1 : s.heap.IsTuple l1 xs) (hl2 : s.heap.IsTuple l2 ys)
    (h : ∀ h', IsZipS h' (s.heap.objs.size + 4) (s.heap.objs.size + 2) (s.heap.objs.size + 3) .none → IsPair h' (s.heap.objs.size + 2) (.ref s.heap.objs.size) (.ref (s.heap.objs.size + 1)) →
      IsPair h' (s.heap.objs.size + 3) .none .none → h'.IsTupleIter s.heap.objs.size l1 0 → h'.IsTupleIter (s.heap.objs.size + 1) l2 0 → h'.objs.size = s.heap.objs.size + 5 →
      (∀ c o, s.heap.get? c = some o → h'.get? c = some o) → Q (.ref (s.heap.objs.size + 4)) { s with heap := h' }) :
    wpAny (model prog w) A (call (.type "zip") [.ref l1, .ref l2] [(Str.ofString "strict", .bool true)]) Q E s := by
  refine callType_newKw PySem.F.called_zip (by decide) (typeCall_zipS _ _ _) (newCall_zipS _ _ _) (fun obj => init_zipS obj _ _ _) PySem.F.entry_zip_new
    (meets_zipS_new l1 l2 xs ys) ⟨hl1, hl2, ?_⟩
  have z1 : (RZ.zipTH1 s.heap l1).objs.size = s.heap.objs.size + 1 := Heap.size_push ..
  have z2 : (RZ.zipTH2 s.heap l1 l2).objs.size = s.heap.objs.size + 2 := by rw [Heap.size_push, z1]
  have z3 : (RZ.zipTH3 s.heap l1 l2).objs.size = s.heap.objs.size + 3 := by rw [Heap.size_push, z2]
  have z4 : (RZ.zipTH4 s.heap l1 l2).objs.size = s.heap.objs.size + 4 := by rw [Heap.size_push, z3]
  have z5 : (zsH5 s.heap l1 l2).objs.size = s.heap.objs.size + 5 := by rw [Heap.size_push, z4]
  have g5 : (zsH5 s.heap l1 l2).get? (RZ.zipTH4 s.heap l1 l2).objs.size = some _ := Heap.get?_push_size _ rfl
  have g4 : (zsH5 s.heap l1 l2).get? (RZ.zipTH3 s.heap l1 l2).objs.size = some _ := Heap.get?_push_of_some _ (Heap.get?_push_size _ rfl)
  have g3 : (zsH5 s.heap l1 l2).get? (RZ.zipTH2 s.heap l1 l2).objs.size = some _ := Heap.get?_push_of_some _ (Heap.get?_push_of_some _ (Heap.get?_push_size _ rfl))
  have g2 : (zsH5 s.heap l1 l2).get? (RZ.zipTH1 s.heap l1).objs.size = some _ := Heap.get?_push_of_some _ (Heap.get?_push_of_some _ (Heap.get?_push_of_some _ (Heap.get?_push_size _ rfl)))
  have g1 : (zsH5 s.heap l1 l2).get? s.heap.objs.size = some _ := Heap.get?_push_of_some _ (Heap.get?_push_of_some _ (Heap.get?_push_of_some _ (Heap.get?_push_of_some _ (Heap.get?_push_size _ rfl))))
  show _ ∧ _
  rw [z2, z3, z4] at g5
  rw [z1, z2] at g3
  rw [z3] at g4
  rw [z1] at g2
  rw [z4]
  exact ⟨⟨_, g5, rfl⟩, h _ g5 g3 g4 ⟨_, g1, rfl, rfl⟩ ⟨_, g2, rfl, rfl⟩ z5 fun c o x =>
    Heap.get?_push_of_some _ (Heap.get?_push_of_some _ (Heap.get?_push_of_some _ (Heap.get?_push_of_some _ (Heap.get?_push_of_some _ x))))⟩
end
/-- two tuples of one length at a and b, in step -/
def ItzS (K : PySem.W.Frag) (a b : Addr) : It :=
  ⟨fun i H => ∃ (xs ys : List V) (x y : V), SqT K H a xs ∧ SqT K H b ys ∧ xs[i]? = some x ∧ ys[i]? = some y,
    fun i H v H' => ∃ T x y, v = .ref T ∧ H T = none ∧ H' = upd H T (.tup [x, y]) ∧ (∀ xs, SqT K H a xs → xs[i]? = some x) ∧ ∀ ys, SqT K H b ys → ys[i]? = some y,
    fun i H => ∃ xs ys : List V, SqT K H a xs ∧ SqT K H b ys ∧ xs.length ≤ i ∧ ys.length ≤ i⟩
theorem turn_zipS {P : Program} {w : World} {K : PySem.W.Frag} {elts : List Expr} {kk : Nat} {tpos : Pos} {a b z TI TO i1 i2 : Addr} (D : ZipApart z TI TO i1 i2 a b) :
    Turn P w K (.Tuple elts kk tpos) (ItzS K a b) [z, TI, TO, i1, i2] z (fun i h => IsZipS h z TI TO .none ∧ IsPair h TI (.ref i1) (.ref i2) ∧ (∃ x y, IsPair h TO x y) ∧ h.IsTupleIter i1 a i ∧ h.IsTupleIter i2 b i) where
  mem := by simp
  obj := fun i h st c hc => by
    obtain ⟨hz, hTI, ⟨x, y, hTO⟩, ⟨o1, e1, _, d1⟩, ⟨o2, e2, _, d2⟩⟩ := st
    have e' : c = z ∨ c = TI ∨ c = TO ∨ c = i1 ∨ c = i2 := by simpa using hc
    rcases e' with q | q | q | q | q
    · rw [q]; exact ⟨_, hz, fun v q => nomatch q⟩
    · rw [q]; exact ⟨_, hTI, fun v q => nomatch q⟩
    · rw [q]; exact ⟨_, hTO, fun v q => nomatch q⟩
    · rw [q]; exact ⟨o1, e1, fun v q => by rw [d1] at q; cases q⟩
    · rw [q]; exact ⟨o2, e2, fun v q => by rw [d2] at q; cases q⟩
  keep := fun i h h' st k => by
    obtain ⟨hz, hTI, ⟨x, y, hTO⟩, h1, h2⟩ := st
    exact ⟨k z (by simp) _ hz, k TI (by simp) _ hTI, ⟨x, y, k TO (by simp) _ hTO⟩, h1.at fun o q => k i1 (by simp) o q, h2.at fun o q => k i2 (by simp) o q⟩
  item := by
    intro X hP hw hK hc i pins s σ H E I hf st hg
    subst hP hw hK
    obtain ⟨hz, hTI, ⟨x0, y0, hTO⟩, h1, h2⟩ := st
    obtain ⟨xs, ys, x, y, hqx, hqy, hx, hy⟩ := hg
    obtain ⟨its, rv, p, _⟩ := I.tuple hqx
    obtain ⟨its2, rv2, p2, _⟩ := I.tuple hqy
    obtain ⟨u, hu, ru⟩ := rv.get hx
    obtain ⟨u2, hu2, ru2⟩ := rv2.get hy
    have hzl : z < s.heap.objs.size := Heap.lt_size hz
    refine pyNext_zipS_item D hz hTI hTO h1 h2 p p2 (x := u) (y := u2) (by simpa using hu) (by simpa using hu2) fun h' z' TO' h1' h2' hT hsz hk => ?_
    refine ⟨_, rfl, letGo_zipS (s := { s with heap := h' }) z' fun h'' z'' sb => ?_⟩
    have hT2 : h''.get? s.heap.objs.size = some { cls := .type "tuple", data := .seq #[u, u2] } := (sb.2 _ (Nat.ne_of_gt hzl)).trans hT
    have new : ObjOk X.prog X.w (upd H s.heap.objs.size (.tup [x, y])) h'' s.heap.objs.size (.tup [x, y]) :=
      ⟨by show 2 ≤ sizeLine; decide, [u, u2], .cons ru (.cons ru2 .nil), ⟨_, hT2, rfl, _, rfl⟩⟩
    have I1 : Inv X pins σ (upd H s.heap.objs.size (.tup [x, y])) { s with heap := h'' } :=
      I.turnedNew (t' := s.toks) (ch := [z, TI, TO, i1, i2]) (fun c o hb q => (sb.2 c (fun q' => hb (by simp [q']))).trans (hk c o (fun q' => hb (by simp [q'])) (fun q' => hb (by simp [q'])) (fun q' => hb (by simp [q'])) (fun q' => hb (by simp [q'])) q)) hf (Nat.le_refl _) new
    refine ⟨.ref s.heap.objs.size, _, I1, rfl, ⟨_, x, y, rfl, I.hok.fresh (Nat.le_refl _), rfl, fun l hl => by rw [I.tuple_inj hl hqx]; exact hx, fun l hl => by rw [I.tuple_inj hl hqy]; exact hy⟩, ⟨z'', ?_, ⟨u, u2, ?_⟩, ?_, ?_⟩, fun c hcm => ?_⟩
    · exact (sb.2 _ D.TIz).trans (hk _ _ D.TIz D.TITO D.TIi1 D.TIi2 hTI)
    · exact (sb.2 _ D.TOz).trans TO'
    · exact h1'.at fun o q => (sb.2 _ D.i1z).trans q
    · exact h2'.at fun o q => (sb.2 _ D.i2z).trans q
    · have hlt : c < s.heap.objs.size := by
        have e' : c = z ∨ c = TI ∨ c = TO ∨ c = i1 ∨ c = i2 := by simpa using hcm
        rcases e' with q | q | q | q | q
        · rw [q]; exact hzl
        · rw [q]; exact Heap.lt_size hTI
        · rw [q]; exact Heap.lt_size hTO
        · rw [q]; obtain ⟨_, e1, _⟩ := h1; exact Heap.lt_size e1
        · rw [q]; obtain ⟨_, e2, _⟩ := h2; exact Heap.lt_size e2
      rw [upd_ne (Nat.ne_of_lt hlt)]
      exact (hf c hcm).1
  done := by
    intro X hP hw hK hc i pins s σ H E I hf st hg
    subst hP hw hK
    obtain ⟨hz, hTI, ⟨x0, y0, hTO⟩, h1, h2⟩ := st
    obtain ⟨xs, ys, hqx, hqy, e1, e2⟩ := hg
    obtain ⟨its, rv, p, _⟩ := I.tuple hqx
    obtain ⟨its2, rv2, p2, _⟩ := I.tuple hqy
    have l1 := rv.length
    have l2 := rv2.length
    exact pyNext_zipS_end (I.ok.hd hc) D hz hTI hTO h1 h2 p p2 (by simp; omega) (by simp; omega) fun h' hk => ⟨rfl, I.turnedL (t' := s.toks) (ch := [z, TI, TO, i1, i2]) (fun c o hb q =>
      hk c o (fun q' => hb (by simp [q'])) (fun q' => hb (by simp [q'])) (fun q' => hb (by simp [q'])) (fun q' => hb (by simp [q'])) q) hf⟩
  self := fun A i s Q E st h => iter_zipS st.1 h
def iZipS (K : PySem.W.Frag) (ta tb : TE) : TI := fun σ H R => ta σ H fun x H1 => tb σ H1 fun y H2 => ∃ a b xs ys, x = .ref a ∧ y = .ref b ∧ SqT K H2 a xs ∧ SqT K H2 b ys ∧ R (ItzS K a b) H2
theorem pi_zipS {X : Cx} {e e2 : Expr} {ta tb : TE} {p pos tpos kpos cpos : Pos} {ck : Nat} {elts : List Expr} {kk : Nat} (hg : Gl X "zip") (hm : X.mg "zip" = none) (ha : PE X e ta) (hb : PE X e2 tb)
    (hs : backTo pos (starEach [e, e2] X.env) = (false, eval e X.env) :: backTo pos (starEach [e2] X.env) := by rfl) (hpl : (backTo pos (starEach [e, e2] X.env)).any (·.1) = false := by rfl)
    (hs2 : starEach [e, e2] X.env = (false, eval e X.env) :: starEach [e2] X.env := by rfl) (hs3 : starEach [e2] X.env = (false, eval e2 X.env) :: starEach [] X.env := by rfl) :
    PI X (.Tuple elts kk tpos) (.Call (.Name "zip" p) [e, e2] [⟨some "strict", .Constant (.bool true) ck cpos, kpos⟩] pos) (iZipS X.K ta tb) := by
  refine ⟨fun pins s σ H R I h => ?_⟩
  refine wpAny_Call_Name_kw (ld_blt I hg hm PyProof.Rows.boot_zip (callWith_typeKw (thn ((pa_cons ha (pa_cons hb pa_nil hs3) hs2).run pos pins s σ H (fun vs H2 => ∃ x y, vs = [x, y] ∧ ∃ a b xs ys, x = .ref a ∧ y = .ref b ∧ SqT X.K H2 a xs ∧ SqT X.K H2 b ys ∧ R (ItzS X.K a b) H2) I ?_) fun us s1 ⟨vs, H1, I1, r1, q1⟩ => ?_) hs hpl))
  · refine (show ta σ H (fun x H1 => tb σ H1 (fun y H2 => ∃ x' y', [x, y] = [x', y'] ∧ ∃ a b xs ys, x' = .ref a ∧ y' = .ref b ∧ SqT X.K H2 a xs ∧ SqT X.K H2 b ys ∧ R (ItzS X.K a b) H2)) from ?_)
    have e0 : (fun (x : V) (H1 : Hp) => tb σ H1 (fun y H2 => ∃ x' y', [x, y] = [x', y'] ∧ ∃ a b xs ys, x' = .ref a ∧ y' = .ref b ∧ SqT X.K H2 a xs ∧ SqT X.K H2 b ys ∧ R (ItzS X.K a b) H2)) =
        fun x H1 => tb σ H1 (fun y H2 => ∃ a b xs ys, x = .ref a ∧ y = .ref b ∧ SqT X.K H2 a xs ∧ SqT X.K H2 b ys ∧ R (ItzS X.K a b) H2) := by
      funext x H1
      congr 1
      funext y H2
      refine propext ⟨fun ⟨x', y', e, z⟩ => ?_, fun z => ⟨x, y, rfl, z⟩⟩
      injection e with e1 e2
      injection e2 with e2 _
      subst e1 e2
      exact z
    rw [e0]
    exact h
  obtain ⟨x, y, ex, a, b, xs, ys, ea, eb, hqx, hqy, q⟩ := q1
  subst ex ea eb
  cases r1 with
  | cons r rr =>
    cases rr with
    | cons r' rr =>
      cases rr
      cases r
      cases r'
      refine kws_cons (Constant_bool (kws_nil ?_))
      have fresh5 : ∀ c, c ∈ [s1.heap.objs.size + 4, s1.heap.objs.size + 2, s1.heap.objs.size + 3, s1.heap.objs.size, s1.heap.objs.size + 1] → FpOk X pins H1 c := fun c hcm => by
        have e' : c = s1.heap.objs.size + 4 ∨ c = s1.heap.objs.size + 2 ∨ c = s1.heap.objs.size + 3 ∨ c = s1.heap.objs.size ∨ c = s1.heap.objs.size + 1 := by simpa using hcm
        have hle : s1.heap.objs.size ≤ c := by
          rcases e' with z | z | z | z | z
          · rw [z]; exact Nat.le_add_right _ _
          · rw [z]; exact Nat.le_add_right _ _
          · rw [z]; exact Nat.le_add_right _ _
          · rw [z]; exact Nat.le_refl _
          · rw [z]; exact Nat.le_add_right _ _
        exact I1.fpOk hle (I1.hok.fresh hle)
      obtain ⟨its, rv, p1, _⟩ := I1.tuple hqx
      obtain ⟨its2, rv2, p2, _⟩ := I1.tuple hqy
      obtain ⟨o1, ho1, _⟩ := id p1
      obtain ⟨o2, ho2, _⟩ := id p2
      refine call_zipS (show s1.heap.IsTuple a its.toArray from p1) (show s1.heap.IsTuple b its2.toArray from p2) fun h' hz hTI hTO h1 h2 hsz hk => iter_zipS hz ?_
      have I2 : Inv X pins σ H1 { s1 with heap := h' } := I1.kept (t' := s1.toks) hk
      exact ⟨s1.heap.objs.size + 4, [s1.heap.objs.size + 4, s1.heap.objs.size + 2, s1.heap.objs.size + 3, s1.heap.objs.size, s1.heap.objs.size + 1], _, _, H1, rfl, I2, turn_zipS (PySem.W.ktu_apart s1.heap.objs.size a b (Heap.lt_size ho1) (Heap.lt_size ho2)), ⟨hz, hTI, ⟨_, _, hTO⟩, h1, h2⟩, fresh5, q⟩
end Lb
/-! text LbR4 -/
set_option maxHeartbeats 1000000
/-! dict(t) of a tuple of pairs; d.update(e) of two dicts. -/
namespace Lb
open PySem L2 PySem.Spec PyProof.Rows
section
variable {X : Cx}
/-- dict(t), t a tuple of pairs -/
def rDictT (K : PySem.W.Frag) : List V → Hp → VK → Prop := fun xs H Q => ∃ (a : Addr) (ps : List Addr) (kvs : List (Key × V)), xs = [.ref a] ∧ SqF K H a (ps.map V.ref) ∧ Paired (fun p kv => SqT K H p [kV kv.1, kv.2]) ps kvs ∧
    ∀ p, H p = none → Q (.ref p) (upd H p (.dK (mergeK [] kvs)))
theorem c_dictT (hcalm : X.calm = true) : CallR X (.type "dict") (rDictT X.K) := by
  intro pins s σ H xs us Q I r q
  obtain ⟨a, ps, kvs, ex, hq, hp, q⟩ := q
  subst ex
  obtain ⟨u, eu, rx⟩ := vals1 r
  subst eu
  cases rx
  obtain ⟨its, o, n, rv, ho, hc, hd, hdat, hz⟩ := tupF I hq
  have ei := refs_at rv
  subst ei
  rw [List.length_map] at hz
  obtain ⟨prs, rel, hl, hpr⟩ := pairs_of I hp
  obtain ⟨kv, hkv⟩ : ∃ kv : Nat → Value × Value, ∀ (j : Nat) (q' : Key × Value), prs[j]? = some q' → ∃ b u, ps[j]? = some b ∧ kv j = (u, q'.2) ∧ IsTup s.heap b #[u, q'.2] ∧ keyIs q'.1 u = true := by
    refine Classical.axiomOfChoice (r := fun (j : Nat) (z : Value × Value) => ∀ q' : Key × Value, prs[j]? = some q' → ∃ b u, ps[j]? = some b ∧ z = (u, q'.2) ∧ IsTup s.heap b #[u, q'.2] ∧ keyIs q'.1 u = true) fun j => ?_
    cases e : prs[j]? with
    | none => exact ⟨(.none, .none), fun q' z => nomatch z⟩
    | some q0 =>
      obtain ⟨b, u, e1, e2, e3⟩ := hpr j q0 e
      refine ⟨(u, q0.2), fun q' z => ?_⟩
      cases z
      exact ⟨b, u, e1, rfl, e2, e3⟩
  let pv : List (Value × Value) := (List.range prs.length).map kv
  have lpv : pv.length = prs.length := by simp [pv]
  have gpv : ∀ j p, pv[j]? = some p → ∃ q', prs[j]? = some q' ∧ kv j = p := fun j p e => by
    have hj : j < prs.length := by
      have := (List.getElem?_eq_some_iff.mp e).1
      rw [lpv] at this
      exact this
    refine ⟨prs[j], List.getElem?_eq_getElem hj, ?_⟩
    have e2 : pv[j]? = some (kv j) := by simp [pv, hj]
    rw [e2] at e
    exact Option.some.inj e
  have ok : PlainSeq "tuple" s.heap a (ps.map Value.ref).toArray ∧ PairItems s.heap (ps.map Value.ref).toArray (fun j => ps.getD j 0) pv := by
    refine ⟨⟨o, n, ho, hc, hd, hdat⟩, by simp [lpv, hl], fun j k v e => ?_⟩
    obtain ⟨q', e1, e2⟩ := gpv j _ e
    obtain ⟨b, u, e3, e4, e5, e6⟩ := hkv j q' e1
    rw [e2] at e4
    cases e4
    have hb : ps.getD j 0 = b := by rw [List.getD_eq_getElem?_getD, e3]; rfl
    refine ⟨by simp [e3, hb], .inl ?_⟩
    show IsTup s.heap (ps.getD j 0) #[k, q'.2]
    rw [hb]
    exact e5
  refine PySem.call_dict_pairs (knd := mixKind X.prog X.w) (kvs := prs) (PairArg.tuple a (ps.map Value.ref).toArray (fun j => ps.getD j 0) pv) (I.ok.hd hcalm) ok ⟨lpv.symm, fun i key v rel' => ?_⟩ (by rw [lpv, hl]; exact hz) fun h' tk hd' k => ?_
  · have e : pv[i]? = some (key, v) := rel'
    obtain ⟨q', e1, e2⟩ := gpv i _ e
    obtain ⟨b, u, e3, e4, e5, e6⟩ := hkv i q' e1
    rw [e2] at e4
    cases e4
    exact ⟨q'.1, e1, e6⟩
  · have hm : (s.heap.objs.size == sysModules) = false := beq_eq_false_iff_ne.mpr (Nat.ne_of_gt I.big)
    have hlen : (mergeK [] kvs).length ≤ sizeLine := by
      refine Nat.le_trans (length_mergeK kvs []) ?_
      rw [List.length_nil, Nat.zero_add, rel.length, hl]
      exact hz
    exact ⟨.ref s.heap.objs.size, upd H s.heap.objs.size (.dK (mergeK [] kvs)), I.laid (t' := tk) (fun b o e => k b o (by simp) e) (Nat.le_refl _) (show ObjOk X.prog X.w _ _ _ (.dK (mergeK [] kvs)) from ⟨hlen, hm, merged [] prs, KV.merge rel .nil, hd'⟩), rfl, q _ (I.hok.fresh (Nat.le_refl _))⟩
/-- d.update(e) -/
def rUpd : V → List V → Hp → VK → Prop := fun x vs H Q => ∃ d b kvs more, x = .ref d ∧ vs = [.ref b] ∧ d ≠ b ∧ H d = some (.dK kvs) ∧ H b = some (.dK more) ∧ kvs.length + more.length ≤ sizeLine ∧ Q .non (upd H d (.dK (mergeK kvs more)))
theorem mt_update : MtM X "dict.update" rUpd := by
  intro pins s σ H x vs v us Q I rx rv h
  obtain ⟨d, b, kvs, more, rfl, rfl, hne, hH, hB, hz, q⟩ := h
  cases rx
  obtain ⟨u, rfl, ru⟩ := vals1 rv
  cases ru
  obtain ⟨z1, y1, vs1, r1, m1⟩ := (show kvs.length ≤ sizeLine ∧ (d == sysModules) = false ∧ ∃ vs, KV kvs vs ∧ s.heap.DictOf (mixKind X.prog X.w) d vs from I.hok d _ hH)
  obtain ⟨z2, y2, vs2, r2, m2⟩ := (show more.length ≤ sizeLine ∧ (b == sysModules) = false ∧ ∃ vs, KV more vs ∧ s.heap.DictOf (mixKind X.prog X.w) b vs from I.hok b _ hB)
  have l1 : kvs.length = vs1.length := Paired.length r1
  have l2 : more.length = vs2.length := Paired.length r2
  have hlen : (mergeK kvs more).length ≤ sizeLine := Nat.le_trans (length_mergeK more kvs) hz
  refine call_meetsIn PySem.F.slot_dict_update m1.typeIs PySem.F.entry_dict_update (PySem.F.args_dict_update_2 _ _) (PySem.meets_dict_update (mixKind X.prog X.w) d b hne y2)
    ⟨vs1, vs2, m1, m2, by rw [← l1, ← l2]; exact hz, fun h' hd' ho' hs' => ?_⟩
  refine ⟨.non, _, I.write (t' := s.toks) (x := d) (e := d) (o := .dK (mergeK kvs more)) (by rw [hH]; exact trivial) (.inl rfl) (fun c o' hc q' => hs'.extBut c o' hc q') ?_ ?_, rfl, q⟩
  · obtain ⟨o, _, _, e, _⟩ := hd'
    exact ⟨o, e⟩
  · exact ⟨hlen, y1, merged vs1 vs2, KV.merge r2 r1, hd'⟩
end
end Lb
/-! text LbB -/
/-! A calculus of readings over data: worlds, expressions, tests, statements. -/
namespace Lb
open PySem L2

abbrev Ctx := List (Option Dat)
structure Sls (K : PySem.W.Frag) (H : Hp) (σ : L2.St) (Γ : Ctx) : Prop where
  len : σ.length = Γ.length
  at_ : ∀ (i : Nat) (d : Dat), Γ[i]? = some (some d) → ∃ v, σ[i]? = some (some v) ∧ At K H v d
section
variable {K : PySem.W.Frag} {A : List Addr} {H H' : Hp} {σ : L2.St} {Γ : Ctx}
theorem Sls.mono (t : Off A H H') (e : Sls K H σ Γ) : Sls K H' σ Γ := ⟨e.len, fun i d h => let ⟨v, a, b⟩ := e.at_ i d h; ⟨v, a, b.mono t⟩⟩
theorem Sls.set {v : V} {d : Dat} (e : Sls K H σ Γ) (k : Nat) (a : At K H v d) : Sls K H (σ.set k (some v)) (Γ.set k (some d)) := by
  refine ⟨by rw [List.length_set, List.length_set]; exact e.len, fun i u h => ?_⟩
  by_cases q : k = i
  · subst q
    have hk : k < Γ.length := by
      have := (List.getElem?_eq_some_iff.mp h).1
      rw [List.length_set] at this
      exact this
    rw [List.getElem?_set_self hk] at h
    cases h
    exact ⟨v, List.getElem?_set_self (by rw [e.len]; exact hk), a⟩
  · rw [List.getElem?_set_ne q] at h
    obtain ⟨w, h1, h2⟩ := e.at_ i u h
    exact ⟨w, by rw [List.getElem?_set_ne q]; exact h1, h2⟩
/-- slots forgotten -/
def wipeC (Γ : Ctx) : List Nat → Ctx
  | [] => Γ
  | v :: vs => (wipeC Γ vs).set v none
theorem Sls.unset (e : Sls K H σ Γ) (k : Nat) : Sls K H (σ.set k none) (Γ.set k none) := by
  refine ⟨by rw [List.length_set, List.length_set]; exact e.len, fun i u h => ?_⟩
  by_cases q : k = i
  · subst q
    by_cases hk : k < Γ.length
    · rw [List.getElem?_set_self hk] at h
      cases h
    · rw [List.getElem?_eq_none (by rw [List.length_set]; omega)] at h
      cases h
  · rw [List.getElem?_set_ne q] at h
    obtain ⟨w, h1, h2⟩ := e.at_ i u h
    exact ⟨w, by rw [List.getElem?_set_ne q]; exact h1, h2⟩
theorem Sls.wipe (e : Sls K H σ Γ) : ∀ vs : List Nat, Sls K H (L2.wipe σ vs) (wipeC Γ vs)
  | [] => e
  | v :: vs => (Sls.wipe e vs).unset v
theorem Sls.start {N : List Str} {vs : List V} {ds : List Dat} (a : AtL K H vs ds) (Γ : Ctx) (hΓ : Γ = ds.map some ++ List.replicate (N.length - ds.length) none) : Sls K H (L2.start N vs) Γ := by
  subst hΓ
  unfold L2.start
  refine ⟨by simp [a.len], fun i d h => ?_⟩
  by_cases hi : i < ds.length
  · rw [List.getElem?_append_left (by simpa using hi), List.getElem?_map] at h
    cases q : ds[i]? with
    | none => rw [q] at h; cases h
    | some e =>
      rw [q] at h
      cases h
      obtain ⟨v, h1, h2⟩ := a.get q
      refine ⟨v, ?_, h2⟩
      rw [List.getElem?_append_left (by simp [a.len]; exact hi), List.getElem?_map, h1]
      rfl
  · rw [List.getElem?_append_right (by simpa using hi), List.getElem?_replicate] at h
    split at h <;> cases h
end

/-- a private object's shape -/
structure Shp (p : Addr) (φ : Hp → Prop) : Prop where
  trk : ∀ {H : Hp}, φ H → H p ≠ none
  off : ∀ {A : List Addr} {H H' : Hp}, φ H → p ∉ A → Off A H H' → φ H'
/-- what is known of the heap, by an index; what may change (A); what is spoken for (C) -/
structure Wd (ι : Type) where
  A : List Addr
  C : Addr → Prop
  I : ι → Hp → Prop
  clm : ∀ {i : ι} {H : Hp} {p : Addr}, I i H → C p → H p ≠ none
  off : ∀ {i : ι} {B : List Addr} {H H' : Hp}, I i H → (∀ x ∈ B, ¬ C x) → Off B H H' → I i H'
  trk : ∀ {a : Addr}, a ∈ A → C a
section
variable {ι : Type} (W : Wd ι)
theorem Wd.new {i : ι} {H : Hp} {p : Addr} {o : HO} (h : W.I i H) (n : H p = none) : W.I i (upd H p o) := W.off (B := []) h (fun _ z => nomatch z) (Off.new n)
theorem Wd.same {i : ι} {H H' : Hp} (h : W.I i H) (n : Same H H') : W.I i H' := W.off (B := []) h (fun _ z => nomatch z) (Off.of_same n)
theorem Wd.nc {i : ι} {H : Hp} {p : Addr} (h : W.I i H) (n : H p = none) : ¬ W.C p := fun z => W.clm h z n
theorem Wd.na {p : Addr} (n : ¬ W.C p) : p ∉ W.A := fun z => n (W.trk z)
/-- with a fact that stays -/
def Wd.plus (φ : Hp → Prop) (st : ∀ A H H', φ H → Off A H H' → φ H') : Wd ι where
  A := W.A
  C := W.C
  I := fun i H => W.I i H ∧ φ H
  clm := fun h m => W.clm h.1 m
  off := fun h m o => ⟨W.off h.1 m o, st _ _ _ h.2 o⟩
  trk := W.trk
def Wd.keep (K : PySem.W.Frag) (v : V) (d : Dat) : Wd ι := W.plus (fun H => At K H v d) fun _ _ _ a o => a.mono o
/-- an object of the body's own -/
def Wd.own (p : Addr) (φ : Hp → Prop) (s : Shp p φ) (np : ¬ W.C p) : Wd ι where
  A := W.A
  C := fun x => x = p ∨ W.C x
  I := fun i H => W.I i H ∧ φ H
  clm := fun {i H q} h m => by
    rcases m with e | m
    · rw [e]; exact s.trk h.2
    · exact W.clm h.1 m
  off := fun h m o => ⟨W.off h.1 (fun x hx z => m x hx (.inr z)) o, s.off h.2 (fun z => m _ z (.inl rfl)) o⟩
  trk := fun h => .inr (W.trk h)
end
/-- where a private object stands in a world, and the world with another one there -/
structure OwnAt {ι : Type} (W : Wd ι) (p : Addr) (φ : Hp → Prop) (Wn : (φ' : Hp → Prop) → Shp p φ' → Wd ι) : Prop where
  get : ∀ {j : ι} {H : Hp}, W.I j H → φ H
  put : ∀ {j : ι} {H H' : Hp} {φ' : Hp → Prop} (s : Shp p φ'), W.I j H → Off [p] H H' → φ' H' → (Wn φ' s).I j H'
  clm : W.C p
  cl : ∀ {φ' : Hp → Prop} {s : Shp p φ'} {x : Addr}, (Wn φ' s).C x → W.C x
theorem OwnAt.here {ι : Type} {W : Wd ι} {p : Addr} {φ : Hp → Prop} {s : Shp p φ} {np : ¬ W.C p} : OwnAt (W.own p φ s np) p φ fun φ' s' => W.own p φ' s' np where
  get := fun h => h.2
  put := fun s' h o f => ⟨W.off h.1 (fun x hx z => by
    rcases List.mem_cons.mp hx with e | e
    · rw [e] at z; exact np z
    · cases e) o, f⟩
  clm := .inl rfl
  cl := fun z => z
/-- a private object under another one; a fact -/
theorem OwnAt.keep {ι : Type} {W : Wd ι} {p : Addr} {φ : Hp → Prop} {Wn : (φ' : Hp → Prop) → Shp p φ' → Wd ι} {K : PySem.W.Frag} {v : V} {d : Dat} (h : OwnAt W p φ Wn) : OwnAt (W.keep K v d) p φ fun φ' s' => (Wn φ' s').keep K v d where
  get := fun x => h.get x.1
  put := fun s' x o f => ⟨h.put s' x.1 o f, x.2.mono o⟩
  clm := h.clm
  cl := fun z => h.cl z
theorem OwnAt.under {ι : Type} {W : Wd ι} {p q : Addr} {φ ψ : Hp → Prop} {Wn : (φ' : Hp → Prop) → Shp p φ' → Wd ι} {s : Shp q ψ} {np : ¬ W.C q} (h : OwnAt W p φ Wn) : OwnAt (W.own q ψ s np) p φ fun φ' s' => (Wn φ' s').own q ψ s fun z => np (h.cl z) where
  get := fun x => h.get x.1
  put := fun s' x o f => ⟨h.put s' x.1 o f, s.off x.2 (fun z => by
    rcases List.mem_cons.mp z with e | e
    · rw [e] at np; exact np h.clm
    · cases e) o⟩
  clm := .inr h.clm
  cl := fun z => z.elim .inl fun z => .inr (h.cl z)
/-- a list of data at p -/
def LstAt (K : PySem.W.Frag) (p : Addr) (ds : List Dat) (H : Hp) : Prop := ∃ vs, H p = some (.lst vs) ∧ AtL K H vs ds
theorem LstAt.off {K : PySem.W.Frag} {p : Addr} {ds : List Dat} {A : List Addr} {H H' : Hp} (h : LstAt K p ds H) (hp : p ∉ A) (o : Off A H H') : LstAt K p ds H' := let ⟨vs, a, b⟩ := h; ⟨vs, o.at_ a hp, b.mono o⟩
theorem lst_shp (K : PySem.W.Frag) (p : Addr) (ds : List Dat) : Shp p (LstAt K p ds) := ⟨fun ⟨_, a, _⟩ z => (by rw [a] at z; cases z), fun h hp o => h.off hp o⟩
/-- the world's states lie over H0 -/
def Anch {ι : Type} (W : Wd ι) (A : List Addr) (H0 : Hp) : Prop := ∀ {j : ι} {H : Hp}, W.I j H → Off A H0 H
theorem Anch.keep {ι : Type} {W : Wd ι} {A : List Addr} {H0 : Hp} {K : PySem.W.Frag} {v : V} {d : Dat} (h : Anch W A H0) : Anch (W.keep K v d) A H0 := fun x => h x.1
theorem Anch.own {ι : Type} {W : Wd ι} {A : List Addr} {H0 : Hp} {p : Addr} {φ : Hp → Prop} {s : Shp p φ} {np : ¬ W.C p} (h : Anch W A H0) : Anch (W.own p φ s np) A H0 := fun x => h x.1
/-- the world of a def that changes nothing -/
def Wd.base (H0 : Hp) : Wd Unit where
  A := []
  C := fun p => H0 p ≠ none
  I := fun _ H => Same H0 H
  clm := fun {i H p} h m z => by
    cases e : H0 p with
    | none => exact m e
    | some o => rw [h p o e] at z; cases z
  off := fun {i B H H'} h m o b u e => o b u (h b u e) fun z => absurd (show H0 b ≠ none by rw [e]; exact fun q => nomatch q) (m b z)
  trk := fun z => nomatch z
/-- the world of a def that changes what is in A -/
def Wd.baseA (A : List Addr) (H0 : Hp) (hA : ∀ a ∈ A, H0 a ≠ none) : Wd Unit where
  A := A
  C := fun p => H0 p ≠ none
  I := fun _ H => Off A H0 H ∧ ∀ a ∈ A, H a ≠ none
  clm := fun {i H p} h m z => by
    cases e : H0 p with
    | none => exact m e
    | some o =>
      by_cases hp : p ∈ A
      · exact h.2 p hp z
      · rw [h.1.at_ e hp] at z; cases z
  off := fun {i B H H'} h m o => ⟨fun b u e x => o b u (h.1 b u e x) fun z => absurd (show H0 b ≠ none by rw [e]; exact fun q => nomatch q) (m b z), fun a ha z => by
    cases e : H a with
    | none => exact h.2 a ha e
    | some u => rw [o.at_ e (fun q => m a q (hA a ha))] at z; cases z⟩
  trk := fun {a} h => hA a h
/-- an object that may change here and stays there -/
def Mt {ι : Type} (W : Wd ι) (p : Addr) : Prop := ∀ {j : ι} {H H' : Hp}, W.I j H → Off [p] H H' → H' p ≠ none → W.I j H'
theorem Mt.baseA {A : List Addr} {H0 : Hp} {hA : ∀ a ∈ A, H0 a ≠ none} {p : Addr} (hp : p ∈ A) : Mt (Wd.baseA A H0 hA) p := fun {j H H'} h o n => ⟨h.1.trans (o.mono fun x hx => by
    rcases List.mem_cons.mp hx with e | e
    · rw [e]; exact hp
    · cases e), fun a ha => by
    by_cases e : a = p
    · rw [e]; exact n
    · cases q : H a with
      | none => exact absurd q (h.2 a ha)
      | some u => rw [o.at_ q (by simp [e])]; exact fun z => nomatch z⟩
/-- with what such an object holds -/
def Wd.mine {ι : Type} (W : Wd ι) (p : Addr) (φ : Hp → Prop) (s : Shp p φ) (hp : W.C p) : Wd ι where
  A := W.A
  C := W.C
  I := fun i H => W.I i H ∧ φ H
  clm := fun h m => W.clm h.1 m
  off := fun h m o => ⟨W.off h.1 m o, s.off h.2 (fun z => m _ z hp) o⟩
  trk := W.trk
theorem OwnAt.mine {ι : Type} {W : Wd ι} {p : Addr} {φ : Hp → Prop} {s : Shp p φ} {hp : W.C p} (m : Mt W p) : OwnAt (W.mine p φ s hp) p φ fun φ' s' => W.mine p φ' s' hp where
  get := fun h => h.2
  put := fun s' h o f => ⟨m h.1 o (s'.trk f), f⟩
  clm := hp
  cl := fun z => z
/-- an object that keeps its shape whatever is done to it here -/
structure Stays {ι : Type} (W : Wd ι) (p : Addr) (φ : Hp → Prop) : Prop where
  get : ∀ {j : ι} {H : Hp}, W.I j H → φ H
  put : ∀ {j : ι} {H H' : Hp}, W.I j H → Off [p] H H' → φ H' → W.I j H'
  mem : p ∈ W.A
theorem Stays.mine {ι : Type} {W : Wd ι} {p : Addr} {φ : Hp → Prop} {s : Shp p φ} {hp : W.C p} (m : Mt W p) (h : p ∈ W.A) : Stays (W.mine p φ s hp) p φ := ⟨fun h => h.2, fun h o f => ⟨m h.1 o (s.trk f), f⟩, h⟩
theorem Stays.keep {ι : Type} {W : Wd ι} {p : Addr} {φ : Hp → Prop} {K : PySem.W.Frag} {v : V} {d : Dat} (h : Stays W p φ) : Stays (W.keep K v d) p φ := ⟨fun x => h.get x.1, fun x o f => ⟨h.put x.1 o f, x.2.mono o⟩, h.mem⟩
theorem Stays.own {ι : Type} {W : Wd ι} {p q : Addr} {φ ψ : Hp → Prop} {s : Shp q ψ} {np : ¬ W.C q} (h : Stays W p φ) : Stays (W.own q ψ s np) p φ := ⟨fun x => h.get x.1, fun x o f => ⟨h.put x.1 o f, s.off x.2 (fun z => by
    rcases List.mem_cons.mp z with e | e
    · rw [e] at np; exact np (W.trk h.mem)
    · cases e) o⟩, h.mem⟩
theorem Anch.base {H0 : Hp} {A : List Addr} : Anch (Wd.base H0) A H0 := fun h => Off.of_same h

section
variable {ι : Type} (K : PySem.W.Frag) (W : Wd ι)
/-- an expression gives data -/
def Ev (i : ι) (te : TE) (Γ : Ctx) (P : ι → Dat → Prop) : Prop :=
  ∀ H σ, W.I i H → Sls K H σ Γ → ∀ Q : VK, (∀ v H' j d, Off W.A H H' → W.I j H' → At K H' v d → P j d → Q v H') → te σ H Q
/-- a test -/
def EvT (i : ι) (t : TT) (Γ : Ctx) (P : ι → Bool → Prop) : Prop :=
  ∀ H σ, W.I i H → Sls K H σ Γ → ∀ Q : Bool → Hp → Prop, (∀ b H' j, Off W.A H H' → W.I j H' → P j b → Q b H') → t σ H Q
/-- arguments -/
def EvA (i : ι) (t : TA) (Γ : Ctx) (P : ι → List Dat → Prop) : Prop :=
  ∀ H σ, W.I i H → Sls K H σ Γ → ∀ Q : List V → Hp → Prop, (∀ vs H' j ds, Off W.A H H' → W.I j H' → AtL K H' vs ds → P j ds → Q vs H') → t σ H Q
/-- a slice's part -/
def EvO (i : ι) (t : TO) (Γ : Ctx) (P : ι → Option Int → Prop) : Prop :=
  ∀ H σ, W.I i H → Sls K H σ Γ → ∀ Q : Option Int → Hp → Prop, (∀ o H' j, Off W.A H H' → W.I j H' → P j o → Q o H') → t σ H Q
/-- a new list -/
def EvL (i : ι) (te : TE) (Γ : Ctx) (P : ι → List Dat → Prop) : Prop :=
  ∀ H σ, W.I i H → Sls K H σ Γ → ∀ Q : VK, (∀ p H' j ds, ¬ W.C p → Off W.A H H' → W.I j H' → LstAt K p ds H' → P j ds → Q (.ref p) H') → te σ H Q
/-- an operator by data -/
def Op (i : ι) (r : R2) (d e : Dat) (P : ι → Dat → Prop) : Prop :=
  ∀ H x y, W.I i H → At K H x d → At K H y e → ∀ Q : VK, (∀ v H' j f, Off W.A H H' → W.I j H' → At K H' v f → P j f → Q v H') → r x y H Q
/-- what holds of slots and heap wherever they are so -/
def Nx (i : ι) (Γ : Ctx) (f : L2.St → Hp → Prop) : Prop := ∀ H σ, W.I i H → Sls K H σ Γ → f σ H
def Rt (i : ι) (d : Dat) (g : VK) : Prop := ∀ H v, W.I i H → At K H v d → g v H
/-- a target takes data -/
def Tg (i : ι) (g : TG) (d : Dat) (Γ : Ctx) (P : ι → Ctx → Prop) : Prop :=
  ∀ H σ v, W.I i H → Sls K H σ Γ → At K H v d → ∀ f : L2.St → Hp → Prop, (∀ σ' H' j Γ', Off W.A H H' → W.I j H' → Sls K H' σ' Γ' → P j Γ' → f σ' H') → g v σ H f
def Tgs (i : ι) (g : TGs) (ds : List Dat) (Γ : Ctx) (P : ι → Ctx → Prop) : Prop :=
  ∀ H σ vs, W.I i H → Sls K H σ Γ → AtL K H vs ds → ∀ f : L2.St → Hp → Prop, (∀ σ' H' j Γ', Off W.A H H' → W.I j H' → Sls K H' σ' Γ' → P j Γ' → f σ' H') → g vs σ H f
end

section
variable {ι : Type} {K : PySem.W.Frag} {W : Wd ι} {i : ι} {Γ : Ctx} {P : ι → Dat → Prop} {ta tb te : TE} {t u : TT} {d e : Dat} {r : R2}

theorem Ev.imp {P' : ι → Dat → Prop} (h : Ev K W i te Γ P) (q : ∀ j d, P j d → P' j d) : Ev K W i te Γ P' := fun H σ I E Q k => h H σ I E Q fun v H' j d o I' a p => k v H' j d o I' a (q j d p)
theorem ev_var {k : Nat} (h : Γ[k]? = some (some d)) (p : P i d) : Ev K W i (tVar k) Γ P := fun H σ I E Q q => by
  obtain ⟨v, a, b⟩ := E.at_ k d h
  exact ⟨v, a, q v H i d Off.refl I b p⟩
theorem ev_int {n : Int} (p : P i (.int n)) : Ev K W i (tC (.int n)) Γ P := fun H σ I E Q q => q _ H i _ Off.refl I (.int n) p
theorem ev_str {n : Str} (p : P i (.str n)) : Ev K W i (tC (.str n)) Γ P := fun H σ I E Q q => q _ H i _ Off.refl I (.str n) p
theorem ev_bl {n : Bool} (p : P i (.bl n)) : Ev K W i (tC (.bl n)) Γ P := fun H σ I E Q q => q _ H i _ Off.refl I (.bl n) p
theorem ev_non (p : P i .non) : Ev K W i (tC .non) Γ P := fun H σ I E Q q => q _ H i _ Off.refl I .non p
theorem ev_ref {a : Addr} {xs : List V} {ds : List Dat} (h : ∀ H, SqF K H a xs) (hs : ∀ H, AtL K H xs ds) (p : P i (.tup ds)) : Ev K W i (tC (.ref a)) Γ P := fun H σ I E Q q => q _ H i _ Off.refl I (.tup (h H) (hs H)) p
theorem ev_op (h : Ev K W i ta Γ fun j d => Ev K W j tb Γ fun k e => Op K W k r d e P) : Ev K W i (tOp r ta tb) Γ P := fun H σ I E Q q =>
  h H σ I E _ fun x H1 j d o1 I1 a1 p1 => p1 H1 σ I1 (E.mono o1) _ fun y H2 k e o2 I2 a2 p2 =>
    p2 H2 x y I2 (a1.mono o2) a2 Q fun v H3 l f o3 I3 a3 p3 => q v H3 l f (o1.trans (o2.trans o3)) I3 a3 p3
theorem op_int0 {f : Int → Int → Int} {a b : Int} (p : P i (.int (f a b))) : Op K W i (rI0 fun i j => .int (f i j)) (.int a) (.int b) P := fun H x y I ax ay Q q => by
  cases ax; cases ay
  exact ⟨a, b, rfl, rfl, q _ H i _ Off.refl I (.int _) p⟩
theorem op_int1 {C : Int → Int → Prop} {f : Int → Int → Int} {a b : Int} (c : C a b) (p : P i (.int (f a b))) : Op K W i (rI C fun i j => .int (f i j)) (.int a) (.int b) P := fun H x y I ax ay Q q => by
  cases ax; cases ay
  exact ⟨a, b, rfl, rfl, c, q _ H i _ Off.refl I (.int _) p⟩
theorem op_bl0 {f : Int → Int → Bool} {a b : Int} (p : P i (.bl (f a b))) : Op K W i (rI0 fun i j => .bl (f i j)) (.int a) (.int b) P := fun H x y I ax ay Q q => by
  cases ax; cases ay
  exact ⟨a, b, rfl, rfl, q _ H i _ Off.refl I (.bl _) p⟩
theorem op_eqI {a b : Int} (p : P i (.bl (decide (a = b)))) : Op K W i rEq (.int a) (.int b) P := fun H x y I ax ay Q q => by
  cases ax; cases ay
  refine ⟨rfl, q _ H i _ Off.refl I (.bl _) ?_⟩
  have e : decide (V.int a = V.int b) = decide (a = b) := by simp
  rw [e]; exact p
theorem op_eqS {a b : Str} (p : P i (.bl (decide (a = b)))) : Op K W i rEq (.str a) (.str b) P := fun H x y I ax ay Q q => by
  cases ax; cases ay
  refine ⟨rfl, q _ H i _ Off.refl I (.bl _) ?_⟩
  have e : decide (V.str a = V.str b) = decide (a = b) := by simp
  rw [e]; exact p
theorem op_neI {a b : Int} (p : P i (.bl (!decide (a = b)))) : Op K W i rNe (.int a) (.int b) P := fun H x y I ax ay Q q => by
  cases ax; cases ay
  refine ⟨rfl, q _ H i _ Off.refl I (.bl _) ?_⟩
  have e : decide (V.int a = V.int b) = decide (a = b) := by simp
  rw [e]; exact p
theorem op_neS {a b : Str} (p : P i (.bl (!decide (a = b)))) : Op K W i rNe (.str a) (.str b) P := fun H x y I ax ay Q q => by
  cases ax; cases ay
  refine ⟨rfl, q _ H i _ Off.refl I (.bl _) ?_⟩
  have e : decide (V.str a = V.str b) = decide (a = b) := by simp
  rw [e]; exact p
theorem op_eqD {n m : Nat} (hd : d.fine n = true) (he : e.fine m = true) (hn : n ≤ 64) (hm : m ≤ 64) (p : P i (.bl (PyData.eqv d.py e.py))) : Op K W i (rEqD K) d e P := fun H x y I ax ay Q q =>
  ⟨d.py, e.py, ax.dp hd, ay.dp he, Dat.shaped hd hn, Dat.shaped he hm, q _ H i _ Off.refl I (.bl _) p⟩
theorem op_neD {n m : Nat} (hd : d.fine n = true) (he : e.fine m = true) (hn : n ≤ 64) (hm : m ≤ 64) (p : P i (.bl (!PyData.eqv d.py e.py))) : Op K W i (rNeD K) d e P := fun H x y I ax ay Q q =>
  ⟨d.py, e.py, ax.dp hd, ay.dp he, Dat.shaped hd hn, Dat.shaped he hm, q _ H i _ Off.refl I (.bl _) p⟩
/-- an item of a tuple -/
theorem op_ixT {ds : List Dat} {j : Int} {f : Dat} (h : atI ds j = some f) (p : P i f) : Op K W i (rIxT K) (.tup ds) (.int j) P := fun H x y I ax ay Q q => by
  cases ay
  obtain ⟨a, xs, rfl, hs, al⟩ := ax.tup_inv
  have hl := al.len
  unfold atI at h
  rw [← hl] at h
  cases e : ixN xs.length j with
  | none => rw [e] at h; cases h
  | some k =>
    rw [e] at h
    obtain ⟨v, h1, h2⟩ := al.get (show ds[k]? = some f from h)
    refine ⟨a, xs, j, v, rfl, rfl, hs.sqT, ?_, q v H i f Off.refl I h2 p⟩
    unfold atI
    rw [e]
    exact h1
/-- tuple + tuple -/
theorem op_cat {ds es : List Dat} (hl : ds.length + es.length ≤ 1000000) (p : P i (.tup (ds ++ es))) : Op K W i (rCatF K) (.tup ds) (.tup es) P := fun H x y I ax ay Q q => by
  obtain ⟨a, xs, rfl, hs, al⟩ := ax.tup_inv
  obtain ⟨b, ys, rfl, ht, bl⟩ := ay.tup_inv
  have h1 := al.len
  have h2 := bl.len
  refine ⟨a, b, xs, ys, rfl, rfl, hs, ht, by rw [h1, h2, sizeLine_eq]; omega, fun z => ?_, fun _ z => ?_, fun _ _ p' o hp d => ?_⟩
  · subst z
    cases al
    exact q _ H i _ Off.refl I (.tup ht bl) p
  · subst z
    cases bl
    refine q _ H i _ Off.refl I (.tup hs al) ?_
    rw [List.append_nil] at p
    exact p
  · exact q _ _ i _ (Off.new hp) (W.new I hp) (.tup (SqF.of upd_same d) ((AtL.append al bl).mono (Off.new (A := []) hp))) p
/-- flat things in a tuple -/
def Dat.flat : Dat → Bool
  | .tup _ => false
  | .obj _ => false
  | _ => true
def Dat.eqf : Dat → Dat → Bool
  | .non, .non => true
  | .bl a, .bl b => a == b
  | .bl a, .int b => (if a then 1 else 0) == b
  | .int a, .bl b => a == (if b then 1 else 0)
  | .int a, .int b => a == b
  | .str a, .str b => a == b
  | _, _ => false
theorem At.flat {H : Hp} {v : V} (h : d.flat = true) (a : At K H v d) : flatV v = true := by
  cases a <;> first | rfl | cases h
theorem At.eqf {H : Hp} {v w : V} (hd : d.flat = true) (he : e.flat = true) (a : At K H v d) (b : At K H w e) : eqV v w = d.eqf e := by
  cases a <;> cases b <;> first | rfl | cases hd | cases he
theorem AtL.flat {H : Hp} : ∀ {vs : List V} {ds : List Dat}, ds.all Dat.flat = true → AtL K H vs ds → vs.all flatV = true
  | _, _, _, .nil => rfl
  | _, _, h, .cons a r => by
    rw [List.all_cons, Bool.and_eq_true] at h
    rw [List.all_cons, a.flat h.1, AtL.flat h.2 r]
    rfl
theorem AtL.inV {H : Hp} {v : V} (hd : d.flat = true) (a : At K H v d) : ∀ {vs : List V} {ds : List Dat}, ds.all Dat.flat = true → AtL K H vs ds → inV v vs = ds.any fun e => e.eqf d
  | _, _, _, .nil => rfl
  | _, _, h, .cons b r => by
    rw [List.all_cons, Bool.and_eq_true] at h
    have ih := AtL.inV hd a h.2 r
    unfold L2.inV at ih ⊢
    rw [List.any_cons, List.any_cons, ih, b.eqf h.1 hd a]
theorem op_inT {ds : List Dat} (hd : d.flat = true) (hs : ds.all Dat.flat = true) (p : P i (.bl (ds.any fun e => e.eqf d))) : Op K W i (rIn K false) d (.tup ds) P := fun H x y I ax ay Q q => by
  obtain ⟨a, xs, rfl, ht, al⟩ := ay.tup_inv
  refine ⟨a, xs, rfl, .inr ht.sqT, ax.flat hd, al.flat hs, q _ H i _ Off.refl I (.bl _) ?_⟩
  rw [al.inV hd ax hs]
  exact p
theorem op_ninT {ds : List Dat} (hd : d.flat = true) (hs : ds.all Dat.flat = true) (p : P i (.bl (!ds.any fun e => e.eqf d))) : Op K W i (rIn K true) d (.tup ds) P := fun H x y I ax ay Q q => by
  obtain ⟨a, xs, rfl, ht, al⟩ := ay.tup_inv
  refine ⟨a, xs, rfl, .inr ht.sqT, ax.flat hd, al.flat hs, q _ H i _ Off.refl I (.bl _) ?_⟩
  rw [al.inV hd ax hs]
  exact p

/-! ### slices of tuples -/
theorem AtL.cutV {H : Hp} {vs : List V} {ds : List Dat} (a : AtL K H vs ds) (lo hi : Option Int) : AtL K H (L2.cutV vs lo hi) ((ds.drop (HT.sIx ds.length 0 lo)).take (HT.sIx ds.length ds.length hi - HT.sIx ds.length 0 lo)) := by
  unfold L2.cutV
  rw [a.len]
  exact (a.drop _).take _
def cutD (ds : List Dat) (lo hi : Option Int) : List Dat := (ds.drop (HT.sIx ds.length 0 lo)).take (HT.sIx ds.length ds.length hi - HT.sIx ds.length 0 lo)
theorem ev_slT {tl th : TO} (h : Ev K W i te Γ fun j d => EvO K W j tl Γ fun k lo => EvO K W k th Γ fun l hi => ∃ ds, d = .tup ds ∧ P l (.tup (cutD ds lo hi))) : Ev K W i (L2.tSl (rSlF K) te tl th) Γ P := fun H σ I E Q q =>
  h H σ I E _ fun x H1 j d o1 I1 a1 p1 => p1 H1 σ I1 (E.mono o1) _ fun lo H2 k o2 I2 p2 => p2 H2 σ I2 (E.mono (o1.trans o2)) _ fun hi H3 l o3 I3 p3 => by
    obtain ⟨ds, rfl, p⟩ := p3
    obtain ⟨a, xs, rfl, hs, al⟩ := (a1.mono (o2.trans o3)).tup_inv
    have o := o1.trans (o2.trans o3)
    refine ⟨a, xs, rfl, hs, fun z => ?_, fun _ p' ob hp dn => ?_⟩
    · have e : cutD ds lo hi = ds := by
        unfold cutD
        rw [← al.len, z.1, z.2, List.drop_zero, Nat.sub_zero, List.take_of_length_le (by rw [al.len]; exact Nat.le_refl _)]
      refine q _ H3 l _ o I3 (.tup hs al) ?_
      rw [e] at p
      exact p
    · exact q _ _ l _ (o.trans (Off.new hp)) (W.new I3 hp) (.tup (SqF.of upd_same dn) ((al.cutV lo hi).mono (Off.new (A := []) hp))) p
theorem eo_some {Po : ι → Option Int → Prop} (h : Ev K W i te Γ fun j d => ∃ n, d = .int n ∧ Po j (some n)) : EvO K W i (tPart te) Γ Po := fun H σ I E Q q =>
  h H σ I E _ fun x H1 j d o1 I1 a1 p1 => by
    obtain ⟨n, rfl, p⟩ := p1
    cases a1
    exact ⟨n, rfl, q _ H1 j o1 I1 p⟩
theorem eo_none {Po : ι → Option Int → Prop} (p : Po i none) : EvO K W i tNoPart Γ Po := fun H σ I E Q q => q _ H i Off.refl I p

/-! ### displays, arguments -/
theorem ea_nil {Pa : ι → List Dat → Prop} (p : Pa i []) : EvA K W i tNil Γ Pa := fun H σ I E Q q => q _ H i _ Off.refl I .nil p
theorem ea_cons {tr : TA} {Pa : ι → List Dat → Prop} (h : Ev K W i te Γ fun j d => EvA K W j tr Γ fun k ds => Pa k (d :: ds)) : EvA K W i (tCons te tr) Γ Pa := fun H σ I E Q q =>
  h H σ I E _ fun x H1 j d o1 I1 a1 p1 => p1 H1 σ I1 (E.mono o1) _ fun vs H2 k ds o2 I2 a2 p2 => q _ H2 k _ (o1.trans o2) I2 (.cons (a1.mono o2) a2) p2
theorem ev_tup {tr : TA} (h : EvA K W i tr Γ fun j ds => ds.length ≤ 1000 ∧ P j (.tup ds)) : Ev K W i (tTupF tr) Γ P := fun H σ I E Q q =>
  h H σ I E _ fun vs H1 j ds o1 I1 a1 p1 => ⟨by rw [a1.len, sizeLine_eq]; have := p1.1; omega, fun p ob hp dn => q _ _ j _ (o1.trans (Off.new hp)) (W.new I1 hp) (.tup (SqF.of upd_same dn) (a1.mono (Off.new (A := []) hp))) p1.2⟩
theorem el_lst {tr : TA} {Pl : ι → List Dat → Prop} (h : EvA K W i tr Γ fun j ds => ds.length ≤ 1000 ∧ Pl j ds) : EvL K W i (tLst tr) Γ Pl := fun H σ I E Q q =>
  h H σ I E _ fun vs H1 j ds o1 I1 a1 p1 => ⟨by rw [a1.len, sizeLine_eq]; have := p1.1; omega, fun p hp => by
    exact q p _ j ds (W.nc I1 hp) (o1.trans (Off.new hp)) (W.new I1 hp) ⟨vs, upd_same, a1.mono (Off.new (A := []) hp)⟩ p1.2⟩

/-! ### tests -/
theorem et_test {Pb : ι → Bool → Prop} (h : Ev K W i te Γ fun j d => ∃ b, d = .bl b ∧ Pb j b) : EvT K W i (tTest te) Γ Pb := fun H σ I E Q q =>
  h H σ I E _ fun x H1 j d o1 I1 a1 p1 => by
    obtain ⟨b, rfl, p⟩ := p1
    cases a1
    exact ⟨b, rfl, q b H1 j o1 I1 p⟩
theorem et_B {Pb : ι → Bool → Prop} (h : Ev K W i te Γ fun j d => ∃ b, d = .bl b ∧ Pb j b) : EvT K W i (tB te) Γ Pb := fun H σ I E Q q =>
  h H σ I E _ fun x H1 j d o1 I1 a1 p1 => by
    obtain ⟨b, rfl, p⟩ := p1
    cases a1
    exact ⟨b, rfl, q b H1 j o1 I1 p⟩
theorem et_yes {Pb : ι → Bool → Prop} (p : Pb i true) : EvT K W i tYes Γ Pb := fun H σ I E Q q => q true H i Off.refl I p
theorem et_and {Pb : ι → Bool → Prop} (h : EvT K W i t Γ fun j b => if b = true then EvT K W j u Γ Pb else Pb j false) : EvT K W i (tAnd t u) Γ Pb := fun H σ I E Q q =>
  h H σ I E _ fun b H1 j o1 I1 p1 => by
    cases b with
    | true => exact p1 H1 σ I1 (E.mono o1) Q fun c H2 k o2 I2 p2 => q c H2 k (o1.trans o2) I2 p2
    | false => exact q false H1 j o1 I1 p1
theorem et_or {Pb : ι → Bool → Prop} (h : EvT K W i t Γ fun j b => if b = true then Pb j true else EvT K W j u Γ Pb) : EvT K W i (tOr t u) Γ Pb := fun H σ I E Q q =>
  h H σ I E _ fun b H1 j o1 I1 p1 => by
    cases b with
    | true => exact q true H1 j o1 I1 p1
    | false => exact p1 H1 σ I1 (E.mono o1) Q fun c H2 k o2 I2 p2 => q c H2 k (o1.trans o2) I2 p2
theorem et_not {Pb : ι → Bool → Prop} (h : EvT K W i t Γ fun j b => Pb j (!b)) : EvT K W i (tNot t) Γ Pb := fun H σ I E Q q =>
  h H σ I E _ fun b H1 j o1 I1 p1 => q _ H1 j o1 I1 p1
theorem ev_ifx (h : EvT K W i t Γ fun j b => if b = true then Ev K W j ta Γ P else Ev K W j tb Γ P) : Ev K W i (tIf t ta tb) Γ P := fun H σ I E Q q =>
  h H σ I E _ fun b H1 j o1 I1 p1 => by
    cases b with
    | true => exact p1 H1 σ I1 (E.mono o1) Q fun v H2 k d o2 I2 a2 p2 => q v H2 k d (o1.trans o2) I2 a2 p2
    | false => exact p1 H1 σ I1 (E.mono o1) Q fun v H2 k d o2 I2 a2 p2 => q v H2 k d (o1.trans o2) I2 a2 p2
theorem ev_andV (h : Ev K W i ta Γ fun j d => ∃ b, d = .bl b ∧ if b = true then Ev K W j tb Γ P else P j (.bl false)) : Ev K W i (tAndV ta tb) Γ P := fun H σ I E Q q =>
  h H σ I E _ fun x H1 j d o1 I1 a1 p1 => by
    obtain ⟨b, rfl, p⟩ := p1
    cases a1
    refine ⟨b, rfl, ?_⟩
    cases b with
    | true => exact p H1 σ I1 (E.mono o1) Q fun v H2 k d o2 I2 a2 p2 => q v H2 k d (o1.trans o2) I2 a2 p2
    | false => exact q _ H1 j _ o1 I1 (.bl false) p
theorem ev_chain {r' : R2} {tc : TE} (h : Ev K W i ta Γ fun j d => Ev K W j tb Γ fun k e => Op K W k r d e fun l f => ∃ b, f = .bl b ∧ if b = true then Ev K W l tc Γ fun m g => Op K W m r' e g P else P l (.bl false)) :
    Ev K W i (tChain r r' ta tb tc) Γ P := fun H σ I E Q q =>
  h H σ I E _ fun x H1 j d o1 I1 a1 p1 => p1 H1 σ I1 (E.mono o1) _ fun y H2 k e o2 I2 a2 p2 => p2 H2 x y I2 (a1.mono o2) a2 _ fun z H3 l f o3 I3 a3 p3 => by
    obtain ⟨b, rfl, p⟩ := p3
    cases a3
    refine ⟨b, rfl, ?_⟩
    have o := o1.trans (o2.trans o3)
    cases b with
    | true => exact p H3 σ I3 (E.mono o) _ fun w H4 m g o4 I4 a4 p4 => p4 H4 y w I4 (a2.mono (o3.trans o4)) a4 Q fun v H5 n f o5 I5 a5 p5 => q v H5 n f (o.trans (o4.trans o5)) I5 a5 p5
    | false => exact q _ H3 l _ o I3 (.bl false) p

/-! ### statements -/
variable {D : Ends} {ts tv tw : TS}
theorem nx_go {f : L2.St → Hp → Prop} {H : Hp} {σ : L2.St} (h : Nx K W i Γ f) (I : W.I i H) (E : Sls K H σ Γ) : f σ H := h H σ I E
theorem nx_seq (h : Nx K W i Γ (ts { D with nx := tv D })) : Nx K W i Γ (tSeq ts tv D) := h
theorem nx_next (h : Nx K W i Γ D.nx) : Nx K W i Γ (tNext D) := h
theorem nx_drop (h : Ev K W i te Γ fun j d => Nx K W j Γ D.nx) : Nx K W i Γ (tDrop te D) := fun H σ I E => h H σ I E _ fun v H1 j d o1 I1 a1 p1 => p1 H1 σ I1 (E.mono o1)
theorem nx_ret (h : Ev K W i te Γ fun j d => Rt K W j d D.rt) : Nx K W i Γ (tRet te D) := fun H σ I E => h H σ I E _ fun v H1 j d o1 I1 a1 p1 => p1 H1 v I1 a1
theorem nx_if (h : EvT K W i t Γ fun j b => if b = true then Nx K W j Γ (tv D) else Nx K W j Γ (tw D)) : Nx K W i Γ (tIfS t tv tw D) := fun H σ I E => h H σ I E _ fun b H1 j o1 I1 p1 => by
  cases b with
  | true => exact p1 H1 σ I1 (E.mono o1)
  | false => exact p1 H1 σ I1 (E.mono o1)
theorem nx_set {k : Nat} (h : Ev K W i te Γ fun j d => Nx K W j (Γ.set k (some d)) D.nx) : Nx K W i Γ (tAsg te (gName k) D) := fun H σ I E =>
  h H σ I E _ fun v H1 j d o1 I1 a1 p1 => p1 H1 _ I1 ((E.mono o1).set k a1)
theorem nx_asg {g : TG} (h : Ev K W i te Γ fun j d => Tg K W j g d Γ fun k Γ' => Nx K W k Γ' D.nx) : Nx K W i Γ (tAsg te g D) := fun H σ I E =>
  h H σ I E _ fun v H1 j d o1 I1 a1 p1 => p1 H1 σ v I1 (E.mono o1) a1 _ fun σ' H2 k Γ' o2 I2 E2 p2 => p2 H2 σ' I2 E2
theorem nx_aug {k : Nat} {a : Int} {f : Int → Int → Int} (hk : Γ[k]? = some (some (.int a))) (h : Ev K W i te Γ fun j d => ∃ b, d = .int b ∧ Nx K W j (Γ.set k (some (.int (f a b)))) D.nx) : Nx K W i Γ (tAug k te (ipI f) D) := fun H σ I E => by
  obtain ⟨v, h1, h2⟩ := E.at_ k _ hk
  cases h2
  refine ⟨_, h1, h H σ I E _ fun v H1 j d o1 I1 a1 p1 => ?_⟩
  obtain ⟨b, rfl, p⟩ := p1
  cases a1
  exact ⟨a, b, rfl, rfl, p H1 _ I1 ((E.mono o1).set k (.int _))⟩
theorem tg_name {k : Nat} {Pc : ι → Ctx → Prop} (h : Pc i (Γ.set k (some d))) : Tg K W i (gName k) d Γ Pc := fun H σ v I E a f q => q _ H i _ Off.refl I (E.set k a) h
theorem tg_tup {n : Nat} {g : TGs} {ds : List Dat} {Pc : ι → Ctx → Prop} (hl : ds.length = n) (h : Tgs K W i g ds Γ Pc) : Tg K W i (gTup K n g) (.tup ds) Γ Pc := fun H σ v I E a f q => by
  obtain ⟨p, xs, rfl, hs, al⟩ := a.tup_inv
  exact ⟨p, xs, rfl, hs.sqT, by rw [al.len]; exact hl, h H σ xs I E al f q⟩
theorem tgs_nil {Pc : ι → Ctx → Prop} (h : Pc i Γ) : Tgs K W i gNil [] Γ Pc := fun H σ vs I E a f q => by
  cases a
  exact ⟨rfl, q _ H i _ Off.refl I E h⟩
theorem tgs_cons {g : TG} {gs : TGs} {ds : List Dat} {Pc : ι → Ctx → Prop} (h : Tg K W i g d Γ fun j Γ' => Tgs K W j gs ds Γ' Pc) : Tgs K W i (gCons g gs) (d :: ds) Γ Pc := fun H σ vs I E a f q => by
  cases a with
  | cons a1 a2 => exact ⟨_, _, rfl, h H σ _ I E a1 _ fun σ' H' j Γ' o I' E' p => p H' σ' _ I' E' (a2.mono o) f fun σ'' H'' k Γ'' o2 I2 E2 p2 => q σ'' H'' k Γ'' (o.trans o2) I2 E2 p2⟩
theorem rt_of {g : VK} (h : ∀ H v, W.I i H → At K H v d → g v H) : Rt K W i d g := h
end
end Lb
/-! text LbC -/
/-! The calculus, further: loops, comprehensions, private objects, calls. -/
namespace Lb
open PySem L2

/-- what an iterator hands out where the world holds -/
structure Wk {ι : Type} (K : PySem.W.Frag) (W : Wd ι) (J : It) (n : Nat) (it : Nat → Dat → Prop) : Prop where
  go : ∀ {j : ι} {H : Hp} {i : Nat}, W.I j H → i < n → J.go i H
  stop : ∀ {j : ι} {H : Hp}, W.I j H → J.stop n H
  yld : ∀ {j : ι} {H H' : Hp} {i : Nat} {x : V}, W.I j H → i < n → J.yld i H x H' → H' = H ∧ ∃ d, it i d ∧ At K H x d
section
variable {ι : Type} {K : PySem.W.Frag} {W : Wd ι} {J : It} {n : Nat} {it : Nat → Dat → Prop}
theorem Wk.own {p : Addr} {φ : Hp → Prop} {s : Shp p φ} {np : ¬ W.C p} (w : Wk K W J n it) : Wk K (W.own p φ s np) J n it := ⟨fun h => w.go h.1, fun h => w.stop h.1, fun h => w.yld h.1⟩
theorem Wk.keep {v : V} {d : Dat} (w : Wk K W J n it) : Wk K (W.keep K v d) J n it := ⟨fun h => w.go h.1, fun h => w.stop h.1, fun h => w.yld h.1⟩
theorem wk_rng {lo : Int} {n : Nat} : Wk K W (Itr lo n) n fun i d => d = .int (lo + i) := ⟨fun _ h => h, fun _ => Nat.le_refl _, fun _ _ y => ⟨y.1, _, rfl, by rw [y.2]; exact .int _⟩⟩
theorem wk_lst {p : Addr} {ds : List Dat} (h : ∀ {j : ι} {H : Hp}, W.I j H → LstAt K p ds H) : Wk K W (Itl K p) ds.length fun i d => ds[i]? = some d where
  go := fun {j H i} x hi => by
    obtain ⟨vs, a, b⟩ := h x
    obtain ⟨v, h1, _⟩ := b.get (List.getElem?_eq_getElem hi)
    exact ⟨vs, v, SqL.of a, h1⟩
  stop := fun x => by
    obtain ⟨vs, a, b⟩ := h x
    exact ⟨vs, SqL.of a, Nat.le_of_eq b.len⟩
  yld := fun {j H H' i x'} x hi y => by
    obtain ⟨vs, a, b⟩ := h x
    obtain ⟨d, h1, h2⟩ := b.get' (y.2 vs (SqL.of a))
    exact ⟨y.1, d, h1, h2⟩
theorem wk_tup {a : Addr} {ds : List Dat} (h : ∀ {j : ι} {H : Hp}, W.I j H → At K H (.ref a) (.tup ds)) : Wk K W (Itt K a) ds.length fun i d => ds[i]? = some d where
  go := fun {j H i} x hi => by
    obtain ⟨a', xs, e, hs, b⟩ := (h x).tup_inv
    cases e
    obtain ⟨v, h1, _⟩ := b.get (List.getElem?_eq_getElem hi)
    exact ⟨xs, v, hs.sqT, h1⟩
  stop := fun x => by
    obtain ⟨a', xs, e, hs, b⟩ := (h x).tup_inv
    cases e
    exact ⟨xs, hs.sqT, Nat.le_of_eq b.len⟩
  yld := fun {j H H' i x'} x hi y => by
    obtain ⟨a', xs, e, hs, b⟩ := (h x).tup_inv
    cases e
    obtain ⟨d, h1, h2⟩ := b.get' (y.2 xs hs.sqT)
    exact ⟨y.1, d, h1, h2⟩
theorem wk_str {z : Str} : Wk K W (Its z) z.cps.size fun i d => ∃ c, z.cps[i]? = some c ∧ d = .str ⟨#[c]⟩ where
  go := fun _ h => h
  stop := fun _ => Nat.le_refl _
  yld := fun _ _ y => by
    obtain ⟨e, c, h1, h2⟩ := y
    exact ⟨e, _, ⟨c, h1, rfl⟩, by rw [h2]; exact .str _⟩

/-! ### loops -/
def forJ (J : It) (g : TG) (tb : TS) (D : Ends) : L2.St → Hp → Prop := fun σ H1 => ∃ W : Nat → Nat → L2.St → Hp → Prop, (∃ m, W 0 m σ H1) ∧ ∀ i m σ H, W i m σ H →
  (J.stop i H ∧ D.nx σ H) ∨ (J.go i H ∧ ∃ N : L2.St → Hp → Prop, (∀ σ' H', N σ' H' → ∃ m', m' < m ∧ W (i + 1) m' σ' H') ∧ ∀ x H', J.yld i H x H' → g x σ H' fun σ2 H2 => tb { D with nx := N, ct := N, bk := D.nx } σ2 H2)
/-- the state ahead of turn n -/
structure Lp {κ : Type} (K : PySem.W.Frag) (Wf : κ → Wd ι) (Inv : Nat → κ → ι → Ctx → Prop) (n : Nat) (σ : L2.St) (H : Hp) : Prop where
  ex : ∃ k j Γ, (Wf k).I j H ∧ Sls K H σ Γ ∧ Inv n k j Γ
theorem nx_lp {κ : Type} {Wf : κ → Wd ι} {Inv : Nat → κ → ι → Ctx → Prop} {m : Nat} {k : κ} {j : ι} {Γ : Ctx} (h : Inv m k j Γ) : Nx K (Wf k) j Γ (Lp K Wf Inv m) := fun H σ I E => ⟨k, j, Γ, I, E, h⟩
/-- from a world that knows more -/
theorem nx_weak {W' : Wd ι} {j : ι} {Γ : Ctx} {f : L2.St → Hp → Prop} (w : ∀ {H : Hp}, W'.I j H → W.I j H) (h : Nx K W j Γ f) : Nx K W' j Γ f := fun H σ I E => h H σ (w I) E
theorem nx_forget {p : Addr} {φ : Hp → Prop} {s : Shp p φ} {np : ¬ W.C p} {j : ι} {Γ : Ctx} {f : L2.St → Hp → Prop} (h : Nx K W j Γ f) : Nx K (W.own p φ s np) j Γ f := nx_weak (fun x => x.1) h
theorem nx_loop {κ : Type} {Wf : κ → Wd ι} {Inv : Nat → κ → ι → Ctx → Prop} {k0 : κ} {i : ι} {Γ : Ctx} {g : TG} {tb : TS} {D : Ends} (wk : ∀ k, Wk K (Wf k) J n it) (h0 : Inv 0 k0 i Γ)
    (hs : ∀ (m : Nat) (k : κ) (j : ι) (Γ' : Ctx) (d : Dat), m < n → it m d → Inv m k j Γ' → Tg K (Wf k) j g d Γ' fun l Γ'' => Nx K (Wf k) l Γ'' (tb { D with nx := Lp K Wf Inv (m + 1), ct := Lp K Wf Inv (m + 1), bk := D.nx }))
    (hd : ∀ (k : κ) (j : ι) (Γ' : Ctx), Inv n k j Γ' → Nx K (Wf k) j Γ' D.nx) : Nx K (Wf k0) i Γ (forJ J g tb D) := fun H σ I E => by
  refine ⟨fun m r σ H => m + r = n ∧ Lp K Wf Inv m σ H, ⟨n, Nat.zero_add _, ⟨k0, i, Γ, I, E, h0⟩⟩, fun m r σ H w => ?_⟩
  obtain ⟨e, ⟨k, j, Γ', I', E', iv⟩⟩ := w
  by_cases hm : m = n
  · subst hm
    exact .inl ⟨(wk k).stop I', hd k j Γ' iv H σ I' E'⟩
  · have hlt : m < n := by omega
    refine .inr ⟨(wk k).go I' hlt, Lp K Wf Inv (m + 1), fun σ' H' w' => ⟨r - 1, by omega, by omega, w'⟩, fun x H' y => ?_⟩
    obtain ⟨e1, d, hd1, a⟩ := (wk k).yld I' hlt y
    subst e1
    exact hs m k j Γ' d hlt hd1 iv H' σ x I' E' a _ fun σ2 H2 l Γ'' o2 I2 E2 p2 => p2 H2 σ2 I2 E2
theorem nx_forT {i : ι} {Γ : Ctx} {tl : TE} {g : TG} {tb : TS} {D : Ends} (h : Ev K W i tl Γ fun j d => ∃ ds, d = .tup ds ∧ ∀ a, Nx K (W.keep K (.ref a) (.tup ds)) j Γ (forJ (Itt K a) g tb D)) : Nx K W i Γ (tFor (iTup K tl) g tb D) := fun H σ I E =>
  h H σ I E _ fun v H1 j d o1 I1 a1 p1 => by
    obtain ⟨ds, rfl, p⟩ := p1
    obtain ⟨a, xs, rfl, hs, _⟩ := a1.tup_inv
    exact ⟨a, rfl, ⟨xs, hs.sqT⟩, p a H1 σ ⟨I1, a1⟩ (E.mono o1)⟩
theorem nx_forL {i : ι} {Γ : Ctx} {tl : TE} {g : TG} {tb : TS} {D : Ends} (h : Ev K W i tl Γ fun j d => ∃ a ds, d = .obj a ∧ (∀ {H : Hp}, W.I j H → LstAt K a ds H) ∧ Nx K W j Γ (forJ (Itl K a) g tb D)) : Nx K W i Γ (tFor (iList K tl) g tb D) := fun H σ I E =>
  h H σ I E _ fun v H1 j d o1 I1 a1 p1 => by
    obtain ⟨a, ds, rfl, hl, p⟩ := p1
    cases a1
    obtain ⟨vs, q, _⟩ := hl I1
    exact ⟨a, rfl, ⟨vs, SqL.of q⟩, p H1 σ I1 (E.mono o1)⟩
theorem nx_forN {i : ι} {Γ : Ctx} {tl : TE} {g : TG} {tb : TS} {D : Ends} (h : EvL K W i tl Γ fun j ds => ∀ p np, Nx K (W.own p (LstAt K p ds) (lst_shp K p ds) np) j Γ (forJ (Itl K p) g tb D)) : Nx K W i Γ (tFor (iList K tl) g tb D) := fun H σ I E =>
  h H σ I E _ fun p H1 j ds np o1 I1 a1 p1 => by
    obtain ⟨vs, q, _⟩ := id a1
    exact ⟨p, rfl, ⟨vs, SqL.of q⟩, p1 p np H1 σ ⟨I1, a1⟩ (E.mono o1)⟩
theorem nx_forR {i : ι} {Γ : Ctx} {ta : TA} {g : TG} {tb : TS} {D : Ends} (h : EvA K W i ta Γ fun j ds => ∃ n : Int, ds = [.int n] ∧ (-1000000 ≤ n ∧ n ≤ 1000000) ∧ Nx K W j Γ (forJ (Itr 0 n.toNat) g tb D)) : Nx K W i Γ (tFor (iRng1 ta) g tb D) := fun H σ I E =>
  h H σ I E _ fun vs H1 j ds o1 I1 a1 p1 => by
    obtain ⟨n, rfl, hb, p⟩ := p1
    obtain ⟨v, rfl, a⟩ := a1.one
    cases a
    exact ⟨n, rfl, by omega, by omega, p H1 σ I1 (E.mono o1)⟩
theorem nx_while {κ : Type} {Wf : κ → Wd ι} {tc : TT} {tb : TS} {D : Ends} {i : ι} {Γ : Ctx} (Inv : Nat → κ → ι → Ctx → Prop) (m0 : Nat) (k0 : κ) (h0 : Inv m0 k0 i Γ)
    (hs : ∀ (m : Nat) (k : κ) (j : ι) (Γ' : Ctx), Inv m k j Γ' → EvT K (Wf k) j tc Γ' fun l b => if b = true then Nx K (Wf k) l Γ' (tb { D with nx := fun σ H => ∃ m', m' < m ∧ Lp K Wf Inv m' σ H, ct := fun σ H => ∃ m', m' < m ∧ Lp K Wf Inv m' σ H, bk := D.nx }) else Nx K (Wf k) l Γ' D.nx) :
    Nx K (Wf k0) i Γ (tWhile tc tb D) := fun H σ I E => by
  refine ⟨fun m σ H => Lp K Wf Inv m σ H, ⟨m0, ⟨k0, i, Γ, I, E, h0⟩⟩, fun m σ H w => ?_⟩
  obtain ⟨⟨k, j, Γ', I', E', iv⟩⟩ := w
  refine hs m k j Γ' iv H σ I' E' _ fun b H1 l o1 I1 p1 => ?_
  cases b with
  | true => exact ⟨_, fun σ' H' z => z, p1 H1 σ I1 (E'.mono o1)⟩
  | false => exact p1 H1 σ I1 (E'.mono o1)

/-! ### list comprehensions -/
def lcJ (J : It) (g : TG) (tt : TT) (te : TE) (vs : List Nat) : TE := fun σ H1 Q => ∀ D, H1 D = none → ∃ W : Nat → Nat → Hp → Prop, (∃ m, W 0 m (upd H1 D (.lst []))) ∧ ∀ i m H, W i m H →
  (J.stop i H ∧ Q (.ref D) H) ∨ (J.go i H ∧ ∃ Nx : Hp → Prop, (∀ H', Nx H' → ∃ m', m' < m ∧ W (i + 1) m' H') ∧ ∀ x H', J.yld i H x H' → g x (L2.wipe σ vs) H' fun σ2 H2 => L2.wipe σ2 vs = L2.wipe σ vs ∧ tt σ2 H2 fun b H3 =>
    if b = true then te σ2 H3 fun y H4 => ∃ acc, H4 D = some (.lst acc) ∧ acc.length < sizeLine ∧ Nx (upd H4 D (.lst (acc ++ [y]))) else Nx H3)
/-- what a turn of a comprehension does behind its target -/
def LcT (K : PySem.W.Frag) (W : Wd ι) (j : ι) (tt : TT) (te : TE) (Γ : Ctx) (acc : List Dat) (I' : ι → List Dat → Prop) : Prop :=
  EvT K W j tt Γ fun l b => if b = true then Ev K W l te Γ (fun o e => I' o (acc ++ [e])) else I' l acc
theorem lc_run {i : ι} {Γ : Ctx} {P : ι → List Dat → Prop} {g : TG} {tt : TT} {te : TE} {vs : List Nat} (wk : Wk K W J n it) (hn : n ≤ 1000000) (Inv : Nat → ι → List Dat → Prop) (h0 : Inv 0 i [])
    (hs : ∀ (m : Nat) (j : ι) (acc : List Dat) (d : Dat) (p : Addr) (np : ¬ W.C p), m < n → it m d → Inv m j acc →
      ∀ H σ v, (W.own p (LstAt K p acc) (lst_shp K p acc) np).I j H → Sls K H (L2.wipe σ vs) (wipeC Γ vs) → At K H v d → ∀ (f : L2.St → Hp → Prop),
        (∀ σ' Γ', L2.wipe σ' vs = L2.wipe σ vs → Sls K H σ' Γ' → LcT K (W.own p (LstAt K p acc) (lst_shp K p acc) np) j tt te Γ' acc (Inv (m + 1)) → f σ' H) → g v (L2.wipe σ vs) H f)
    (hd : ∀ j acc, Inv n j acc → P j acc) : EvL K W i (lcJ J g tt te vs) Γ P := fun H σ I E Q q p hp => by
  have np : ¬ W.C p := W.nc I hp
  let St : Nat → Hp → Prop := fun m H' => ∃ j acc, acc.length ≤ m ∧ Off W.A H H' ∧ W.I j H' ∧ LstAt K p acc H' ∧ Inv m j acc
  refine ⟨fun m r H' => m + r = n ∧ St m H', ⟨n, Nat.zero_add _, i, [], Nat.zero_le _, Off.new hp, W.new I hp, ⟨[], upd_same, .nil⟩, h0⟩, fun m r H' w => ?_⟩
  obtain ⟨e, j, acc, hl, o, I', la, iv⟩ := w
  by_cases hm : m = n
  · subst hm
    exact .inl ⟨wk.stop I', q p H' j acc np o I' la (hd j acc iv)⟩
  · have hlt : m < n := by omega
    refine .inr ⟨wk.go I' hlt, St (m + 1), fun H2 w' => ⟨r - 1, by omega, by omega, w'⟩, fun x H2 y => ?_⟩
    obtain ⟨e1, d, hd1, a⟩ := wk.yld I' hlt y
    subst e1
    refine hs m j acc d p np hlt hd1 iv H2 σ x ⟨I', la⟩ ((E.mono o).wipe vs) a _ fun σ' Γ' hw E' lt => ⟨hw, ?_⟩
    refine lt H2 σ' ⟨I', la⟩ E' _ fun b H3 l o3 I3 p3 => ?_
    cases b with
    | true =>
      refine p3 H3 σ' I3 (E'.mono o3) _ fun v H4 o' e' o4 I4 a4 p4 => ?_
      obtain ⟨vs4, g1, g2⟩ := id I4.2
      refine ⟨vs4, g1, by rw [g2.len, sizeLine_eq]; omega, o', acc ++ [e'], by rw [List.length_append, List.length_singleton]; omega, ?_, ?_, ?_, p4⟩
      · exact (o.trans (o3.trans o4)).late hp (Off.put (by simp) g1 fun z => z)
      · exact W.off (B := [p]) I4.1 (fun x hx z => by
          rcases List.mem_cons.mp hx with e | e
          · rw [e] at z; exact np z
          · cases e) (Off.put (by simp) g1 fun z => z)
      · exact ⟨vs4 ++ [v], upd_same, (AtL.append g2 (.cons a4 .nil)).mono (Off.put (A := [p]) (by simp) g1 fun z => z)⟩
    | false => exact ⟨l, acc, by omega, o.trans o3, I3.1, I3.2, p3⟩
theorem wipe_set {σ : L2.St} {x : Option V} {k : Nat} {vs : List Nat} (h : k ∈ vs) : L2.wipe (σ.set k x) vs = L2.wipe σ vs := by
  have hc : ∀ (vs : List Nat) (σ : L2.St), k ∉ vs → L2.wipe (σ.set k x) vs = (L2.wipe σ vs).set k x := by
    intro vs
    induction vs with
    | nil => intro σ _; rfl
    | cons u us ih =>
      intro σ hk
      have h1 : k ≠ u := fun z => hk (by rw [z]; exact List.mem_cons_self)
      have h2 : k ∉ us := fun z => hk (List.mem_cons_of_mem _ z)
      show (L2.wipe (σ.set k x) us).set u none = ((L2.wipe σ us).set u none).set k x
      rw [ih σ h2, List.set_comm _ _ h1]
  induction vs with
  | nil => exact absurd h List.not_mem_nil
  | cons v vs ih =>
    show (L2.wipe (σ.set k x) vs).set v none = (L2.wipe σ vs).set v none
    by_cases hv : k ∈ vs
    · rw [ih hv]
    · have e : k = v := (List.mem_cons.mp h).resolve_right hv
      subst e
      rw [hc vs σ hv, List.set_set]
theorem wipe_wipe {σ : L2.St} : ∀ {vs ws : List Nat}, (∀ v ∈ vs, v ∈ ws) → L2.wipe (L2.wipe σ vs) ws = L2.wipe σ ws
  | [], _, _ => rfl
  | v :: vs, ws, h => by
    show L2.wipe ((L2.wipe σ vs).set v none) ws = L2.wipe σ ws
    rw [wipe_set (h v List.mem_cons_self), wipe_wipe fun u hu => h u (List.mem_cons_of_mem _ hu)]
/-- target a name -/
theorem lc_name {i : ι} {Γ : Ctx} {P : ι → List Dat → Prop} {k : Nat} {tt : TT} {te : TE} {vs : List Nat} (wk : Wk K W J n it) (hn : n ≤ 1000000) (Inv : Nat → ι → List Dat → Prop) (h0 : Inv 0 i []) (hk : k ∈ vs)
    (hs : ∀ (m : Nat) (j : ι) (acc : List Dat) (d : Dat) (p : Addr) (np : ¬ W.C p), m < n → it m d → Inv m j acc → LcT K (W.own p (LstAt K p acc) (lst_shp K p acc) np) j tt te ((wipeC Γ vs).set k (some d)) acc (Inv (m + 1)))
    (hd : ∀ j acc, Inv n j acc → P j acc) : EvL K W i (lcJ J (gName k) tt te vs) Γ P :=
  lc_run wk hn Inv h0 (fun m j acc d p np hm hi iv H σ v I E a f q => q _ _ (by rw [wipe_set hk, wipe_wipe fun _ z => z]) (E.set k a) (hs m j acc d p np hm hi iv)) hd
/-- target a pair of names -/
theorem lc_pair {i : ι} {Γ : Ctx} {P : ι → List Dat → Prop} {k l : Nat} {tt : TT} {te : TE} {vs : List Nat} (wk : Wk K W J n it) (hn : n ≤ 1000000) (Inv : Nat → ι → List Dat → Prop) (h0 : Inv 0 i []) (hk : k ∈ vs) (hl : l ∈ vs)
    (hs : ∀ (m : Nat) (j : ι) (acc : List Dat) (d : Dat) (p : Addr) (np : ¬ W.C p), m < n → it m d → Inv m j acc → ∃ e f, d = .tup [e, f] ∧ LcT K (W.own p (LstAt K p acc) (lst_shp K p acc) np) j tt te (((wipeC Γ vs).set k (some e)).set l (some f)) acc (Inv (m + 1)))
    (hd : ∀ j acc, Inv n j acc → P j acc) : EvL K W i (lcJ J (gTup K 2 (gCons (gName k) (gCons (gName l) gNil))) tt te vs) Γ P :=
  lc_run wk hn Inv h0 (fun m j acc d p np hm hi iv H σ v I E a f q => by
    obtain ⟨e1, e2, rfl, lt⟩ := hs m j acc d p np hm hi iv
    obtain ⟨a', xs, rfl, h1, h2⟩ := a.tup_inv
    obtain ⟨x, y, rfl, ax, ay⟩ := h2.two
    exact ⟨a', _, rfl, h1.sqT, rfl, x, _, rfl, y, _, rfl, rfl, q _ _ (by rw [wipe_set hl, wipe_set hk, wipe_wipe fun _ z => z]) ((E.set k ax).set l ay) lt⟩) hd
theorem el_lcT {i : ι} {Γ : Ctx} {P : ι → List Dat → Prop} {tl : TE} {g : TG} {tt : TT} {te : TE} {vs : List Nat} (h : Ev K W i tl Γ fun j d => ∃ ds, d = .tup ds ∧ ∀ a, EvL K (W.keep K (.ref a) (.tup ds)) j (lcJ (Itt K a) g tt te vs) Γ P) : EvL K W i (tLc (iTup K tl) g tt te vs) Γ P := fun H σ I E Q q =>
  h H σ I E _ fun v H1 j d o1 I1 a1 p1 => by
    obtain ⟨ds, rfl, p⟩ := p1
    obtain ⟨a, xs, rfl, hs, _⟩ := id a1.tup_inv
    exact ⟨a, rfl, ⟨xs, hs.sqT⟩, p a H1 σ ⟨I1, a1⟩ (E.mono o1) Q fun p' H' j' ds' np o I' la pp => q p' H' j' ds' np (o1.trans o) I'.1 la pp⟩
theorem el_lcL {i : ι} {Γ : Ctx} {P : ι → List Dat → Prop} {tl : TE} {g : TG} {tt : TT} {te : TE} {vs : List Nat} (h : Ev K W i tl Γ fun j d => ∃ a ds, d = .obj a ∧ (∀ {H : Hp}, W.I j H → LstAt K a ds H) ∧ EvL K W j (lcJ (Itl K a) g tt te vs) Γ P) : EvL K W i (tLc (iList K tl) g tt te vs) Γ P := fun H σ I E Q q =>
  h H σ I E _ fun v H1 j d o1 I1 a1 p1 => by
    obtain ⟨a, ds, rfl, hl, p⟩ := p1
    cases a1
    obtain ⟨ws, z, _⟩ := hl I1
    exact ⟨a, rfl, ⟨ws, SqL.of z⟩, p H1 σ I1 (E.mono o1) Q fun p' H' j' ds' np o I' la pp => q p' H' j' ds' np (o1.trans o) I' la pp⟩
theorem el_lcN {i : ι} {Γ : Ctx} {P : ι → List Dat → Prop} {tl : TE} {g : TG} {tt : TT} {te : TE} {vs : List Nat} (h : EvL K W i tl Γ fun j ds => ∀ a np, EvL K (W.own a (LstAt K a ds) (lst_shp K a ds) np) j (lcJ (Itl K a) g tt te vs) Γ P) : EvL K W i (tLc (iList K tl) g tt te vs) Γ P := fun H σ I E Q q =>
  h H σ I E _ fun a H1 j ds na o1 I1 a1 p1 => by
    obtain ⟨ws, z, _⟩ := id a1
    exact ⟨a, rfl, ⟨ws, SqL.of z⟩, p1 a na H1 σ ⟨I1, a1⟩ (E.mono o1) Q fun p' H' j' ds' np o I' la pp => q p' H' j' ds' (fun z => np (.inr z)) (o1.trans o) I'.1 la pp⟩
theorem el_lcR {i : ι} {Γ : Ctx} {P : ι → List Dat → Prop} {ta : TA} {g : TG} {tt : TT} {te : TE} {vs : List Nat} (h : EvA K W i ta Γ fun j ds => ∃ n : Int, ds = [.int n] ∧ (-1000000 ≤ n ∧ n ≤ 1000000) ∧ EvL K W j (lcJ (Itr 0 n.toNat) g tt te vs) Γ P) : EvL K W i (tLc (iRng1 ta) g tt te vs) Γ P := fun H σ I E Q q =>
  h H σ I E _ fun ws H1 j ds o1 I1 a1 p1 => by
    obtain ⟨n, rfl, hb, p⟩ := p1
    obtain ⟨v, rfl, a⟩ := a1.one
    cases a
    exact ⟨n, rfl, by omega, by omega, p H1 σ I1 (E.mono o1) Q fun p' H' j' ds' np o I' la pp => q p' H' j' ds' np (o1.trans o) I' la pp⟩
theorem el_lcS {i : ι} {Γ : Ctx} {P : ι → List Dat → Prop} {tl : TE} {g : TG} {tt : TT} {te : TE} {vs : List Nat} (h : Ev K W i tl Γ fun j d => ∃ z, d = .str z ∧ EvL K W j (lcJ (Its z) g tt te vs) Γ P) : EvL K W i (tLc (iStr tl) g tt te vs) Γ P := fun H σ I E Q q =>
  h H σ I E _ fun v H1 j d o1 I1 a1 p1 => by
    obtain ⟨z, rfl, p⟩ := p1
    cases a1
    exact ⟨z, rfl, p H1 σ I1 (E.mono o1) Q fun p' H' j' ds' np o I' la pp => q p' H' j' ds' np (o1.trans o) I' la pp⟩
theorem lct_yes {j : ι} {te : TE} {Γ : Ctx} {acc : List Dat} {I' : ι → List Dat → Prop} (h : Ev K W j te Γ fun o e => I' o (acc ++ [e])) : LcT K W j tYes te Γ acc I' := et_yes (by show (if true = true then _ else _); rw [if_pos rfl]; exact h)
theorem EvL.imp {i : ι} {te : TE} {Γ : Ctx} {P P' : ι → List Dat → Prop} (h : EvL K W i te Γ P) (q : ∀ j ds, P j ds → P' j ds) : EvL K W i te Γ P' := fun H σ I E Q k => h H σ I E Q fun p H' j ds np o I' la pp => k p H' j ds np o I' la (q j ds pp)
end
end Lb
/-! text LbD -/
/-! The calculus, further: dicts, instances, calls, built-ins. -/
namespace Lb
open PySem L2

/-! ### dicts of data -/
def dlook : List (Key × Dat) → Key → Option Dat
  | [], _ => none
  | q :: r, k => if q.1 = k then some q.2 else dlook r k
def dput (l : List (Key × Dat)) (k : Key) (d : Dat) : List (Key × Dat) := if (dlook l k).isSome = true then l.map (fun q => (q.1, if q.1 = k then d else q.2)) else l ++ [(k, d)]
def dmerge (l more : List (Key × Dat)) : List (Key × Dat) := more.foldl (fun a q => dput a q.1 q.2) l
abbrev DR (K : PySem.W.Frag) (H : Hp) : List (Key × V) → List (Key × Dat) → Prop := Paired fun p q => p.1 = q.1 ∧ At K H p.2 q.2
section
variable {K : PySem.W.Frag} {A : List Addr} {H H' : Hp}
theorem DR.mono (o : Off A H H') {kvs : List (Key × V)} {l : List (Key × Dat)} (h : DR K H kvs l) : DR K H' kvs l := Paired.mapP h fun _ _ z => ⟨z.1, z.2.mono o⟩
theorem DR.look : ∀ {kvs : List (Key × V)} {l : List (Key × Dat)}, DR K H kvs l → ∀ k, (valV kvs k = none ∧ dlook l k = none) ∨ ∃ v d, valV kvs k = some v ∧ dlook l k = some d ∧ At K H v d
  | _, _, .nil, k => .inl ⟨rfl, rfl⟩
  | _, _, .cons (a := p) (b := q) h t, k => by
    by_cases e : p.1 = k
    · have e' : q.1 = k := h.1.symm.trans e
      exact .inr ⟨p.2, q.2, valV_pos e, by show (if q.1 = k then _ else _) = _; rw [if_pos e'], h.2⟩
    · have e' : ¬ q.1 = k := fun z => e (h.1.trans z)
      have ih := DR.look t k
      rw [valV_neg e, show dlook (q :: _) k = dlook _ k from if_neg e']
      exact ih
theorem DR.len {kvs : List (Key × V)} {l : List (Key × Dat)} (h : DR K H kvs l) : kvs.length = l.length := Paired.length h
theorem DR.map {k : Key} {v : V} {d : Dat} (a : At K H v d) : ∀ {kvs : List (Key × V)} {l : List (Key × Dat)}, DR K H kvs l → DR K H (kvs.map fun kv => if kv.1 = k then (kv.1, v) else kv) (l.map fun q => (q.1, if q.1 = k then d else q.2))
  | _, _, .nil => .nil
  | _, _, .cons (a := p) (b := q) h t => by
    rw [List.map_cons, List.map_cons]
    refine .cons ?_ (DR.map a t)
    by_cases e : p.1 = k
    · have e' : q.1 = k := h.1.symm.trans e
      rw [if_pos e, if_pos e']
      exact ⟨h.1, a⟩
    · have e' : ¬ q.1 = k := fun z => e (h.1.trans z)
      rw [if_neg e, if_neg e']
      exact h
theorem DR.snoc {k : Key} {v : V} {d : Dat} (a : At K H v d) : ∀ {kvs : List (Key × V)} {l : List (Key × Dat)}, DR K H kvs l → DR K H (kvs ++ [(k, v)]) (l ++ [(k, d)])
  | _, _, .nil => .cons ⟨rfl, a⟩ .nil
  | _, _, .cons h t => .cons h (DR.snoc a t)
theorem DR.put {kvs : List (Key × V)} {l : List (Key × Dat)} {k : Key} {v : V} {d : Dat} (h : DR K H kvs l) (a : At K H v d) : DR K H (putK kvs k v) (dput l k d) := by
  unfold putK dput
  rw [valV_any]
  rcases h.look k with ⟨e1, e2⟩ | ⟨x, y, e1, e2, _⟩
  · rw [e1, e2]
    exact h.snoc a
  · rw [e1, e2]
    exact h.map a
theorem DR.merge : ∀ {ms : List (Key × V)} {more : List (Key × Dat)} {kvs : List (Key × V)} {l : List (Key × Dat)}, DR K H ms more → DR K H kvs l → DR K H (mergeK kvs ms) (dmerge l more)
  | _, _, _, _, .nil, h => h
  | _, _, _, _, .cons (a := p) (b := q) g t, h => by
    show DR K H (mergeK (putK _ p.1 p.2) _) (dmerge (dput _ q.1 q.2) _)
    rw [← g.1]
    exact DR.merge t (h.put g.2)
theorem dput_len (l : List (Key × Dat)) (k : Key) (d : Dat) : (dput l k d).length ≤ l.length + 1 := by
  unfold dput
  split
  · rw [List.length_map]; omega
  · rw [List.length_append, List.length_singleton]; omega
theorem dlook_map (k j : Key) (d : Dat) : ∀ l : List (Key × Dat), dlook (l.map fun q => (q.1, if q.1 = k then d else q.2)) j = (dlook l j).map fun x => if j = k then d else x
  | [] => rfl
  | q :: r => by
    have ih := dlook_map k j d r
    rw [List.map_cons]
    show (if q.1 = j then _ else _) = Option.map _ (if q.1 = j then _ else _)
    by_cases e : q.1 = j
    · rw [if_pos e, if_pos e, Option.map_some, e]
    · rw [if_neg e, if_neg e]; exact ih
theorem dlook_snoc (k j : Key) (d : Dat) : ∀ l : List (Key × Dat), dlook (l ++ [(k, d)]) j = (dlook l j).or (if k = j then some d else none)
  | [] => by show (if k = j then _ else _) = _; rfl
  | q :: r => by
    have ih := dlook_snoc k j d r
    show (if q.1 = j then _ else _) = Option.or (if q.1 = j then _ else _) _
    by_cases e : q.1 = j
    · rw [if_pos e, if_pos e]; rfl
    · rw [if_neg e, if_neg e]; exact ih
theorem dlook_put (l : List (Key × Dat)) (k j : Key) (d : Dat) : dlook (dput l k d) j = if j = k then some d else dlook l j := by
  unfold dput
  cases e : dlook l k with
  | some x =>
    rw [if_pos (show (some x).isSome = true from rfl), dlook_map]
    by_cases q : j = k
    · subst q; rw [e]; simp
    · rw [if_neg q]; simp [q]
  | none =>
    rw [if_neg (by simp), dlook_snoc]
    by_cases q : j = k
    · subst q; rw [e]; simp
    · rw [if_neg (Ne.symm q), if_neg q]; simp
end
/-- a dict of data at p -/
def DctAt (K : PySem.W.Frag) (p : Addr) (l : List (Key × Dat)) (H : Hp) : Prop := ∃ kvs, H p = some (.dK kvs) ∧ DR K H kvs l
theorem DctAt.off {K : PySem.W.Frag} {p : Addr} {l : List (Key × Dat)} {A : List Addr} {H H' : Hp} (h : DctAt K p l H) (hp : p ∉ A) (o : Off A H H') : DctAt K p l H' := let ⟨vs, a, b⟩ := h; ⟨vs, o.at_ a hp, b.mono o⟩
theorem dct_shp (K : PySem.W.Frag) (p : Addr) (l : List (Key × Dat)) : Shp p (DctAt K p l) := ⟨fun ⟨_, a, _⟩ z => (by rw [a] at z; cases z), fun h hp o => h.off hp o⟩
/-- an instance of the class at C, its attributes data -/
def flook : List (Str × Dat) → Str → Option Dat
  | [], _ => none
  | q :: r, f => if f = q.1 then some q.2 else flook r f
def fput (f : Str) (d : Dat) : List (Str × Dat) → List (Str × Dat)
  | [] => [(f, d)]
  | q :: r => if q.1 = f then (q.1, d) :: r else q :: fput f d r
abbrev FR (K : PySem.W.Frag) (H : Hp) : List (Str × V) → List (Str × Dat) → Prop := Paired fun p q => p.1 = q.1 ∧ At K H p.2 q.2
section
variable {K : PySem.W.Frag} {A : List Addr} {H H' : Hp}
theorem FR.mono (o : Off A H H') {fs : List (Str × V)} {l : List (Str × Dat)} (h : FR K H fs l) : FR K H' fs l := Paired.mapP h fun _ _ z => ⟨z.1, z.2.mono o⟩
theorem FR.look : ∀ {fs : List (Str × V)} {l : List (Str × Dat)}, FR K H fs l → ∀ f, (fs.lookup f = none ∧ flook l f = none) ∨ ∃ v d, fs.lookup f = some v ∧ flook l f = some d ∧ At K H v d
  | _, _, .nil, k => .inl ⟨rfl, rfl⟩
  | _, _, .cons (a := p) (b := q) (l₁ := ps) (l₂ := qs) h t, f => by
    by_cases e : f = p.1
    · have e' : f = q.1 := e.trans h.1
      refine .inr ⟨p.2, q.2, ?_, by show (if f = q.1 then _ else _) = _; rw [if_pos e'], h.2⟩
      have hb : (f == p.1) = true := beq_iff_eq.mpr e
      show List.lookup f ((p.1, p.2) :: _) = _
      simp only [List.lookup, hb]
    · have e' : ¬ f = q.1 := fun z => e (z.trans h.1.symm)
      have ih := FR.look t f
      have hb : (f == p.1) = false := beq_eq_false_iff_ne.mpr e
      have e1 : List.lookup f (p :: ps) = List.lookup f ps := by
        show List.lookup f ((p.1, p.2) :: ps) = _
        simp only [List.lookup, hb]
      rw [e1, show flook (q :: qs) f = flook qs f from if_neg e']
      exact ih
theorem FR.put {f : Str} {v : V} {d : Dat} (a : At K H v d) : ∀ {fs : List (Str × V)} {l : List (Str × Dat)}, FR K H fs l → FR K H (putF f v fs) (fput f d l)
  | _, _, .nil => .cons ⟨rfl, a⟩ .nil
  | _, _, .cons (a := p) (b := q) h t => by
    show FR K H (if p.1 = f then (p.1, v) :: _ else p :: putF f v _) (if q.1 = f then (q.1, d) :: _ else q :: fput f d _)
    by_cases e : p.1 = f
    · have e' : q.1 = f := h.1.symm.trans e
      rw [if_pos e, if_pos e']
      exact .cons ⟨h.1, a⟩ t
    · have e' : ¬ q.1 = f := fun z => e (h.1.trans z)
      rw [if_neg e, if_neg e']
      exact .cons h (FR.put a t)
theorem FR.len {fs : List (Str × V)} {l : List (Str × Dat)} (h : FR K H fs l) : fs.length = l.length := Paired.length h
end
def InsAt (K : PySem.W.Frag) (p C : Addr) (l : List (Str × Dat)) (H : Hp) : Prop := ∃ dx fs, H p = some (.ins C dx fs) ∧ FR K H fs l
theorem InsAt.off {K : PySem.W.Frag} {p C : Addr} {l : List (Str × Dat)} {A : List Addr} {H H' : Hp} (h : InsAt K p C l H) (hp : p ∉ A) (o : Off A H H') : InsAt K p C l H' := let ⟨dx, vs, a, b⟩ := h; ⟨dx, vs, o.at_ a hp, b.mono o⟩
theorem ins_shp (K : PySem.W.Frag) (p C : Addr) (l : List (Str × Dat)) : Shp p (InsAt K p C l) := ⟨fun ⟨_, _, a, _⟩ z => (by rw [a] at z; cases z), fun h hp o => h.off hp o⟩

section
variable {ι : Type} {K : PySem.W.Frag} {W : Wd ι} {i : ι} {Γ : Ctx} {P : ι → Dat → Prop} {Pl : ι → List Dat → Prop} {ta tb te : TE} {t u : TT} {d e : Dat}
/-- a new dict -/
def EvD (K : PySem.W.Frag) (W : Wd ι) (i : ι) (te : TE) (Γ : Ctx) (P : ι → List (Key × Dat) → Prop) : Prop :=
  ∀ H σ, W.I i H → Sls K H σ Γ → ∀ Q : VK, (∀ p H' j l, ¬ W.C p → Off W.A H H' → W.I j H' → DctAt K p l H' → P j l → Q (.ref p) H') → te σ H Q

/-! ### calls of the program's defs -/
def CallOk (K : PySem.W.Frag) (W : Wd ι) (i : ι) (sp : Sp) (ds : List Dat) (P : ι → Dat → Prop) : Prop :=
  ∀ H vs, W.I i H → AtL K H vs ds → ∀ Q : VK, (∀ v H' k d, Off W.A H H' → W.I k H' → At K H' v d → P k d → Q v H') → sp vs H Q E0
def CallL (K : PySem.W.Frag) (W : Wd ι) (i : ι) (sp : Sp) (ds : List Dat) (P : ι → List Dat → Prop) : Prop :=
  ∀ H vs, W.I i H → AtL K H vs ds → ∀ Q : VK, (∀ p H' k l, ¬ W.C p → Off W.A H H' → W.I k H' → LstAt K p l H' → P k l → Q (.ref p) H') → sp vs H Q E0
def CallD (K : PySem.W.Frag) (W : Wd ι) (i : ι) (sp : Sp) (ds : List Dat) (P : ι → List (Key × Dat) → Prop) : Prop :=
  ∀ H vs, W.I i H → AtL K H vs ds → ∀ Q : VK, (∀ p H' k l, ¬ W.C p → Off W.A H H' → W.I k H' → DctAt K p l H' → P k l → Q (.ref p) H') → sp vs H Q E0
theorem ev_call {sp : Sp} {tr : TA} (h : EvA K W i tr Γ fun j ds => CallOk K W j sp ds P) : Ev K W i (tCall sp [] E0 tr) Γ P := fun H σ I E Q q =>
  h H σ I E _ fun vs H1 j ds o1 I1 a1 p1 => by
    rw [List.append_nil]
    exact p1 H1 vs I1 a1 Q fun v H2 k d o2 I2 a2 p2 => q v H2 k d (o1.trans o2) I2 a2 p2
theorem el_call {sp : Sp} {tr : TA} (h : EvA K W i tr Γ fun j ds => CallL K W j sp ds Pl) : EvL K W i (tCall sp [] E0 tr) Γ Pl := fun H σ I E Q q =>
  h H σ I E _ fun vs H1 j ds o1 I1 a1 p1 => by
    rw [List.append_nil]
    exact p1 H1 vs I1 a1 Q fun v H2 k d np o2 I2 a2 p2 => q v H2 k d np (o1.trans o2) I2 a2 p2
theorem ed_call {sp : Sp} {tr : TA} {Pd : ι → List (Key × Dat) → Prop} (h : EvA K W i tr Γ fun j ds => CallD K W j sp ds Pd) : EvD K W i (tCall sp [] E0 tr) Γ Pd := fun H σ I E Q q =>
  h H σ I E _ fun vs H1 j ds o1 I1 a1 p1 => by
    rw [List.append_nil]
    exact p1 H1 vs I1 a1 Q fun v H2 k d np o2 I2 a2 p2 => q v H2 k d np (o1.trans o2) I2 a2 p2
theorem ev_meth {C : Addr} {m : Str} {sp : Sp} {tr : TA} (h : Ev K W i ta Γ fun j d => ∃ a l, d = .obj a ∧ (∀ {H : Hp}, W.I j H → InsAt K a C l H) ∧ flook l m = none ∧ EvA K W j tr Γ fun k ds => CallOk K W k sp (.obj a :: ds) P) :
    Ev K W i (tMeth C m sp [] E0 ta tr) Γ P := fun H σ I E Q q => h H σ I E _ fun v H1 j d o1 I1 a1 p1 => by
  obtain ⟨a, l, rfl, hl, hm, p⟩ := p1
  cases a1
  obtain ⟨dx, fs, e1, r⟩ := hl I1
  refine ⟨a, dx, fs, rfl, e1, ?_, ?_⟩
  · rcases r.look m with ⟨z, _⟩ | ⟨_, _, _, z, _⟩
    · exact z
    · rw [hm] at z; cases z
  · refine p H1 σ I1 (E.mono o1) _ fun vs H2 k ds o2 I2 a2 p2 => ?_
    rw [List.append_nil]
    exact p2 H2 _ I2 (.cons (.obj a) a2) Q fun v H3 k d o3 I3 a3 p3 => q v H3 k d (o1.trans (o2.trans o3)) I3 a3 p3
theorem ev_meth0 {C : Addr} {m : Str} {sp : Sp} (h : Ev K W i ta Γ fun j d => ∃ a l, d = .obj a ∧ (∀ {H : Hp}, W.I j H → InsAt K a C l H) ∧ flook l m = none ∧ CallOk K W j sp [.obj a] P) :
    Ev K W i (tMeth C m sp [] E0 ta tNil) Γ P := ev_meth (h.imp fun j d ⟨a, l, h1, h2, h3, h4⟩ => ⟨a, l, h1, h2, h3, ea_nil h4⟩)
/-- promises of defs that change nothing -/
def SpP (K : PySem.W.Frag) (pre : Hp → List Dat → Prop) (post : List Dat → Dat → Prop) : Sp := fun vs H Q _ => ∃ ds, AtL K H vs ds ∧ pre H ds ∧ ∀ v H' d, Same H H' → At K H' v d → post ds d → Q v H'
def SpL (K : PySem.W.Frag) (pre : Hp → List Dat → Prop) (post : List Dat → List Dat → Prop) : Sp := fun vs H Q _ => ∃ ds, AtL K H vs ds ∧ pre H ds ∧ ∀ p H' l, H p = none → Same H H' → LstAt K p l H' → post ds l → Q (.ref p) H'
def SpD (K : PySem.W.Frag) (pre : Hp → List Dat → Prop) (post : List Dat → List (Key × Dat) → Prop) : Sp := fun vs H Q _ => ∃ ds, AtL K H vs ds ∧ pre H ds ∧ ∀ p H' l, H p = none → Same H H' → DctAt K p l H' → post ds l → Q (.ref p) H'
theorem call_P {pre : Hp → List Dat → Prop} {post : List Dat → Dat → Prop} {ds : List Dat} (h : ∀ {H : Hp}, W.I i H → pre H ds) (q : ∀ d, post ds d → P i d) : CallOk K W i (SpP K pre post) ds P :=
  fun H vs I a Q k => ⟨ds, a, h I, fun v H' d s a' p => k v H' i d (Off.of_same s) (W.same I s) a' (q d p)⟩
theorem call_L {pre : Hp → List Dat → Prop} {post : List Dat → List Dat → Prop} {ds : List Dat} (h : ∀ {H : Hp}, W.I i H → pre H ds) (q : ∀ l, post ds l → Pl i l) : CallL K W i (SpL K pre post) ds Pl :=
  fun H vs I a Q k => ⟨ds, a, h I, fun p H' l np s a' z => k p H' i l (W.nc I np) (Off.of_same s) (W.same I s) a' (q l z)⟩
theorem call_D {pre : Hp → List Dat → Prop} {post : List Dat → List (Key × Dat) → Prop} {ds : List Dat} {Pd : ι → List (Key × Dat) → Prop} (h : ∀ {H : Hp}, W.I i H → pre H ds) (q : ∀ l, post ds l → Pd i l) : CallD K W i (SpD K pre post) ds Pd :=
  fun H vs I a Q k => ⟨ds, a, h I, fun p H' l np s a' z => k p H' i l (W.nc I np) (Off.of_same s) (W.same I s) a' (q l z)⟩

/-! ### built-ins -/
def rLen (K : PySem.W.Frag) : List V → Hp → VK → Prop := fun xs H Q => ∃ p ys, xs = [.ref p] ∧ (SqL K H p ys ∨ SqT K H p ys) ∧ Q (.int ys.length) H
def rLenS : List V → Hp → VK → Prop := fun xs H Q => ∃ z, xs = [.str z] ∧ z.length ≤ sizeLine ∧ Q (.int z.length) H
def rMax2 : List V → Hp → VK → Prop := fun xs H Q => ∃ i j, xs = [.int i, .int j] ∧ Q (.int (if j > i then j else i)) H
def rMin2 : List V → Hp → VK → Prop := fun xs H Q => ∃ i j, xs = [.int i, .int j] ∧ Q (.int (if j < i then j else i)) H
def rIntB : List V → Hp → VK → Prop := fun xs H Q => (∃ i, xs = [.int i] ∧ Q (.int i) H) ∨ ∃ k, xs = [.bl k] ∧ Q (.int (if k then 1 else 0)) H
def rAddS : R2 := fun x y H Q => ∃ i j, x = .str i ∧ y = .str j ∧ i.length + j.length ≤ sizeLine ∧ Q (.str (i ++ j)) H
def rInSg : R2 := fun x y H Q => ∃ (c : Nat) (z : Str), x = .str ⟨#[c]⟩ ∧ y = .str z ∧ Q (.bl (decide (c ∈ z.cps.toList))) H
theorem ev_lenT (h : Ev K W i ta Γ fun j d => ∃ ds, d = .tup ds ∧ P j (.int (ds.length : Int))) : Ev K W i (tCB (rLen K) (tCons ta tNil)) Γ P := fun H σ I E Q q =>
  h H σ I E _ fun v H1 j d o1 I1 a1 p1 => by
    obtain ⟨ds, rfl, p⟩ := p1
    obtain ⟨a, xs, rfl, hs, al⟩ := a1.tup_inv
    exact ⟨a, xs, rfl, .inr hs.sqT, q _ H1 j _ o1 I1 (.int _) (by rw [al.len]; exact p)⟩
theorem ev_lenL (h : Ev K W i ta Γ fun j d => ∃ a ds, d = .obj a ∧ (∀ {H : Hp}, W.I j H → LstAt K a ds H) ∧ P j (.int (ds.length : Int))) : Ev K W i (tCB (rLen K) (tCons ta tNil)) Γ P := fun H σ I E Q q =>
  h H σ I E _ fun v H1 j d o1 I1 a1 p1 => by
    obtain ⟨a, ds, rfl, hl, p⟩ := p1
    cases a1
    obtain ⟨vs, e, al⟩ := hl I1
    exact ⟨a, vs, rfl, .inl (SqL.of e), q _ H1 j _ o1 I1 (.int _) (by rw [al.len]; exact p)⟩
theorem ev_lenS (h : Ev K W i ta Γ fun j d => ∃ z : Str, d = .str z ∧ z.length ≤ 1000 ∧ P j (.int (z.length : Int))) : Ev K W i (tCB rLenS (tCons ta tNil)) Γ P := fun H σ I E Q q =>
  h H σ I E _ fun v H1 j d o1 I1 a1 p1 => by
    obtain ⟨z, rfl, hz, p⟩ := p1
    cases a1
    exact ⟨z, rfl, by rw [sizeLine_eq]; omega, q _ H1 j _ o1 I1 (.int _) p⟩
theorem ev_max2 (h : Ev K W i ta Γ fun j d => Ev K W j tb Γ fun k e => ∃ a b : Int, d = .int a ∧ e = .int b ∧ P k (.int (if b > a then b else a))) : Ev K W i (tCB rMax2 (tCons ta (tCons tb tNil))) Γ P := fun H σ I E Q q =>
  h H σ I E _ fun x H1 j d o1 I1 a1 p1 => p1 H1 σ I1 (E.mono o1) _ fun y H2 k e o2 I2 a2 p2 => by
    obtain ⟨a, b, rfl, rfl, p⟩ := p2
    cases a1; cases a2
    exact ⟨a, b, rfl, q _ H2 k _ (o1.trans o2) I2 (.int _) p⟩
theorem ev_min2 (h : Ev K W i ta Γ fun j d => Ev K W j tb Γ fun k e => ∃ a b : Int, d = .int a ∧ e = .int b ∧ P k (.int (if b < a then b else a))) : Ev K W i (tCB rMin2 (tCons ta (tCons tb tNil))) Γ P := fun H σ I E Q q =>
  h H σ I E _ fun x H1 j d o1 I1 a1 p1 => p1 H1 σ I1 (E.mono o1) _ fun y H2 k e o2 I2 a2 p2 => by
    obtain ⟨a, b, rfl, rfl, p⟩ := p2
    cases a1; cases a2
    exact ⟨a, b, rfl, q _ H2 k _ (o1.trans o2) I2 (.int _) p⟩
theorem ev_intB (h : Ev K W i ta Γ fun j d => ∃ b : Bool, d = .bl b ∧ P j (.int (if b then 1 else 0))) : Ev K W i (tCB rIntB (tCons ta tNil)) Γ P := fun H σ I E Q q =>
  h H σ I E _ fun x H1 j d o1 I1 a1 p1 => by
    obtain ⟨b, rfl, p⟩ := p1
    cases a1
    exact .inr ⟨b, rfl, q _ H1 j _ o1 I1 (.int _) p⟩
theorem ev_sum (h : EvL K W i ta Γ fun j ds => ∃ ns : List Int, ds = ns.map Dat.int ∧ P j (.int ns.sum)) : Ev K W i (tCB (rSum K) (tCons ta tNil)) Γ P := fun H σ I E Q q =>
  h H σ I E _ fun p H1 j ds np o1 I1 a1 p1 => by
    obtain ⟨ns, rfl, p⟩ := p1
    obtain ⟨vs, e, al⟩ := a1
    have := al.ints
    subst this
    exact ⟨_, ns, rfl, SqL.of e, q _ H1 j _ o1 I1 (.int _) p⟩
theorem ev_any (h : EvL K W i ta Γ fun j ds => ∃ ns : List Bool, ds = ns.map Dat.bl ∧ P j (.bl (ns.any id))) : Ev K W i (tCB (rAny K) (tCons ta tNil)) Γ P := fun H σ I E Q q =>
  h H σ I E _ fun p H1 j ds np o1 I1 a1 p1 => by
    obtain ⟨ns, rfl, p⟩ := p1
    obtain ⟨vs, e, al⟩ := a1
    have := al.bls
    subst this
    exact ⟨_, ns, rfl, SqL.of e, q _ H1 j _ o1 I1 (.bl _) p⟩
theorem ev_all (h : EvL K W i ta Γ fun j ds => ∃ ns : List Bool, ds = ns.map Dat.bl ∧ P j (.bl (ns.all id))) : Ev K W i (tCB (rAll K) (tCons ta tNil)) Γ P := fun H σ I E Q q =>
  h H σ I E _ fun p H1 j ds np o1 I1 a1 p1 => by
    obtain ⟨ns, rfl, p⟩ := p1
    obtain ⟨vs, e, al⟩ := a1
    have := al.bls
    subst this
    exact ⟨_, ns, rfl, SqL.of e, q _ H1 j _ o1 I1 (.bl _) p⟩
theorem ev_minL (h : EvL K W i ta Γ fun j ds => ∃ ns : List Int, ds = ns.map Dat.int ∧ 0 < ns.length ∧ ∀ m, m ∈ ns → P j (.int m)) : Ev K W i (tCB (rMin K) (tCons ta tNil)) Γ P := fun H σ I E Q q =>
  h H σ I E _ fun p H1 j ds np o1 I1 a1 p1 => by
    obtain ⟨ns, rfl, h0, p⟩ := p1
    obtain ⟨vs, e, al⟩ := a1
    have := al.ints
    subst this
    exact ⟨_, ns, rfl, SqL.of e, h0, fun m hm _ => q _ H1 j _ o1 I1 (.int _) (p m hm)⟩
theorem ev_tupOf (h : EvL K W i ta Γ fun j ds => P j (.tup ds)) : Ev K W i (tCB (rTupOf K) (tCons ta tNil)) Γ P := fun H σ I E Q q =>
  h H σ I E _ fun p H1 j ds np o1 I1 a1 p1 => by
    obtain ⟨vs, e, al⟩ := a1
    exact ⟨_, vs, rfl, SqL.of e, fun r o hr dn => q _ _ j _ (o1.trans (Off.new hr)) (W.new I1 hr) (.tup (SqF.of upd_same dn) (al.mono (Off.new (A := []) hr))) p1⟩
/-- tuple(a list that stands) -/
theorem ev_tupOfL (h : Ev K W i ta Γ fun j d => ∃ a ds, d = .obj a ∧ (∀ {H : Hp}, W.I j H → LstAt K a ds H) ∧ P j (.tup ds)) : Ev K W i (tCB (rTupOf K) (tCons ta tNil)) Γ P := fun H σ I E Q q =>
  h H σ I E _ fun v H1 j d o1 I1 a1 p1 => by
    obtain ⟨a, ds, rfl, hl, p⟩ := p1
    cases a1
    obtain ⟨vs, e, al⟩ := hl I1
    exact ⟨_, vs, rfl, SqL.of e, fun r o hr dn => q _ _ j _ (o1.trans (Off.new hr)) (W.new I1 hr) (.tup (SqF.of upd_same dn) (al.mono (Off.new (A := []) hr))) p⟩
theorem op_addS {a b : Str} (hz : a.length + b.length ≤ 1000) (p : P i (.str (a ++ b))) : Op K W i rAddS (.str a) (.str b) P := fun H x y I ax ay Q q => by
  cases ax; cases ay
  exact ⟨a, b, rfl, rfl, by rw [sizeLine_eq]; omega, q _ H i _ Off.refl I (.str _) p⟩
theorem op_inSg {c : Nat} {z : Str} (p : P i (.bl (decide (c ∈ z.cps.toList)))) : Op K W i rInSg (.str ⟨#[c]⟩) (.str z) P := fun H x y I ax ay Q q => by
  cases ax; cases ay
  exact ⟨c, z, rfl, rfl, q _ H i _ Off.refl I (.bl _) p⟩
def Dat.isNon : Dat → Bool
  | .non => true
  | _ => false
theorem op_isN (p : P i (.bl d.isNon)) : Op K W i (fun x y H Q => y = .non ∧ Q (.bl (decide (x = .non))) H) d .non P := fun H x y I ax ay Q q => by
  cases ay
  refine ⟨rfl, q _ H i _ Off.refl I (.bl _) ?_⟩
  have e : decide (x = V.non) = d.isNon := by cases ax <;> simp [Dat.isNon]
  rw [e]; exact p
theorem op_notN (p : P i (.bl (!d.isNon))) : Op K W i (fun x y H Q => y = .non ∧ Q (.bl (!decide (x = .non))) H) d .non P := fun H x y I ax ay Q q => by
  cases ay
  refine ⟨rfl, q _ H i _ Off.refl I (.bl _) ?_⟩
  have e : decide (x = V.non) = d.isNon := by cases ax <;> simp [Dat.isNon]
  rw [e]; exact p
/-- an item of a list that stands -/
theorem op_ixL {a : Addr} {ds : List Dat} {j : Int} {f : Dat} (hl : ∀ {H : Hp}, W.I i H → LstAt K a ds H) (h : atI ds j = some f) (p : P i f) : Op K W i (rIxL K) (.obj a) (.int j) P := fun H x y I ax ay Q q => by
  cases ax; cases ay
  obtain ⟨vs, e, al⟩ := hl I
  have hlen := al.len
  unfold atI at h
  rw [← hlen] at h
  cases e1 : ixN vs.length j with
  | none => rw [e1] at h; cases h
  | some k =>
    rw [e1] at h
    obtain ⟨v, h1, h2⟩ := al.get (show ds[k]? = some f from h)
    refine ⟨a, vs, j, v, rfl, rfl, SqL.of e, ?_, q v H i f Off.refl I h2 p⟩
    unfold atI
    rw [e1]
    exact h1
/-- an item of a new list -/
theorem ev_ixN (h : EvL K W i ta Γ fun j ds => Ev K W j tb Γ fun k e => ∃ n f, e = .int n ∧ atI ds n = some f ∧ P k f) : Ev K W i (tOp (rIxL K) ta tb) Γ P := fun H σ I E Q q =>
  h H σ I E _ fun p H1 j ds np o1 I1 a1 p1 => p1 H1 σ I1 (E.mono o1) _ fun y H2 k e o2 I2 a2 p2 => by
    obtain ⟨n, f, rfl, hn, pf⟩ := p2
    cases a2
    obtain ⟨vs, e, al⟩ := a1.off (W.na np) o2
    have hlen := al.len
    unfold atI at hn
    rw [← hlen] at hn
    cases e1 : ixN vs.length n with
    | none => rw [e1] at hn; cases hn
    | some m =>
      rw [e1] at hn
      obtain ⟨v, h1, h2⟩ := al.get (show ds[m]? = some f from hn)
      refine ⟨p, vs, n, v, rfl, rfl, SqL.of e, ?_, q v H2 k f (o1.trans o2) I2 h2 pf⟩
      unfold atI
      rw [e1]
      exact h1

/-! ### dicts -/
theorem ev_dget {td ty : TE} (h : Ev K W i td Γ fun j d => Ev K W j ty Γ fun k e => ∃ a l key f, d = .obj a ∧ (∀ {H : Hp}, W.I k H → DctAt K a l H) ∧ (e = .str key ∧ dlook l (.inr key) = some f ∧ P k f)) : Ev K W i (tDGet td ty) Γ P := fun H σ I E Q q =>
  h H σ I E _ fun x H1 j d o1 I1 a1 p1 => p1 H1 σ I1 (E.mono o1) _ fun y H2 k e o2 I2 a2 p2 => by
    obtain ⟨a, l, key, f, rfl, hl, rfl, hk, p⟩ := p2
    cases a1; cases a2
    obtain ⟨kvs, e1, r⟩ := hl I2
    rcases r.look (.inr key) with ⟨_, z⟩ | ⟨v, d, z1, z2, z3⟩
    · rw [hk] at z; cases z
    · rw [hk] at z2
      cases z2
      refine ⟨a, v, rfl, ?_, q v H2 k f (o1.trans o2) I2 z3 p⟩
      have := DGet.k (k := (.inr key : Key)) e1
      rw [z1] at this
      exact this
theorem ev_dgetI {td ty : TE} (h : Ev K W i td Γ fun j d => Ev K W j ty Γ fun k e => ∃ a l n f, d = .obj a ∧ (∀ {H : Hp}, W.I k H → DctAt K a l H) ∧ (e = .int n ∧ dlook l (.inl n) = some f ∧ P k f)) : Ev K W i (tDGet td ty) Γ P := fun H σ I E Q q =>
  h H σ I E _ fun x H1 j d o1 I1 a1 p1 => p1 H1 σ I1 (E.mono o1) _ fun y H2 k e o2 I2 a2 p2 => by
    obtain ⟨a, l, key, f, rfl, hl, rfl, hk, p⟩ := p2
    cases a1; cases a2
    obtain ⟨kvs, e1, r⟩ := hl I2
    rcases r.look (.inl key) with ⟨_, z⟩ | ⟨v, d, z1, z2, z3⟩
    · rw [hk] at z; cases z
    · rw [hk] at z2
      cases z2
      refine ⟨a, v, rfl, ?_, q v H2 k f (o1.trans o2) I2 z3 p⟩
      have := DGet.k (k := (.inl key : Key)) e1
      rw [z1] at this
      exact this
/-- a new dict asked at once -/
theorem ev_dgetN {td ty : TE} (h : EvD K W i td Γ fun j l => Ev K W j ty Γ fun k e => ∃ key f, e = .str key ∧ dlook l (.inr key) = some f ∧ P k f) : Ev K W i (tDGet td ty) Γ P := fun H σ I E Q q =>
  h H σ I E _ fun p H1 j l np o1 I1 a1 p1 => p1 H1 σ I1 (E.mono o1) _ fun y H2 k e o2 I2 a2 p2 => by
    obtain ⟨key, f, rfl, hk, pf⟩ := p2
    cases a2
    obtain ⟨kvs, e1, r⟩ := a1.off (W.na np) o2
    rcases r.look (.inr key) with ⟨_, z⟩ | ⟨v, d, z1, z2, z3⟩
    · rw [hk] at z; cases z
    · rw [hk] at z2
      cases z2
      refine ⟨p, v, rfl, ?_, q v H2 k f (o1.trans o2) I2 z3 pf⟩
      have := DGet.k (k := (.inr key : Key)) e1
      rw [z1] at this
      exact this
/-- the key's place -/
def Dat.key : Dat → Option Key
  | .int i => some (.inl i)
  | .str x => some (.inr x)
  | _ => none
theorem At.key {H : Hp} {v : V} {k : Key} (a : At K H v d) (h : d.key = some k) : v = kV k := by
  cases a <;> first | (cases h; rfl) | cases h
theorem et_din {td ty : TE} {Pb : ι → Bool → Prop} (h : Ev K W i ty Γ fun j e => Ev K W j td Γ fun k d => ∃ a l key, d = .obj a ∧ (∀ {H : Hp}, W.I k H → DctAt K a l H) ∧ e.key = some key ∧ Pb k (dlook l key).isSome) : EvT K W i (tB (tDIn ty td)) Γ Pb := fun H σ I E Q q =>
  h H σ I E _ fun x H1 j d o1 I1 a1 p1 => p1 H1 σ I1 (E.mono o1) _ fun y H2 k e o2 I2 a2 p2 => by
    obtain ⟨a, l, key, rfl, hl, hk, p⟩ := p2
    cases a2
    obtain ⟨kvs, e1, r⟩ := hl I2
    have := a1.key hk
    subst this
    refine ⟨a, _, rfl, DGet.k (k := key) e1, _, rfl, q _ H2 k (o1.trans o2) I2 ?_⟩
    rcases r.look key with ⟨z1, z2⟩ | ⟨v, d, z1, z2, _⟩
    · rw [z1]; rw [z2] at p; exact p
    · rw [z1]; rw [z2] at p; exact p
theorem et_dnin {td ty : TE} {Pb : ι → Bool → Prop} (h : Ev K W i ty Γ fun j e => Ev K W j td Γ fun k d => ∃ a l key, d = .obj a ∧ (∀ {H : Hp}, W.I k H → DctAt K a l H) ∧ e.key = some key ∧ Pb k (!(dlook l key).isSome)) : EvT K W i (tB (tDNotIn ty td)) Γ Pb := fun H σ I E Q q =>
  h H σ I E _ fun x H1 j d o1 I1 a1 p1 => p1 H1 σ I1 (E.mono o1) _ fun y H2 k e o2 I2 a2 p2 => by
    obtain ⟨a, l, key, rfl, hl, hk, p⟩ := p2
    cases a2
    obtain ⟨kvs, e1, r⟩ := hl I2
    have := a1.key hk
    subst this
    refine ⟨a, _, rfl, DGet.k (k := key) e1, _, rfl, q _ H2 k (o1.trans o2) I2 ?_⟩
    rcases r.look key with ⟨z1, z2⟩ | ⟨v, d, z1, z2, _⟩
    · rw [z1]; rw [z2] at p; exact p
    · rw [z1]; rw [z2] at p; exact p
/-! ### instances -/
theorem ev_fld {f : Str} (h : Ev K W i ta Γ fun j d => ∃ a C l x, d = .obj a ∧ (∀ {H : Hp}, W.I j H → InsAt K a C l H) ∧ Cls K C ∧ NoAttr K C f ∧ flook l f = some x ∧ P j x) : Ev K W i (tFld K ta f) Γ P := fun H σ I E Q q =>
  h H σ I E _ fun v H1 j d o1 I1 a1 p1 => by
    obtain ⟨a, C, l, x, rfl, hl, hc, hn, hx, p⟩ := p1
    cases a1
    obtain ⟨dx, fs, e1, r⟩ := hl I1
    rcases r.look f with ⟨_, z⟩ | ⟨v, d, z1, z2, z3⟩
    · rw [hx] at z; cases z
    · rw [hx] at z2
      cases z2
      exact ⟨a, C, dx, fs, v, rfl, e1, hc, hn, z1, q v H1 j x o1 I1 z3 p⟩
end
end Lb
/-! text LbE -/
/-! Statements over private objects; the rules by names, with a plain K. -/
namespace Lb
open PySem L2
section
variable {ι : Type} {K : PySem.W.Frag} {W : Wd ι} {i : ι} {Γ : Ctx} {P : ι → Dat → Prop} {ta tb te : TE} {D : Ends}
theorem nx_setL {k : Nat} (h : EvL K W i te Γ fun j ds => ∀ p np, Nx K (W.own p (LstAt K p ds) (lst_shp K p ds) np) j (Γ.set k (some (.obj p))) D.nx) : Nx K W i Γ (tAsg te (gName k) D) := fun H σ I E =>
  h H σ I E _ fun p H1 j ds np o1 I1 a1 p1 => p1 p np H1 _ ⟨I1, a1⟩ ((E.mono o1).set k (.obj p))
theorem nx_setD {k : Nat} (h : EvD K W i te Γ fun j l => ∀ p np, Nx K (W.own p (DctAt K p l) (dct_shp K p l) np) j (Γ.set k (some (.obj p))) D.nx) : Nx K W i Γ (tAsg te (gName k) D) := fun H σ I E =>
  h H σ I E _ fun p H1 j ds np o1 I1 a1 p1 => p1 p np H1 _ ⟨I1, a1⟩ ((E.mono o1).set k (.obj p))
theorem rt_L {g : VK} {j : ι} {a : Addr} (h : ∀ H, W.I j H → g (.ref a) H) : Rt K W j (.obj a) g := fun H v I a => by
  cases a
  exact h H I
theorem ed_new {Pd : ι → List (Key × Dat) → Prop} (h : Pd i []) : EvD K W i tDNewK Γ Pd := fun H σ I E Q q p hp => q p _ i [] (W.nc I hp) (Off.new hp) (W.new I hp) ⟨[], upd_same, .nil⟩ h
/-- x.append(e), x a list of the body's own -/
theorem nx_append {p : Addr} {acc : List Dat} {Wn : (φ' : Hp → Prop) → Shp p φ' → Wd ι} (o : OwnAt W p (LstAt K p acc) Wn) (ho : Ev K W i ta Γ fun j d => j = i ∧ d = .obj p ∧ acc.length ≤ 1000000 ∧ Ev K W i te Γ fun k e => Nx K (Wn (LstAt K p (acc ++ [e])) (lst_shp K p _)) k Γ D.nx) :
    Nx K W i Γ (tDrop (tBM K "list" rAppend ta (tCons te tNil)) D) := fun H σ I E => ho H σ I E _ fun x H1 j d o1 I1 a1 p1 => by
  obtain ⟨rfl, rfl, hz, p2⟩ := p1
  cases a1
  obtain ⟨vs1, e1, _⟩ := o.get I1
  refine ⟨.inl ⟨rfl, vs1, SqL.of e1⟩, p2 H1 σ I1 (E.mono o1) _ fun v H2 k e o2 I2 a2 p3 => ?_⟩
  obtain ⟨vs, e2, al⟩ := o.get I2
  have f : Off [p] H2 (upd H2 p (.lst (vs ++ [v]))) := Off.put (by simp) e2 fun z => z
  exact ⟨p, vs, v, rfl, rfl, e2, by rw [al.len, sizeLine_eq]; omega, p3 _ σ (o.put (lst_shp K p _) I2 f ⟨_, upd_same, (AtL.append al (.cons a2 .nil)).mono f⟩) ((E.mono (o1.trans o2)).mono f)⟩
/-- d[k] = e, d a dict of the body's own -/
theorem nx_dput {p : Addr} {l : List (Key × Dat)} {td ty tv : TE} {Wn : (φ' : Hp → Prop) → Shp p φ' → Wd ι} (o : OwnAt W p (DctAt K p l) Wn)
    (h : Ev K W i tv Γ fun j e => Ev K W j td Γ fun k d => Ev K W k ty Γ fun m y => ∃ key, d = .obj p ∧ y.key = some key ∧ l.length ≤ 1000000 ∧ Nx K (Wn (DctAt K p (dput l key e)) (dct_shp K p _)) m Γ D.nx) : Nx K W i Γ (sDPut td ty tv D) := fun H σ I E =>
  h H σ I E _ fun v H1 j e o1 I1 a1 p1 => p1 H1 σ I1 (E.mono o1) _ fun x H2 k d o2 I2 a2 p2 => p2 H2 σ I2 (E.mono (o1.trans o2)) _ fun y H3 m yd o3 I3 a3 p3 => by
    obtain ⟨key, rfl, hk, hz, n⟩ := p3
    cases a2
    have := a3.key hk
    subst this
    obtain ⟨kvs, e1, r⟩ := o.get I3
    have f : Off [p] H3 (upd H3 p (.dK (putK kvs key v))) := Off.put (by simp) e1 fun z => z
    exact ⟨p, _, rfl, DPut.k (k := key) e1 (by rw [r.len, sizeLine_eq]; omega), n _ σ (o.put (dct_shp K p _) I3 f ⟨_, upd_same, (r.put (a1.mono (o2.trans o3))).mono f⟩) ((E.mono (o1.trans (o2.trans o3))).mono f)⟩
/-- x.pop() as a statement -/
theorem nx_pop {p : Addr} {acc : List Dat} {d0 : Dat} {Wn : (φ' : Hp → Prop) → Shp p φ' → Wd ι} (o : OwnAt W p (LstAt K p (acc ++ [d0])) Wn) (ho : Ev K W i ta Γ fun j d => d = .obj p ∧ Nx K (Wn (LstAt K p acc) (lst_shp K p _)) j Γ D.nx) :
    Nx K W i Γ (tDrop (tBM0 K "list" rPop ta) D) := fun H σ I E => ho H σ I E _ fun x H1 j d o1 I1 a1 p1 => by
  obtain ⟨rfl, n⟩ := p1
  cases a1
  obtain ⟨vs, e1, al⟩ := o.get I1
  have hl := al.len
  rw [List.length_append, List.length_singleton] at hl
  obtain ⟨v, hv, _⟩ := al.get (i := acc.length) (d := d0) (by simp)
  have f : Off [p] H1 (upd H1 p (.lst vs.dropLast)) := Off.put (by simp) e1 fun z => z
  refine ⟨.inl ⟨rfl, vs, SqL.of e1⟩, p, vs, v, rfl, rfl, e1, by rw [hl]; exact hv, n _ σ (o.put (lst_shp K p _) I1 f ⟨_, upd_same, ?_⟩) ((E.mono o1).mono f)⟩
  have e2 : vs.dropLast = vs.take acc.length := by rw [List.dropLast_eq_take, hl]; rfl
  have := al.take acc.length
  rw [List.take_left] at this
  have this' : AtL K H1 vs.dropLast acc := by rw [e2]; exact this
  exact this'.mono f
theorem nx_raise {ts : TS} (h : False) : Nx K W i Γ (ts D) := h.elim
end

/-! ### the rules by names -/
section
variable {X : Cx} {K : PySem.W.Frag} {a b : Expr}
theorem k_cat (K : PySem.W.Frag) (h : X.K = K := by rfl) : OpR X (binaryOp .Add) (rCatF K) := by subst h; exact op_catF
theorem k_rep (K : PySem.W.Frag) (h : X.K = K := by rfl) : OpR X (binaryOp .Mult) (rRepF K) := by subst h; exact op_repF
theorem k_eqD (K : PySem.W.Frag) (hu : X.A.units + 64 < cLine) (h : X.K = K := by rfl) : OpR X (compareOp .Eq) (rEqD K) := by subst h; exact L2.op_eqD hu
theorem k_neD (K : PySem.W.Frag) (hu : X.A.units + 64 < cLine) (h : X.K = K := by rfl) : OpR X (compareOp .NotEq) (rNeD K) := by subst h; exact L2.op_neD hu
theorem k_in (K : PySem.W.Frag) (h : X.K = K := by rfl) : OpR X (compareOp .In) (rIn K false) := by subst h; exact op_in_seq
theorem k_nin (K : PySem.W.Frag) (h : X.K = K := by rfl) : OpR X (compareOp .NotIn) (rIn K true) := by subst h; exact op_notIn_seq
theorem k_ixT (K : PySem.W.Frag) (h : X.K = K := by rfl) : IxR X (rIxT K) := by subst h; exact ix_tup
theorem k_ixL (K : PySem.W.Frag) (h : X.K = K := by rfl) : IxR X (rIxL K) := by subst h; exact ix_list
theorem k_slT (K : PySem.W.Frag) (h : X.K = K := by rfl) : SlR X (rSlF K) := by subst h; exact sl_tupF
theorem k_slL (K : PySem.W.Frag) (h : X.K = K := by rfl) : SlR X (rSlL K) := by subst h; exact sl_list
theorem k_len (K : PySem.W.Frag) (h : X.K = K := by rfl) : CallR X (.builtin "len") (rLen K) := by subst h; exact call_len_seq
theorem k_lenS : CallR X (.builtin "len") rLenS := call_len_str
theorem k_max (hc : X.calm = true) : CallR X (.builtin "max") rMax2 := call_max2 hc
theorem k_min (hc : X.calm = true) : CallR X (.builtin "min") rMin2 := call_min2 hc
theorem k_intB : CallR X (.type "int") rIntB := call_int1
theorem k_sum (K : PySem.W.Frag) (hc : X.calm = true) (h : X.K = K := by rfl) : CallR X (.builtin "sum") (rSum K) := by subst h; exact cr_sum hc
theorem k_any (K : PySem.W.Frag) (hc : X.calm = true) (h : X.K = K := by rfl) : CallR X (.builtin "any") (rAny K) := by subst h; exact cr_any hc
theorem k_all (K : PySem.W.Frag) (hc : X.calm = true) (h : X.K = K := by rfl) : CallR X (.builtin "all") (rAll K) := by subst h; exact cr_all hc
theorem k_minL (K : PySem.W.Frag) (hc : X.calm = true) (h : X.K = K := by rfl) : CallR X (.builtin "min") (rMin K) := by subst h; exact cr_min hc
theorem k_tupOf (K : PySem.W.Frag) (h : X.K = K := by rfl) : CallR X (.type "tuple") (rTupOf K) := by subst h; exact c_tupOf
theorem k_dictT (K : PySem.W.Frag) (hc : X.calm = true) (h : X.K = K := by rfl) : CallR X (.type "dict") (rDictT K) := by subst h; exact c_dictT hc
theorem k_addS : OpR X (binaryOp .Add) rAddS := op_add_str
theorem k_inSg : OpR X (compareOp .In) rInSg := op_in_sign
variable {ta tb te tl : TE} {t : TA} {f : Str} {pos apos cpos : Pos} {tg l e o : Expr} {es : List Expr}
theorem k_fld (K : PySem.W.Frag) (he : PE X e ta) (h : X.K = K := by rfl) (hb : attributeBase e f X.env (eval e X.env) = eval e X.env := by rfl) : PE X (.Attribute e f pos) (tFld K ta f) := by subst h; exact pe_fld he hb
theorem k_forT (K : PySem.W.Frag) (hl : PE X l tl) (h : X.K = K := by rfl) : PI X tg l (iTup K tl) := by subst h; exact pi_tup hl
theorem k_forL (K : PySem.W.Frag) (hl : PE X l tl) (h : X.K = K := by rfl) : PI X tg l (iList K tl) := by subst h; exact pi_list hl
theorem k_tup {k n : Nat} {ts : TGs} (K : PySem.W.Frag) (hc : X.calm = true) (h : PGs X es ts) (hK : X.K = K := by rfl) (hn : (assignEach es X.env).length = n := by rfl) (hst : (assignEach es X.env).findIdx? (·.1) = none := by rfl) : PG X (.Tuple es k pos) (gTup K n ts) := by subst hK; exact pg_tup hc h hn hst
theorem k_gfld (K : PySem.W.Frag) (ho : PE X o ta) (hK : X.K = K := by rfl) (ha : ∀ v, assign (.Attribute o f pos) X.env v = (do
      let ov ← holding [v] (eval o X.env)
      standAt pos.atName
      holding [v, ov] (setAttr ov f v)
      release [v, ov] []) := by intro _; rfl) : PG X (.Attribute o f pos) (gFld K ta f) := by subst hK; exact pg_fld ho ha
theorem k_sfld (K : PySem.W.Frag) {value : Expr} {tv : TE} {pos' : Pos} (ha : PE X o ta) (hv : PE X value tv) (hK : X.K = K := by rfl) (hs : swapsWith value (some (.Attribute o f pos')) pos.line X.env = pure false := by rfl) : PS X (.Assign [.Attribute o f pos'] value pos) (sFld K ta tv f) := by subst hK; exact ps_fld ha hv hs
theorem k_sfldaug (K : PySem.W.Frag) {value : Expr} {tv : TE} {tpos : Pos} {op : Operator} {rd : V → V → Hp → VK → Prop} (ha : PE X o ta) (hv : PE X value tv) (hop : InOp X op rd) (hK : X.K = K := by rfl) : PS X (.AugAssign (.Attribute o f tpos) op value pos) (sFldAug K ta tv rd f) := by subst hK; exact ps_fldaug ha hv hop
theorem k_append (K : PySem.W.Frag) (ho : PE X o ta) (he : PE X e te) (hK : X.K = K := by rfl)
    (hbase : attributeBase o "append" X.env (eval o X.env) = eval o X.env := by rfl)
    (hfew : ((backTo cpos (starEach [e] X.env)).all (fun x => !x.1) && (backToKw cpos (keywordEach [] X.env)).all (fun x => x.1.isSome)
      && decide (([e] : List Expr).length + ([] : List Keyword).length + (if ([] : List Keyword).isEmpty then 0 else 1) < 30)) = true := by rfl)
    (hline : (apos.endLine == cpos.line) = true := by rfl) (hs : starEach [e] X.env = (false, eval e X.env) :: starEach [] X.env := by rfl) : PE X (.Call (.Attribute o "append" apos) [e] [] cpos) (tBM K "list" rAppend ta (tCons te tNil)) := by
  subst hK
  exact pe_bm PySem.F.plainAttrs_list PySem.F.slot_list_append PySem.F.type_list_append mt_append ho (pa_cons he pa_nil hs) hbase hfew hline hs rfl
end
end Lb
/-! text LbF -/
/-! The rules by names: calls, methods, instances. -/
namespace Lb
open PySem L2
/-- one value, one keyword's value -/
def kwG {α : Type} : List α → List α → List α
  | [a], [b] => [a, b]
  | _, _ => []
section
variable (P : Program) (w : World) (K : PySem.W.Frag) (mg : Str → Option Value) (base : Heap)
/-- a def by its name, with its promise -/
structure Cl (k : Nat) (x : Str) (sp : Sp) : Prop where
  ex : ∃ (f : Addr) (fd : FuncData) (ps : List Str), FnOk P w K mg base CX0 k f fd ps sp ∧ mg x = some (.ref f) ∧ PySem.W.keepIn K (.ref f) = true ∧ Binds K fd ps []
/-- with one default behind, a none -/
structure ClN (k : Nat) (x : Str) (sp : Sp) : Prop where
  ex : ∃ (f : Addr) (fd : FuncData) (ps : List Str) (ds : List Value), FnOk P w K mg base CX0 k f fd ps sp ∧ mg x = some (.ref f) ∧ PySem.W.keepIn K (.ref f) = true ∧ Binds K fd ps ds ∧ Vals [.non] ds
/-- one value, one keyword -/
structure ClK (k : Nat) (x : Str) (ks : List Str) (sp : Sp) : Prop where
  ex : ∃ (f : Addr) (fd : FuncData) (ps : List Str), FnOk P w K mg base CX0 k f fd ps sp ∧ mg x = some (.ref f) ∧ PySem.W.keepIn K (.ref f) = true ∧ KBinds K fd ps ks kwG kwG
/-- a method of a class -/
structure Ml (k : Nat) (C : Addr) (m : Str) (sp : Sp) : Prop where
  ex : ∃ (f : Addr) (fd : FuncData) (ps : List Str), FnOk P w K mg base CX0 k f fd ps sp ∧ Meth K C m f ∧ Binds K fd ps []
  cls : Cls K C
/-- a class, made -/
structure Mkl (k : Nat) (x : Str) (C : Addr) (sp : Sp) : Prop where
  ex : ∃ (f : Addr) (fd : FuncData) (ps : List Str), FnOk P w K mg base CX0 k f fd ps sp ∧ Mk K C f ∧ Binds K fd ps []
  mg : mg x = some (.ref C)
end
section
variable {X : Cx} {K : PySem.W.Frag} {k j : Nat} {x m f : Str} {C : Addr} {sp : Sp} {pos p apos cpos tpos kpos : Pos} {e o : Expr} {es : List Expr} {kws : List Keyword} {t tk : TA} {ta tb te tl : TE} {P : Program} {w : World} {mg : Str → Option Value} {base : Heap}
theorem k_call (c : Cl X.prog X.w X.K X.mg X.base k x sp) (hr : Room k X.A) (ha : PA X (e :: es) t) (hg : Gl X x := by rfl) (hdb : (x == ("__debug__" : Str)) = false := by decide)
    (he : starEach (e :: es) X.env = (false, eval e X.env) :: starEach es X.env := by rfl) (hpl : (backTo pos (starEach es X.env)).any (·.1) = false := by rfl) : PE X (.Call (.Name x p) (e :: es) [] pos) (tCall sp [] E0 t) := by
  obtain ⟨f, fd, ps, F, m, kp, b⟩ := c.ex
  exact pe_call F hr hg m kp b .nil pass0 ha hdb he hpl
theorem k_callN (c : ClN X.prog X.w X.K X.mg X.base k x sp) (hr : Room k X.A) (ha : PA X (e :: es) t) (hg : Gl X x := by rfl) (hdb : (x == ("__debug__" : Str)) = false := by decide)
    (he : starEach (e :: es) X.env = (false, eval e X.env) :: starEach es X.env := by rfl) (hpl : (backTo pos (starEach es X.env)).any (·.1) = false := by rfl) : PE X (.Call (.Name x p) (e :: es) [] pos) (tCall sp [.non] E0 t) := by
  obtain ⟨f, fd, ps, ds, F, m, kp, b, v⟩ := c.ex
  exact pe_call F hr hg m kp b v pass0 ha hdb he hpl
theorem k_callK {ks : List Str} (c : ClK X.prog X.w X.K X.mg X.base k x ks sp) (hr : Room k X.A) (ha : PA X (e :: es) t) (hkw : PK X kws tk) (hg : Gl X x := by rfl) (hall : (backToKw pos (keywordEach kws X.env)).all (·.1.isSome) = true := by rfl) (hks : (backToKw pos (keywordEach kws X.env)).filterMap (·.1) = ks := by rfl)
    (hdb : (x == ("__debug__" : Str)) = false := by decide) (he : starEach (e :: es) X.env = (false, eval e X.env) :: starEach es X.env := by rfl)
    (hpl : ((backTo pos (starEach (e :: es) X.env)).any (·.1) || (backToKw pos (keywordEach kws X.env)).any (·.1.isNone)) = false := by rfl) : PE X (.Call (.Name x p) (e :: es) kws pos) (tCallK sp kwG E0 t tk) := by
  obtain ⟨f, fd, ps, F, m, kp, b⟩ := c.ex
  exact pe_callK F hr hg m kp b pass0 ha hkw hall hks hdb he hpl
theorem k_meth {pl : Sem Bool} (ho : PE X o ta) (q : Ml X.prog X.w X.K X.mg X.base k C m sp) (hr : Room k X.A) (ha : PA X (e :: es) t) (hpl : (backTo pos (starEach es X.env)).any (·.1) = false := by rfl)
    (he : starEach (e :: es) X.env = (false, eval e X.env) :: starEach es X.env := by rfl)
    (ht : eval (.Call (.Attribute o m apos) (e :: es) [] pos) X.env = (do
      let ov ← eval o X.env
      standAt apos.atName
      let (f, first) ← holding [ov] (getMethod ov m pl)
      callWith pos f first (backTo pos (starEach (e :: es) X.env)) (backToKw pos (keywordEach [] X.env))) := by rfl) : PE X (.Call (.Attribute o m apos) (e :: es) [] pos) (tMeth C m sp [] E0 ta t) := by
  obtain ⟨f, fd, ps, F, hm, b⟩ := q.ex
  exact pe_meth ho q.cls hm F hr b .nil pass0 ha he hpl ht
theorem k_meth0 {pl : Sem Bool} (ho : PE X o ta) (q : Ml X.prog X.w X.K X.mg X.base k C m sp) (hr : Room k X.A)
    (ht : eval (.Call (.Attribute o m apos) [] [] pos) X.env = (do
      let ov ← eval o X.env
      standAt apos.atName
      let (f, first) ← holding [ov] (getMethod ov m pl)
      callWith pos f first (backTo pos (starEach [] X.env)) (backToKw pos (keywordEach [] X.env))) := by rfl) : PE X (.Call (.Attribute o m apos) [] [] pos) (tMeth C m sp [] E0 ta tNil) := by
  obtain ⟨f, fd, ps, F, hm, b⟩ := q.ex
  exact pe_meth0 ho q.cls hm F hr b .nil pass0 ht
theorem k_make (q : Mkl X.prog X.w X.K X.mg X.base k x C sp) (hr : Room (k + 1) X.A) (ha : PA X (e :: es) t) (hg : Gl X x := by rfl) (hdb : (x == ("__debug__" : Str)) = false := by decide)
    (he : starEach (e :: es) X.env = (false, eval e X.env) :: starEach es X.env := by rfl) (hpl : (backTo pos (starEach es X.env)).any (·.1) = false := by rfl) : PE X (.Call (.Name x p) (e :: es) [] pos) (tMake C sp [] E0 t) := by
  obtain ⟨f, fd, ps, F, hm, b⟩ := q.ex
  exact pe_make hm F hr hg q.mg b .nil pass0 ha hdb he hpl
theorem k_callS {S : Addr → Option Sp} {func : Expr} {tf : TE} (S' : Addr → Option Sp) (A : ∀ f sp, S f = some sp → Cal X.prog X.w X.K X.mg X.base k f sp) (hr : Room k X.A) (hf : PE X func tf) (ha : PA X (e :: es) t) (hS : S' = S := by rfl)
    (hE : eval (.Call func (e :: es) [] pos) X.env = (do callWith pos (← eval func X.env) [] (backTo pos (starEach (e :: es) X.env)) (backToKw pos (keywordEach [] X.env))) := by rfl)
    (he : starEach (e :: es) X.env = (false, eval e X.env) :: starEach es X.env := by rfl) (hpl : (backTo pos (starEach es X.env)).any (·.1) = false := by rfl) : PE X (.Call func (e :: es) [] pos) (tCallS S' tf t) := by
  subst hS
  exact pe_callS' A hr hf ha hE he hpl
theorem k_gint {n : Int} (h : ∃ t, X.mg x = some (.int n t)) (hg : Gl X x := by rfl) (hd : (x == ("__debug__" : Str)) = false := by decide) : PE X (.Name x pos) (tC (.int n)) := by
  obtain ⟨t, h⟩ := h
  exact pe_glob hg h ⟨t, rfl⟩ hd
theorem k_gstr {n : Str} (h : ∃ t, X.mg x = some (.str n t)) (hg : Gl X x := by rfl) (hd : (x == ("__debug__" : Str)) = false := by decide) : PE X (.Name x pos) (tC (.str n)) := by
  obtain ⟨t, h⟩ := h
  exact pe_glob hg h ⟨t, rfl⟩ hd
theorem k_gref {a : Addr} (h : X.mg x = some (.ref a)) (hg : Gl X x := by rfl) (hd : (x == ("__debug__" : Str)) = false := by decide) : PE X (.Name x pos) (tC (.ref a)) := pe_glob hg h rfl hd
theorem k_revT (K : PySem.W.Frag) {n : Nat} {p1 p2 p3 : Pos} (he : PE X e te) (h : X.K = K := by rfl) : PE X (.Subscript e (.Slice none none (some (.UnaryOp .USub (.Constant (.int 1) n p1) p2)) p3) pos) (tRevT K te) := by subst h; exact pe_revT he
theorem k_wget (K : PySem.W.Frag) (w : World) {a b : Expr} (ha : PE X a ta) (hb : PE X b tb) (h : X.K = K := by rfl) (hw : X.w = w := by rfl) (hs : PlainIx b := by exact fun _ _ => rfl) : PE X (.Subscript a b pos) (tOp (rIxD K w) ta tb) := by
  subst h hw
  exact pe_ix ix_kdict ha hb hs
theorem k_extend (K : PySem.W.Frag) (ho : PE X o ta) (he : PE X e te) (hK : X.K = K := by rfl)
    (hbase : attributeBase o "extend" X.env (eval o X.env) = eval o X.env := by rfl)
    (hfew : ((backTo cpos (starEach [e] X.env)).all (fun x => !x.1) && (backToKw cpos (keywordEach [] X.env)).all (fun x => x.1.isSome)
      && decide (([e] : List Expr).length + ([] : List Keyword).length + (if ([] : List Keyword).isEmpty then 0 else 1) < 30)) = true := by rfl)
    (hline : (apos.endLine == cpos.line) = true := by rfl) (hs : starEach [e] X.env = (false, eval e X.env) :: starEach [] X.env := by rfl) : PE X (.Call (.Attribute o "extend" apos) [e] [] cpos) (tBM K "list" rExtend ta (tCons te tNil)) := by
  subst hK
  exact pe_bm PySem.F.plainAttrs_list PySem.F.slot_list_extend PySem.F.type_list_extend mt_extend ho (pa_cons he pa_nil hs) hbase hfew hline hs rfl
theorem k_update (K : PySem.W.Frag) (ho : PE X o ta) (he : PE X e te) (hK : X.K = K := by rfl)
    (hbase : attributeBase o "update" X.env (eval o X.env) = eval o X.env := by rfl)
    (hfew : ((backTo cpos (starEach [e] X.env)).all (fun x => !x.1) && (backToKw cpos (keywordEach [] X.env)).all (fun x => x.1.isSome)
      && decide (([e] : List Expr).length + ([] : List Keyword).length + (if ([] : List Keyword).isEmpty then 0 else 1) < 30)) = true := by rfl)
    (hline : (apos.endLine == cpos.line) = true := by rfl) (hs : starEach [e] X.env = (false, eval e X.env) :: starEach [] X.env := by rfl) : PE X (.Call (.Attribute o "update" apos) [e] [] cpos) (tBM K "dict" rUpd ta (tCons te tNil)) := by
  subst hK
  exact pe_bm PySem.F.plainAttrs_dict PySem.F.slot_dict_update PySem.F.type_dict_update mt_update ho (pa_cons he pa_nil hs) hbase hfew hline hs rfl
theorem k_pop (K : PySem.W.Frag) (ho : PE X o ta) (hK : X.K = K := by rfl) (hbase : attributeBase o "pop" X.env (eval o X.env) = eval o X.env := by rfl) (hline : (apos.endLine == cpos.line) = true := by rfl) :
    PE X (.Call (.Attribute o "pop" apos) [] [] cpos) (tBM0 K "list" rPop ta) := by
  subst hK
  exact pe_bm0 PySem.F.plainAttrs_list PySem.F.slot_list_pop PySem.F.type_list_pop mt_pop ho hbase hline
theorem k_index (K : PySem.W.Frag) (ho : PE X o ta) (he : PE X e te) (hK : X.K = K := by rfl)
    (hbase : attributeBase o "index" X.env (eval o X.env) = eval o X.env := by rfl)
    (hfew : ((backTo cpos (starEach [e] X.env)).all (fun x => !x.1) && (backToKw cpos (keywordEach [] X.env)).all (fun x => x.1.isSome)
      && decide (([e] : List Expr).length + ([] : List Keyword).length + (if ([] : List Keyword).isEmpty then 0 else 1) < 30)) = true := by rfl)
    (hline : (apos.endLine == cpos.line) = true := by rfl) (hs : starEach [e] X.env = (false, eval e X.env) :: starEach [] X.env := by rfl) : PE X (.Call (.Attribute o "index" apos) [e] [] cpos) (tIdxF K ta te) := by
  subst hK
  exact pe_idxF ho he hbase hfew hline hs
theorem k_isi (K : PySem.W.Frag) (hK : X.K = K := by rfl) : CallR X (.builtin "isinstance") (rIsi K) := by subst hK; exact call_isi
theorem k_zipS (K : PySem.W.Frag) {e2 : Expr} {ck : Nat} {elts : List Expr} {kk : Nat} (hg : Gl X "zip") (hm : X.mg "zip" = none) (ha : PE X e ta) (hb : PE X e2 tb) (hK : X.K = K := by rfl)
    (hs : backTo pos (starEach [e, e2] X.env) = (false, eval e X.env) :: backTo pos (starEach [e2] X.env) := by rfl) (hpl : (backTo pos (starEach [e, e2] X.env)).any (·.1) = false := by rfl)
    (hs2 : starEach [e, e2] X.env = (false, eval e X.env) :: starEach [e2] X.env := by rfl) (hs3 : starEach [e2] X.env = (false, eval e2 X.env) :: starEach [] X.env := by rfl) :
    PI X (.Tuple elts kk tpos) (.Call (.Name "zip" p) [e, e2] [⟨some "strict", .Constant (.bool true) ck cpos, kpos⟩] pos) (iZipS K ta tb) := by subst hK; exact pi_zipS hg hm ha hb hs hpl hs2 hs3
end
/-! ### readings of these -/
section
variable {ι : Type} {K : PySem.W.Frag} {W : Wd ι} {i : ι} {Γ : Ctx} {P : ι → Dat → Prop} {ta tb te : TE} {t u : TT} {d e : Dat}
theorem ev_neg {n : Int} (h : Ev K W i ta Γ fun j d => ∃ n : Int, d = .int n ∧ P j (.int (-n))) : Ev K W i (tUn (rU fun i => .int (-i)) ta) Γ P := fun H σ I E Q q =>
  h H σ I E _ fun v H1 j d o1 I1 a1 p1 => by
    obtain ⟨n, rfl, p⟩ := p1
    cases a1
    exact ⟨n, rfl, q _ H1 j _ o1 I1 (.int _) p⟩
theorem ev_revT (h : Ev K W i ta Γ fun j d => ∃ ds, d = .tup ds ∧ P j (.tup ds.reverse)) : Ev K W i (tRevT K ta) Γ P := fun H σ I E Q q =>
  h H σ I E _ fun v H1 j d o1 I1 a1 p1 => by
    obtain ⟨ds, rfl, p⟩ := p1
    obtain ⟨a, xs, rfl, hs, al⟩ := a1.tup_inv
    exact ⟨a, xs, rfl, hs, fun r o hr dn => q _ _ j _ (o1.trans (Off.new hr)) (W.new I1 hr) (.tup (SqF.of upd_same dn) (al.reverse.mono (Off.new (A := []) hr))) p⟩
theorem op_rep {ds : List Dat} {n : Int} (h0 : 0 ≤ n) (h1 : n ≤ 1000) (hd : ds ≠ []) (hl : ds.length ≤ 1000) (p : P i (.tup (List.replicate n.toNat ds).flatten)) : Op K W i (rRepF K) (.tup ds) (.int n) P := fun H x y I ax ay Q q => by
  obtain ⟨a, xs, rfl, hs, al⟩ := ax.tup_inv
  cases ay
  have hlen := al.len
  refine ⟨a, n, xs, rfl, rfl, hs, fun z => hd (by subst z; cases al; rfl), h0, h1, by omega, fun z => ?_, fun _ r o hr dn => ?_⟩
  · subst z
    refine q _ H i _ Off.refl I (.tup hs al) ?_
    have e : (List.replicate (1 : Int).toNat ds).flatten = ds := by simp
    rw [e] at p
    exact p
  · refine q _ _ i _ (Off.new hr) (W.new I hr) (.tup (SqF.of upd_same dn) ?_) p
    have rep : ∀ m : Nat, AtL K H (List.replicate m xs).flatten (List.replicate m ds).flatten := fun m => by
      induction m with
      | zero => exact .nil
      | succ m ih => rw [List.replicate_succ, List.replicate_succ, List.flatten_cons, List.flatten_cons]; exact AtL.append al ih
    exact (rep n.toNat).mono (Off.new (A := []) hr)
theorem ev_index {xs : List Int} (h : Ev K W i ta Γ fun j d => d = .tup (xs.map Dat.int) ∧ Ev K W j tb Γ fun k e => ∃ z m, e = .int z ∧ xs[m]? = some z ∧ (∀ l, l < m → xs[l]? ≠ some z) ∧ P k (.int (m : Nat))) : Ev K W i (tIdxF K ta tb) Γ P := fun H σ I E Q q =>
  h H σ I E _ fun v H1 j d o1 I1 a1 p1 => by
    obtain ⟨rfl, p⟩ := p1
    obtain ⟨a, ys, rfl, hs, al⟩ := a1.tup_inv
    have := al.ints
    subst this
    refine ⟨a, xs, rfl, hs, p H1 σ I1 (E.mono o1) _ fun y H2 k e o2 I2 a2 p2 => ?_⟩
    obtain ⟨z, m, rfl, h1, h2, pp⟩ := p2
    cases a2
    exact ⟨z, m, rfl, o2.sqF hs, h1, h2, q _ H2 k _ (o1.trans o2) I2 (.int _) pp⟩
theorem ev_isStr {s : Str} (h : Ev K W i ta Γ fun j d => ∃ s, d = .str s ∧ P j (.bl true)) : Ev K W i (tCB (rIsi K) (tCons ta (tCons (tC (.ty "str")) tNil))) Γ P := fun H σ I E Q q =>
  h H σ I E _ fun v H1 j d o1 I1 a1 p1 => by
    obtain ⟨s, rfl, p⟩ := p1
    cases a1
    exact ⟨_, _, _, _, true, rfl, .ty "str", .base (.str s), kit_ty (by decide +kernel), q _ H1 j _ o1 I1 (.bl true) p⟩
/-- a list against the empty one -/
theorem ev_eqNil (h : Ev K W i ta Γ fun j d => ∃ a ds n, d = .obj a ∧ (∀ {H : Hp}, W.I j H → LstAt K a ds H) ∧ Dat.fineL n ds = true ∧ n ≤ 60 ∧ P j (.bl ds.isEmpty)) : Ev K W i (tOp (rEqD K) ta (tLst tNil)) Γ P := fun H σ I E Q q =>
  h H σ I E _ fun v H1 j d o1 I1 a1 p1 => by
    obtain ⟨a, ds, n, rfl, hl, hf, hn, p⟩ := p1
    cases a1
    refine ⟨Nat.zero_le _, fun r hr => ?_⟩
    have I2 := W.new (o := .lst []) I1 hr
    obtain ⟨vs, e, al⟩ := hl I2
    refine ⟨.list (Dat.pyL ds), .list [], .lst (SqL.of e) (al.dp hf), .lst (SqL.of upd_same) .nil, ?_, rfl, q _ _ j _ (o1.trans (Off.new hr)) I2 (.bl _) ?_⟩
    · obtain ⟨z1, z2⟩ := Dat.layL hf
      unfold SeqAt.shaped
      have c1 : (PyData.list (Dat.pyL ds)).canLay0 = true := by simpa [PyData.canLay0] using z1
      rw [c1, Bool.true_and, decide_eq_true_iff]
      have c2 : (PyData.list (Dat.pyL ds)).depth = PyData.depthAll (Dat.pyL ds) + 1 := rfl
      omega
    · have e2 : PyData.eqv (.list (Dat.pyL ds)) (.list []) = ds.isEmpty := by cases ds <;> rfl
      rw [e2]
      exact p
theorem ev_neNil (h : Ev K W i ta Γ fun j d => ∃ a ds n, d = .obj a ∧ (∀ {H : Hp}, W.I j H → LstAt K a ds H) ∧ Dat.fineL n ds = true ∧ n ≤ 60 ∧ P j (.bl (!ds.isEmpty))) : Ev K W i (tOp (rNeD K) ta (tLst tNil)) Γ P := fun H σ I E Q q =>
  h H σ I E _ fun v H1 j d o1 I1 a1 p1 => by
    obtain ⟨a, ds, n, rfl, hl, hf, hn, p⟩ := p1
    cases a1
    refine ⟨Nat.zero_le _, fun r hr => ?_⟩
    have I2 := W.new (o := .lst []) I1 hr
    obtain ⟨vs, e, al⟩ := hl I2
    refine ⟨.list (Dat.pyL ds), .list [], .lst (SqL.of e) (al.dp hf), .lst (SqL.of upd_same) .nil, ?_, rfl, q _ _ j _ (o1.trans (Off.new hr)) I2 (.bl _) ?_⟩
    · obtain ⟨z1, z2⟩ := Dat.layL hf
      unfold SeqAt.shaped
      have c1 : (PyData.list (Dat.pyL ds)).canLay0 = true := by simpa [PyData.canLay0] using z1
      rw [c1, Bool.true_and, decide_eq_true_iff]
      have c2 : (PyData.list (Dat.pyL ds)).depth = PyData.depthAll (Dat.pyL ds) + 1 := rfl
      omega
    · have e2 : PyData.eqv (.list (Dat.pyL ds)) (.list []) = ds.isEmpty := by cases ds <;> rfl
      rw [e2]
      exact p
/-- a def of the text, under its name -/
structure Df (K : PySem.W.Frag) (mg : Str → Option Value) (x qual : Str) (st : Stmt) : Prop where
  ex : ∃ (f : Addr) (fd : FuncData), Fun K x qual st f fd ∧ mg x = some (.ref f)
theorem Cl.of {Pg : Program} {w : World} {mg : Str → Option Value} {base : Heap} {k : Nat} {x qual : Str} {st : Stmt} {sp : Sp} {ps : List Str} (D : Df K mg x qual st) (ok : ∀ f fd, Fun K x qual st f fd → FnOk Pg w K mg base CX0 k f fd ps sp)
    (h : ∀ (kV doc pm : Value) (an : Option Addr) (cdv ct : Value) (us : List Value), us.length = ps.length → bindArgs (PySem.W.fnOf x qual (defArgs st) (defBody st) (defScope st) .none kV doc pm an cdv ct) ⟨us, []⟩ = pure (ps.zip us)) : Cl Pg w K mg base k x sp := by
  obtain ⟨f, fd, F, m⟩ := D.ex
  exact ⟨f, fd, ps, ok f fd F, m, F.kp, F.binds h⟩
theorem ifT {A B : Prop} {b : Bool} (e : b = true) (h : A) : if b = true then A else B := by rw [if_pos e]; exact h
theorem ifF {A B : Prop} {b : Bool} (e : b = false) (h : B) : if b = true then A else B := by rw [e, if_neg Bool.false_ne_true]; exact h
theorem ifB {A B : Prop} {b : Bool} (h1 : b = true → A) (h2 : b = false → B) : if b = true then A else B := by
  cases b with
  | true => exact ifT rfl (h1 rfl)
  | false => exact ifF rfl (h2 rfl)
theorem ifD {A B c : Prop} [Decidable c] (h1 : c → A) (h2 : ¬ c → B) : if decide c = true then A else B := ifB (fun e => h1 (of_decide_eq_true e)) fun e => h2 (of_decide_eq_false e)
theorem ifN {A B c : Prop} [Decidable c] (h1 : ¬ c → A) (h2 : c → B) : if (!decide c) = true then A else B := by
  by_cases h : c
  · exact ifF (by rw [decide_eq_true h]; rfl) (h2 h)
  · exact ifT (by rw [decide_eq_false h]; rfl) (h1 h)
theorem kwG_vals {vs : List V} {us : List Value} {zs : List V} {ws : List Value} (a : Vals vs us) (b : Vals zs ws) : Vals (kwG vs zs) (kwG us ws) := by
  cases a with
  | nil => exact .nil
  | cons r t =>
    cases t with
    | nil =>
      cases b with
      | nil => exact .nil
      | cons r2 t2 =>
        cases t2 with
        | nil => exact .cons r (.cons r2 .nil)
        | cons _ _ => exact .nil
    | cons _ _ => exact .nil
theorem kb_of {fd : FuncData} {a b : Str} (h : ∀ x y : Value, bindArgs fd ⟨[x], [(b, y)]⟩ = pure [(a, x), (b, y)]) : KBinds K fd [a, b] [b] kwG kwG where
  to := fun s us ws _ hl => by
    match us, ws, hl with
    | [x], [y], _ => exact BindsTo.of_eq (h x y)
    | [], _, hl => cases hl
    | _ :: _ :: _, _, hl => cases hl
    | [_], [], hl => cases hl
    | [_], _ :: _ :: _, hl => cases hl
  rel := kwG_vals
/-! ### promises with a parameter -/
def SpA {α : Type} (K : PySem.W.Frag) (args : α → List Dat) (pre : α → Hp → Prop) (post : α → Dat → Prop) : Sp := fun vs H Q _ => ∃ a, AtL K H vs (args a) ∧ pre a H ∧ ∀ v H' d, Same H H' → At K H' v d → post a d → Q v H'
def SpAL {α : Type} (K : PySem.W.Frag) (args : α → List Dat) (pre : α → Hp → Prop) (post : α → List Dat → Prop) : Sp := fun vs H Q _ => ∃ a, AtL K H vs (args a) ∧ pre a H ∧ ∀ p H' l, H p = none → Same H H' → LstAt K p l H' → post a l → Q (.ref p) H'
def SpAD {α : Type} (K : PySem.W.Frag) (args : α → List Dat) (pre : α → Hp → Prop) (post : α → List (Key × Dat) → Prop) : Sp := fun vs H Q _ => ∃ a, AtL K H vs (args a) ∧ pre a H ∧ ∀ p H' l, H p = none → Same H H' → DctAt K p l H' → post a l → Q (.ref p) H'
section
variable {α : Type} {pre : α → Hp → Prop} {args : α → List Dat}
theorem call_A {post : α → Dat → Prop} {ds : List Dat} (a : α) (hd : ds = args a) (h : ∀ {H : Hp}, W.I i H → pre a H) (q : ∀ d, post a d → P i d) : CallOk K W i (SpA K args pre post) ds P :=
  fun H vs I al Q k => ⟨a, hd ▸ al, h I, fun v H' d s a' p => k v H' i d (Off.of_same s) (W.same I s) a' (q d p)⟩
theorem call_AL {Pl : ι → List Dat → Prop} {post : α → List Dat → Prop} {ds : List Dat} (a : α) (hd : ds = args a) (h : ∀ {H : Hp}, W.I i H → pre a H) (q : ∀ l, post a l → Pl i l) : CallL K W i (SpAL K args pre post) ds Pl :=
  fun H vs I al Q k => ⟨a, hd ▸ al, h I, fun p H' l np s a' z => k p H' i l (W.nc I np) (Off.of_same s) (W.same I s) a' (q l z)⟩
theorem call_AD {Pd : ι → List (Key × Dat) → Prop} {post : α → List (Key × Dat) → Prop} {ds : List Dat} (a : α) (hd : ds = args a) (h : ∀ {H : Hp}, W.I i H → pre a H) (q : ∀ l, post a l → Pd i l) : CallD K W i (SpAD K args pre post) ds Pd :=
  fun H vs I al Q k => ⟨a, hd ▸ al, h I, fun p H' l np s a' z => k p H' i l (W.nc I np) (Off.of_same s) (W.same I s) a' (q l z)⟩
end
theorem ev_callK {sp : Sp} {tr tk : TA} (h : EvA K W i tr Γ fun j ds => EvA K W j tk Γ fun k es => ∃ d e, ds = [d] ∧ es = [e] ∧ CallOk K W k sp [d, e] P) : Ev K W i (tCallK sp kwG E0 tr tk) Γ P := fun H σ I E Q q =>
  h H σ I E _ fun vs H1 j ds o1 I1 a1 p1 => p1 H1 σ I1 (E.mono o1) _ fun zs H2 k es o2 I2 a2 p2 => by
    obtain ⟨d, e, rfl, rfl, p⟩ := p2
    obtain ⟨v, rfl, b1⟩ := a1.one
    obtain ⟨z, rfl, b2⟩ := a2.one
    exact p H2 [v, z] I2 (.cons (b1.mono o2) (.cons b2 .nil)) Q fun v H3 l d o3 I3 a3 p3 => q v H3 l d (o1.trans (o2.trans o3)) I3 a3 p3
end
end Lb
/-! text LbM -/
/-! Grammars as data; equality of data. -/
namespace Lb
open PySem L2

inductive Ln where
  | is (n : Int)
  | of (tag : Str) (times more : Int)
  | rest
def Ln.dat : Ln → Dat
  | .is n => .tup [.str "is", .int n]
  | .of t k m => .tup [.str "of", .str t, .int k, .int m]
  | .rest => .tup [.str "rest"]
inductive Fld where
  | number (name : Str) (size : Int) (order : Str) (least most : Int)
  | bits (n1 : Str) (w1 : Int) (n2 : Str) (w2 : Int)
  | bytes (name : Str) (l : Ln)
  | text (name : Str) (mark : Int)
  | choice (name tag : Str) (kinds : List (Int × Str))
  | row (name kind : Str) (tag : Option Str)
  | carried (name : Str) (l : Ln) (kind : Str)
def rowEnd : Option Str → Dat
  | none => .tup [.str "rest"]
  | some t => .tup [.str "of", .str t]
def Fld.dat : Fld → Dat
  | .number n s o l m => .tup [.str "number", .str n, .int s, .str o, .int l, .int m]
  | .bits a v b w => .tup [.str "bits", .tup [.tup [.str a, .int v], .tup [.str b, .int w]]]
  | .bytes n l => .tup [.str "bytes", .str n, l.dat]
  | .text n m => .tup [.str "text", .str n, .int m]
  | .choice n t ks => .tup [.str "choice", .str n, .str t, .tup (ks.map fun q => .tup [.int q.1, .str q.2])]
  | .row n k t => .tup [.str "row", .str n, .str k, rowEnd t]
  | .carried n l k => .tup [.str "carried", .str n, l.dat, .str k]
abbrev Kd := Str × List Fld
def kdDat (q : Kd) : Dat := .tup [.str q.1, .tup (q.2.map Fld.dat)]
abbrev Gr := List Kd
def grDat (G : Gr) : Dat := .tup (G.map kdDat)

/-! ### grammars in order -/
def NmOk (s : Str) : Prop := PyData.strOk s = true
def LnOk (seen : List Str) : Ln → Prop
  | .is n => 0 ≤ n ∧ n ≤ 100
  | .of t k m => t ∈ seen ∧ 1 ≤ k ∧ k ≤ 2 ∧ -1 ≤ m ∧ m ≤ 2 ∧ NmOk t
  | .rest => True
def FldOk (seen deep : List Str) : Fld → Prop
  | .number n s o l m => NmOk n ∧ (s = 1 ∨ s = 2) ∧ (o = "big" ∨ o = "small") ∧ 0 ≤ l ∧ l ≤ 10 ∧ l ≤ m ∧ m ≤ 65535
  | .bits a v b w => NmOk a ∧ NmOk b ∧ 1 ≤ v ∧ v ≤ 7 ∧ w = 8 - v
  | .bytes n l => NmOk n ∧ LnOk seen l
  | .text n m => NmOk n ∧ 0 ≤ m ∧ m ≤ 255
  | .choice n t ks => NmOk n ∧ t ∈ seen ∧ ks ≠ [] ∧ (ks.map (·.1)).Nodup ∧ ks.length ≤ 10 ∧ ∀ q ∈ ks, q.2 ∈ deep
  | .row n k t => NmOk n ∧ k ∈ deep ∧ ∀ x, t = some x → x ∈ seen ∧ NmOk x
  | .carried n l k => NmOk n ∧ LnOk seen l ∧ k ∈ deep
def decl : Fld → List Str
  | .number n _ _ _ _ => [n]
  | .bits _ _ b _ => [b]
  | _ => []
def FsOk (deep : List Str) : List Str → List Fld → Prop
  | _, [] => True
  | seen, f :: fs => FldOk seen deep f ∧ FsOk deep (seen ++ decl f) fs
/-- a deeper kind: a first number of one byte, then plain fields -/
def KdOk (fs : List Fld) : Prop := (∃ m r, fs = .number "one" 1 "big" 0 m :: r) ∧ FsOk [] [] fs ∧ fs.length ≤ 10
/-- all, low, and maybe mid -/
structure GrOk (G : Gr) : Prop where
  ex : ∃ fs fl, (G = [(("all" : Str), fs), (("low" : Str), fl)] ∧ FsOk ["low"] [] fs ∧ (fs ≠ [] ∧ fs.length ≤ 10) ∧ KdOk fl) ∨ ∃ fm, G = [(("all" : Str), fs), (("low" : Str), fl), (("mid" : Str), fm)] ∧ FsOk ["low", "mid"] [] fs ∧ (fs ≠ [] ∧ fs.length ≤ 10) ∧ KdOk fl ∧ KdOk fm
def fieldsOf (G : Gr) (k : Str) : List Fld := match G.find? (fun q => q.1 == k) with
  | some q => q.2
  | none => []

/-! ### the reading, in plain Lean -/
structure Spr where
  b : Int
  e : Int
  path : List Dat
  what : Str
  worth : Dat
def Spr.dat (s : Spr) : Dat := .tup [.int s.b, .int s.e, .tup s.path, .str s.what, s.worth]
abbrev Tags := List (Key × Dat)
def tagv (t : Tags) (x : Str) : Int := match dlook t (.inr x) with
  | some (.int v) => v
  | _ => 0
def cutB (bs : List Int) (p n : Int) : List Int := (bs.drop p.toNat).take n.toNat
def bytesD (xs : List Int) : Dat := .tup (xs.map Dat.int)
def bigOf (xs : List Int) : Int := xs.foldl (fun a b => a * 256 + b) 0
def numOf (o : Str) (xs : List Int) : Int := if o = "big" then bigOf xs else bigOf xs.reverse
abbrev Inner := Str → Int → Int → List Dat → List Spr × Int × Bool
abbrev Res := List Spr × Int × Tags × Bool
def stopS (p E : Int) (path : List Dat) (word : Str) : List Spr := if p < E then [⟨p, E, path, "unknown", .str word⟩] else []
def lackS (p E : Int) (path : List Dat) (name word : Str) : List Spr := [⟨p, E, path ++ [.str name], "lacking", .str word⟩]
def failS (p n E : Int) (path : List Dat) (name word : Str) : List Spr := ⟨p, p + n, path ++ [.str name], "faulty", .str word⟩ :: stopS (p + n) E path "behind"
def lenBy (l : Ln) (t : Tags) (left : Int) : Int := match l with
  | .is n => n
  | .rest => left
  | .of x k m => tagv t x * k + m
def Ln.isRest : Ln → Bool
  | .rest => true
  | _ => false
def bitA (byte v : Int) : Int := (byte / 2 ^ (8 - v).toNat) % 2 ^ v.toNat
def bitB (byte v w : Int) : Int := (byte / 2 ^ (8 - v - w).toNat) % 2 ^ w.toNat
def rowGo (inn : Inner) (kind name : Str) (opn : Bool) (E : Int) (path : List Dat) : Nat → Nat → Int → List Spr × Int × Bool
  | 0, _, p => ([], p, true)
  | n + 1, i, p => if opn = true ∧ ¬ p < E then ([], p, true) else
    let r := inn kind p E (path ++ [.str name, .int (i : Nat)])
    if r.2.2 = true then
      let q := rowGo inn kind name opn E path n (i + 1) r.2.1
      (r.1 ++ q.1, q.2)
    else (r.1, r.2.1, false)
def rowFuel (t : Tags) (E p : Int) : Option Str → Nat
  | none => (E - p).toNat + 1
  | some x => (tagv t x).toNat
def rdFld (bs : List Int) (inn : Inner) (E : Int) (path : List Dat) (p : Int) (t : Tags) : Fld → Res
  | .number name size order least most =>
    if p + size > E then (lackS p E path name "short", p, t, false) else
      let worth := numOf order (cutB bs p size)
      if least ≤ worth ∧ worth ≤ most then ([⟨p, p + size, path ++ [.str name], "number", .int worth⟩], p + size, dput t (.inr name) (.int worth), true)
      else (failS p size E path name "range", p, t, false)
  | .bits a v b w =>
    if p + 1 > E then (lackS p E path a "short", p, t, false) else
      let byte := (cutB bs p 1).headD 0
      ([⟨p, p + 1, path ++ [.str a], "bits", .tup [.int (bitA byte v), .int (bitB byte v w)]⟩], p + 1, dput (dput t (.inr a) (.int (bitA byte v))) (.inr b) (.int (bitB byte v w)), true)
  | .bytes name l =>
    let size := lenBy l t (E - p)
    if size < 0 ∧ l.isRest = false then (failS p 0 E path name "length", p, t, false) else
    if size < 0 ∨ p + size > E then (lackS p E path name "short", p, t, false) else
      ([⟨p, p + size, path ++ [.str name], "bytes", bytesD (cutB bs p size)⟩], p + size, t, true)
  | .text name mark =>
    let left := cutB bs p (E - p)
    if mark ∈ left then
      let found : Int := (left.idxOf mark : Nat)
      ([⟨p, p + (found + 1), path ++ [.str name], "text", bytesD (cutB bs p found)⟩], p + (found + 1), t, true)
    else (lackS p E path name "mark", p, t, false)
  | .choice name tag kinds =>
    match kinds.lookup (tagv t tag) with
    | none => ([⟨p, E, path ++ [.str name], "unknown", .str "choice"⟩], p, t, false)
    | some kind =>
      let r := inn kind p E (path ++ [.str name])
      (r.1, r.2.1, t, r.2.2)
  | .row name kind tag =>
    let r := rowGo inn kind name (tag.isNone) E path (rowFuel t E p tag) 0 p
    (r.1, r.2.1, t, r.2.2)
  | .carried name l kind =>
    let size := lenBy l t (E - p)
    if size < 0 ∧ l.isRest = false then (failS p 0 E path name "length", p, t, false) else
    if size < 0 ∨ p + size > E then (lackS p E path name "short", p, t, false) else
      let r := inn kind p (p + size) (path ++ [.str name])
      ((if r.2.2 = true then r.1 ++ stopS r.2.1 (p + size) (path ++ [.str name]) "left" else r.1), p + size, t, true)
def rdFs (bs : List Int) (inn : Inner) (E : Int) (path : List Dat) : List Fld → Int → Tags → List Spr × Int × Bool
  | [], p, _ => ([], p, true)
  | f :: fs, p, t =>
    let r := rdFld bs inn E path p t f
    if r.2.2.2 = true then
      let q := rdFs bs inn E path fs r.2.1 r.2.2.1
      (r.1 ++ q.1, q.2)
    else (r.1, E, false)
def inn0 : Inner := fun _ _ _ _ => ([], 0, false)
/-- a deeper kind's reading -/
def inn1 (G : Gr) (bs : List Int) : Inner := fun kind p E path => rdFs bs inn0 E path (fieldsOf G kind) p []
/-- the whole reading -/
def rdAll (G : Gr) (bs : List Int) : List Spr :=
  let r := rdFs bs (inn1 G bs) bs.length [] (fieldsOf G "all") 0 []
  if r.2.2 = true then r.1 ++ stopS r.2.1 bs.length [] "left" else r.1

/-! ### equality of data without truths and objects -/
mutual
def Dat.pure : Dat → Bool
  | .bl _ => false
  | .obj _ => false
  | .tup ds => Dat.pureL ds
  | _ => true
def Dat.pureL : List Dat → Bool
  | [] => true
  | d :: ds => d.pure && Dat.pureL ds
end
end Lb
/-! text LbS -/
/-! Rules for a statement with others behind it. -/
namespace Lb
open PySem L2
section
variable {ι : Type} {K : PySem.W.Frag} {W : Wd ι} {i : ι} {Γ : Ctx} {P : ι → Dat → Prop} {ta tb te : TE} {t : TT} {D : Ends} {ts tv tw tr : TS}
theorem sq_set {k : Nat} (h : Ev K W i te Γ fun j d => Nx K W j (Γ.set k (some d)) (tr D)) : Nx K W i Γ (tSeq (tAsg te (gName k)) tr D) := nx_set (D := { D with nx := tr D }) h
theorem sq_asg {g : TG} (h : Ev K W i te Γ fun j d => Tg K W j g d Γ fun k Γ' => Nx K W k Γ' (tr D)) : Nx K W i Γ (tSeq (tAsg te g) tr D) := nx_asg (D := { D with nx := tr D }) h
theorem sq_setL {k : Nat} (h : EvL K W i te Γ fun j ds => ∀ p np, Nx K (W.own p (LstAt K p ds) (lst_shp K p ds) np) j (Γ.set k (some (.obj p))) (tr D)) : Nx K W i Γ (tSeq (tAsg te (gName k)) tr D) := nx_setL (D := { D with nx := tr D }) h
theorem sq_setD {k : Nat} (h : EvD K W i te Γ fun j l => ∀ p np, Nx K (W.own p (DctAt K p l) (dct_shp K p l) np) j (Γ.set k (some (.obj p))) (tr D)) : Nx K W i Γ (tSeq (tAsg te (gName k)) tr D) := nx_setD (D := { D with nx := tr D }) h
theorem sq_drop (h : Ev K W i te Γ fun j d => Nx K W j Γ (tr D)) : Nx K W i Γ (tSeq (tDrop te) tr D) := nx_drop (D := { D with nx := tr D }) h
theorem sq_if (h : EvT K W i t Γ fun j b => if b = true then Nx K W j Γ (tv { D with nx := tr D }) else Nx K W j Γ (tw { D with nx := tr D })) : Nx K W i Γ (tSeq (tIfS t tv tw) tr D) := nx_if (D := { D with nx := tr D }) h
/-- an if with nothing else -/
theorem sq_when (h : EvT K W i t Γ fun j b => if b = true then Nx K W j Γ (tv { D with nx := tr D }) else Nx K W j Γ (tr D)) : Nx K W i Γ (tSeq (tIfS t tv tNext) tr D) := nx_if (D := { D with nx := tr D }) h
theorem sq_aug {k : Nat} {a : Int} {f : Int → Int → Int} (hk : Γ[k]? = some (some (.int a))) (h : Ev K W i te Γ fun j d => ∃ b, d = .int b ∧ Nx K W j (Γ.set k (some (.int (f a b)))) (tr D)) : Nx K W i Γ (tSeq (tAug k te (ipI f)) tr D) := nx_aug (D := { D with nx := tr D }) hk h
theorem sq_append {p : Addr} {acc : List Dat} {Wn : (φ' : Hp → Prop) → Shp p φ' → Wd ι} (o : OwnAt W p (LstAt K p acc) Wn) (ho : Ev K W i ta Γ fun j d => j = i ∧ d = .obj p ∧ acc.length ≤ 1000000 ∧ Ev K W i te Γ fun k e => Nx K (Wn (LstAt K p (acc ++ [e])) (lst_shp K p _)) k Γ (tr D)) :
    Nx K W i Γ (tSeq (tDrop (tBM K "list" rAppend ta (tCons te tNil))) tr D) := nx_append (D := { D with nx := tr D }) o ho
theorem sq_dput {p : Addr} {l : List (Key × Dat)} {td ty tx : TE} {Wn : (φ' : Hp → Prop) → Shp p φ' → Wd ι} (o : OwnAt W p (DctAt K p l) Wn)
    (h : Ev K W i tx Γ fun j e => Ev K W j td Γ fun k d => Ev K W k ty Γ fun m y => ∃ key, d = .obj p ∧ y.key = some key ∧ l.length ≤ 1000000 ∧ Nx K (Wn (DctAt K p (dput l key e)) (dct_shp K p _)) m Γ (tr D)) : Nx K W i Γ (tSeq (sDPut td ty tx) tr D) := nx_dput (D := { D with nx := tr D }) o h
theorem sq_pop {p : Addr} {acc : List Dat} {d0 : Dat} {Wn : (φ' : Hp → Prop) → Shp p φ' → Wd ι} (o : OwnAt W p (LstAt K p (acc ++ [d0])) Wn) (ho : Ev K W i ta Γ fun j d => d = .obj p ∧ Nx K (Wn (LstAt K p acc) (lst_shp K p _)) j Γ (tr D)) :
    Nx K W i Γ (tSeq (tDrop (tBM0 K "list" rPop ta)) tr D) := nx_pop (D := { D with nx := tr D }) o ho
theorem sq_loop {κ : Type} {J : It} {n : Nat} {it : Nat → Dat → Prop} {Wf : κ → Wd ι} (Inv : Nat → κ → ι → Ctx → Prop) (k0 : κ) {g : TG} {tb : TS} (wk : ∀ k, Wk K (Wf k) J n it) (h0 : Inv 0 k0 i Γ)
    (hs : ∀ (m : Nat) (k : κ) (j : ι) (Γ' : Ctx) (d : Dat), m < n → it m d → Inv m k j Γ' → Tg K (Wf k) j g d Γ' fun l Γ'' => Nx K (Wf k) l Γ'' (tb { D with nx := Lp K Wf Inv (m + 1), ct := Lp K Wf Inv (m + 1), bk := tr D }))
    (hd : ∀ (k : κ) (j : ι) (Γ' : Ctx), Inv n k j Γ' → Nx K (Wf k) j Γ' (tr D)) : Nx K (Wf k0) i Γ (forJ J g tb { D with nx := tr D }) := nx_loop (D := { D with nx := tr D }) wk h0 hs hd
theorem sq_forT {tl : TE} {g : TG} {tb : TS} (h : Ev K W i tl Γ fun j d => ∃ ds, d = .tup ds ∧ ∀ a, Nx K (W.keep K (.ref a) (.tup ds)) j Γ (forJ (Itt K a) g tb { D with nx := tr D })) : Nx K W i Γ (tSeq (tFor (iTup K tl) g tb) tr D) := nx_forT (D := { D with nx := tr D }) h
theorem sq_forL {tl : TE} {g : TG} {tb : TS} (h : Ev K W i tl Γ fun j d => ∃ a ds, d = .obj a ∧ (∀ {H : Hp}, W.I j H → LstAt K a ds H) ∧ Nx K W j Γ (forJ (Itl K a) g tb { D with nx := tr D })) : Nx K W i Γ (tSeq (tFor (iList K tl) g tb) tr D) := nx_forL (D := { D with nx := tr D }) h
theorem sq_forN {tl : TE} {g : TG} {tb : TS} (h : EvL K W i tl Γ fun j ds => ∀ p np, Nx K (W.own p (LstAt K p ds) (lst_shp K p ds) np) j Γ (forJ (Itl K p) g tb { D with nx := tr D })) : Nx K W i Γ (tSeq (tFor (iList K tl) g tb) tr D) := nx_forN (D := { D with nx := tr D }) h
theorem sq_forR {t : TA} {g : TG} {tb : TS} (h : EvA K W i t Γ fun j ds => ∃ n : Int, ds = [.int n] ∧ (-1000000 ≤ n ∧ n ≤ 1000000) ∧ Nx K W j Γ (forJ (Itr 0 n.toNat) g tb { D with nx := tr D })) : Nx K W i Γ (tSeq (tFor (iRng1 t) g tb) tr D) := nx_forR (D := { D with nx := tr D }) h
theorem sq_while {κ : Type} {Wf : κ → Wd ι} {tc : TT} {tb : TS} (Inv : Nat → κ → ι → Ctx → Prop) (m0 : Nat) (k0 : κ) (h0 : Inv m0 k0 i Γ)
    (hs : ∀ (m : Nat) (k : κ) (j : ι) (Γ' : Ctx), Inv m k j Γ' → EvT K (Wf k) j tc Γ' fun l b => if b = true then Nx K (Wf k) l Γ' (tb { D with nx := fun σ H => ∃ m', m' < m ∧ Lp K Wf Inv m' σ H, ct := fun σ H => ∃ m', m' < m ∧ Lp K Wf Inv m' σ H, bk := tr D }) else Nx K (Wf k) l Γ' (tr D)) :
    Nx K (Wf k0) i Γ (tSeq (tWhile tc tb) tr D) := nx_while (D := { D with nx := tr D }) Inv m0 k0 h0 hs
theorem nx_lpW {κ : Type} {Wf : κ → Wd ι} {Inv : Nat → κ → ι → Ctx → Prop} {m m0 : Nat} {k : κ} {j : ι} {Γ : Ctx} (hm : m < m0) (h : Inv m k j Γ) : Nx K (Wf k) j Γ (fun σ H => ∃ m', m' < m0 ∧ Lp K Wf Inv m' σ H) := fun H σ I E => ⟨m, hm, ⟨k, j, Γ, I, E, h⟩⟩
theorem Lp.of {κ : Type} {Wf : κ → Wd ι} {Inv : Nat → κ → ι → Ctx → Prop} {m : Nat} {H : Hp} {σ : L2.St} {j : ι} {Γ : Ctx} (k : κ) (I : (Wf k).I j H) (E : Sls K H σ Γ) (h : Inv m k j Γ) : Lp K Wf Inv m σ H := ⟨⟨k, j, Γ, I, E, h⟩⟩
theorem nx_put {κ : Type} {Wf : κ → Wd ι} {Inv : Nat → κ → ι → Ctx → Prop} {m : Nat} {j : ι} {Γ : Ctx} {W' : Wd ι} {f : L2.St → Hp → Prop} (hf : f = Lp K Wf Inv m) (k : κ) (hW : W' = Wf k) (h : Inv m k j Γ) : Nx K W' j Γ f := by
  subst hf hW
  exact nx_lp h
theorem nx_putW {κ : Type} {Wf : κ → Wd ι} {Inv : Nat → κ → ι → Ctx → Prop} {m m0 : Nat} {j : ι} {Γ : Ctx} {W' : Wd ι} {f : L2.St → Hp → Prop} (hf : f = fun σ H => ∃ m', m' < m0 ∧ Lp K Wf Inv m' σ H) (k : κ) (hW : W' = Wf k) (hm : m < m0) (h : Inv m k j Γ) : Nx K W' j Γ f := by
  subst hf hW
  exact nx_lpW hm h
/-- what stands behind, shown once for all ways that lead there -/
theorem sq_tail {A : Type} (Wf : A → Wd ι) (S : A → ι → Ctx → Prop) (ht : ∀ a j Γ', S a j Γ' → Nx K (Wf a) j Γ' (tr D)) (h : (∀ a j Γ', S a j Γ' → Nx K (Wf a) j Γ' (tr D)) → Nx K W i Γ (tSeq ts tr D)) : Nx K W i Γ (tSeq ts tr D) := h ht
end
end Lb
/-! text LbV -/
/-! More readings: displays, comprehensions of dicts, updates, instances. -/
namespace Lb
open PySem L2
section
variable {ι : Type} {K : PySem.W.Frag} {W : Wd ι} {i : ι} {Γ : Ctx} {P : ι → Dat → Prop} {Pl : ι → List Dat → Prop} {Pd : ι → List (Key × Dat) → Prop} {ta tb te tk tx : TE} {D : Ends} {tr : TS}
def kdat : Key → Dat
  | .inl n => .int n
  | .inr s => .str s
theorem kdat_at {H : Hp} {k : Key} : At K H (kV k) (kdat k) := by
  cases k with
  | inl n => exact .int n
  | inr s => exact .str s
/-- a return of a new list, of a new dict -/
theorem nx_retL (h : EvL K W i te Γ fun j ds => ∀ p H, ¬ W.C p → W.I j H → LstAt K p ds H → D.rt (.ref p) H) : Nx K W i Γ (tRet te D) := fun H σ I E => h H σ I E _ fun p H1 j ds np o1 I1 a1 p1 => p1 p H1 np I1 a1
theorem nx_retD (h : EvD K W i te Γ fun j ds => ∀ p H, ¬ W.C p → W.I j H → DctAt K p ds H → D.rt (.ref p) H) : Nx K W i Γ (tRet te D) := fun H σ I E => h H σ I E _ fun p H1 j ds np o1 I1 a1 p1 => p1 p H1 np I1 a1
theorem EvD.imp {P' : ι → List (Key × Dat) → Prop} (h : EvD K W i te Γ Pd) (q : ∀ j l, Pd j l → P' j l) : EvD K W i te Γ P' := fun H σ I E Q k => h H σ I E Q fun p H' j l np o I' la pp => k p H' j l np o I' la (q j l pp)
/-- {k: v} -/
theorem ed_disp1 (h : ∀ p np, Ev K (W.own p (DctAt K p []) (dct_shp K p []) np) i tk Γ fun j d => Ev K (W.own p (DctAt K p []) (dct_shp K p []) np) j tx Γ fun k e => ∃ key, d.key = some key ∧ Pd k [(key, e)]) : EvD K W i (tDisp [(tk, tx)]) Γ Pd := fun H σ I E Q q p hp => by
  have np := W.nc I hp
  have o0 : Off W.A H (upd H p (.dK [])) := Off.new hp
  refine h p np _ σ ⟨W.new I hp, ⟨[], upd_same, .nil⟩⟩ (E.mono o0) _ fun x H1 j d o1 I1 a1 p1 => ?_
  refine p1 H1 σ I1 (E.mono (o0.trans o1)) _ fun y H2 k e o2 I2 a2 p2 => ?_
  obtain ⟨key, hk, pd⟩ := p2
  have e1 := a1.key hk
  subst e1
  obtain ⟨kvs, hd, r⟩ := id I2.2
  cases r
  refine ⟨hd, [(key, y)], rfl, by show 1 ≤ 15; decide, ?_⟩
  have f : Off [p] H2 (upd H2 p (.dK (mergeK [] [(key, y)]))) := Off.put (by simp) hd fun z => z
  refine q p _ k _ np ?_ (W.off (B := [p]) I2.1 (fun x hx z => by
    rcases List.mem_cons.mp hx with e | e
    · rw [e] at z; exact np z
    · cases e) f) ⟨[(key, y)], upd_same, .cons ⟨rfl, a2.mono f⟩ .nil⟩ pd
  exact (show Off W.A H H2 from o0.trans (o1.trans o2)).late hp (Off.put (by simp) hd fun z => z)
theorem offP {p : Addr} {H H' : Hp} {j : ι} (np : ¬ W.C p) (I : W.I j H) (f : Off [p] H H') : W.I j H' := W.off (B := [p]) I (fun x hx z => by
    rcases List.mem_cons.mp hx with e | e
    · rw [e] at z; exact np z
    · cases e) f
/-- a dict's comprehension over a tuple of pairs -/
theorem ed_dcT {tl : TE} {k l : Nat} {vs : List Nat} (hk : k ∈ vs) (hl : l ∈ vs) (h : Ev K W i tl Γ fun j d => ∃ ds : List Dat, d = .tup ds ∧ ds.length ≤ 1000000 ∧ ∀ a, ∃ Inv : Nat → ι → List (Key × Dat) → Prop, Inv 0 j [] ∧
      (∀ (m : Nat) (j : ι) (acc : List (Key × Dat)) (d : Dat) (p : Addr) (np : ¬ W.C p), ds[m]? = some d → Inv m j acc → ∃ e f, d = .tup [e, f] ∧
        Ev K ((W.keep K (.ref a) (.tup ds)).own p (DctAt K p acc) (dct_shp K p acc) np) j tk (((wipeC Γ vs).set k (some e)).set l (some f)) fun j' y =>
        Ev K ((W.keep K (.ref a) (.tup ds)).own p (DctAt K p acc) (dct_shp K p acc) np) j' tx (((wipeC Γ vs).set k (some e)).set l (some f)) fun j'' z => ∃ key, y.key = some key ∧ Inv (m + 1) j'' (dput acc key z)) ∧
      ∀ j acc, Inv ds.length j acc → Pd j acc) : EvD K W i (tDc (iTup K tl) (gTup K 2 (gCons (gName k) (gCons (gName l) gNil))) tYes tk tx vs) Γ Pd := fun H σ I E Q q =>
  h H σ I E _ fun v H0 j0 d0 o0 I0 a0 p0 => by
    obtain ⟨ds, rfl, hn, p0⟩ := p0
    obtain ⟨a, xs, rfl, hs, al⟩ := a0.tup_inv
    obtain ⟨Inv, h0, hs1, hd⟩ := p0 a
    refine ⟨a, rfl, ⟨xs, hs.sqT⟩, fun p hp => ?_⟩
    have np : ¬ W.C p := W.nc I0 hp
    let St : Nat → Hp → Prop := fun m H' => ∃ j acc, acc.length ≤ m ∧ Off W.A H0 H' ∧ W.I j H' ∧ At K H' (.ref a) (.tup ds) ∧ DctAt K p acc H' ∧ Inv m j acc
    refine ⟨fun m r H' => m + r = ds.length ∧ St m H', ⟨ds.length, Nat.zero_add _, j0, [], Nat.zero_le _, Off.new hp, W.new I0 hp, a0.mono (Off.new (A := []) hp), ⟨[], upd_same, .nil⟩, h0⟩, fun m r H' w => ?_⟩
    obtain ⟨e, j, acc, hl', o, I', at', la, iv⟩ := w
    have WK : Wk K (W.keep K (.ref a) (.tup ds)) (Itt K a) ds.length fun i d => ds[i]? = some d := wk_tup fun x => x.2
    by_cases hm : m = ds.length
    · subst hm
      exact .inl ⟨WK.stop (j := j) ⟨I', at'⟩, q p H' j acc np (o0.trans o) I' la (hd j acc iv)⟩
    · have hlt : m < ds.length := by omega
      refine .inr ⟨WK.go (j := j) ⟨I', at'⟩ hlt, St (m + 1), fun H2 w' => ⟨r - 1, by omega, by omega, w'⟩, fun x H2 y => ?_⟩
      obtain ⟨e1, d, hd1, ax⟩ := WK.yld (j := j) ⟨I', at'⟩ hlt y
      subst e1
      obtain ⟨ee, ff, rfl, hev⟩ := hs1 m j acc d p np hd1 iv
      obtain ⟨a', xs', rfl, g1, g2⟩ := ax.tup_inv
      obtain ⟨x1, x2, rfl, b1, b2⟩ := g2.two
      refine ⟨a', _, rfl, g1.sqT, rfl, x1, _, rfl, x2, _, rfl, rfl, by rw [wipe_set hl, wipe_set hk, wipe_wipe fun _ z => z], ?_⟩
      refine (ifT rfl ?_ : if true = true then _ else St (m + 1) H2)
      have E2 := ((((E.mono (o0.trans o)).wipe vs).set k b1).set l b2)
      refine hev H2 _ ⟨⟨I', at'⟩, la⟩ E2 _ fun u H3 j3 y3 o3 I3 a3 p3 => ?_
      refine p3 H3 _ I3 (E2.mono o3) _ fun z H4 j4 z4 o4 I4 a4 p4 => ?_
      obtain ⟨key, hkey, iv'⟩ := p4
      have e2 := a3.key hkey
      subst e2
      obtain ⟨kvs, g3, g4⟩ := id I4.2
      have f : Off [p] H4 (upd H4 p (.dK (putK kvs key z))) := Off.put (by simp) g3 fun z => z
      refine ⟨kvs, key, rfl, g3, by rw [g4.len, sizeLine_eq]; omega, j4, dput acc key z4, by have := dput_len acc key z4; omega, ?_, offP np I4.1.1 f, I4.1.2.mono f, ⟨_, upd_same, (g4.put a4).mono f⟩, iv'⟩
      exact (show Off W.A H0 H4 from o.trans (o3.trans o4)).late hp (Off.put (by simp) g3 fun z => z)
/-- d.update(a new dict) -/
theorem nx_update {p : Addr} {l : List (Key × Dat)} {Wn : (φ' : Hp → Prop) → Shp p φ' → Wd ι} (o : OwnAt W p (DctAt K p l) Wn) (ho : Ev K W i ta Γ fun j d => d = .obj p ∧ EvD K W j te Γ fun k more => l.length + more.length ≤ 1000000 ∧ Nx K (Wn (DctAt K p (dmerge l more)) (dct_shp K p _)) k Γ D.nx) :
    Nx K W i Γ (tDrop (tBM K "dict" rUpd ta (tCons te tNil)) D) := fun H σ I E => ho H σ I E _ fun x H1 j d o1 I1 a1 p1 => by
  obtain ⟨rfl, p2⟩ := p1
  cases a1
  obtain ⟨kvs1, e1, _⟩ := o.get I1
  refine ⟨.inr (.inr (.inl ⟨rfl, .inl ⟨kvs1, e1⟩⟩)), p2 H1 σ I1 (E.mono o1) _ fun q H2 k more nq o2 I2 a2 p3 => ?_⟩
  obtain ⟨kvs, e2, r⟩ := o.get I2
  obtain ⟨ms, e3, r3⟩ := id a2
  have hne : p ≠ q := fun z => nq (z ▸ o.clm)
  have f : Off [p] H2 (upd H2 p (.dK (mergeK kvs ms))) := Off.put (by simp) e2 fun z => z
  exact ⟨p, q, kvs, ms, rfl, rfl, hne, e2, e3, by rw [r.len, r3.len, sizeLine_eq]; omega, p3.2 _ σ (o.put (dct_shp K p _) I2 f ⟨_, upd_same, (DR.merge r3 r).mono f⟩) ((E.mono (o1.trans o2)).mono f)⟩
/-- x.extend(a list that stands) -/
theorem nx_extend {p : Addr} {l : List Dat} {Wn : (φ' : Hp → Prop) → Shp p φ' → Wd ι} (o : OwnAt W p (LstAt K p l) Wn) (ho : Ev K W i ta Γ fun j d => d = .obj p ∧ Ev K W j te Γ fun k e => ∃ q more, e = .obj q ∧ (∀ {H : Hp}, W.I k H → LstAt K q more H) ∧ l.length + more.length ≤ 1000000 ∧ Nx K (Wn (LstAt K p (l ++ more)) (lst_shp K p _)) k Γ D.nx) :
    Nx K W i Γ (tDrop (tBM K "list" rExtend ta (tCons te tNil)) D) := fun H σ I E => ho H σ I E _ fun x H1 j d o1 I1 a1 p1 => by
  obtain ⟨rfl, p2⟩ := p1
  cases a1
  obtain ⟨vs1, e1, _⟩ := o.get I1
  refine ⟨.inl ⟨rfl, vs1, SqL.of e1⟩, p2 H1 σ I1 (E.mono o1) _ fun y H2 k e o2 I2 a2 p3 => ?_⟩
  obtain ⟨q, more, rfl, hm, hz, p4⟩ := p3
  cases a2
  obtain ⟨vs, e2, r⟩ := o.get I2
  obtain ⟨ms, e3, r3⟩ := hm I2
  have f : Off [p] H2 (upd H2 p (.lst (vs ++ ms))) := Off.put (by simp) e2 fun z => z
  exact ⟨p, q, vs, ms, rfl, rfl, e2, e3, by rw [r.len, r3.len, sizeLine_eq]; omega, p4 _ σ (o.put (lst_shp K p _) I2 f ⟨_, upd_same, (AtL.append r r3).mono f⟩) ((E.mono (o1.trans o2)).mono f)⟩
/-- list(a dict that stands): its keys -/
theorem el_keys (h : Ev K W i ta Γ fun j d => ∃ a l, d = .obj a ∧ (∀ {H : Hp}, W.I j H → DctAt K a l H) ∧ Pl j (l.map fun q => kdat q.1)) : EvL K W i (tCB rListD (tCons ta tNil)) Γ Pl := fun H σ I E Q q =>
  h H σ I E _ fun v H1 j d o1 I1 a1 p1 => by
    obtain ⟨a, l, rfl, hl, p⟩ := p1
    cases a1
    obtain ⟨kvs, e, r⟩ := hl I1
    refine ⟨a, kvs, rfl, e, fun p' hp => q p' _ j _ (W.nc I1 hp) (o1.trans (Off.new hp)) (W.new I1 hp) ⟨_, upd_same, ?_⟩ p⟩
    have : ∀ {H' : Hp} {kvs : List (Key × V)} {l : List (Key × Dat)}, DR K H' kvs l → AtL K H' (kvs.map fun kv => kV kv.1) (l.map fun q => kdat q.1) := by
      intro H' kvs l r
      induction r with
      | nil => exact .nil
      | cons h t ih =>
        refine .cons ?_ ih
        dsimp only
        rw [h.1]
        exact kdat_at
    exact this (r.mono (Off.new (A := []) hp))
/-- list(range(n)) -/
theorem el_listRg (h : Ev K W i ta Γ fun j d => ∃ n : Int, d = .int n ∧ (0 ≤ n ∧ n ≤ 1000000) ∧ Pl j ((List.range n.toNat).map fun m => .int (m : Nat))) : EvL K W i (tLstRg (tRg1 ta)) Γ Pl := fun H σ I E Q q =>
  h H σ I E _ fun v H1 j d o1 I1 a1 p1 => by
    obtain ⟨n, rfl, hb, p⟩ := p1
    cases a1
    refine ⟨n, rfl, ⟨by decide, by decide, by omega, by omega, by omega⟩, fun r hr => q r _ j _ (W.nc I1 hr) (o1.trans (Off.new hr)) (W.new I1 hr) ⟨_, upd_same, ?_⟩ p⟩
    have : ∀ ns : List Nat, AtL K (upd H1 r (.lst (rgV 0 n))) (ns.map fun i => V.int (0 + (i : Nat))) (ns.map fun m => Dat.int (m : Nat)) := fun ns => by
      induction ns with
      | nil => exact .nil
      | cons x xs ih => exact .cons (by dsimp only; rw [Int.zero_add]; exact .int _) ih
    have e : rgV 0 n = (List.range n.toNat).map fun i => V.int (0 + (i : Nat)) := by unfold rgV; rw [Int.sub_zero]
    have := this (List.range n.toNat)
    rw [← e] at this
    exact this
theorem EvT.imp {t : TT} {Pb Pb' : ι → Bool → Prop} (h : EvT K W i t Γ Pb) (q : ∀ j b, Pb j b → Pb' j b) : EvT K W i t Γ Pb' := fun H σ I E Q k => h H σ I E Q fun b H' j o I' p => k b H' j o I' (q j b p)
/-! ### instances -/
/-- a new instance of C -/
def EvI (K : PySem.W.Frag) (W : Wd ι) (i : ι) (te : TE) (Γ : Ctx) (C : Addr) (P : ι → List (Str × Dat) → Prop) : Prop :=
  ∀ H σ, W.I i H → Sls K H σ Γ → ∀ Q : VK, (∀ p H' j l, ¬ W.C p → Off W.A H H' → W.I j H' → InsAt K p C l H' → P j l → Q (.ref p) H') → te σ H Q
/-- an __init__ that stores its arguments in the new instance -/
def SpInit {α : Type} (K : PySem.W.Frag) (C : Addr) (args : α → List Dat) (pre : α → Hp → Prop) (post : Addr → α → Hp → List (Str × Dat) → Hp → Prop) : Sp := fun vs H Q _ => ∃ p a, AtL K H vs (.obj p :: args a) ∧ InsAt K p C [] H ∧ pre a H ∧
  ∀ H' l, Off [p] H H' → InsAt K p C l H' → post p a H l H' → Q .non H'
theorem ei_make {α : Type} {C : Addr} {args : α → List Dat} {pre : α → Hp → Prop} {post : Addr → α → Hp → List (Str × Dat) → Hp → Prop} {t : TA} {Pi : ι → List (Str × Dat) → Prop}
    (h : EvA K W i t Γ fun j ds => ∃ a, ds = args a ∧ (∀ {H : Hp}, W.I j H → pre a H) ∧ ∀ p l H0 H, post p a H0 l H → Pi j l) : EvI K W i (tMake C (SpInit K C args pre post) [] E0 t) Γ C Pi := fun H σ I E Q q =>
  h H σ I E _ fun vs H1 j ds o1 I1 a1 p1 => by
    obtain ⟨a, rfl, hp, hl⟩ := p1
    intro x dx nx ndx ne
    rw [List.append_nil]
    have o2 : Off W.A H1 (upd (upd H1 dx (.own x)) x (.ins C dx [])) := (Off.new ndx).trans (Off.new (by rw [upd_ne (Ne.symm ne)]; exact nx))
    have I2 : W.I j (upd (upd H1 dx (.own x)) x (.ins C dx [])) := W.new (W.new I1 ndx) (by rw [upd_ne (Ne.symm ne)]; exact nx)
    refine ⟨x, a, .cons (.obj x) (a1.mono o2), ⟨dx, [], upd_same, .nil⟩, hp I2, fun H' l o3 ia ps => ⟨rfl, ?_⟩⟩
    have np := W.nc I1 nx
    refine q x H' j l np ?_ (offP np I2 o3) ia (hl _ _ _ _ ps)
    exact o1.trans (o2.late nx (o3.mono fun y hy => by
      rcases List.mem_cons.mp hy with e | e
      · rw [e]; exact List.mem_cons_self
      · cases e))
theorem nx_sfld {p C : Addr} {l : List (Str × Dat)} {f : Str} {Wn : (φ' : Hp → Prop) → Shp p φ' → Wd ι} (o : OwnAt W p (InsAt K p C l) Wn) (hc : Cls K C) (hn : NoAttr K C f) (hl : l.length < 1000)
    (h : Ev K W i tx Γ fun j e => Ev K W j ta Γ fun k d => d = .obj p ∧ Nx K (Wn (InsAt K p C (fput f e l)) (ins_shp K p C _)) k Γ D.nx) : Nx K W i Γ (sFld K ta tx f D) := fun H σ I E =>
  h H σ I E _ fun y H1 j e o1 I1 a1 p1 => p1 H1 σ I1 (E.mono o1) _ fun x H2 k d o2 I2 a2 p2 => by
    obtain ⟨rfl, n⟩ := p2
    cases a2
    obtain ⟨dx, fs, e1, r⟩ := o.get I2
    have f' : Off [p] H2 (upd H2 p (.ins C dx (putF f y fs))) := Off.put (by simp) e1 fun z => z
    exact ⟨p, C, dx, fs, rfl, e1, hc, hn, by rw [r.len]; exact hl, n _ σ (o.put (ins_shp K p C _) I2 f' ⟨dx, _, upd_same, (FR.put (a1.mono o2) r).mono f'⟩) ((E.mono (o1.trans o2)).mono f')⟩
theorem nx_sfldD {p C : Addr} {l : List (Str × Dat)} {f : Str} {Wn : (φ' : Hp → Prop) → Shp p φ' → Wd ι} (o : OwnAt W p (InsAt K p C l) Wn) (hc : Cls K C) (hn : NoAttr K C f) (hl : l.length < 1000)
    (h : EvD K W i tx Γ fun j l0 => ∀ q nq, Ev K (W.own q (DctAt K q l0) (dct_shp K q l0) nq) j ta Γ fun k d => d = .obj p ∧ Nx K ((Wn (InsAt K p C (fput f (.obj q) l)) (ins_shp K p C _)).own q (DctAt K q l0) (dct_shp K q l0) fun z => nq (o.cl z)) k Γ D.nx) : Nx K W i Γ (sFld K ta tx f D) := fun H σ I E =>
  h H σ I E _ fun q H1 j l0 nq o1 I1 a1 p1 => p1 q nq H1 σ ⟨I1, a1⟩ (E.mono o1) _ fun x H2 k d o2 I2 a2 p2 => by
    obtain ⟨rfl, n⟩ := p2
    cases a2
    obtain ⟨dx, fs, e1, r⟩ := o.get I2.1
    have f' : Off [p] H2 (upd H2 p (.ins C dx (putF f (.ref q) fs))) := Off.put (by simp) e1 fun z => z
    exact ⟨p, C, dx, fs, rfl, e1, hc, hn, by rw [r.len]; exact hl, n _ σ ((o.under (s := dct_shp K q l0) (np := nq)).put (ins_shp K p C _) I2 f' ⟨dx, _, upd_same, (FR.put (.obj q) r).mono f'⟩) ((E.mono (o1.trans o2)).mono f')⟩
theorem nx_sfldL {p C : Addr} {l : List (Str × Dat)} {f : Str} {Wn : (φ' : Hp → Prop) → Shp p φ' → Wd ι} (o : OwnAt W p (InsAt K p C l) Wn) (hc : Cls K C) (hn : NoAttr K C f) (hl : l.length < 1000)
    (h : EvL K W i tx Γ fun j l0 => ∀ q nq, Ev K (W.own q (LstAt K q l0) (lst_shp K q l0) nq) j ta Γ fun k d => d = .obj p ∧ Nx K ((Wn (InsAt K p C (fput f (.obj q) l)) (ins_shp K p C _)).own q (LstAt K q l0) (lst_shp K q l0) fun z => nq (o.cl z)) k Γ D.nx) : Nx K W i Γ (sFld K ta tx f D) := fun H σ I E =>
  h H σ I E _ fun q H1 j l0 nq o1 I1 a1 p1 => p1 q nq H1 σ ⟨I1, a1⟩ (E.mono o1) _ fun x H2 k d o2 I2 a2 p2 => by
    obtain ⟨rfl, n⟩ := p2
    cases a2
    obtain ⟨dx, fs, e1, r⟩ := o.get I2.1
    have f' : Off [p] H2 (upd H2 p (.ins C dx (putF f (.ref q) fs))) := Off.put (by simp) e1 fun z => z
    exact ⟨p, C, dx, fs, rfl, e1, hc, hn, by rw [r.len]; exact hl, n _ σ ((o.under (s := lst_shp K q l0) (np := nq)).put (ins_shp K p C _) I2 f' ⟨dx, _, upd_same, (FR.put (.obj q) r).mono f'⟩) ((E.mono (o1.trans o2)).mono f')⟩
/-! ### objects that change with the index -/
theorem nx_sfldG {f : Str} (h : Ev K W i tx Γ fun j e => Ev K W j ta Γ fun k d => ∃ a C l k', d = .obj a ∧ (∀ {H : Hp}, W.I k H → InsAt K a C l H) ∧ Cls K C ∧ NoAttr K C f ∧ l.length < 1000 ∧
    (∀ {H H' : Hp}, W.I k H → Off [a] H H' → InsAt K a C (fput f e l) H' → W.I k' H') ∧ Nx K W k' Γ D.nx) : Nx K W i Γ (sFld K ta tx f D) := fun H σ I E =>
  h H σ I E _ fun y H1 j e o1 I1 a1 p1 => p1 H1 σ I1 (E.mono o1) _ fun x H2 k d o2 I2 a2 p2 => by
    obtain ⟨p, C, l, k', rfl, hl, hc, hn, hz, hI, n⟩ := p2
    cases a2
    obtain ⟨dx, fs, e1, r⟩ := hl I2
    have f' : Off [p] H2 (upd H2 p (.ins C dx (putF f y fs))) := Off.put (by simp) e1 fun z => z
    exact ⟨p, C, dx, fs, rfl, e1, hc, hn, by rw [r.len]; exact hz, n _ σ (hI I2 f' ⟨dx, _, upd_same, (FR.put (a1.mono o2) r).mono f'⟩) ((E.mono (o1.trans o2)).mono f')⟩
theorem nx_augG {f : Str} {g : Int → Int → Int} (h : Ev K W i ta Γ fun j d => ∃ a C l n, d = .obj a ∧ (∀ {H : Hp}, W.I j H → InsAt K a C l H) ∧ Cls K C ∧ NoAttr K C f ∧ flook l f = some (.int n) ∧ Ev K W j te Γ fun k e => ∃ m k', e = .int m ∧ (∀ {H : Hp}, W.I k H → InsAt K a C l H) ∧ l.length < 1000 ∧
    (∀ {H H' : Hp}, W.I k H → Off [a] H H' → InsAt K a C (fput f (.int (g n m)) l) H' → W.I k' H') ∧ Nx K W k' Γ D.nx) : Nx K W i Γ (sFldAug K ta te (rI0 fun i j => .int (g i j)) f D) := fun H σ I E =>
  h H σ I E _ fun x H1 j d o1 I1 a1 p1 => by
    obtain ⟨p, C, l, n, rfl, hl, hc, hn, hf, p2⟩ := p1
    cases a1
    obtain ⟨dx0, fs0, e0, r0⟩ := hl I1
    rcases r0.look f with ⟨_, z⟩ | ⟨v0, d0, z1, z2, z3⟩
    · rw [hf] at z; cases z
    rw [hf] at z2
    cases z2
    cases z3
    refine ⟨p, C, dx0, fs0, _, rfl, e0, hc, hn, z1, p2 H1 σ I1 (E.mono o1) _ fun y H2 k e o2 I2 a2 p3 => ?_⟩
    obtain ⟨m, k', rfl, hl2, hz, hI, nx⟩ := p3
    cases a2
    obtain ⟨dx, fs, e1, r⟩ := hl2 I2
    have f' : Off [p] H2 (upd H2 p (.ins C dx (putF f (.int (g n m)) fs))) := Off.put (by simp) e1 fun z => z
    exact ⟨n, m, rfl, rfl, dx, fs, e1, by rw [r.len]; exact hz, nx _ σ (hI I2 f' ⟨dx, _, upd_same, (FR.put (.int _) r).mono f'⟩) ((E.mono (o1.trans o2)).mono f')⟩
theorem tg_fldG {f : Str} {Pc : ι → Ctx → Prop} {e : Dat} (h : Ev K W i ta Γ fun k d => ∃ a C l k', d = .obj a ∧ a ∈ W.A ∧ (∀ {H : Hp}, W.I k H → InsAt K a C l H) ∧ Cls K C ∧ NoAttr K C f ∧ l.length < 1000 ∧
    (∀ {H H' : Hp}, W.I k H → Off [a] H H' → InsAt K a C (fput f e l) H' → W.I k' H') ∧ Pc k' Γ) : Tg K W i (gFld K ta f) e Γ Pc := fun H σ y I E a1 Q q =>
  h H σ I E _ fun x H2 k d o2 I2 a2 p2 => by
    obtain ⟨p, C, l, k', rfl, hA, hl, hc, hn, hz, hI, n⟩ := p2
    cases a2
    obtain ⟨dx, fs, e1, r⟩ := hl I2
    have f' : Off [p] H2 (upd H2 p (.ins C dx (putF f y fs))) := Off.put (by simp) e1 fun z => z
    have f2 : Off W.A H2 (upd H2 p (.ins C dx (putF f y fs))) := Off.put hA e1 fun z => z
    exact ⟨p, C, dx, fs, rfl, e1, hc, hn, by rw [r.len]; exact hz, q σ _ k' Γ (o2.trans f2) (hI I2 f' ⟨dx, _, upd_same, (FR.put (a1.mono o2) r).mono f'⟩) ((E.mono o2).mono f') n⟩
theorem tg_dputG {Pc : ι → Ctx → Prop} {e : Dat} (h : Ev K W i ta Γ fun j o => Ev K W j tb Γ fun k y => ∃ a l key k', o = .obj a ∧ a ∈ W.A ∧ y.key = some key ∧ (∀ {H : Hp}, W.I k H → DctAt K a l H) ∧ l.length ≤ 1000000 ∧
    (∀ {H H' : Hp}, W.I k H → Off [a] H H' → DctAt K a (dput l key e) H' → W.I k' H') ∧ Pc k' Γ) : Tg K W i (gSub ta tb rSetD) e Γ Pc := fun H σ v I E a0 Q q =>
  h H σ I E _ fun x H1 j d o1 I1 a1 p1 => p1 H1 σ I1 (E.mono o1) _ fun y H2 k yd o2 I2 a2 p2 => by
    obtain ⟨p, l, key, k', rfl, hA, hk, hl, hz, hI, n⟩ := p2
    cases a1
    have := a2.key hk
    subst this
    obtain ⟨kvs, e1, r⟩ := hl I2
    have f' : Off [p] H2 (upd H2 p (.dK (putK kvs key v))) := Off.put (by simp) e1 fun z => z
    have f2 : Off W.A H2 (upd H2 p (.dK (putK kvs key v))) := Off.put hA e1 fun z => z
    exact ⟨p, _, rfl, DPut.k (k := key) e1 (by rw [r.len, sizeLine_eq]; omega), q σ _ k' Γ ((o1.trans o2).trans f2) (hI I2 f' ⟨_, upd_same, (r.put (a0.mono (o1.trans o2))).mono f'⟩) ((E.mono (o1.trans o2)).mono f') n⟩
theorem nx_dputG {tv : TE} (h : Ev K W i tv Γ fun m e => Ev K W m ta Γ fun j o => Ev K W j tb Γ fun k y => ∃ a l key k', o = .obj a ∧ y.key = some key ∧ (∀ {H : Hp}, W.I k H → DctAt K a l H) ∧ l.length ≤ 1000000 ∧
    (∀ {H H' : Hp}, W.I k H → Off [a] H H' → DctAt K a (dput l key e) H' → W.I k' H') ∧ Nx K W k' Γ D.nx) : Nx K W i Γ (sDPut ta tb tv D) := fun H σ I E =>
  h H σ I E _ fun v H0 m e o0 I0 a0 p0 => p0 H0 σ I0 (E.mono o0) _ fun x H1 j d o1 I1 a1 p1 => p1 H1 σ I1 (E.mono (o0.trans o1)) _ fun y H2 k yd o2 I2 a2 p2 => by
    obtain ⟨p, l, key, k', rfl, hk, hl, hz, hI, n⟩ := p2
    cases a1
    have := a2.key hk
    subst this
    obtain ⟨kvs, e1, r⟩ := hl I2
    have f' : Off [p] H2 (upd H2 p (.dK (putK kvs key v))) := Off.put (by simp) e1 fun z => z
    exact ⟨p, _, rfl, DPut.k (k := key) e1 (by rw [r.len, sizeLine_eq]; omega), n _ σ (hI I2 f' ⟨_, upd_same, (r.put (a0.mono (o1.trans o2))).mono f'⟩) ((E.mono (o0.trans (o1.trans o2))).mono f')⟩
theorem AtL.setAt {H : Hp} {v : V} {e : Dat} (a : At K H v e) : ∀ {vs : List V} {ds : List Dat} (m : Nat), AtL K H vs ds → AtL K H (vs.set m v) (ds.set m e)
  | _, _, _, .nil => .nil
  | _, _, 0, .cons h t => .cons a t
  | _, _, m + 1, .cons h t => .cons h (AtL.setAt a m t)
theorem tg_lputG {Pc : ι → Ctx → Prop} {e : Dat} (h : Ev K W i ta Γ fun j o => Ev K W j tb Γ fun k y => ∃ a l n m k', o = .obj a ∧ a ∈ W.A ∧ y = .int n ∧ (∀ {H : Hp}, W.I k H → LstAt K a l H) ∧ ixN l.length n = some m ∧
    (∀ {H H' : Hp}, W.I k H → Off [a] H H' → LstAt K a (l.set m e) H' → W.I k' H') ∧ Pc k' Γ) : Tg K W i (gSub ta tb rSetL) e Γ Pc := fun H σ v I E a0 Q q =>
  h H σ I E _ fun x H1 j d o1 I1 a1 p1 => p1 H1 σ I1 (E.mono o1) _ fun y H2 k yd o2 I2 a2 p2 => by
    obtain ⟨p, l, n, m, k', rfl, hA, rfl, hl, hz, hI, pc⟩ := p2
    cases a1
    cases a2
    obtain ⟨vs, e1, r⟩ := hl I2
    have f' : Off [p] H2 (upd H2 p (.lst (vs.set m v))) := Off.put (by simp) e1 fun z => z
    have f2 : Off W.A H2 (upd H2 p (.lst (vs.set m v))) := Off.put hA e1 fun z => z
    refine ⟨p, vs, n, m, rfl, rfl, e1, by rw [r.len]; exact hz, q σ _ k' Γ ((o1.trans o2).trans f2) (hI I2 f' ⟨_, upd_same, ?_⟩) ((E.mono (o1.trans o2)).mono f') pc⟩
    exact (AtL.setAt (a0.mono (o1.trans o2)) m r).mono f'
theorem nx_asg2 {g1 g2 : TG} (h : Ev K W i te Γ fun j d => Tg K W j g1 d Γ fun k Γ' => Tg K W k g2 d Γ' fun l Γ'' => Nx K W l Γ'' D.nx) : Nx K W i Γ (tAsg2 te g1 g2 D) := fun H σ I E =>
  h H σ I E _ fun v H1 j d o1 I1 a1 p1 => p1 H1 σ v I1 (E.mono o1) a1 _ fun σ' H2 k Γ' o2 I2 E2 p2 => p2 H2 σ' v I2 E2 (a1.mono o2) _ fun σ'' H3 l Γ'' o3 I3 E3 p3 => p3 H3 σ'' I3 E3
/-! ### zip(a, b, strict=True) -/
theorem nx_forZ {ta tb : TE} {gs : TGs} {tl : TS} {κ : Type} {Wf : κ → Wd ι} {k0 : κ} {i : ι} (h : Ev K (Wf k0) i ta Γ fun j d => Ev K (Wf k0) j tb Γ fun k e => ∃ xs ys : List Dat, d = .tup xs ∧ e = .tup ys ∧ xs.length = ys.length ∧ ∀ a b : Addr, ∃ Inv : Nat → κ → ι → Ctx → Prop,
      Inv 0 k0 k Γ ∧ (∀ (m : Nat) (κ' : κ) (j : ι) (Γ' : Ctx) (x y : Dat), xs[m]? = some x → ys[m]? = some y → Inv m κ' j Γ' → Tgs K (((Wf κ').keep K (.ref a) (.tup xs)).keep K (.ref b) (.tup ys)) j gs [x, y] Γ' fun l Γ'' =>
        Nx K (((Wf κ').keep K (.ref a) (.tup xs)).keep K (.ref b) (.tup ys)) l Γ'' (tl { D with nx := Lp K (fun κ' => ((Wf κ').keep K (.ref a) (.tup xs)).keep K (.ref b) (.tup ys)) Inv (m + 1), ct := Lp K (fun κ' => ((Wf κ').keep K (.ref a) (.tup xs)).keep K (.ref b) (.tup ys)) Inv (m + 1), bk := D.nx })) ∧
      ∀ (κ' : κ) (j : ι) (Γ' : Ctx), Inv xs.length κ' j Γ' → Nx K (Wf κ') j Γ' D.nx) : Nx K (Wf k0) i Γ (tFor (iZipS K ta tb) (gTup K 2 gs) tl D) := fun H σ I E =>
  h H σ I E _ fun v H1 j d o1 I1 a1 p1 => p1 H1 σ I1 (E.mono o1) _ fun w H2 k e o2 I2 a2 p2 => by
    obtain ⟨xs, ys, rfl, rfl, hlen, p⟩ := p2
    have a1 := a1.mono o2
    obtain ⟨a, us, rfl, s1, l1⟩ := id a1.tup_inv
    obtain ⟨b, ws, rfl, s2, l2⟩ := id a2.tup_inv
    obtain ⟨Inv, h0, hs, hd⟩ := p a b
    have sq : ∀ {H : Hp} {a : Addr} {xs : List Dat}, At K H (.ref a) (.tup xs) → ∃ us, SqT K H a us ∧ AtL K H us xs := fun h => by
      obtain ⟨a', us, e, s, l⟩ := h.tup_inv
      cases e
      exact ⟨us, s.sqT, l⟩
    refine ⟨a, b, us, ws, rfl, rfl, s1.sqT, s2.sqT, ?_⟩
    refine ⟨fun m r σ H => m + r = xs.length ∧ Lp K (fun κ' => ((Wf κ').keep K (.ref a) (.tup xs)).keep K (.ref b) (.tup ys)) Inv m σ H, ⟨xs.length, Nat.zero_add _, ⟨k0, k, Γ, ⟨⟨I2, a1⟩, a2⟩, E.mono (o1.trans o2), h0⟩⟩, fun m r σ' H' w => ?_⟩
    obtain ⟨e, ⟨κ', j', Γ', I', E', iv⟩⟩ := w
    obtain ⟨us', q1, q2⟩ := sq I'.1.2
    obtain ⟨ws', q3, q4⟩ := sq I'.2
    by_cases hm : m = xs.length
    · subst hm
      exact .inl ⟨⟨us', ws', q1, q3, Nat.le_of_eq q2.len, by rw [q4.len, ← hlen]; exact Nat.le_refl _⟩, hd κ' j' Γ' iv H' σ' I'.1.1 E'⟩
    · have hlt : m < xs.length := by omega
      obtain ⟨x, hx⟩ : ∃ x, xs[m]? = some x := ⟨_, List.getElem?_eq_getElem hlt⟩
      obtain ⟨y, hy⟩ : ∃ y, ys[m]? = some y := ⟨_, List.getElem?_eq_getElem (by omega)⟩
      obtain ⟨u, g1, g2⟩ := q2.get hx
      obtain ⟨w, g3, g4⟩ := q4.get hy
      refine .inr ⟨⟨us', ws', u, w, q1, q3, g1, g3⟩, Lp K (fun κ' => ((Wf κ').keep K (.ref a) (.tup xs)).keep K (.ref b) (.tup ys)) Inv (m + 1), fun σ' H' w' => ⟨r - 1, by omega, by omega, w'⟩, fun z H3 yy => ?_⟩
      obtain ⟨T, x', y', rfl, hT, rfl, e1, e2⟩ := yy
      have ex := e1 us' q1
      have ey := e2 ws' q3
      rw [g1] at ex
      rw [g3] at ey
      cases ex; cases ey
      have f' : Off [] H' (upd H' T (.tup [u, w])) := Off.new hT
      refine ⟨T, [u, w], rfl, .inl (.inl upd_same), rfl, ?_⟩
      exact hs m κ' j' Γ' x y hx hy iv _ σ' [u, w] ⟨⟨(Wf κ').new I'.1.1 hT, I'.1.2.mono f'⟩, I'.2.mono f'⟩ (E'.mono f') (.cons (g2.mono f') (.cons (g4.mono f') .nil)) _ fun σ2 H2 l Γ'' o2 I2 E2 p2 => p2 H2 σ2 I2 E2
theorem el_ifx {t : TT} {ta tb : TE} (h : EvT K W i t Γ fun j b => if b = true then EvL K W j ta Γ Pl else EvL K W j tb Γ Pl) : EvL K W i (tIf t ta tb) Γ Pl := fun H σ I E Q q =>
  h H σ I E _ fun b H1 j o1 I1 p1 => by
    cases b with
    | true => exact p1 H1 σ I1 (E.mono o1) Q fun p H2 k l np o2 I2 a2 p2 => q p H2 k l np (o1.trans o2) I2 a2 p2
    | false => exact p1 H1 σ I1 (E.mono o1) Q fun p H2 k l np o2 I2 a2 p2 => q p H2 k l np (o1.trans o2) I2 a2 p2
theorem sq_extend {p : Addr} {l : List Dat} {Wn : (φ' : Hp → Prop) → Shp p φ' → Wd ι} (o : OwnAt W p (LstAt K p l) Wn) (ho : Ev K W i ta Γ fun j d => d = .obj p ∧ Ev K W j te Γ fun k e => ∃ q more, e = .obj q ∧ (∀ {H : Hp}, W.I k H → LstAt K q more H) ∧ l.length + more.length ≤ 1000000 ∧ Nx K (Wn (LstAt K p (l ++ more)) (lst_shp K p _)) k Γ (tr D)) :
    Nx K W i Γ (tSeq (tDrop (tBM K "list" rExtend ta (tCons te tNil))) tr D) := nx_extend (D := { D with nx := tr D }) o ho
theorem sq_dputG {tv : TE} (h : Ev K W i tv Γ fun m e => Ev K W m ta Γ fun j o => Ev K W j tb Γ fun k y => ∃ a l key k', o = .obj a ∧ y.key = some key ∧ (∀ {H : Hp}, W.I k H → DctAt K a l H) ∧ l.length ≤ 1000000 ∧
    (∀ {H H' : Hp}, W.I k H → Off [a] H H' → DctAt K a (dput l key e) H' → W.I k' H') ∧ Nx K W k' Γ (tr D)) : Nx K W i Γ (tSeq (sDPut ta tb tv) tr D) := nx_dputG (D := { D with nx := tr D }) h
theorem sq_asg2 {g1 g2 : TG} (h : Ev K W i te Γ fun j d => Tg K W j g1 d Γ fun k Γ' => Tg K W k g2 d Γ' fun l Γ'' => Nx K W l Γ'' (tr D)) : Nx K W i Γ (tSeq (tAsg2 te g1 g2) tr D) := nx_asg2 (D := { D with nx := tr D }) h
theorem sq_sfldG {f : Str} (h : Ev K W i tx Γ fun j e => Ev K W j ta Γ fun k d => ∃ a C l k', d = .obj a ∧ (∀ {H : Hp}, W.I k H → InsAt K a C l H) ∧ Cls K C ∧ NoAttr K C f ∧ l.length < 1000 ∧
    (∀ {H H' : Hp}, W.I k H → Off [a] H H' → InsAt K a C (fput f e l) H' → W.I k' H') ∧ Nx K W k' Γ (tr D)) : Nx K W i Γ (tSeq (sFld K ta tx f) tr D) := nx_sfldG (D := { D with nx := tr D }) h
theorem sq_augG {f : Str} {g : Int → Int → Int} (h : Ev K W i ta Γ fun j d => ∃ a C l n, d = .obj a ∧ (∀ {H : Hp}, W.I j H → InsAt K a C l H) ∧ Cls K C ∧ NoAttr K C f ∧ flook l f = some (.int n) ∧ Ev K W j te Γ fun k e => ∃ m k', e = .int m ∧ (∀ {H : Hp}, W.I k H → InsAt K a C l H) ∧ l.length < 1000 ∧
    (∀ {H H' : Hp}, W.I k H → Off [a] H H' → InsAt K a C (fput f (.int (g n m)) l) H' → W.I k' H') ∧ Nx K W k' Γ (tr D)) : Nx K W i Γ (tSeq (sFldAug K ta te (rI0 fun i j => .int (g i j)) f) tr D) := nx_augG (D := { D with nx := tr D }) h
theorem sq_sfld {p C : Addr} {l : List (Str × Dat)} {f : Str} {Wn : (φ' : Hp → Prop) → Shp p φ' → Wd ι} (o : OwnAt W p (InsAt K p C l) Wn) (hc : Cls K C) (hn : NoAttr K C f) (hl : l.length < 1000)
    (h : Ev K W i tx Γ fun j e => Ev K W j ta Γ fun k d => d = .obj p ∧ Nx K (Wn (InsAt K p C (fput f e l)) (ins_shp K p C _)) k Γ (tr D)) : Nx K W i Γ (tSeq (sFld K ta tx f) tr D) := nx_sfld (D := { D with nx := tr D }) o hc hn hl h
theorem sq_sfldD {p C : Addr} {l : List (Str × Dat)} {f : Str} {Wn : (φ' : Hp → Prop) → Shp p φ' → Wd ι} (o : OwnAt W p (InsAt K p C l) Wn) (hc : Cls K C) (hn : NoAttr K C f) (hl : l.length < 1000)
    (h : EvD K W i tx Γ fun j l0 => ∀ q nq, Ev K (W.own q (DctAt K q l0) (dct_shp K q l0) nq) j ta Γ fun k d => d = .obj p ∧ Nx K ((Wn (InsAt K p C (fput f (.obj q) l)) (ins_shp K p C _)).own q (DctAt K q l0) (dct_shp K q l0) fun z => nq (o.cl z)) k Γ (tr D)) : Nx K W i Γ (tSeq (sFld K ta tx f) tr D) := nx_sfldD (D := { D with nx := tr D }) o hc hn hl h
theorem sq_forZ {ta tb : TE} {gs : TGs} {tl : TS} {κ : Type} {Wf : κ → Wd ι} {k0 : κ} {i : ι} (h : Ev K (Wf k0) i ta Γ fun j d => Ev K (Wf k0) j tb Γ fun k e => ∃ xs ys : List Dat, d = .tup xs ∧ e = .tup ys ∧ xs.length = ys.length ∧ ∀ a b : Addr, ∃ Inv : Nat → κ → ι → Ctx → Prop,
      Inv 0 k0 k Γ ∧ (∀ (m : Nat) (κ' : κ) (j : ι) (Γ' : Ctx) (x y : Dat), xs[m]? = some x → ys[m]? = some y → Inv m κ' j Γ' → Tgs K (((Wf κ').keep K (.ref a) (.tup xs)).keep K (.ref b) (.tup ys)) j gs [x, y] Γ' fun l Γ'' =>
        Nx K (((Wf κ').keep K (.ref a) (.tup xs)).keep K (.ref b) (.tup ys)) l Γ'' (tl { D with nx := Lp K (fun κ' => ((Wf κ').keep K (.ref a) (.tup xs)).keep K (.ref b) (.tup ys)) Inv (m + 1), ct := Lp K (fun κ' => ((Wf κ').keep K (.ref a) (.tup xs)).keep K (.ref b) (.tup ys)) Inv (m + 1), bk := tr D })) ∧
      ∀ (κ' : κ) (j : ι) (Γ' : Ctx), Inv xs.length κ' j Γ' → Nx K (Wf κ') j Γ' (tr D)) : Nx K (Wf k0) i Γ (tSeq (tFor (iZipS K ta tb) (gTup K 2 gs) tl) tr D) := nx_forZ (D := { D with nx := tr D }) h
end
end Lb
/-! text LbW -/
/-! Words of fields; tests on them. -/
namespace Lb
open PySem L2
def Fld.word : Fld → Str
  | .number .. => "number"
  | .bits .. => "bits"
  | .bytes .. => "bytes"
  | .text .. => "text"
  | .choice .. => "choice"
  | .row .. => "row"
  | .carried .. => "carried"
def Fld.tl : Fld → List Dat
  | .number n s o l m => [.str n, .int s, .str o, .int l, .int m]
  | .bits a v b w => [.tup [.tup [.str a, .int v], .tup [.str b, .int w]]]
  | .bytes n l => [.str n, l.dat]
  | .text n m => [.str n, .int m]
  | .choice n t ks => [.str n, .str t, .tup (ks.map fun q => .tup [.int q.1, .str q.2])]
  | .row n k t => [.str n, .str k, rowEnd t]
  | .carried n l k => [.str n, l.dat, .str k]
theorem Fld.dat_eq (f : Fld) : f.dat = .tup (.str f.word :: f.tl) := by cases f <;> rfl
theorem Fld.inv (f : Fld) : (f.word = "number" → ∃ n s o l m, f = .number n s o l m) ∧ (f.word = "bits" → ∃ a v b w, f = .bits a v b w) ∧ (f.word = "bytes" → ∃ n l, f = .bytes n l) ∧ (f.word = "text" → ∃ n m, f = .text n m) ∧
    (f.word = "choice" → ∃ n t ks, f = .choice n t ks) ∧ (f.word = "row" → ∃ n k t, f = .row n k t) ∧ (f.word = "carried" → ∃ n l k, f = .carried n l k) := by
  cases f <;> refine ⟨fun h => ?_, fun h => ?_, fun h => ?_, fun h => ?_, fun h => ?_, fun h => ?_, fun h => ?_⟩ <;> first | (exfalso; revert h; simp only [Fld.word]; decide +kernel) | exact ⟨_, _, _, _, _, rfl⟩ | exact ⟨_, _, _, _, rfl⟩ | exact ⟨_, _, _, rfl⟩ | exact ⟨_, _, rfl⟩
def Ln.word : Ln → Str
  | .is _ => "is"
  | .of _ _ _ => "of"
  | .rest => "rest"
def Ln.tl : Ln → List Dat
  | .is n => [.int n]
  | .of t k m => [.str t, .int k, .int m]
  | .rest => []
theorem atI0 {d : Dat} {ds : List Dat} : atI (d :: ds) 0 = some d := by
  unfold atI ixN
  simp
theorem Ln.dat_eq (l : Ln) : l.dat = .tup (.str l.word :: l.tl) := by cases l <;> rfl
theorem Ln.inv (l : Ln) : (l.word = "is" → ∃ n, l = .is n) ∧ (l.word = "of" → ∃ t k m, l = .of t k m) ∧ (l.word = "rest" → l = .rest) := by
  cases l <;> refine ⟨fun h => ?_, fun h => ?_, fun h => ?_⟩ <;> first | (exfalso; revert h; simp only [Ln.word]; decide +kernel) | exact ⟨_, rfl⟩ | exact ⟨_, _, _, rfl⟩ | rfl
theorem word_rest (l : Ln) : (!decide (l.word = "rest")) = !l.isRest := by
  cases l with
  | is n => show (!decide (("is" : Str) = "rest")) = !false; decide +kernel
  | of t k m => show (!decide (("of" : Str) = "rest")) = !false; decide +kernel
  | rest => show (!decide (("rest" : Str) = "rest")) = !true; decide +kernel
section
variable {ι : Type} {K : PySem.W.Frag} {W : Wd ι} {i : ι} {Γ : Ctx} {P : ι → Dat → Prop} {A B : ι → Prop} {te : TE}
/-- x[0] == word, x a tuple that starts with a word -/
theorem et_w0 {w x : Str} {ds : List Dat} (he : Ev K W i te Γ fun j d => d = .tup (.str w :: ds) ∧ j = i) (h1 : w = x → A i) (h2 : w ≠ x → B i) : EvT K W i (tTest (tOp rEq (tOp (rIxT K) te (tC (.int 0))) (tC (.str x)))) Γ fun j b => if b = true then A j else B j :=
  et_test (ev_op (ev_op (he.imp fun j d e => by
    obtain ⟨rfl, rfl⟩ := e
    exact ev_int (op_ixT atI0 (ev_str (op_eqS ⟨_, rfl, ifD h1 h2⟩))))))
theorem et_word {w x : Str} {k : Nat} {ds : List Dat} (hk : Γ[k]? = some (some (.tup (.str w :: ds)))) (h1 : w = x → A i) (h2 : w ≠ x → B i) : EvT K W i (tTest (tOp rEq (tOp (rIxT K) (tVar k) (tC (.int 0))) (tC (.str x)))) Γ fun j b => if b = true then A j else B j :=
  et_w0 (ev_var hk ⟨rfl, rfl⟩) h1 h2
theorem et_word2 {w x y : Str} {k : Nat} {ds : List Dat} (hk : Γ[k]? = some (some (.tup (.str w :: ds)))) (h1 : w = x ∨ w = y → A i) (h2 : w ≠ x → w ≠ y → B i) : EvT K W i (tTest (tOp (rIn K false) (tOp (rIxT K) (tVar k) (tC (.int 0))) (tTupF (tCons (tC (.str x)) (tCons (tC (.str y)) tNil))))) Γ fun j b => if b = true then A j else B j := by
  refine et_test (ev_op (ev_op (ev_var hk (ev_int (op_ixT atI0 ?_)))))
  refine ev_tup (ea_cons (ev_str (ea_cons (ev_str (ea_nil ⟨by show 2 ≤ 1000; decide, ?_⟩)))))
  refine op_inT rfl rfl ⟨_, rfl, ?_⟩
  have e : ([Dat.str x, Dat.str y].any fun e => e.eqf (.str w)) = (x == w || y == w) := by simp [Dat.eqf]
  rw [e]
  by_cases c1 : w = x
  · exact ifT (by simp [c1]) (h1 (.inl c1))
  · by_cases c2 : w = y
    · exact ifT (by simp [c2]) (h1 (.inr c2))
    · exact ifF (by simp [Ne.symm c1, Ne.symm c2]) (h2 c1 c2)
/-- an item of the tuple in slot k -/
theorem ev_ix {k : Nat} {n : Int} {ds : List Dat} {f : Dat} (hk : Γ[k]? = some (some (.tup ds))) (hn : atI ds n = some f) (p : P i f) : Ev K W i (tOp (rIxT K) (tVar k) (tC (.int n))) Γ P := ev_op (ev_var hk (ev_int (op_ixT hn p)))
theorem ev_ix2 {k : Nat} {n m : Int} {ds es : List Dat} {f : Dat} (hk : Γ[k]? = some (some (.tup ds))) (hn : atI ds n = some (.tup es)) (hm : atI es m = some f) (p : P i f) : Ev K W i (tOp (rIxT K) (tOp (rIxT K) (tVar k) (tC (.int n))) (tC (.int m))) Γ P := ev_op (ev_ix hk hn (ev_int (op_ixT hm p)))
/-- x == REST, x a row's end -/
theorem rest_eq {aS : Addr} (hS : ∀ H, SqF K H aS [.str "rest"]) {ta : TE} (h : Ev K W i ta Γ fun j d => ∃ l : Ln, d = l.dat ∧ (∀ t k m, l = .of t k m → NmOk t) ∧ P j (.bl l.isRest)) : Ev K W i (tOp (rEqD K) ta (tC (.ref aS))) Γ P :=
  ev_op (h.imp fun j d e => by
    obtain ⟨l, rfl, hf, p⟩ := e
    refine ev_ref (ds := [.str "rest"]) hS (fun H => .cons (.str _) .nil) ?_
    cases l with
    | is n => exact op_eqD (n := 1) (m := 1) (by simp [Dat.fine, Dat.fineL, Ln.dat]; decide +kernel) (by decide +kernel) (by decide) (by decide) (by exact p)
    | rest => exact op_eqD (n := 1) (m := 1) (by decide +kernel) (by decide +kernel) (by decide) (by decide) (by exact p)
    | of t k m =>
      refine op_eqD (n := 1) (m := 1) ?_ (by decide +kernel) (by decide) (by decide) (by exact p)
      have : PyData.strOk t = true := hf t k m rfl
      simp [Dat.fine, Ln.dat, Dat.fineL, this]
      decide +kernel)
theorem rest_eqR {aS : Addr} (hS : ∀ H, SqF K H aS [.str "rest"]) {ta : TE} (h : Ev K W i ta Γ fun j d => ∃ l : Option Str, d = rowEnd l ∧ (∀ t, l = some t → NmOk t) ∧ P j (.bl l.isNone)) : Ev K W i (tOp (rEqD K) ta (tC (.ref aS))) Γ P :=
  ev_op (h.imp fun j d e => by
    obtain ⟨l, rfl, hf, p⟩ := e
    refine ev_ref (ds := [.str "rest"]) hS (fun H => .cons (.str _) .nil) ?_
    cases l with
    | none => exact op_eqD (n := 1) (m := 1) (by decide +kernel) (by decide +kernel) (by decide) (by decide) (by exact p)
    | some t =>
      refine op_eqD (n := 1) (m := 1) ?_ (by decide +kernel) (by decide) (by decide) (by exact p)
      have : PyData.strOk t = true := hf t rfl
      simp [Dat.fine, rowEnd, Dat.fineL, this]
      decide +kernel)
end
end Lb
/-! text LbX -/
/-! Plain facts on dicts and grammars. -/
namespace Lb
open PySem L2
theorem dlook_none {l : List (Key × Dat)} {k : Key} (h : ∀ q ∈ l, q.1 ≠ k) : dlook l k = none := by
  induction l with
  | nil => rfl
  | cons q r ih =>
    show (if q.1 = k then _ else _) = _
    rw [if_neg (h q List.mem_cons_self)]
    exact ih fun x hx => h x (List.mem_cons_of_mem _ hx)
theorem dput_new {l : List (Key × Dat)} {k : Key} {d : Dat} (h : dlook l k = none) : dput l k d = l ++ [(k, d)] := by unfold dput; rw [h]; rfl
theorem dlook_mem {l : List (Key × Dat)} {k : Key} {d : Dat} (h : dlook l k = some d) : (k, d) ∈ l := by
  induction l with
  | nil => cases h
  | cons q r ih =>
    have h' : (if q.1 = k then some q.2 else dlook r k) = some d := h
    by_cases e : q.1 = k
    · rw [if_pos e] at h'
      cases h'
      subst e
      exact List.mem_cons_self
    · rw [if_neg e] at h'
      exact List.mem_cons_of_mem _ (ih h')
theorem dlook_some_of {l : List (Key × Dat)} {k : Key} (h : ∃ q ∈ l, q.1 = k) : ∃ d, dlook l k = some d := by
  induction l with
  | nil => obtain ⟨q, hq, _⟩ := h; cases hq
  | cons q r ih =>
    by_cases e : q.1 = k
    · exact ⟨q.2, by show (if q.1 = k then _ else _) = _; rw [if_pos e]⟩
    · obtain ⟨d, hd⟩ := ih (by
        obtain ⟨x, hx, ex⟩ := h
        rcases List.mem_cons.mp hx with z | z
        · subst z; exact absurd ex e
        · exact ⟨x, z, ex⟩)
      exact ⟨d, by show (if q.1 = k then _ else _) = _; rw [if_neg e]; exact hd⟩
theorem dput_mem {l : List (Key × Dat)} {k : Key} {d : Dat} {P : Dat → Prop} (h : ∀ q ∈ l, P q.2) (hd : P d) : ∀ q ∈ dput l k d, P q.2 := by
  intro q hq
  unfold dput at hq
  split at hq
  · obtain ⟨x, hx, rfl⟩ := List.mem_map.mp hq
    show P (if x.1 = k then d else x.2)
    split
    · exact hd
    · exact h x hx
  · rcases List.mem_append.mp hq with z | z
    · exact h q z
    · rw [List.mem_singleton.mp z]; exact hd
theorem dmerge_mem {P : Dat → Prop} : ∀ {more l : List (Key × Dat)}, (∀ q ∈ l, P q.2) → (∀ q ∈ more, P q.2) → ∀ q ∈ dmerge l more, P q.2
  | [], _, h, _ => h
  | x :: r, l, h, g => dmerge_mem (more := r) (l := dput l x.1 x.2) (dput_mem h (g x List.mem_cons_self)) fun q hq => g q (List.mem_cons_of_mem _ hq)
theorem dmerge_len : ∀ {more l : List (Key × Dat)}, (dmerge l more).length ≤ l.length + more.length
  | [], l => Nat.le_refl _
  | x :: r, l => by
    have h1 := dmerge_len (more := r) (l := dput l x.1 x.2)
    have h2 := dput_len l x.1 x.2
    show (dmerge (dput l x.1 x.2) r).length ≤ _
    rw [List.length_cons]
    omega
theorem dput_has {l : List (Key × Dat)} {k j : Key} {d : Dat} (h : (dlook l j).isSome = true ∨ j = k) : (dlook (dput l k d) j).isSome = true := by
  rw [dlook_put]
  split
  · rfl
  · rename_i e
    exact h.resolve_right e
theorem dmerge_has {k : Key} : ∀ {more l : List (Key × Dat)}, ((dlook l k).isSome = true ∨ (dlook more k).isSome = true) → (dlook (dmerge l more) k).isSome = true
  | [], l, h => h.resolve_right fun z => by cases z
  | x :: r, l, h => by
    refine dmerge_has (more := r) (l := dput l x.1 x.2) ?_
    rcases h with h | h
    · exact .inl (dput_has (.inl h))
    · have h' : (if x.1 = k then some x.2 else dlook r k).isSome = true := h
      by_cases e : x.1 = k
      · exact .inl (dput_has (.inr e.symm))
      · rw [if_neg e] at h'
        exact .inr h'
def kindsOf : Fld → List Str
  | .choice _ _ ks => ks.map (·.2)
  | .row _ k _ => [k]
  | .carried _ _ k => [k]
  | _ => []
/-- a tag's two bounds -/
def TgD (d : Dat) : Prop := ∃ a b : Int, d = .tup [.int a, .int b] ∧ 0 ≤ a ∧ a ≤ 10
def TgOk (xs : List Str) (l : List (Key × Dat)) : Prop := (∀ q ∈ l, TgD q.2) ∧ ∀ x ∈ xs, (dlook l (.inr x)).isSome = true
theorem TgOk.look {xs : List Str} {l : List (Key × Dat)} {x : Str} (h : TgOk xs l) (hx : x ∈ xs) : ∃ d, dlook l (.inr x) = some d ∧ TgD d := by
  have := h.2 x hx
  cases e : dlook l (.inr x) with
  | none => rw [e] at this; cases this
  | some d => exact ⟨d, rfl, h.1 _ (dlook_mem e)⟩
def KnD (d : Dat) : Prop := ∃ (b : Bool) (n : Int), d = .tup [.bl b, .int n]
def KnOk (xs : List Str) (l : List (Key × Dat)) : Prop := (∀ q ∈ l, KnD q.2) ∧ ∀ x ∈ xs, (dlook l (.inr x)).isSome = true
theorem KnOk.look {xs : List Str} {l : List (Key × Dat)} {x : Str} (h : KnOk xs l) (hx : x ∈ xs) : ∃ d, dlook l (.inr x) = some d ∧ KnD d := by
  have := h.2 x hx
  cases e : dlook l (.inr x) with
  | none => rw [e] at this; cases this
  | some d => exact ⟨d, rfl, h.1 _ (dlook_mem e)⟩
theorem FsOk.mem {deep : List Str} : ∀ {seen : List Str} {fs : List Fld}, FsOk deep seen fs → ∀ f ∈ fs, ∃ s, FldOk s deep f ∧ ∀ x ∈ s, x ∈ seen ++ fs.flatMap decl
  | _, [], _, f, hf => nomatch hf
  | seen, g :: fs, h, f, hf => by
    rcases List.mem_cons.mp hf with e | hf
    · subst e
      exact ⟨seen, h.1, fun x hx => List.mem_append.mpr (.inl hx)⟩
    · obtain ⟨s, h1, h2⟩ := FsOk.mem h.2 f hf
      refine ⟨s, h1, fun x hx => ?_⟩
      have := h2 x hx
      rw [List.append_assoc] at this
      rw [List.flatMap_cons]
      exact this
theorem FldOk.kinds {s deep : List Str} {f : Fld} (h : FldOk s deep f) : ∀ k ∈ kindsOf f, k ∈ deep := by
  cases f with
  | choice n t ks =>
    intro k hk
    obtain ⟨q, hq, rfl⟩ := List.mem_map.mp hk
    exact h.2.2.2.2.2 q hq
  | row n k t => intro x hx; rw [List.mem_singleton.mp hx]; exact h.2.1
  | carried n l k => intro x hx; rw [List.mem_singleton.mp hx]; exact h.2.2
  | _ => intro x hx; cases hx
def tblOf (G : Gr) : List (Key × Dat) := G.map fun q => ((.inr q.1 : Key), .tup (q.2.map Fld.dat))
def namesOf (G : Gr) : List Str := G.map (·.1)
theorem ne_al : ¬ (("all" : Str) = "low") := by decide +kernel
theorem ne_am : ¬ (("all" : Str) = "mid") := by decide +kernel
theorem ne_lm : ¬ (("low" : Str) = "mid") := by decide +kernel
/-- what is needed of an ordered grammar -/
theorem GrOk.nodup {G : Gr} (h : GrOk G) : (namesOf G).Nodup := by
  obtain ⟨fs, fl, ⟨rfl, _⟩ | ⟨fm, rfl, _⟩⟩ := h
  · simp [namesOf, ne_al]
  · simp [namesOf, ne_al, ne_am, ne_lm]
theorem GrOk.len {G : Gr} (h : GrOk G) : 1 ≤ G.length ∧ G.length ≤ 3 := by
  obtain ⟨fs, fl, ⟨rfl, _⟩ | ⟨fm, rfl, _⟩⟩ := h
  · exact ⟨by show 1 ≤ 2; decide, by show 2 ≤ 3; decide⟩
  · exact ⟨by show 1 ≤ 3; decide, by show 3 ≤ 3; decide⟩
theorem GrOk.names {G : Gr} (h : GrOk G) : ∀ k ∈ namesOf G, k = "all" ∨ k = "low" ∨ k = "mid" := by
  obtain ⟨fs, fl, ⟨rfl, _⟩ | ⟨fm, rfl, _⟩⟩ := h
  · intro k hk; simp [namesOf] at hk; rcases hk with e | e <;> simp [e]
  · intro k hk; simp [namesOf] at hk; rcases hk with e | e | e <;> simp [e]
theorem GrOk.deep {G : Gr} (h : GrOk G) : ∀ (m : Nat) (q : Kd), G[m]? = some q → q.2.length ≤ 10 ∧ FsOk ((namesOf G).drop (m + 1)) [] q.2 ∨ (q.2.length ≤ 10 ∧ FsOk [] [] q.2) := by
  obtain ⟨fs, fl, ⟨rfl, h1, h2, h3⟩ | ⟨fm, rfl, h1, h2, h3, h4⟩⟩ := h
  · intro m q hq
    match m, hq with
    | 0, hq => cases hq; exact .inl ⟨h2.2, h1⟩
    | 1, hq => cases hq; exact .inr ⟨h3.2.2, h3.2.1⟩
    | m + 2, hq => cases hq
  · intro m q hq
    match m, hq with
    | 0, hq => cases hq; exact .inl ⟨h2.2, h1⟩
    | 1, hq => cases hq; exact .inr ⟨h3.2.2, h3.2.1⟩
    | 2, hq => cases hq; exact .inr ⟨h4.2.2, h4.2.1⟩
    | m + 3, hq => cases hq
theorem find_nodup : ∀ {G : Gr} {m : Nat} {q : Kd}, (namesOf G).Nodup → G[m]? = some q → G.find? (fun r => r.1 == q.1) = some q
  | [], m, q, _, h => by cases h
  | r :: G, 0, q, _, h => by cases h; simp
  | r :: G, m + 1, q, nd, h => by
    have nd' : r.1 ∉ namesOf G ∧ (namesOf G).Nodup := List.nodup_cons.mp nd
    have hm : q ∈ G := List.mem_of_getElem? (by simpa using h)
    have ne : r.1 ≠ q.1 := fun z => nd'.1 (z ▸ List.mem_map.mpr ⟨q, hm, rfl⟩)
    rw [List.find?_cons_of_neg (by simpa using ne)]
    exact find_nodup (m := m) nd'.2 (by simpa using h)
theorem GrOk.fields {G : Gr} (h : GrOk G) {m : Nat} {q : Kd} (hq : G[m]? = some q) : fieldsOf G q.1 = q.2 := by
  unfold fieldsOf
  rw [find_nodup h.nodup hq]
theorem tbl_look : ∀ {G : Gr} {m : Nat} {q : Kd}, (namesOf G).Nodup → G[m]? = some q → dlook (tblOf G) (.inr q.1) = some (.tup (q.2.map Fld.dat))
  | [], m, q, _, h => by cases h
  | r :: G, 0, q, _, h => by cases h; show (if _ then _ else _) = _; rw [if_pos rfl]
  | r :: G, m + 1, q, nd, h => by
    have nd' : r.1 ∉ namesOf G ∧ (namesOf G).Nodup := List.nodup_cons.mp nd
    have hm : q ∈ G := List.mem_of_getElem? (by simpa using h)
    have ne : ¬ ((.inr r.1 : Key) = .inr q.1) := fun z => nd'.1 (Sum.inr.inj z ▸ List.mem_map.mpr ⟨q, hm, rfl⟩)
    show (if (Sum.inr r.1 : Key) = .inr q.1 then _ else dlook (tblOf G) _) = _
    rw [if_neg ne]
    exact tbl_look (m := m) nd'.2 (by simpa using h)
theorem get_map {α : Type} {g : α → Dat} {xs : List α} {m : Nat} {d : Dat} (h : (xs.map g)[m]? = some d) : ∃ x, xs[m]? = some x ∧ d = g x := by
  rw [List.getElem?_map] at h
  cases e : xs[m]? with
  | none => rw [e] at h; cases h
  | some x => rw [e] at h; exact ⟨x, rfl, (Option.some.inj h).symm⟩
theorem take_snoc {α : Type} {xs : List α} {m : Nat} {x : α} (h : xs[m]? = some x) : xs.take (m + 1) = xs.take m ++ [x] := by rw [List.take_succ, h]; rfl
end Lb
/-! text LbG -/
/-! The text by places; the names of the top. -/
namespace Lb
open PySem L2
def top (i : Nat) : Stmt := PySem.Challenge.pw_letterbench_k14_whole_only_what_hangs_tu.main.body.getD i (.Pass ⟨0, 0, 0, 0⟩)
abbrev s_is_word : Stmt := top 14
theorem sc_is_word : FnScope ["thing", "sign"] ["thing"] (defScope s_is_word) := ⟨rfl, rfl, rfl, by decide +kernel, rfl, by decide +kernel, by decide +kernel⟩
abbrev s_number_in : Stmt := top 16
theorem sc_number_in : FnScope ["some", "order", "found", "byte"] ["some", "order"] (defScope s_number_in) := ⟨rfl, rfl, rfl, by decide +kernel, rfl, by decide +kernel, by decide +kernel⟩
abbrev s_tags_in : Stmt := top 23
theorem sc_tags_in : FnScope ["field", "name", "width"] ["field"] (defScope s_tags_in) := ⟨rfl, rfl, rfl, by decide +kernel, rfl, by decide +kernel, by decide +kernel⟩
abbrev s_tags_of : Stmt := top 24
theorem sc_tags_of : FnScope ["fields", "found", "field"] ["fields"] (defScope s_tags_of) := ⟨rfl, rfl, rfl, by decide +kernel, rfl, by decide +kernel, by decide +kernel⟩
abbrev s_kinds_in : Stmt := top 25
theorem sc_kinds_in : FnScope ["field", "worth", "kind"] ["field"] (defScope s_kinds_in) := ⟨rfl, rfl, rfl, by decide +kernel, rfl, by decide +kernel, by decide +kernel⟩
abbrev s_kind_table : Stmt := top 26
theorem sc_kind_table : FnScope ["grammar", "name", "fields"] ["grammar"] (defScope s_kind_table) := ⟨rfl, rfl, rfl, by decide +kernel, rfl, by decide +kernel, by decide +kernel⟩
abbrev s_goes_on : Stmt := top 27
theorem sc_goes_on : FnScope ["known", "field", "kind"] ["known", "field"] (defScope s_goes_on) := ⟨rfl, rfl, rfl, by decide +kernel, rfl, by decide +kernel, by decide +kernel⟩
abbrev s_least_length : Stmt := top 28
theorem sc_least_length : FnScope ["length", "tags", "word", "tag", "times", "more"] ["length", "tags"] (defScope s_least_length) := ⟨rfl, rfl, rfl, by decide +kernel, rfl, by decide +kernel, by decide +kernel⟩
abbrev s_least_field : Stmt := top 29
theorem sc_least_field : FnScope ["known", "field", "tags", "kind"] ["known", "field", "tags"] (defScope s_least_field) := ⟨rfl, rfl, rfl, by decide +kernel, rfl, by decide +kernel, by decide +kernel⟩
abbrev s_reckoned : Stmt := top 30
theorem sc_reckoned : FnScope ["table", "known", "waiting", "kind", "lacking", "tags", "field", "inner"] ["table"] (defScope s_reckoned) := ⟨rfl, rfl, rfl, by decide +kernel, rfl, by decide +kernel, by decide +kernel⟩
abbrev s_fields_of : Stmt := top 31
theorem sc_fields_of : FnScope ["grammar", "kind", "table"] ["grammar", "kind"] (defScope s_fields_of) := ⟨rfl, rfl, rfl, by decide +kernel, rfl, by decide +kernel, by decide +kernel⟩
abbrev s_length_by : Stmt := top 33
theorem sc_length_by : FnScope ["length", "tags", "left"] ["length", "tags", "left"] (defScope s_length_by) := ⟨rfl, rfl, rfl, by decide +kernel, rfl, by decide +kernel, by decide +kernel⟩
abbrev s_parts_of : Stmt := top 34
theorem sc_parts_of : FnScope ["byte", "parts", "found", "left", "name", "width"] ["byte", "parts"] (defScope s_parts_of) := ⟨rfl, rfl, rfl, by decide +kernel, rfl, by decide +kernel, by decide +kernel⟩
abbrev s_reading : Stmt := top 47
theorem sc_reading : FnScope ["grammar", "some", "kind", "reader", "fields"] ["grammar", "some", "kind"] (defScope s_reading) := ⟨rfl, rfl, rfl, by decide +kernel, rfl, by decide +kernel, by decide +kernel⟩
abbrev s_spreads_of : Stmt := top 48
theorem sc_spreads_of : FnScope ["grammar", "some", "kind"] ["grammar", "some", "kind"] (defScope s_spreads_of) := ⟨rfl, rfl, rfl, by decide +kernel, rfl, by decide +kernel, by decide +kernel⟩
abbrev s_Reader_init : Stmt := inClass (top 35) 0
theorem sc_Reader_init : FnScope ["self", "grammar", "some"] ["self", "grammar", "some"] (defScope s_Reader_init) := ⟨rfl, rfl, rfl, by decide +kernel, rfl, by decide +kernel, by decide +kernel⟩
abbrev s_Reader_tell : Stmt := inClass (top 35) 1
theorem sc_Reader_tell : FnScope ["self", "begin", "end", "path", "what", "worth"] ["self", "begin", "end", "path", "what", "worth"] (defScope s_Reader_tell) := ⟨rfl, rfl, rfl, by decide +kernel, rfl, by decide +kernel, by decide +kernel⟩
abbrev s_Reader_stop : Stmt := inClass (top 35) 2
theorem sc_Reader_stop : FnScope ["self", "place", "end", "path", "word"] ["self", "place", "end", "path", "word"] (defScope s_Reader_stop) := ⟨rfl, rfl, rfl, by decide +kernel, rfl, by decide +kernel, by decide +kernel⟩
abbrev s_Reader_read_kind : Stmt := inClass (top 35) 3
theorem sc_Reader_read_kind : FnScope ["self", "kind", "room", "path", "thing", "fields", "field", "later"] ["self", "kind", "room", "path"] (defScope s_Reader_read_kind) := ⟨rfl, rfl, rfl, by decide +kernel, rfl, by decide +kernel, by decide +kernel⟩
abbrev s_Reader_read_room : Stmt := inClass (top 35) 4
theorem sc_Reader_read_room : FnScope ["self", "kind", "place", "end", "path", "behind", "fields", "is_whole"] ["self", "kind", "place", "end", "path"] (defScope s_Reader_read_room) := ⟨rfl, rfl, rfl, by decide +kernel, rfl, by decide +kernel, by decide +kernel⟩
abbrev s_Room_init : Stmt := inClass (top 36) 0
theorem sc_Room_init : FnScope ["self", "place", "limit", "end"] ["self", "place", "limit", "end"] (defScope s_Room_init) := ⟨rfl, rfl, rfl, by decide +kernel, rfl, by decide +kernel, by decide +kernel⟩
abbrev s_Thing_init : Stmt := inClass (top 37) 0
theorem sc_Thing_init : FnScope ["self", "reader", "room", "path"] ["self", "reader", "room", "path"] (defScope s_Thing_init) := ⟨rfl, rfl, rfl, by decide +kernel, rfl, by decide +kernel, by decide +kernel⟩
abbrev s_Thing_read : Stmt := inClass (top 37) 1
theorem sc_Thing_read : FnScope ["self", "field"] ["self", "field"] (defScope s_Thing_read) := ⟨rfl, rfl, rfl, by decide +kernel, rfl, by decide +kernel, by decide +kernel⟩
abbrev s_Thing_room : Stmt := inClass (top 37) 2
theorem sc_Thing_room : FnScope ["self"] ["self"] (defScope s_Thing_room) := ⟨rfl, rfl, rfl, by decide +kernel, rfl, by decide +kernel, by decide +kernel⟩
abbrev s_Thing_lacks : Stmt := inClass (top 37) 3
theorem sc_Thing_lacks : FnScope ["self", "name", "word"] ["self", "name", "word"] (defScope s_Thing_lacks) := ⟨rfl, rfl, rfl, by decide +kernel, rfl, by decide +kernel, by decide +kernel⟩
abbrev s_Thing_fails : Stmt := inClass (top 37) 4
theorem sc_Thing_fails : FnScope ["self", "size", "name", "word"] ["self", "size", "name", "word"] (defScope s_Thing_fails) := ⟨rfl, rfl, rfl, by decide +kernel, rfl, by decide +kernel, by decide +kernel⟩
abbrev s_Thing_take : Stmt := inClass (top 37) 5
theorem sc_Thing_take : FnScope ["self", "size", "name", "what", "worth"] ["self", "size", "name", "what", "worth"] (defScope s_Thing_take) := ⟨rfl, rfl, rfl, by decide +kernel, rfl, by decide +kernel, by decide +kernel⟩
abbrev s_Thing_bytes_there : Stmt := inClass (top 37) 6
theorem sc_Thing_bytes_there : FnScope ["self", "size"] ["self", "size"] (defScope s_Thing_bytes_there) := ⟨rfl, rfl, rfl, by decide +kernel, rfl, by decide +kernel, by decide +kernel⟩
abbrev s_Thing_is_short : Stmt := inClass (top 37) 7
theorem sc_Thing_is_short : FnScope ["self", "size"] ["self", "size"] (defScope s_Thing_is_short) := ⟨rfl, rfl, rfl, by decide +kernel, rfl, by decide +kernel, by decide +kernel⟩
abbrev s_law_pool : Stmt := top 50
theorem sc_law_pool : FnScope ["_law_script", "_law_k", "_law_cell", "_law_seed"] ["_law_script", "_law_k"] (defScope s_law_pool) := ⟨rfl, rfl, rfl, by decide +kernel, rfl, by decide +kernel, by decide +kernel⟩
abbrev s_law_take : Stmt := top 51
theorem sc_law_take : FnScope ["_law_pool_here", "_law_many_here", "_law_digit"] ["_law_pool_here", "_law_many_here"] (defScope s_law_take) := ⟨rfl, rfl, rfl, by decide +kernel, rfl, by decide +kernel, by decide +kernel⟩
abbrev s_law_length : Stmt := top 52
theorem sc_law_length : FnScope ["_law_pool_here", "_law_tags_here"] ["_law_pool_here", "_law_tags_here"] (defScope s_law_length) := ⟨rfl, rfl, rfl, by decide +kernel, rfl, by decide +kernel, by decide +kernel⟩
abbrev s_law_number : Stmt := top 53
theorem sc_law_number : FnScope ["_law_pool_here", "_law_name", "_law_size", "_law_bounds"] ["_law_pool_here", "_law_name"] (defScope s_law_number) := ⟨rfl, rfl, rfl, by decide +kernel, rfl, by decide +kernel, by decide +kernel⟩
abbrev s_law_plain_field : Stmt := top 54
theorem sc_law_plain_field : FnScope ["_law_pool_here", "_law_name", "_law_tags_here", "_law_way", "_law_width"] ["_law_pool_here", "_law_name", "_law_tags_here"] (defScope s_law_plain_field) := ⟨rfl, rfl, rfl, by decide +kernel, rfl, by decide +kernel, by decide +kernel⟩
abbrev s_law_deep_field : Stmt := top 55
theorem sc_law_deep_field : FnScope ["_law_pool_here", "_law_name", "_law_tags_here", "_law_deeper", "_law_way", "_law_sort", "_law_tag", "_law_worths", "_law_worth"] ["_law_pool_here", "_law_name", "_law_tags_here", "_law_deeper"] (defScope s_law_deep_field) := ⟨rfl, rfl, rfl, by decide +kernel, rfl, by decide +kernel, by decide +kernel⟩
abbrev s_law_tags : Stmt := top 56
theorem sc_law_tags : FnScope ["_law_fields_here", "_law_found", "_law_field"] ["_law_fields_here"] (defScope s_law_tags) := ⟨rfl, rfl, rfl, by decide +kernel, rfl, by decide +kernel, by decide +kernel⟩
abbrev s_law_fields : Stmt := top 57
theorem sc_law_fields : FnScope ["_law_pool_here", "_law_deeper", "_law_most", "_law_found", "_law_k", "_law_name", "_law_tags_here", "_law_way"] ["_law_pool_here", "_law_deeper", "_law_most"] (defScope s_law_fields) := ⟨rfl, rfl, rfl, by decide +kernel, rfl, by decide +kernel, by decide +kernel⟩
abbrev s_law_grammar : Stmt := top 58
theorem sc_law_grammar : FnScope ["_law_pool_here", "_law_deeper", "_law_name", "_law_first", "_law_sort"] ["_law_pool_here"] (defScope s_law_grammar) := ⟨rfl, rfl, rfl, by decide +kernel, rfl, by decide +kernel, by decide +kernel⟩
abbrev s_law_many : Stmt := top 60
theorem sc_law_many : FnScope ["_law_length_here", "_law_tags_here", "_law_left"] ["_law_length_here", "_law_tags_here", "_law_left"] (defScope s_law_many) := ⟨rfl, rfl, rfl, by decide +kernel, rfl, by decide +kernel, by decide +kernel⟩
abbrev s_law_bytes : Stmt := top 61
theorem sc_law_bytes : FnScope ["_law_worth", "_law_size", "_law_order", "_law_found", "_law_turn"] ["_law_worth", "_law_size", "_law_order"] (defScope s_law_bytes) := ⟨rfl, rfl, rfl, by decide +kernel, rfl, by decide +kernel, by decide +kernel⟩
abbrev s_law_garbage : Stmt := top 62
theorem sc_law_garbage : FnScope ["_law_pool_here", "_law_many_here", "_law_turn"] ["_law_pool_here", "_law_many_here"] (defScope s_law_garbage) := ⟨rfl, rfl, rfl, by decide +kernel, rfl, by decide +kernel, by decide +kernel⟩
abbrev s_law_made_field : Stmt := top 63
theorem sc_law_made_field : FnScope ["_law_pool_here", "_law_grammar_here", "_law_field", "_law_tags_here", "_law_ahead", "_law_word", "_law_worth", "_law_name", "_law_width", "_law_size", "_law_kinds", "_law_many_here", "_law_found", "_law_turn", "_law_deeper", "_law_byte"] ["_law_pool_here", "_law_grammar_here", "_law_field", "_law_tags_here", "_law_ahead"] (defScope s_law_made_field) := ⟨rfl, rfl, rfl, by decide +kernel, rfl, by decide +kernel, by decide +kernel⟩
abbrev s_law_made : Stmt := top 64
theorem sc_law_made : FnScope ["_law_pool_here", "_law_grammar_here", "_law_sort", "_law_tags_here", "_law_found", "_law_field"] ["_law_pool_here", "_law_grammar_here", "_law_sort"] (defScope s_law_made) := ⟨rfl, rfl, rfl, by decide +kernel, rfl, by decide +kernel, by decide +kernel⟩
abbrev s_law_spoilt : Stmt := top 65
theorem sc_law_spoilt : FnScope ["_law_pool_here", "_law_some", "_law_way", "_law_at"] ["_law_pool_here", "_law_some"] (defScope s_law_spoilt) := ⟨rfl, rfl, rfl, by decide +kernel, rfl, by decide +kernel, by decide +kernel⟩
abbrev s_law_without_sums : Stmt := top 66
theorem sc_law_without_sums : FnScope ["_law_grammar_here", "_law_found", "_law_name", "_law_fields_here", "_law_kept", "_law_field"] ["_law_grammar_here"] (defScope s_law_without_sums) := ⟨rfl, rfl, rfl, by decide +kernel, rfl, by decide +kernel, by decide +kernel⟩
abbrev s_law_turned : Stmt := top 67
theorem sc_law_turned : FnScope ["_law_some", "_law_at"] ["_law_some", "_law_at"] (defScope s_law_turned) := ⟨rfl, rfl, rfl, by decide +kernel, rfl, by decide +kernel, by decide +kernel⟩
abbrev s_law_byte_right : Stmt := top 68
theorem sc_law_byte_right : FnScope ["_law_grammar_here", "_law_some", "_law_spreads", "_law_at", "_law_own", "_law_later", "_law_due", "_law_spread"] ["_law_grammar_here", "_law_some", "_law_spreads", "_law_at"] (defScope s_law_byte_right) := ⟨rfl, rfl, rfl, by decide +kernel, rfl, by decide +kernel, by decide +kernel⟩
abbrev s_law_own_bytes : Stmt := top 69
theorem sc_law_own_bytes : FnScope ["_law_some", "_law_spreads", "_law_begin", "_law_end", "_law_path", "_law_what", "_law_worth"] ["_law_some", "_law_spreads"] (defScope s_law_own_bytes) := ⟨rfl, rfl, rfl, by decide +kernel, rfl, by decide +kernel, by decide +kernel⟩
abbrev s_law : Stmt := top 70
theorem sc_law : FnScope ["_law_script", "_law_k", "_law_pool_here", "_law_grammar_here", "_law_turn", "_law_some", "_law_one", "_law_spreads", "_law_at"] ["_law_script"] (defScope s_law) := ⟨rfl, rfl, rfl, by decide +kernel, rfl, by decide +kernel, by decide +kernel⟩
abbrev s_read_number : Stmt := top 38
theorem sc_read_number : FnScope ["thing", "field", "word", "name", "size", "order", "least", "most", "worth"] ["thing", "field"] (defScope s_read_number) := ⟨rfl, rfl, rfl, by decide +kernel, rfl, by decide +kernel, by decide +kernel⟩
abbrev s_read_bits : Stmt := top 39
theorem sc_read_bits : FnScope ["thing", "field", "first", "worths", "name", "width", "worth"] ["thing", "field"] (defScope s_read_bits) := ⟨rfl, rfl, rfl, by decide +kernel, rfl, by decide +kernel, by decide +kernel⟩
abbrev s_read_bytes : Stmt := top 40
theorem sc_read_bytes : FnScope ["thing", "field", "size"] ["thing", "field"] (defScope s_read_bytes) := ⟨rfl, rfl, rfl, by decide +kernel, rfl, by decide +kernel, by decide +kernel⟩
abbrev s_read_text : Stmt := top 41
theorem sc_read_text : FnScope ["thing", "field", "left", "found"] ["thing", "field"] (defScope s_read_text) := ⟨rfl, rfl, rfl, by decide +kernel, rfl, by decide +kernel, by decide +kernel⟩
abbrev s_read_sum : Stmt := top 42
theorem sc_read_sum : FnScope ["thing", "field", "due", "worth"] ["thing", "field"] (defScope s_read_sum) := ⟨rfl, rfl, rfl, by decide +kernel, rfl, by decide +kernel, by decide +kernel⟩
abbrev s_read_choice : Stmt := top 43
theorem sc_read_choice : FnScope ["thing", "field", "kinds", "kind", "fields", "goes"] ["thing", "field"] (defScope s_read_choice) := ⟨rfl, rfl, rfl, by decide +kernel, rfl, by decide +kernel, by decide +kernel⟩
abbrev s_read_row : Stmt := top 44
theorem sc_read_row : FnScope ["thing", "field", "found", "is_open", "many", "path", "fields", "goes"] ["thing", "field"] (defScope s_read_row) := ⟨rfl, rfl, rfl, by decide +kernel, rfl, by decide +kernel, by decide +kernel⟩
abbrev s_read_carried : Stmt := top 45
theorem sc_read_carried : FnScope ["thing", "field", "size", "inner"] ["thing", "field"] (defScope s_read_carried) := ⟨rfl, rfl, rfl, by decide +kernel, rfl, by decide +kernel, by decide +kernel⟩
/-- what the top holds under its names -/
structure Tp (K : PySem.W.Frag) (mg : Str → Option Value) (w : World) (cR cM cT aS aD : Addr) : Prop where
  n_all : mg "all" = none
  n_any : mg "any" = none
  n_dict : mg "dict" = none
  n_int : mg "int" = none
  n_isinstance : mg "isinstance" = none
  n_len : mg "len" = none
  n_list : mg "list" = none
  n_max : mg "max" = none
  n_min : mg "min" = none
  n_range : mg "range" = none
  n_str : mg "str" = none
  n_sum : mg "sum" = none
  n_tuple : mg "tuple" = none
  n_zip : mg "zip" = none
  g_BYTE : ∃ t, mg "BYTE" = some (.int 256 t)
  g_LETTERS : ∃ t, mg "LETTERS" = some (.str "abcdefghijklmnopqrstuvwxyz" t)
  g_LONGEST : ∃ t, mg "LONGEST" = some (.int 8 t)
  ne_TM : cT ≠ cM
  ne_TR : cT ≠ cR
  r_REST : ∀ H, SqF K H aS [.str "rest"]
  g_REST : mg "REST" = some (.ref aS)
  g_READERS : mg "READERS" = some (.ref aD)
  d_is_word : Df K mg "is_word" "is_word" s_is_word
  d_number_in : Df K mg "number_in" "number_in" s_number_in
  d_tags_in : Df K mg "tags_in" "tags_in" s_tags_in
  d_tags_of : Df K mg "tags_of" "tags_of" s_tags_of
  d_kinds_in : Df K mg "kinds_in" "kinds_in" s_kinds_in
  d_kind_table : Df K mg "kind_table" "kind_table" s_kind_table
  d_goes_on : Df K mg "goes_on" "goes_on" s_goes_on
  d_least_length : Df K mg "least_length" "least_length" s_least_length
  d_least_field : Df K mg "least_field" "least_field" s_least_field
  d_reckoned : Df K mg "reckoned" "reckoned" s_reckoned
  d_fields_of : Df K mg "fields_of" "fields_of" s_fields_of
  d_length_by : Df K mg "length_by" "length_by" s_length_by
  d_parts_of : Df K mg "parts_of" "parts_of" s_parts_of
  d_reading : Df K mg "reading" "reading" s_reading
  d_law_pool : Df K mg "_law_pool" "_law_pool" s_law_pool
  d_law_take : Df K mg "_law_take" "_law_take" s_law_take
  d_law_length : Df K mg "_law_length" "_law_length" s_law_length
  d_law_number : Df K mg "_law_number" "_law_number" s_law_number
  d_law_plain_field : Df K mg "_law_plain_field" "_law_plain_field" s_law_plain_field
  d_law_deep_field : Df K mg "_law_deep_field" "_law_deep_field" s_law_deep_field
  d_law_tags : Df K mg "_law_tags" "_law_tags" s_law_tags
  d_law_fields : Df K mg "_law_fields" "_law_fields" s_law_fields
  d_law_grammar : Df K mg "_law_grammar" "_law_grammar" s_law_grammar
  d_law_many : Df K mg "_law_many" "_law_many" s_law_many
  d_law_bytes : Df K mg "_law_bytes" "_law_bytes" s_law_bytes
  d_law_garbage : Df K mg "_law_garbage" "_law_garbage" s_law_garbage
  d_law_made_field : Df K mg "_law_made_field" "_law_made_field" s_law_made_field
  d_law_made : Df K mg "_law_made" "_law_made" s_law_made
  d_law_spoilt : Df K mg "_law_spoilt" "_law_spoilt" s_law_spoilt
  d_law_without_sums : Df K mg "_law_without_sums" "_law_without_sums" s_law_without_sums
  d_law_turned : Df K mg "_law_turned" "_law_turned" s_law_turned
  d_law_byte_right : Df K mg "_law_byte_right" "_law_byte_right" s_law_byte_right
  d_law_own_bytes : Df K mg "_law_own_bytes" "_law_own_bytes" s_law_own_bytes
  d_law : Df K mg "law" "law" s_law
  d_read_number : Df K mg "read_number" "read_number" s_read_number
  d_read_bits : Df K mg "read_bits" "read_bits" s_read_bits
  d_read_bytes : Df K mg "read_bytes" "read_bytes" s_read_bytes
  d_read_text : Df K mg "read_text" "read_text" s_read_text
  d_read_sum : Df K mg "read_sum" "read_sum" s_read_sum
  d_read_choice : Df K mg "read_choice" "read_choice" s_read_choice
  d_read_row : Df K mg "read_row" "read_row" s_read_row
  d_read_carried : Df K mg "read_carried" "read_carried" s_read_carried
  d_spreads_of : ∃ f fd, FunD K "spreads_of" "spreads_of" (defArgs s_spreads_of) (defBody s_spreads_of) (defScope s_spreads_of) [] [("kind", .non)] f fd ∧ mg "spreads_of" = some (.ref f)
  c_Reader : Cls K cR ∧ mg "Reader" = some (.ref cR)
  a_Reader_by_grammar : NoAttr K cR "by_grammar"
  a_Reader_known : NoAttr K cR "known"
  a_Reader_all_bytes : NoAttr K cR "all_bytes"
  a_Reader_found : NoAttr K cR "found"
  m_Reader_init : ∃ f fd, Fun K "__init__" "Reader.__init__" s_Reader_init f fd ∧ Mk K cR f
  m_Reader_tell : ∃ f fd, Fun K "tell" "Reader.tell" s_Reader_tell f fd ∧ Meth K cR "tell" f
  m_Reader_stop : ∃ f fd, Fun K "stop" "Reader.stop" s_Reader_stop f fd ∧ Meth K cR "stop" f
  m_Reader_read_kind : ∃ f fd, Fun K "read_kind" "Reader.read_kind" s_Reader_read_kind f fd ∧ Meth K cR "read_kind" f
  m_Reader_read_room : ∃ f fd, Fun K "read_room" "Reader.read_room" s_Reader_read_room f fd ∧ Meth K cR "read_room" f
  c_Room : Cls K cM ∧ mg "Room" = some (.ref cM)
  a_Room_place : NoAttr K cM "place"
  a_Room_limit : NoAttr K cM "limit"
  a_Room_end : NoAttr K cM "end"
  m_Room_init : ∃ f fd, Fun K "__init__" "Room.__init__" s_Room_init f fd ∧ Mk K cM f
  c_Thing : Cls K cT ∧ mg "Thing" = some (.ref cT)
  a_Thing_reader : NoAttr K cT "reader"
  a_Thing_begin : NoAttr K cT "begin"
  a_Thing_place : NoAttr K cT "place"
  a_Thing_limit : NoAttr K cT "limit"
  a_Thing_end : NoAttr K cT "end"
  a_Thing_path : NoAttr K cT "path"
  a_Thing_tags : NoAttr K cT "tags"
  a_Thing_fields : NoAttr K cT "fields"
  m_Thing_init : ∃ f fd, Fun K "__init__" "Thing.__init__" s_Thing_init f fd ∧ Mk K cT f
  m_Thing_read : ∃ f fd, Fun K "read" "Thing.read" s_Thing_read f fd ∧ Meth K cT "read" f
  m_Thing_room : ∃ f fd, Fun K "room" "Thing.room" s_Thing_room f fd ∧ Meth K cT "room" f
  m_Thing_lacks : ∃ f fd, Fun K "lacks" "Thing.lacks" s_Thing_lacks f fd ∧ Meth K cT "lacks" f
  m_Thing_fails : ∃ f fd, Fun K "fails" "Thing.fails" s_Thing_fails f fd ∧ Meth K cT "fails" f
  m_Thing_take : ∃ f fd, Fun K "take" "Thing.take" s_Thing_take f fd ∧ Meth K cT "take" f
  m_Thing_bytes_there : ∃ f fd, Fun K "bytes_there" "Thing.bytes_there" s_Thing_bytes_there f fd ∧ Meth K cT "bytes_there" f
  m_Thing_is_short : ∃ f fd, Fun K "is_short" "Thing.is_short" s_Thing_is_short f fd ∧ Meth K cT "is_short" f
  f_number : ∃ f fd, Fun K "read_number" "read_number" s_read_number f fd ∧ KDct K w aD "number" (.ref f)
  f_bits : ∃ f fd, Fun K "read_bits" "read_bits" s_read_bits f fd ∧ KDct K w aD "bits" (.ref f)
  f_bytes : ∃ f fd, Fun K "read_bytes" "read_bytes" s_read_bytes f fd ∧ KDct K w aD "bytes" (.ref f)
  f_text : ∃ f fd, Fun K "read_text" "read_text" s_read_text f fd ∧ KDct K w aD "text" (.ref f)
  f_sum : ∃ f fd, Fun K "read_sum" "read_sum" s_read_sum f fd ∧ KDct K w aD "sum" (.ref f)
  f_choice : ∃ f fd, Fun K "read_choice" "read_choice" s_read_choice f fd ∧ KDct K w aD "choice" (.ref f)
  f_row : ∃ f fd, Fun K "read_row" "read_row" s_read_row f fd ∧ KDct K w aD "row" (.ref f)
  f_carried : ∃ f fd, Fun K "read_carried" "read_carried" s_read_carried f fd ∧ KDct K w aD "carried" (.ref f)
end Lb
/-! text LbL1 -/
/-! Walks: the law's pool; lengths, numbers, plain fields. -/
namespace Lb
open PySem L2
/-- a pool: a list of two ints that calls change -/
def PoolAt (K : PySem.W.Frag) (p : Addr) (H : Hp) : Prop := ∃ a b : Int, LstAt K p [.int a, .int b] H ∧ 0 ≤ b ∧ b < 2147483647
theorem pool_shp (K : PySem.W.Frag) (p : Addr) : Shp p (PoolAt K p) := ⟨fun ⟨_, _, h, _⟩ => (lst_shp K p _).trk h, fun ⟨a, b, h, c⟩ hp o => ⟨a, b, h.off hp o, c⟩⟩
/-- its exact world -/
def Wd.pl (K : PySem.W.Frag) (p : Addr) (H0 : Hp) (h : H0 p ≠ none) : Wd (Int × Int) where
  A := [p]
  C := fun q => H0 q ≠ none
  I := fun s H => Off [p] H0 H ∧ LstAt K p [.int s.1, .int s.2] H
  clm := fun {i H q} g m z => by
    by_cases hq : q = p
    · rw [hq] at z; exact (lst_shp K p _).trk g.2 z
    · cases e : H0 q with
      | none => exact m e
      | some o => rw [g.1.at_ e (by simp [hq])] at z; cases z
  off := fun {i B H H'} g m o => ⟨fun b u e x => o b u (g.1 b u e x) fun z => absurd (show H0 b ≠ none by rw [e]; exact fun q => nomatch q) (m b z), g.2.off (fun z => m _ z h) o⟩
  trk := fun {a} g => by rw [List.mem_singleton.mp g]; exact h
/-- the world of a def that uses a pool -/
def Wd.pw (K : PySem.W.Frag) (p : Addr) (H0 : Hp) (h : H0 p ≠ none) : Wd Unit where
  A := [p]
  C := fun q => H0 q ≠ none
  I := fun _ H => Off [p] H0 H ∧ PoolAt K p H
  clm := fun {i H q} g m z => by
    by_cases hq : q = p
    · rw [hq] at z; exact (pool_shp K p).trk g.2 z
    · cases e : H0 q with
      | none => exact m e
      | some o => rw [g.1.at_ e (by simp [hq])] at z; cases z
  off := fun {i B H H'} g m o => ⟨fun b u e x => o b u (g.1 b u e x) fun z => absurd (show H0 b ≠ none by rw [e]; exact fun q => nomatch q) (m b z), (pool_shp K p).off g.2 (fun z => m _ z h) o⟩
  trk := fun {a} g => by rw [List.mem_singleton.mp g]; exact h
theorem pw_stays {K : PySem.W.Frag} {p : Addr} {H0 : Hp} {h : H0 p ≠ none} : Stays (Wd.pw K p H0 h) p (PoolAt K p) := ⟨fun I => I.2, fun I o f => ⟨I.1.trans o, f⟩, List.mem_cons_self⟩
/-- promises of defs over a pool -/
def SpPl {α : Type} (K : PySem.W.Frag) (args : α → List Dat) (pre : Addr → α → Hp → Prop) (post : α → Dat → Prop) : Sp := fun vs H Q _ => ∃ p a, AtL K H vs (.obj p :: args a) ∧ PoolAt K p H ∧ pre p a H ∧ ∀ v H' d, Off [p] H H' → PoolAt K p H' → At K H' v d → post a d → Q v H'
section
variable {ι : Type} {K : PySem.W.Frag} {W : Wd ι} {i : ι} {Γ : Ctx} {P : ι → Dat → Prop} {te : TE} {p : Addr} {k : Nat}
theorem call_Pl {α : Type} {args : α → List Dat} {pre : Addr → α → Hp → Prop} {post : α → Dat → Prop} {ds : List Dat} (st : Stays W p (PoolAt K p)) (a : α) (hd : ds = .obj p :: args a) (h : ∀ {H : Hp}, W.I i H → pre p a H) (q : ∀ d, post a d → P i d) : CallOk K W i (SpPl K args pre post) ds P := fun H vs I al Q k =>
  ⟨p, a, hd ▸ al, st.get I, h I, fun v H' d o pa at' ps => k v H' i d (o.mono fun x hx => by rw [List.mem_singleton.mp hx]; exact st.mem) (st.put I o pa) at' (q d ps)⟩
def spPTake (K : PySem.W.Frag) : Sp := SpPl K (α := Int) (fun n => [.int n]) (fun _ n _ => 0 < n ∧ n < 1073741824) fun n d => ∃ x : Int, d = .int x ∧ 0 ≤ x ∧ x < n
theorem ev_take (st : Stays W p (PoolAt K p)) (hk : Γ[k]? = some (some (.obj p))) (h : Ev K W i te Γ fun j d => ∃ n : Int, d = .int n ∧ (0 < n ∧ n < 1073741824) ∧ ∀ x : Int, 0 ≤ x → x < n → P j (.int x)) : Ev K W i (tCall (Lb.spPTake K) [] E0 (tCons (tVar k) (tCons te tNil))) Γ P :=
  ev_call (ea_cons (ev_var hk (ea_cons (h.imp fun j d ⟨n, e, b, q⟩ => ea_nil (by
    subst e
    refine call_Pl st n rfl (fun _ => b) ?_
    rintro _ ⟨x, rfl, h0, h1⟩
    exact q x h0 h1)))))
theorem ev_takeC {n : Int} (st : Stays W p (PoolAt K p)) (hk : Γ[k]? = some (some (.obj p))) (hn : 0 < n ∧ n < 1073741824) (h : ∀ x : Int, 0 ≤ x → x < n → P i (.int x)) : Ev K W i (tCall (Lb.spPTake K) [] E0 (tCons (tVar k) (tCons (tC (.int n)) tNil))) Γ P :=
  ev_take st hk (ev_int ⟨n, rfl, hn, h⟩)
end
section
variable {P : Program} {w : World} {K : PySem.W.Frag} {mg : Str → Option Value} {base : Heap} {cR cM cT aS aD : Addr}
theorem w_take' (T : Tp K mg w cR cM cT aS aD) : Cl P w K mg base 1 "_law_take" (spPTake K) := by
  refine Cl.of (ps := ["_law_pool_here", "_law_many_here"]) T.d_law_take (fun f fd F => ?_) fun _ _ _ _ _ _ us hl => match us, hl with | [_, _], _ => rfl
  refine F.ok sc_law_take (fun vs H Q E h => ?_) (fun cdv A outer sh H vs Q E hr h => ?_)
  · obtain ⟨p, n, al, _⟩ := h
    exact al.len
  obtain ⟨p, n, al, pa, pre, k⟩ := h
  try dsimp only at pre
  have hu := hu_of hr
  refine ⟨_, (pss_cons (ps_if (pt_cmpR op_gt (pe_ix (k_ixL K) (pv 0) pe_int (fun _ _ => rfl)) pe_int (nomark _)) (pss_cons (ps_set (i := 2) sc_law_take.nd rfl (Or.inl rfl) (pe_op op_mod (pe_ix (k_ixL K) (pv 0) pe_int (fun _ _ => rfl)) (pv 1)))
      (pss_cons (ps_asg (pe_op op_fdiv (pe_ix (k_ixL K) (pv 0) pe_int (fun _ _ => rfl)) (pv 1)) (pg_sub (pv 0) pe_int set_list))
      (pss_one (ps_ret (pv 2))))) pss_nil)
      (pss_cons (ps_asg (pe_op op_mod (pe_op op_add (pe_op op_mul (pe_ix (k_ixL K) (pv 0) pe_int (fun _ _ => rfl)) pe_int) pe_int) pe_int) (pg_sub (pv 0) pe_int set_list))
      (pss_one (ps_ret (pe_op op_mod (pe_op op_fdiv (pe_op op_mod (pe_op op_mul (pe_ix (k_ixL K) (pv 0) pe_int (fun _ _ => rfl)) (pe_ix (k_ixL K) (pv 0) pe_int (fun _ _ => rfl))) pe_int) pe_int) (pv 1)))))), ?_⟩
  obtain ⟨a, b, la, hb0, hb1⟩ := pa
  have hp : H p ≠ none := (lst_shp K p _).trk la
  have hl : ∀ {j : Int × Int} {H' : Hp}, (Wd.pl K p H hp).I j H' → LstAt K p [.int j.1, .int j.2] H' := fun I => I.2
  refine nx_go (W := Wd.pl K p H hp) (i := (a, b)) ?_ ⟨Off.refl, la⟩ (Sls.start al _ rfl)
  refine sq_when (et_test (ev_op (ev_op (ev_var rfl (ev_int (op_ixL hl rfl (ev_int (op_bl0 ⟨_, rfl, ifD (fun c => ?_) fun c => ?_⟩))))))))
  · refine sq_set (ev_op (ev_op (ev_var rfl (ev_int (op_ixL hl rfl (ev_var rfl (op_int1 pre.1 ?_)))))))
    refine sq_asg (ev_op (ev_op (ev_var rfl (ev_int (op_ixL hl rfl (ev_var rfl (op_int1 ⟨pre.1, pre.2⟩ ?_)))))))
    refine tg_lputG (ev_var rfl (ev_int ⟨p, _, 0, 0, (a / n, b), rfl, by simp [Wd.pl], rfl, hl, rfl, fun I o l => ⟨I.1.trans o, l⟩, ?_⟩))
    refine nx_ret (ev_var rfl (rt_of fun H' v I z => k v H' _ I.1 ⟨_, _, I.2, hb0, hb1⟩ z ⟨_, rfl, Int.emod_nonneg _ (by omega), Int.emod_lt_of_pos _ pre.1⟩))
  · refine sq_asg (ev_op (ev_op (ev_op (ev_op (ev_var rfl ?_)))))
    refine ev_int (op_ixL hl rfl ?_)
    refine ev_int (op_int1 (.inr (by decide)) ?_)
    refine ev_int (op_int0 ?_)
    refine ev_int (op_int1 (by decide) ?_)
    have h0 : 0 ≤ (b * 48271 + 11) % 2147483647 := Int.emod_nonneg _ (by decide)
    have h1 : (b * 48271 + 11) % 2147483647 < 2147483647 := Int.emod_lt_of_pos _ (by decide)
    refine tg_lputG (ev_var rfl (ev_int ⟨p, _, 1, 1, (a, (b * 48271 + 11) % 2147483647), rfl, by simp [Wd.pl], rfl, hl, rfl, fun I o l => ⟨I.1.trans o, l⟩, ?_⟩))
    generalize (b * 48271 + 11) % 2147483647 = b' at h0 h1
    refine nx_ret (ev_op (ev_op (ev_op (ev_op (ev_op (ev_var rfl ?_))))))
    refine ev_int (op_ixL hl rfl ?_)
    refine ev_op (ev_var rfl (ev_int (op_ixL hl rfl ?_)))
    refine op_int1 (.inl ⟨by show _ < b'; omega, by show b' < _; omega⟩) ?_
    refine ev_int (op_int1 (by decide) ?_)
    refine ev_int (op_int1 ⟨by decide, by decide⟩ ?_)
    refine ev_var rfl (op_int1 pre.1 ?_)
    exact rt_of fun H' v I z => k v H' _ I.1 ⟨_, _, I.2, h0, h1⟩ z ⟨_, rfl, Int.emod_nonneg _ (by omega), Int.emod_lt_of_pos _ pre.1⟩
end
end Lb
/-! text LbL2 -/
/-! Walks: the law's fields. -/
namespace Lb
open PySem L2
section
variable {P : Program} {w : World} {K : PySem.W.Frag} {mg : Str → Option Value} {base : Heap} {cR cM cT aS aD : Addr}
theorem pwL {p q : Addr} {ds : List Dat} {H0 : Hp} {h : H0 p ≠ none} (hq : q ≠ p) (l : LstAt K q ds H0) {j : Unit} {H : Hp} (I : (Wd.pw K p H0 h).I j H) : LstAt K q ds H := l.off (by simpa using hq) I.1
/-- a list of names at q -/
def NmsAt (K : PySem.W.Frag) (p q : Addr) (ns : List Str) (H : Hp) : Prop := q ≠ p ∧ LstAt K q (ns.map Dat.str) H ∧ (∀ x ∈ ns, NmOk x) ∧ ns.length ≤ 1000
theorem fineL_names : ∀ {xs : List Str}, (∀ x ∈ xs, NmOk x) → Dat.fineL 0 (xs.map Dat.str) = true
  | [], _ => rfl
  | x :: xs, h => by
    have h1 : PyData.strOk x = true := h x List.mem_cons_self
    have h2 := fineL_names (xs := xs) fun y hy => h y (List.mem_cons_of_mem _ hy)
    rw [List.map_cons, Dat.fineL, h2]
    simp [Dat.fine, h1]
theorem atI_nat {ds : List Dat} {x : Int} {d : Dat} (h0 : 0 ≤ x) (h : ds[x.toNat]? = some d) : atI ds x = some d := by
  have hl := (List.getElem?_eq_some_iff.mp h).1
  unfold atI ixN
  rw [if_pos h0, if_pos (by omega)]
  exact h
theorem names_at {ns : List Str} {x : Int} (h0 : 0 ≤ x) (h1 : x < ns.length) : ∃ n, n ∈ ns ∧ atI (ns.map Dat.str) x = some (.str n) := by
  have hl : x.toNat < ns.length := by omega
  refine ⟨ns[x.toNat], List.getElem_mem hl, atI_nat h0 ?_⟩
  rw [List.getElem?_map, List.getElem?_eq_getElem hl]
  rfl
def spLength (K : PySem.W.Frag) : Sp := SpPl K (α := Addr × List Str) (fun a => [.obj a.1]) (fun p a H => NmsAt K p a.1 a.2 H) fun a d => ∃ l : Ln, d = l.dat ∧ LnOk a.2 l
theorem w_length' (T : Tp K mg w cR cM cT aS aD) (G_law_take : Cl P w K mg base 1 "_law_take" (spPTake K)) : Cl P w K mg base 2 "_law_length" (spLength K) := by
  refine Cl.of (ps := ["_law_pool_here", "_law_tags_here"]) T.d_law_length (fun f fd F => ?_) fun _ _ _ _ _ _ us hl => match us, hl with | [_, _], _ => rfl
  refine F.ok sc_law_length (fun vs H Q E h => ?_) (fun cdv A outer sh H vs Q E hr h => ?_)
  · obtain ⟨p, ⟨q, ns⟩, al, _⟩ := h
    exact al.len
  obtain ⟨p, ⟨q, ns⟩, al, pa, pre, k⟩ := h
  try dsimp only at pre
  have hu := hu_of hr
  refine ⟨_, (pss_cons (ps_if (PW.pt (pw_or (pt_cmpR (k_eqD K hr.units) (pv 1) (pe_lst pa_nil) (nomark _)) (pw_or1 (pt_cmpR op_eq (k_call G_law_take (hr.mono (by decide)) (pa_cons (pv 0) (pa_cons pe_int pa_nil))) pe_int (nomark _))))) (pss_one (ps_ret (pe_tupF (pa_cons pe_str (pa_cons (k_call G_law_take (hr.mono (by decide)) (pa_cons (pv 0) (pa_cons pe_int pa_nil))) pa_nil))))) pss_nil)
      (pss_one (ps_ret (pe_tupF (pa_cons pe_str (pa_cons (pe_ix (k_ixL K) (pv 1) (k_call G_law_take (hr.mono (by decide)) (pa_cons (pv 0) (pa_cons (pe_callB (k_len K) (by rfl) T.n_len (by decide +kernel) (pa_cons (pv 1) pa_nil)) pa_nil))) (fun _ _ => rfl)) (pa_cons (pe_op op_add pe_int (k_call G_law_take (hr.mono (by decide)) (pa_cons (pv 0) (pa_cons pe_int pa_nil)))) (pa_cons (pe_op op_sub (k_call G_law_take (hr.mono (by decide)) (pa_cons (pv 0) (pa_cons pe_int pa_nil))) pe_int) pa_nil)))))))), ?_⟩
  obtain ⟨hqp, hq, hnm, hnl⟩ := pre
  have hp : H p ≠ none := (pool_shp K p).trk pa
  have st : Stays (Wd.pw K p H hp) p (PoolAt K p) := pw_stays
  refine nx_go (W := Wd.pw K p H hp) (i := ()) ?_ ⟨Off.refl, pa⟩ (Sls.start al _ rfl)
  refine sq_when (EvT.imp (Pb := fun _ b => b = false → ns ≠ []) ?_ ?_)
  · refine et_or (et_test (ev_eqNil (ev_var rfl ⟨q, _, 0, rfl, fun I => pwL hqp hq I, fineL_names hnm, by decide, _, rfl, ?_⟩)))
    cases ns with
    | nil => exact ifT rfl (fun z => by cases z)
    | cons x xs => exact ifF rfl (et_test (ev_op (ev_takeC st rfl (by decide) fun x _ _ => ev_int (op_eqI ⟨_, rfl, fun _ z => by cases z⟩))))
  rintro _ b hb
  refine ifB (fun _ => ?_) fun e => ?_
  · refine nx_ret (ev_tup (ea_cons (ev_str (ea_cons (ev_takeC st rfl (by decide) fun x h0 h1 => ea_nil ⟨by show 2 ≤ 1000; decide, rt_of fun H' v I z => k v H' _ I.1 I.2 z ⟨.is x, rfl, h0, by omega⟩⟩)))))
  have hne := hb e
  have hpos : 0 < ns.length := List.length_pos_iff.mpr hne
  refine nx_ret (ev_tup (ea_cons (ev_str (ea_cons (ev_op (ev_var rfl ?_))))))
  refine ev_take st rfl (ev_lenL (ev_var rfl ⟨q, _, rfl, fun I => pwL hqp hq I, _, rfl, ⟨by rw [List.length_map]; omega, by rw [List.length_map]; omega⟩, fun x h0 h1 => ?_⟩))
  rw [List.length_map] at h1
  obtain ⟨n, hn, ha⟩ := names_at h0 h1
  refine op_ixL (fun I => pwL hqp hq I) ha ?_
  refine ea_cons (ev_op (ev_int (ev_takeC st rfl (by decide) fun y h2 h3 => op_int0 ?_)))
  refine ea_cons (ev_op (ev_takeC st rfl (by decide) fun z h4 h5 => ev_int (op_int0 ?_)))
  refine ea_nil ⟨by show 4 ≤ 1000; decide, rt_of fun H' v I zz => k v H' _ I.1 I.2 zz ⟨.of n (1 + y) (z - 1), rfl, hn, by omega, by omega, by omega, by omega, hnm n hn⟩⟩
def spNumber (K : PySem.W.Frag) : Sp := SpPl K (α := Str) (fun a => [.str a]) (fun _ a _ => NmOk a) fun a d => ∃ f : Fld, d = f.dat ∧ decl f = [a] ∧ ∀ seen deep, FldOk seen deep f
theorem w_number' (T : Tp K mg w cR cM cT aS aD) (G_law_take : Cl P w K mg base 1 "_law_take" (spPTake K)) : Cl P w K mg base 2 "_law_number" (spNumber K) := by
  refine Cl.of (ps := ["_law_pool_here", "_law_name"]) T.d_law_number (fun f fd F => ?_) fun _ _ _ _ _ _ us hl => match us, hl with | [_, _], _ => rfl
  refine F.ok sc_law_number (fun vs H Q E h => ?_) (fun cdv A outer sh H vs Q E hr h => ?_)
  · obtain ⟨p, name, al, _⟩ := h
    exact al.len
  obtain ⟨p, name, al, pa, pre, k⟩ := h
  try dsimp only at pre
  have hu := hu_of hr
  refine ⟨_, (pss_cons (ps_set (i := 2) sc_law_number.nd rfl (Or.inl rfl) (pe_op op_add pe_int (k_call G_law_take (hr.mono (by decide)) (pa_cons (pv 0) (pa_cons pe_int pa_nil)))))
      (pss_cons (ps_set (i := 3) sc_law_number.nd rfl (Or.inl rfl) (pe_ix (k_ixL K) (pe_lst (pa_cons (pe_tupF (pa_cons pe_int (pa_cons pe_int pa_nil))) (pa_cons (pe_tupF (pa_cons pe_int (pa_cons pe_int pa_nil))) (pa_cons (pe_tupF (pa_cons pe_int (pa_cons pe_int pa_nil))) (pa_cons (pe_tupF (pa_cons pe_int (pa_cons (pe_ix (k_ixL K) (pe_lst (pa_cons pe_int (pa_cons pe_int (pa_cons pe_int pa_nil)))) (pv 2) (fun _ _ => rfl)) pa_nil))) pa_nil))))) (k_call G_law_take (hr.mono (by decide)) (pa_cons (pv 0) (pa_cons pe_int pa_nil))) (fun _ _ => rfl)))
      (pss_one (ps_ret (pe_tupF (pa_cons pe_str (pa_cons (pv 1) (pa_cons (pv 2) (pa_cons (pe_ix (k_ixL K) (pe_lst (pa_cons pe_str (pa_cons pe_str pa_nil))) (k_call G_law_take (hr.mono (by decide)) (pa_cons (pv 0) (pa_cons pe_int pa_nil))) (fun _ _ => rfl)) (pa_cons (pe_ix (k_ixT K) (pv 3) pe_int (fun _ _ => rfl)) (pa_cons (pe_ix (k_ixT K) (pv 3) pe_int (fun _ _ => rfl)) pa_nil))))))))))), ?_⟩
  have hp : H p ≠ none := (pool_shp K p).trk pa
  have st : Stays (Wd.pw K p H hp) p (PoolAt K p) := pw_stays
  refine nx_go (W := Wd.pw K p H hp) (i := ()) ?_ ⟨Off.refl, pa⟩ (Sls.start al _ rfl)
  refine sq_set (ev_op (ev_int (ev_takeC st rfl (by decide) fun x x0 x1 => op_int0 ?_)))
  have hsz : 1 + x = 1 ∨ 1 + x = 2 := by omega
  generalize 1 + x = sz at hsz
  refine sq_set (Ev.imp (P := fun _ d => ∃ l m : Int, d = .tup [.int l, .int m] ∧ 0 ≤ l ∧ l ≤ 10 ∧ l ≤ m ∧ m ≤ 65535) ?_ ?_)
  · refine ev_ixN (el_lst (ea_cons (ev_tup (ea_cons (ev_int (ea_cons (ev_int (ea_nil ⟨by show 2 ≤ 1000; decide, ?_⟩))))))))
    refine ea_cons (ev_tup (ea_cons (ev_int (ea_cons (ev_int (ea_nil ⟨by show 2 ≤ 1000; decide, ?_⟩))))))
    refine ea_cons (ev_tup (ea_cons (ev_int (ea_cons (ev_int (ea_nil ⟨by show 2 ≤ 1000; decide, ?_⟩))))))
    refine ea_cons (ev_tup (ea_cons (ev_int (ea_cons (ev_ixN (el_lst (ea_cons (ev_int (ea_cons (ev_int (ea_cons (ev_int (ea_nil ⟨by show 3 ≤ 1000; decide, ?_⟩)))))))))))))
    refine ev_var rfl ?_
    have hix : ∃ m : Int, atI [Dat.int 0, .int 255, .int 65535] sz = some (.int m) ∧ 0 ≤ m ∧ m ≤ 65535 := by
      rcases hsz with e | e
      · subst e; exact ⟨255, rfl, by decide, by decide⟩
      · subst e; exact ⟨65535, rfl, by decide, by decide⟩
    obtain ⟨m, hm, m0, m1⟩ := hix
    refine ⟨sz, .int m, rfl, hm, ea_nil ⟨by show 2 ≤ 1000; decide, ea_nil ⟨by show 4 ≤ 1000; decide, ?_⟩⟩⟩
    refine ev_takeC st rfl (by decide) fun y y0 y1 => ?_
    have hy : y = 0 ∨ y = 1 ∨ y = 2 ∨ y = 3 := by omega
    rcases hy with rfl | rfl | rfl | rfl
    · exact ⟨0, _, rfl, rfl, 0, 3, rfl, by decide, by decide, by decide, by decide⟩
    · exact ⟨1, _, rfl, rfl, 0, 9, rfl, by decide, by decide, by decide, by decide⟩
    · exact ⟨2, _, rfl, rfl, 1, 5, rfl, by decide, by decide, by decide, by decide⟩
    · exact ⟨3, _, rfl, rfl, 0, m, rfl, by decide, by decide, m0, m1⟩
  rintro _ d ⟨l, m, rfl, l0, l1, lm, m1⟩
  refine nx_ret (ev_tup (ea_cons (ev_str (ea_cons (ev_var rfl (ea_cons (ev_var rfl (ea_cons (ev_ixN (el_lst (ea_cons (ev_str (ea_cons (ev_str (ea_nil ⟨by show 2 ≤ 1000; decide, ?_⟩)))))))))))))))
  refine ev_takeC st rfl (by decide) fun y y0 y1 => ?_
  have ho : ∃ o : Str, atI [Dat.str "big", .str "small"] y = some (.str o) ∧ (o = "big" ∨ o = "small") := by
    have hy : y = 0 ∨ y = 1 := by omega
    rcases hy with rfl | rfl
    · exact ⟨"big", rfl, .inl rfl⟩
    · exact ⟨"small", rfl, .inr rfl⟩
  obtain ⟨o, ho1, ho2⟩ := ho
  refine ⟨y, .str o, rfl, ho1, ?_⟩
  refine ea_cons (ev_ix (ds := [.int l, .int m]) rfl rfl (ea_cons (ev_ix (ds := [.int l, .int m]) rfl rfl (ea_nil ⟨by show 6 ≤ 1000; decide, rt_of fun H' v I z => k v H' _ I.1 I.2 z ⟨.number name sz o l m, rfl, rfl, fun _ _ => ⟨pre, hsz, ho2, l0, l1, lm, m1⟩⟩⟩))))
end
end Lb
/-! text LbL3 -/
/-! Walks: the law's plain and deep fields, its tags. -/
namespace Lb
open PySem L2
theorem NmOk.app {a b : Str} (h : NmOk a) (g : NmOk b) : NmOk (a ++ b) := by
  unfold NmOk PyData.strOk at *
  have e : (a ++ b).cps = a.cps ++ b.cps := rfl
  rw [e, Array.all_append, h, g]
  rfl
section
variable {P : Program} {w : World} {K : PySem.W.Frag} {mg : Str → Option Value} {base : Heap} {cR cM cT aS aD : Addr}
def FPlainPost (ns : List Str) (d : Dat) : Prop := ∃ f : Fld, d = f.dat ∧ ∀ deep, FldOk ns deep f
def spPlain (K : PySem.W.Frag) : Sp := SpPl K (α := Str × Addr × List Str) (fun a => [.str a.1, .obj a.2.1]) (fun p a H => (NmOk a.1 ∧ a.1.length ≤ 10) ∧ NmsAt K p a.2.1 a.2.2 H) fun a d => FPlainPost a.2.2 d
theorem w_plain (T : Tp K mg w cR cM cT aS aD) (G_law_take : Cl P w K mg base 1 "_law_take" (spPTake K)) (G_law_number : Cl P w K mg base 2 "_law_number" (spNumber K)) (G_law_length : Cl P w K mg base 2 "_law_length" (spLength K)) : Cl P w K mg base 3 "_law_plain_field" (spPlain K) := by
  refine Cl.of (ps := ["_law_pool_here", "_law_name", "_law_tags_here"]) T.d_law_plain_field (fun f fd F => ?_) fun _ _ _ _ _ _ us hl => match us, hl with | [_, _, _], _ => rfl
  refine F.ok sc_law_plain_field (fun vs H Q E h => ?_) (fun cdv A outer sh H vs Q E hr h => ?_)
  · obtain ⟨p, ⟨name, q, ns⟩, al, _⟩ := h
    exact al.len
  obtain ⟨p, ⟨name, q, ns⟩, al, pa, pre, k⟩ := h
  try dsimp only at pre
  have hu := hu_of hr
  refine ⟨_, (pss_cons (ps_set (i := 3) sc_law_plain_field.nd rfl (Or.inl rfl) (k_call G_law_take (hr.mono (by decide)) (pa_cons (pv 0) (pa_cons pe_int pa_nil))))
      (pss_cons (ps_if (pt_cmpR op_lt (pv 3) pe_int (nomark _)) (pss_one (ps_ret (k_call G_law_number (hr.mono (by decide)) (pa_cons (pv 0) (pa_cons (pv 1) pa_nil))))) pss_nil)
      (pss_cons (ps_if (pt_cmpR op_eq (pv 3) pe_int (nomark _)) (pss_cons (ps_set (i := 4) sc_law_plain_field.nd rfl (Or.inl rfl) (pe_op op_add pe_int (k_call G_law_take (hr.mono (by decide)) (pa_cons (pv 0) (pa_cons pe_int pa_nil)))))
      (pss_one (ps_ret (pe_tupF (pa_cons pe_str (pa_cons (pe_tupF (pa_cons (pe_tupF (pa_cons (pv 1) (pa_cons (pv 4) pa_nil))) (pa_cons (pe_tupF (pa_cons (pe_op k_addS (pv 1) pe_str) (pa_cons (pe_op op_sub pe_int (pv 4)) pa_nil))) pa_nil))) pa_nil)))))) pss_nil)
      (pss_cons (ps_if (pt_cmpR op_lt (pv 3) pe_int (nomark _)) (pss_one (ps_ret (pe_tupF (pa_cons pe_str (pa_cons (pv 1) (pa_cons (k_call G_law_length (hr.mono (by decide)) (pa_cons (pv 0) (pa_cons (pv 2) pa_nil))) pa_nil)))))) pss_nil)
      (pss_one (ps_ret (pe_tupF (pa_cons pe_str (pa_cons (pv 1) (pa_cons (pe_ix (k_ixL K) (pe_lst (pa_cons pe_int (pa_cons pe_int pa_nil))) (k_call G_law_take (hr.mono (by decide)) (pa_cons (pv 0) (pa_cons pe_int pa_nil))) (fun _ _ => rfl)) pa_nil)))))))))), ?_⟩
  obtain ⟨⟨hname, hlen⟩, hn⟩ := pre
  obtain ⟨hqp, hq, hnm, hnl⟩ := id hn
  have hp : H p ≠ none := (pool_shp K p).trk pa
  have st : Stays (Wd.pw K p H hp) p (PoolAt K p) := pw_stays
  refine nx_go (W := Wd.pw K p H hp) (i := ()) ?_ ⟨Off.refl, pa⟩ (Sls.start al _ rfl)
  refine sq_set (ev_takeC st rfl (by decide) fun x x0 x1 => ?_)
  refine sq_when (et_test (ev_op (ev_var rfl (ev_int (op_bl0 ⟨_, rfl, ifD (fun _ => ?_) fun _ => ?_⟩)))))
  · refine nx_ret (ev_call (ea_cons (ev_var rfl (ea_cons (ev_var rfl (ea_nil ?_))))))
    refine call_Pl st name rfl (fun _ => hname) ?_
    rintro _ ⟨f, rfl, _, hf⟩
    exact rt_of fun H' v I z => k v H' _ I.1 I.2 z ⟨f, rfl, fun _ => hf _ _⟩
  refine sq_when (et_test (ev_op (ev_var rfl (ev_int (op_eqI ⟨_, rfl, ifD (fun _ => ?_) fun _ => ?_⟩)))))
  · refine sq_set (ev_op (ev_int (ev_takeC st rfl (by decide) fun y y0 y1 => op_int0 ?_)))
    refine nx_ret (ev_tup (ea_cons (ev_str (ea_cons (ev_tup (ea_cons (ev_tup (ea_cons (ev_var rfl (ea_cons (ev_var rfl (ea_nil ⟨by show 2 ≤ 1000; decide, ?_⟩))))))))))))
    refine ea_cons (ev_tup (ea_cons (ev_op (ev_var rfl (ev_str (op_addS ?_ ?_))))))
    · show name.length + 1 ≤ 1000; omega
    refine ea_cons (ev_op (ev_int (ev_var rfl (op_int0 ?_))))
    refine ea_nil ⟨by show 2 ≤ 1000; decide, ea_nil ⟨by show 2 ≤ 1000; decide, ea_nil ⟨by show 2 ≤ 1000; decide, rt_of fun H' v I z => k v H' _ I.1 I.2 z ⟨.bits name (1 + y) (name ++ "x") (8 - (1 + y)), rfl, fun _ => ⟨hname, hname.app (by show PyData.strOk _ = true; decide +kernel), by omega, by omega, rfl⟩⟩⟩⟩⟩
  refine sq_when (et_test (ev_op (ev_var rfl (ev_int (op_bl0 ⟨_, rfl, ifD (fun _ => ?_) fun _ => ?_⟩)))))
  · refine nx_ret (ev_tup (ea_cons (ev_str (ea_cons (ev_var rfl (ea_cons (ev_call (ea_cons (ev_var rfl (ea_cons (ev_var rfl (ea_nil ?_))))))))))))
    refine call_Pl st (q, ns) rfl (fun I => ⟨hqp, pwL hqp hq I, hnm, hnl⟩) ?_
    rintro _ ⟨l, rfl, hl⟩
    exact ea_nil ⟨by show 3 ≤ 1000; decide, rt_of fun H' v I z => k v H' _ I.1 I.2 z ⟨.bytes name l, rfl, fun _ => ⟨hname, hl⟩⟩⟩
  refine nx_ret (ev_tup (ea_cons (ev_str (ea_cons (ev_var rfl (ea_cons (ev_ixN (el_lst (ea_cons (ev_int (ea_cons (ev_int (ea_nil ⟨by show 2 ≤ 1000; decide, ?_⟩)))))))))))))
  refine ev_takeC st rfl (by decide) fun y y0 y1 => ?_
  have hm : ∃ m : Int, atI [Dat.int 0, .int 59] y = some (.int m) ∧ 0 ≤ m ∧ m ≤ 255 := by
    have hy : y = 0 ∨ y = 1 := by omega
    rcases hy with rfl | rfl
    · exact ⟨0, rfl, by decide, by decide⟩
    · exact ⟨59, rfl, by decide, by decide⟩
  obtain ⟨m, hm1, m0, m1⟩ := hm
  exact ⟨y, .int m, rfl, hm1, ea_nil ⟨by show 3 ≤ 1000; decide, rt_of fun H' v I z => k v H' _ I.1 I.2 z ⟨.text name m, rfl, fun _ => ⟨hname, m0, m1⟩⟩⟩⟩
def spDeep (K : PySem.W.Frag) : Sp := SpPl K (α := Str × (Addr × List Str) × Addr × List Str) (fun a => [.str a.1, .obj a.2.1.1, .obj a.2.2.1]) (fun p a H => NmOk a.1 ∧ NmsAt K p a.2.1.1 a.2.1.2 H ∧ a.2.1.2 ≠ [] ∧ NmsAt K p a.2.2.1 a.2.2.2 H ∧ a.2.2.2 ≠ []) fun a d => ∃ f : Fld, d = f.dat ∧ FldOk a.2.1.2 a.2.2.2 f
theorem w_deep (T : Tp K mg w cR cM cT aS aD) (G_law_take : Cl P w K mg base 1 "_law_take" (spPTake K)) (G_law_length : Cl P w K mg base 2 "_law_length" (spLength K)) : Cl P w K mg base 3 "_law_deep_field" (spDeep K) := by
  refine Cl.of (ps := ["_law_pool_here", "_law_name", "_law_tags_here", "_law_deeper"]) T.d_law_deep_field (fun f fd F => ?_) fun _ _ _ _ _ _ us hl => match us, hl with | [_, _, _, _], _ => rfl
  refine F.ok sc_law_deep_field (fun vs H Q E h => ?_) (fun cdv A outer sh H vs Q E hr h => ?_)
  · obtain ⟨p, ⟨name, ⟨q, ns⟩, q2, ds⟩, al, _⟩ := h
    exact al.len
  obtain ⟨p, ⟨name, ⟨q, ns⟩, q2, ds⟩, al, pa, pre, k⟩ := h
  try dsimp only at pre
  have hu := hu_of hr
  refine ⟨_, (pss_cons (ps_set (i := 4) sc_law_deep_field.nd rfl (Or.inl rfl) (k_call G_law_take (hr.mono (by decide)) (pa_cons (pv 0) (pa_cons pe_int pa_nil))))
      (pss_cons (ps_set (i := 5) sc_law_deep_field.nd rfl (Or.inl rfl) (pe_ix (k_ixL K) (pv 3) (k_call G_law_take (hr.mono (by decide)) (pa_cons (pv 0) (pa_cons (pe_callB (k_len K) (by rfl) T.n_len (by decide +kernel) (pa_cons (pv 3) pa_nil)) pa_nil))) (fun _ _ => rfl)))
      (pss_cons (ps_set (i := 6) sc_law_deep_field.nd rfl (Or.inl rfl) (pe_ix (k_ixL K) (pv 2) (k_call G_law_take (hr.mono (by decide)) (pa_cons (pv 0) (pa_cons (pe_callB (k_len K) (by rfl) T.n_len (by decide +kernel) (pa_cons (pv 2) pa_nil)) pa_nil))) (fun _ _ => rfl)))
      (pss_cons (ps_if (pt_cmpR op_eq (pv 4) pe_int (nomark _)) (pss_cons (ps_set (i := 7) sc_law_deep_field.nd rfl (Or.inl rfl) (pe_listRg rfl (by rfl) T.n_list (prg_1 (by rfl) T.n_range (pe_op op_add pe_int (k_call G_law_take (hr.mono (by decide)) (pa_cons (pv 0) (pa_cons pe_int pa_nil)))))))
      (pss_one (ps_ret (pe_tupF (pa_cons pe_str (pa_cons (pv 1) (pa_cons (pv 6) (pa_cons (pe_callTy (k_tupOf K) (by rfl) T.n_tuple (by decide +kernel) (pa_cons (pe_lc (g := (gName 8)) rfl sc_law_deep_field.nd (k_forL K (pv 7)) (blkOk_by (own := [("_law_worth", 8)]) (N := ["_law_pool_here", "_law_name", "_law_tags_here", "_law_deeper", "_law_way", "_law_sort", "_law_tag", "_law_worths", "_law_worth"]) (sc := defScope s_law_deep_field) (by decide +kernel)) (fun _ _ _ _ _ => (pg_name (i := 8) sc_law_deep_field.nd rfl (Or.inl rfl))) (fun _ _ _ _ _ => pts_nil) (fun _ _ _ _ _ => (pe_tupF (pa_cons (pv 8) (pa_cons (pe_ix (k_ixL K) (pv 3) (pe_op op_mod (pv 8) (pe_callB (k_len K) (by rfl) T.n_len (by decide +kernel) (pa_cons (pv 3) pa_nil))) (fun _ _ => rfl)) pa_nil))))) pa_nil)) pa_nil)))))))) pss_nil)
      (pss_cons (ps_if (pt_cmpR op_eq (pv 4) pe_int (nomark _)) (pss_one (ps_ret (pe_tupF (pa_cons pe_str (pa_cons (pv 1) (pa_cons (pv 5) (pa_cons (pe_tupF (pa_cons pe_str (pa_cons (pv 6) pa_nil))) pa_nil))))))) pss_nil)
      (pss_one (ps_ret (pe_tupF (pa_cons pe_str (pa_cons (pv 1) (pa_cons (k_call G_law_length (hr.mono (by decide)) (pa_cons (pv 0) (pa_cons (pv 2) pa_nil))) (pa_cons (pv 5) pa_nil)))))))))))), ?_⟩
  obtain ⟨hname, hn, hns, hd, hds⟩ := pre
  obtain ⟨hqp, hq, hnm, hnl⟩ := id hn
  obtain ⟨hqp2, hq2, hnm2, hnl2⟩ := id hd
  have hp : H p ≠ none := (pool_shp K p).trk pa
  have st : Stays (Wd.pw K p H hp) p (PoolAt K p) := pw_stays
  have p1 : 0 < ns.length := List.length_pos_iff.mpr hns
  have p2 : 0 < ds.length := List.length_pos_iff.mpr hds
  refine nx_go (W := Wd.pw K p H hp) (i := ()) ?_ ⟨Off.refl, pa⟩ (Sls.start al _ rfl)
  refine sq_set (ev_takeC st rfl (by decide) fun x x0 x1 => ?_)
  refine sq_set (ev_op (ev_var rfl ?_))
  refine ev_take st rfl (ev_lenL (ev_var rfl ⟨q2, _, rfl, fun I => pwL hqp2 hq2 I, _, rfl, ⟨by rw [List.length_map]; omega, by rw [List.length_map]; omega⟩, fun y h0 h1 => ?_⟩))
  rw [List.length_map] at h1
  obtain ⟨sort, hs1, hs2⟩ := names_at h0 h1
  refine op_ixL (fun I => pwL hqp2 hq2 I) hs2 ?_
  refine sq_set (ev_op (ev_var rfl ?_))
  refine ev_take st rfl (ev_lenL (ev_var rfl ⟨q, _, rfl, fun I => pwL hqp hq I, _, rfl, ⟨by rw [List.length_map]; omega, by rw [List.length_map]; omega⟩, fun y2 g0 g1 => ?_⟩))
  rw [List.length_map] at g1
  obtain ⟨tag, ht1, ht2⟩ := names_at g0 g1
  refine op_ixL (fun I => pwL hqp hq I) ht2 ?_
  refine sq_when (et_test (ev_op (ev_var rfl (ev_int (op_eqI ⟨_, rfl, ifD (fun _ => ?_) fun _ => ?_⟩)))))
  · refine sq_setL (el_listRg (ev_op (ev_int (ev_takeC st rfl (by decide) fun z z0 z1 => op_int0 ⟨1 + z, rfl, ⟨by omega, by omega⟩, fun pw nw => ?_⟩))))
    generalize hm : (1 + z).toNat = m
    have hm1 : 1 ≤ m ∧ m ≤ 4 := by omega
    refine nx_ret (ev_tup (ea_cons (ev_str (ea_cons (ev_var rfl (ea_cons (ev_var rfl (ea_cons (ev_tupOf (el_lcL (ev_var rfl ⟨pw, _, rfl, fun I => I.2, ?_⟩)))))))))))
    refine lc_name (k := 8) (wk_lst fun x => x.2) (by rw [List.length_map, List.length_range]; omega) (fun c _ acc => ∃ ks : List (Int × Str), acc = ks.map (fun q => .tup [.int q.1, .str q.2]) ∧ ks.length = c ∧ (∀ q ∈ ks, q.2 ∈ ds ∧ q.1 < c) ∧ (ks.map (·.1)).Nodup) ⟨[], rfl, rfl, by simp, by simp⟩ (by decide) ?_ ?_
    · rintro c _ acc d pp np hc hcd ⟨ks, rfl, hk1, hk2, hk3⟩
      obtain ⟨c', hc', rfl⟩ := get_map (g := fun m : Nat => Dat.int (m : Nat)) hcd
      have hcc : c' = c := by
        have := List.getElem?_range (show c < m by rw [List.length_map, List.length_range] at hc; exact hc)
        rw [this] at hc'
        exact (Option.some.inj hc').symm
      subst hcc
      have hmod0 : 0 ≤ (c' : Int) % ds.length := Int.emod_nonneg _ (by omega)
      have hmod1 : (c' : Int) % ds.length < ds.length := Int.emod_lt_of_pos _ (by omega)
      obtain ⟨kd, hkd1, hkd2⟩ := names_at hmod0 hmod1
      refine lct_yes (ev_tup (ea_cons (ev_var rfl (ea_cons (ev_op (ev_var rfl ?_))))))
      refine ev_op (ev_var rfl (ev_lenL (ev_var rfl ⟨q2, _, rfl, fun I => pwL hqp2 hq2 I.1.1, op_int1 (by rw [List.length_map]; omega) ?_⟩)))
      rw [List.length_map]
      refine op_ixL (fun I => pwL hqp2 hq2 I.1.1) hkd2 (ea_nil ⟨by show 2 ≤ 1000; decide, ks ++ [((c' : Int), kd)], by simp, by simp [hk1], ?_, ?_⟩)
      · intro q hq'
        rcases List.mem_append.mp hq' with e | e
        · have := hk2 q e; exact ⟨this.1, by omega⟩
        · rw [List.mem_singleton.mp e]; exact ⟨hkd1, by show (c' : Int) < (c' + 1 : Nat); omega⟩
      · rw [List.map_append, List.nodup_append]
        refine ⟨hk3, by simp, ?_⟩
        intro a ha b hb
        obtain ⟨q, hq', rfl⟩ := List.mem_map.mp ha
        have := (hk2 q hq').2
        simp at hb
        omega
    · rintro _ acc ⟨ks, rfl, hk1, hk2, hk3⟩
      rw [List.length_map, List.length_range] at hk1
      refine ea_nil ⟨by show 4 ≤ 1000; decide, rt_of fun H' v I zz => k v H' _ I.1.1 I.1.2 zz ⟨.choice name tag ks, rfl, hname, ht1, ?_, hk3, by omega, fun q hq' => (hk2 q hq').1⟩⟩
      intro e
      rw [e] at hk1
      simp at hk1
      omega
  refine sq_when (et_test (ev_op (ev_var rfl (ev_int (op_eqI ⟨_, rfl, ifD (fun _ => ?_) fun _ => ?_⟩)))))
  · refine nx_ret (ev_tup (ea_cons (ev_str (ea_cons (ev_var rfl (ea_cons (ev_var rfl (ea_cons (ev_tup (ea_cons (ev_str (ea_cons (ev_var rfl (ea_nil ⟨by show 2 ≤ 1000; decide, ?_⟩))))))))))))))
    exact ea_nil ⟨by show 4 ≤ 1000; decide, rt_of fun H' v I zz => k v H' _ I.1 I.2 zz ⟨.row name sort (some tag), rfl, hname, hs1, fun x hx => by cases hx; exact ⟨ht1, hnm _ ht1⟩⟩⟩
  refine nx_ret (ev_tup (ea_cons (ev_str (ea_cons (ev_var rfl (ea_cons (ev_call (ea_cons (ev_var rfl (ea_cons (ev_var rfl (ea_nil ?_))))))))))))
  refine call_Pl st (q, ns) rfl (fun I => ⟨hqp, pwL hqp hq I, hnm, hnl⟩) ?_
  rintro _ ⟨l, rfl, hl⟩
  exact ea_cons (ev_var rfl (ea_nil ⟨by show 4 ≤ 1000; decide, rt_of fun H' v I zz => k v H' _ I.1 I.2 zz ⟨.carried name l sort, rfl, hname, hl, hs1⟩⟩))
/-- the tags that the law picks -/
def lawTag : Fld → List Str
  | .number n _ _ _ m => if m < 10 then [n] else []
  | .bits _ _ b _ => [b]
  | _ => []
theorem lawTag_decl {f : Fld} : ∀ x ∈ lawTag f, x ∈ decl f := by
  cases f with
  | number n s o l m =>
    intro x hx
    simp only [lawTag] at hx
    split at hx
    · exact hx
    · cases hx
  | bits a v b w => intro x hx; rw [List.mem_singleton.mp hx]; simp [decl]
  | _ => intro x hx; cases hx
def spTags (K : PySem.W.Frag) : Sp := SpAL K (α := Addr × List Fld) (fun a => [.obj a.1]) (fun a H => LstAt K a.1 (a.2.map Fld.dat) H ∧ a.2.length ≤ 100) fun a l => l = (a.2.flatMap lawTag).map Dat.str
theorem w_tags (T : Tp K mg w cR cM cT aS aD) : Cl P w K mg base 1 "_law_tags" (spTags K) := by
  refine Cl.of (ps := ["_law_fields_here"]) T.d_law_tags (fun f fd F => ?_) fun _ _ _ _ _ _ us hl => match us, hl with | [_], _ => rfl
  refine F.ok sc_law_tags (fun vs H Q E h => ?_) (fun cdv A outer sh H vs Q E hr h => ?_)
  · obtain ⟨⟨q, fs⟩, al, _⟩ := h
    exact al.len
  obtain ⟨⟨q, fs⟩, al, pre, k⟩ := h
  try dsimp only at pre
  have hu := hu_of hr
  refine ⟨_, (pss_cons (ps_set (i := 1) sc_law_tags.nd rfl (Or.inl rfl) (pe_lst pa_nil))
      (pss_cons (ps_for PassesOwn.never rfl (k_forL K (pv 0)) (pg_name (i := 2) sc_law_tags.nd rfl (Or.inl rfl)) (pss_cons (ps_if (PW.pt (pw_and (pt_cmpR op_eq (pe_ix (k_ixT K) (pv 2) pe_int (fun _ _ => rfl)) pe_str (nomark _)) (pw_and1 (pt_cmpR op_lt (pe_ix (k_ixT K) (pv 2) pe_int (fun _ _ => rfl)) pe_int (nomark _))))) (pss_one (ps_expr (k_append K (pv 1) (pe_ix (k_ixT K) (pv 2) pe_int (fun _ _ => rfl))))) pss_nil)
      (pss_one (ps_if (pt_cmpR op_eq (pe_ix (k_ixT K) (pv 2) pe_int (fun _ _ => rfl)) pe_str (nomark _)) (pss_one (ps_expr (k_append K (pv 1) (pe_ix (k_ixT K) (pe_ix (k_ixT K) (pe_ix (k_ixT K) (pv 2) pe_int (fun _ _ => rfl)) pe_int (fun _ _ => rfl)) pe_int (fun _ _ => rfl))))) pss_nil))))
      (pss_one (ps_ret (pv 1))))), ?_⟩
  obtain ⟨hq, hl⟩ := pre
  have hq' : ∀ {j : Unit} {H' : Hp}, (Wd.base H).I j H' → LstAt K q (fs.map Fld.dat) H' := fun I => hq.off (A := []) (by simp) (Off.of_same I)
  refine nx_go (W := .base H) (i := ()) ?_ (fun b o e => e) (Sls.start al _ rfl)
  refine sq_setL (el_lst (ea_nil ⟨by decide, fun pf nf => ?_⟩))
  refine sq_forL (ev_var rfl ⟨q, _, rfl, fun I => hq' I.1, ?_⟩)
  refine sq_loop (κ := List Dat) (Wf := fun l => (Wd.base H).own pf (LstAt K pf l) (lst_shp K pf _) nf) (fun m l _ Γ => l = ((fs.take m).flatMap lawTag).map Dat.str ∧ l.length ≤ m ∧ ∃ x, Γ = [some (.obj q), some (.obj pf), x]) [] (fun _ => wk_lst fun I => hq' I.1) ?_ ?_ ?_
  · exact ⟨rfl, Nat.le_refl _, none, rfl⟩
  · rintro m l _ Γ d hm hd ⟨hl1, hl2, x, rfl⟩
    obtain ⟨f, hf, rfl⟩ := get_map hd
    rw [List.length_map] at hm
    refine tg_name ?_
    have hk : ([some (.obj q), some (.obj pf), some f.dat] : Ctx)[2]? = some (some (.tup (.str f.word :: f.tl))) := by rw [← f.dat_eq]; rfl
    have step : ∀ l', l' = l ++ (lawTag f).map Dat.str → l'.length ≤ l.length + 1 → l' = ((fs.take (m + 1)).flatMap lawTag).map Dat.str ∧ l'.length ≤ m + 1 := fun l' e h => ⟨by rw [e, hl1, take_snoc hf, List.flatMap_append, List.map_append]; simp, by omega⟩
    cases f with
    | number n s o lo m' =>
      refine sq_when (et_and (et_word (by exact hk) (fun _ => ?_) fun z => absurd rfl z))
      refine et_test (ev_op (ev_ix (ds := [.str "number", .str n, .int s, .str o, .int lo, .int m']) rfl rfl (ev_int (op_bl0 ⟨_, rfl, ifD (fun c => ?_) fun c => ?_⟩))))
      · refine nx_append OwnAt.here (ev_var rfl ⟨rfl, rfl, by omega, ev_ix (ds := [.str "number", .str n, .int s, .str o, .int lo, .int m']) rfl rfl ?_⟩)
        refine nx_if (et_word (by exact hk) (fun z => absurd z (by show ¬ ("number" : Str) = "bits"; decide +kernel)) fun _ => ?_)
        have hs := step (l ++ [.str n]) (by simp [lawTag, c]) (by simp)
        exact fun H' σ I E => Lp.of _ I E ⟨hs.1, hs.2, _, rfl⟩
      · refine nx_if (et_word (by exact hk) (fun z => absurd z (by show ¬ ("number" : Str) = "bits"; decide +kernel)) fun _ => ?_)
        have hs := step l (by simp [lawTag, c]) (by omega)
        exact fun H' σ I E => Lp.of _ I E ⟨hs.1, hs.2, _, rfl⟩
    | bits a v b w' =>
      refine sq_when (et_and (et_word (by exact hk) (fun z => absurd z (by show ¬ ("bits" : Str) = "number"; decide +kernel)) fun _ => ifF rfl ?_))
      refine nx_if (et_word (by exact hk) (fun _ => ?_) fun z => absurd rfl z)
      refine nx_append OwnAt.here (ev_var rfl ⟨rfl, rfl, by omega, ev_op (ev_ix2 (ds := [.str "bits", .tup [.tup [.str a, .int v], .tup [.str b, .int w']]]) (es := [.tup [.str a, .int v], .tup [.str b, .int w']]) rfl rfl rfl (ev_int (op_ixT rfl ?_)))⟩)
      have hs := step (l ++ [.str b]) (by simp [lawTag]) (by simp)
      exact fun H' σ I E => Lp.of _ I E ⟨hs.1, hs.2, _, rfl⟩
    | _ =>
      refine sq_when (et_and (et_word (by exact hk) (fun z => absurd z (by simp only [Fld.word]; decide +kernel)) fun _ => ifF rfl ?_))
      refine nx_if (et_word (by exact hk) (fun z => absurd z (by simp only [Fld.word]; decide +kernel)) fun _ => ?_)
      have hs := step l (by simp [lawTag]) (by omega)
      exact fun H' σ I E => Lp.of _ I E ⟨hs.1, hs.2, _, rfl⟩
  · rintro l _ Γ ⟨hl1, hl2, x, rfl⟩
    refine nx_ret (ev_var rfl (rt_L fun H' I => k pf H' l (Classical.byContradiction nf) I.1 I.2 ?_))
    rw [List.length_map, List.take_length] at hl1
    exact hl1
end
end Lb
/-! text LbL4 -/
/-! Walks: the law's lists of fields. -/
namespace Lb
open PySem L2
section
variable {ι : Type} {K : PySem.W.Frag} {W : Wd ι} {i : ι} {P : ι → Dat → Prop}
theorem op_ixS {z : Str} {n : Int} {c : Nat} (hz : z.length ≤ 1000) (h : atI z.cps.toList n = some c) (p : P i (.str ⟨#[c]⟩)) : Op K W i rIxS (.str z) (.int n) P := fun H x y I ax ay Q q => by
  cases ax; cases ay
  exact ⟨z, n, c, rfl, rfl, by rw [sizeLine_eq]; omega, h, q _ H i _ Off.refl I (.str _) p⟩
end
theorem FsOk.snoc {deep : List Str} {f : Fld} : ∀ {fs : List Fld} {seen : List Str}, FsOk deep seen fs → FldOk (seen ++ fs.flatMap decl) deep f → FsOk deep seen (fs ++ [f])
  | [], seen, _, h => ⟨by simpa using h, True.intro⟩
  | g :: fs, seen, h, h2 => ⟨h.1, FsOk.snoc h.2 (by rw [List.append_assoc]; rw [List.flatMap_cons] at h2; exact h2)⟩
theorem FldOk.mono {s s' deep : List Str} {f : Fld} (h : FldOk s deep f) (g : ∀ x ∈ s, x ∈ s') : FldOk s' deep f := by
  have hl : ∀ l : Ln, LnOk s l → LnOk s' l := fun l hl => by
    cases l with
    | of t k m => exact ⟨g _ hl.1, hl.2⟩
    | is n => exact hl
    | rest => exact hl
  cases f with
  | number => exact h
  | bits => exact h
  | bytes n l => exact ⟨h.1, hl l h.2⟩
  | text => exact h
  | choice n t ks => exact ⟨h.1, g _ h.2.1, h.2.2⟩
  | row n k t => exact ⟨h.1, h.2.1, fun x hx => ⟨g _ (h.2.2 x hx).1, (h.2.2 x hx).2⟩⟩
  | carried n l k => exact ⟨h.1, hl l h.2.1, h.2.2⟩
/-- all names that a field declares are in order -/
theorem decl_nm {s deep : List Str} {f : Fld} (h : FldOk s deep f) : ∀ x ∈ decl f, NmOk x := by
  cases f with
  | number n sz o l m => intro x hx; rw [List.mem_singleton.mp hx]; exact h.1
  | bits a v b w =>
    intro x hx
    rw [List.mem_singleton.mp hx]
    exact h.2.1
  | _ => intro x hx; cases hx
theorem FsOk.nm {deep : List Str} {fs : List Fld} {seen : List Str} (h : FsOk deep seen fs) : ∀ x ∈ fs.flatMap lawTag, NmOk x := by
  intro x hx
  obtain ⟨f, hf, hx⟩ := List.mem_flatMap.mp hx
  obtain ⟨s, h1, _⟩ := h.mem f hf
  exact decl_nm h1 x (lawTag_decl x hx)
theorem lawTag_len {fs : List Fld} : (fs.flatMap lawTag).length ≤ fs.length := by
  induction fs with
  | nil => exact Nat.le_refl _
  | cons f fs ih =>
    rw [List.flatMap_cons, List.length_append, List.length_cons]
    have : (lawTag f).length ≤ 1 := by
      cases f with
      | number n s o l m => simp only [lawTag]; split <;> simp
      | bits => exact Nat.le_refl _
      | _ => exact Nat.zero_le _
    omega
theorem lawTag_sub {fs : List Fld} : ∀ x ∈ fs.flatMap lawTag, x ∈ fs.flatMap decl := fun x hx => by
  obtain ⟨f, hf, hx⟩ := List.mem_flatMap.mp hx
  exact List.mem_flatMap.mpr ⟨f, hf, lawTag_decl x hx⟩
def sumD (r : Str) : Dat := .tup [.str "sum", .str "sum", .str r]
def SmOk (sm : List Dat) : Prop := sm = [] ∨ ∃ r, sm = [sumD r]
section
variable {P : Program} {w : World} {K : PySem.W.Frag} {mg : Str → Option Value} {base : Heap} {cR cM cT aS aD : Addr}
def spFields (K : PySem.W.Frag) : Sp := SpPl K (α := (Addr × List Str) × Int) (fun a => [.obj a.1.1, .int a.2]) (fun p a H => NmsAt K p a.1.1 a.1.2 H ∧ 1 ≤ a.2 ∧ a.2 ≤ 5) fun a d => ∃ fs sm, d = .tup (fs.map Fld.dat ++ sm) ∧ FsOk a.1.2 [] fs ∧ 1 ≤ fs.length ∧ fs.length ≤ 6 ∧ SmOk sm
theorem w_fields (T : Tp K mg w cR cM cT aS aD) (G_law_take : Cl P w K mg base 1 "_law_take" (spPTake K)) (G_law_tags : Cl P w K mg base 1 "_law_tags" (spTags K)) (G_law_plain_field : Cl P w K mg base 3 "_law_plain_field" (spPlain K)) (G_law_deep_field : Cl P w K mg base 3 "_law_deep_field" (spDeep K)) : Cl P w K mg base 4 "_law_fields" (spFields K) := by
  refine Cl.of (ps := ["_law_pool_here", "_law_deeper", "_law_most"]) T.d_law_fields (fun f fd F => ?_) fun _ _ _ _ _ _ us hl => match us, hl with | [_, _, _], _ => rfl
  refine F.ok sc_law_fields (fun vs H Q E h => ?_) (fun cdv A outer sh H vs Q E hr h => ?_)
  · obtain ⟨p, ⟨⟨q, ds⟩, most⟩, al, _⟩ := h
    exact al.len
  obtain ⟨p, ⟨⟨q, ds⟩, most⟩, al, pa, pre, k⟩ := h
  try dsimp only at pre
  have hu := hu_of hr
  refine ⟨_, (pss_cons (ps_set (i := 3) sc_law_fields.nd rfl (Or.inl rfl) (pe_lst pa_nil))
      (pss_cons (ps_for PassesOwn.never rfl (pi_range1 (by rfl) T.n_range (pa_cons (pe_op op_add pe_int (k_call G_law_take (hr.mono (by decide)) (pa_cons (pv 0) (pa_cons (pv 2) pa_nil)))) pa_nil)) (pg_name (i := 4) sc_law_fields.nd rfl (Or.inl rfl)) (pss_cons (ps_set (i := 5) sc_law_fields.nd rfl (Or.inl rfl) (pe_op k_addS pe_str (pe_ix ix_str pe_str (pv 4) (fun _ _ => rfl))))
      (pss_cons (ps_set (i := 6) sc_law_fields.nd rfl (Or.inl rfl) (k_call G_law_tags (hr.mono (by decide)) (pa_cons (pv 3) pa_nil)))
      (pss_one (ps_if (PW.pt (pw_and (pt_cmpR (k_neD K hr.units) (pv 1) (pe_lst pa_nil) (nomark _)) (pw_and (pt_cmpR (k_neD K hr.units) (pv 6) (pe_lst pa_nil) (nomark _)) (pw_and1 (pt_cmpR op_eq (k_call G_law_take (hr.mono (by decide)) (pa_cons (pv 0) (pa_cons pe_int pa_nil))) pe_int (nomark _)))))) (pss_one (ps_expr (k_append K (pv 3) (k_call G_law_deep_field (hr.mono (by decide)) (pa_cons (pv 0) (pa_cons (pv 5) (pa_cons (pv 6) (pa_cons (pv 1) pa_nil)))))))) (pss_one (ps_expr (k_append K (pv 3) (k_call G_law_plain_field (hr.mono (by decide)) (pa_cons (pv 0) (pa_cons (pv 5) (pa_cons (pv 6) pa_nil))))))))))))
      (pss_cons (ps_if (PW.pt (pw_and (pt_cmpR (k_neD K hr.units) (pv 1) (pe_lst pa_nil) (nomark _)) (pw_and1 (pt_cmpR op_eq (k_call G_law_take (hr.mono (by decide)) (pa_cons (pv 0) (pa_cons pe_int pa_nil))) pe_int (nomark _))))) (pss_cons (ps_set (i := 7) sc_law_fields.nd rfl (Or.inl rfl) (k_call G_law_take (hr.mono (by decide)) (pa_cons (pv 0) (pa_cons pe_int pa_nil))))
      (pss_one (ps_expr (k_append K (pv 3) (pe_ix (k_ixL K) (pe_lst (pa_cons (pe_tupF (pa_cons pe_str (pa_cons pe_str (pa_cons (pe_tupF (pa_cons pe_str pa_nil)) pa_nil)))) (pa_cons (pe_tupF (pa_cons pe_str (pa_cons pe_str (pa_cons (pe_ix (k_ixL K) (pv 1) pe_int (fun _ _ => rfl)) (pa_cons (pe_tupF (pa_cons pe_str pa_nil)) pa_nil))))) (pa_cons (pe_tupF (pa_cons pe_str (pa_cons pe_str (pa_cons (pe_tupF (pa_cons pe_str pa_nil)) (pa_cons (pe_ix (k_ixL K) (pv 1) (pe_un un_neg pe_int) (fun _ _ => rfl)) pa_nil))))) pa_nil)))) (pv 7) (fun _ _ => rfl)))))) pss_nil)
      (pss_cons (ps_if (pt_cmpR op_eq (k_call G_law_take (hr.mono (by decide)) (pa_cons (pv 0) (pa_cons pe_int pa_nil))) pe_int (nomark _)) (pss_one (ps_expr (k_append K (pv 3) (pe_tupF (pa_cons pe_str (pa_cons pe_str (pa_cons (pe_ix (k_ixL K) (pe_lst (pa_cons pe_str (pa_cons pe_str (pa_cons pe_str pa_nil)))) (k_call G_law_take (hr.mono (by decide)) (pa_cons (pv 0) (pa_cons pe_int pa_nil))) (fun _ _ => rfl)) pa_nil))))))) pss_nil)
      (pss_one (ps_ret (pe_callTy (k_tupOf K) (by rfl) T.n_tuple (by decide +kernel) (pa_cons (pv 3) pa_nil)))))))), ?_⟩
  obtain ⟨hn, hm1, hm2⟩ := pre
  obtain ⟨hqp, hq, hnm, hnl⟩ := id hn
  have hp : H p ≠ none := (pool_shp K p).trk pa
  have st : Stays (Wd.pw K p H hp) p (PoolAt K p) := pw_stays
  refine nx_go (W := Wd.pw K p H hp) (i := ()) ?_ ⟨Off.refl, pa⟩ (Sls.start al _ rfl)
  refine sq_setL (el_lst (ea_nil ⟨by decide, fun pf nf => ?_⟩))
  refine sq_forR (ea_cons (ev_op (ev_int (ev_take st.own rfl (ev_var rfl ⟨most, rfl, ⟨by omega, by omega⟩, fun x x0 x1 => op_int0 (ea_nil ⟨1 + x, rfl, ⟨by omega, by omega⟩, ?_⟩)⟩)))))
  generalize hc : (1 + x).toNat = c
  have hc1 : 1 ≤ c ∧ c ≤ 5 := by omega
  let Wf : List Fld → Wd Unit := fun fs => (Wd.pw K p H hp).own pf (LstAt K pf (fs.map Fld.dat)) (lst_shp K pf _) nf
  have stf : ∀ fs, Stays (Wf fs) p (PoolAt K p) := fun fs => st.own
  refine sq_loop (κ := List Fld) (Wf := Wf) (fun m fs _ Γ => fs.length = m ∧ FsOk ds [] fs ∧ ∃ x4 x5 x6 x7, Γ = [some (.obj p), some (.obj q), some (.int most), some (.obj pf), x4, x5, x6, x7]) [] (fun _ => wk_rng) ?_ ?_ ?_
  · exact ⟨rfl, True.intro, none, none, none, none, rfl⟩
  · rintro m fs _ Γ d hm rfl ⟨hl, hfs, x4, x5, x6, x7, rfl⟩
    refine tg_name ?_
    have hch : ∃ ch : Nat, atI ("abcdefgh" : Str).cps.toList ((0 : Int) + (m : Nat)) = some ch ∧ NmOk ("f" ++ ⟨#[ch]⟩) := by
      have hmm : m = 0 ∨ m = 1 ∨ m = 2 ∨ m = 3 ∨ m = 4 := by omega
      rcases hmm with rfl | rfl | rfl | rfl | rfl
      · exact ⟨97, by decide +kernel, by show PyData.strOk _ = true; decide +kernel⟩
      · exact ⟨98, by decide +kernel, by show PyData.strOk _ = true; decide +kernel⟩
      · exact ⟨99, by decide +kernel, by show PyData.strOk _ = true; decide +kernel⟩
      · exact ⟨100, by decide +kernel, by show PyData.strOk _ = true; decide +kernel⟩
      · exact ⟨101, by decide +kernel, by show PyData.strOk _ = true; decide +kernel⟩
    obtain ⟨ch, hch1, hch2⟩ := hch
    have hlen1 : ("f" : Str).length + (⟨#[ch]⟩ : Str).length ≤ 10 := by show ("f" : Str).length + 1 ≤ 10; decide +kernel
    refine sq_set (ev_op (ev_str (ev_op (ev_str (ev_var rfl (op_ixS (by decide +kernel) hch1 (op_addS (by omega) ?_)))))))
    have hlen2 : ("f" ++ (⟨#[ch]⟩ : Str)).length ≤ 10 := by
      have : ("f" ++ (⟨#[ch]⟩ : Str)).length = ("f" : Str).length + (⟨#[ch]⟩ : Str).length := Array.size_append
      omega
    generalize ("f" ++ (⟨#[ch]⟩ : Str)) = name at hch2 hlen2
    refine sq_setL (el_call (ea_cons (ev_var rfl (ea_nil (call_AL (pf, fs) rfl (fun I => ⟨I.2, by show fs.length ≤ 100; omega⟩) ?_)))))
    rintro _ rfl pt nt
    have hptp : pt ≠ p := fun z => nt (.inr (by rw [z]; exact hp))
    have htl := lawTag_len (fs := fs)
    have nmt : ∀ {j : Unit} {H' : Hp}, ((Wf fs).own pt (LstAt K pt ((fs.flatMap lawTag).map Dat.str)) (lst_shp K pt _) nt).I j H' → NmsAt K p pt (fs.flatMap lawTag) H' := fun I => ⟨hptp, I.2, hfs.nm, by omega⟩
    have nmd : ∀ {j : Unit} {H' : Hp}, ((Wf fs).own pt (LstAt K pt ((fs.flatMap lawTag).map Dat.str)) (lst_shp K pt _) nt).I j H' → NmsAt K p q ds H' := fun I => ⟨hqp, pwL hqp hq I.1.1, hnm, hnl⟩
    have stt := (stf fs).own (s := lst_shp K pt ((fs.flatMap lawTag).map Dat.str)) (np := nt)
    refine nx_if (EvT.imp (Pb := fun _ b => b = true → ds ≠ [] ∧ fs.flatMap lawTag ≠ []) ?_ ?_)
    · refine et_and (et_test (ev_neNil (ev_var rfl ⟨q, _, 0, rfl, fun I => (nmd I).2.1, fineL_names hnm, by decide, _, rfl, ?_⟩)))
      refine ifB (fun e1 => ?_) fun e1 z => by cases z
      have hne1 : ds ≠ [] := by intro e; rw [e] at e1; cases e1
      refine et_and (et_test (ev_neNil (ev_var rfl ⟨pt, _, 0, rfl, fun I => I.2, fineL_names hfs.nm, by decide, _, rfl, ?_⟩)))
      refine ifB (fun e2 => ?_) fun e2 z => by cases z
      have hne2 : fs.flatMap lawTag ≠ [] := by intro e; rw [e] at e2; cases e2
      exact et_test (ev_op (ev_takeC stt rfl (by decide) fun x _ _ => ev_int (op_eqI ⟨_, rfl, fun _ => ⟨hne1, hne2⟩⟩)))
    rintro _ b hb
    have fin : ∀ f : Fld, FldOk (fs.flatMap lawTag) ds f → FsOk ds [] (fs ++ [f]) := fun f hf => hfs.snoc (hf.mono fun x hx => by rw [List.nil_append]; exact lawTag_sub x hx)
    have em : ∀ f : Fld, fs.map Fld.dat ++ [f.dat] = (fs ++ [f]).map Fld.dat := fun f => by simp
    refine ifB (fun e => ?_) fun e => ?_
    · obtain ⟨h1, h2⟩ := hb e
      refine nx_append OwnAt.here.under (ev_var rfl ⟨rfl, rfl, by rw [List.length_map]; omega, ev_call (ea_cons (ev_var rfl (ea_cons (ev_var rfl (ea_cons (ev_var rfl (ea_cons (ev_var rfl (ea_nil ?_)))))))))⟩)
      refine call_Pl stt (name, (pt, fs.flatMap lawTag), q, ds) rfl (fun I => ⟨hch2, nmt I, h2, nmd I, h1⟩) ?_
      rintro _ ⟨f, rfl, hf⟩
      rw [em f]
      exact nx_forget fun H' σ I E => Lp.of (fs ++ [f]) I E ⟨by simp [hl], fin f hf, _, _, _, _, rfl⟩
    · refine nx_append OwnAt.here.under (ev_var rfl ⟨rfl, rfl, by rw [List.length_map]; omega, ev_call (ea_cons (ev_var rfl (ea_cons (ev_var rfl (ea_cons (ev_var rfl (ea_nil ?_)))))))⟩)
      refine call_Pl stt (name, pt, fs.flatMap lawTag) rfl (fun I => ⟨⟨hch2, hlen2⟩, nmt I⟩) ?_
      rintro _ ⟨f, rfl, hf⟩
      rw [em f]
      exact nx_forget fun H' σ I E => Lp.of (fs ++ [f]) I E ⟨by simp [hl], fin f (hf ds), _, _, _, _, rfl⟩
  · rintro fs _ Γ ⟨hl, hfs, x4, x5, x6, x7, rfl⟩
    have pfl : ∀ {fs : List Fld} {j : Unit} {H' : Hp}, (Wf fs).I j H' → LstAt K pf (fs.map Fld.dat) H' := fun I => I.2
    have pb : ∀ {fs : List Fld} {j : Unit} {H' : Hp}, (Wf fs).I j H' → (Wd.pw K p H hp).I j H' := fun I => I.1
    have nmd : ∀ {fs : List Fld} {j : Unit} {H' : Hp}, (Wf fs).I j H' → NmsAt K p q ds H' := fun I => ⟨hqp, pwL hqp hq I.1, hnm, hnl⟩
    refine sq_tail Wf (fun fs' _ Γ' => FsOk ds [] fs' ∧ 1 ≤ fs'.length ∧ fs'.length ≤ 6 ∧ ∃ x4 x5 x6 x7, Γ' = [some (.obj p), some (.obj q), some (.int most), some (.obj pf), x4, x5, x6, x7]) ?_ fun tail => ?_
    · rintro fs _ Γ ⟨hfs, l1, l2, x4, x5, x6, x7, rfl⟩
      refine sq_when (et_test (ev_op (ev_takeC (stf fs) rfl (by decide) fun x _ _ => ev_int (op_eqI ⟨_, rfl, ifD (fun _ => ?_) fun _ => ?_⟩))))
      · refine nx_append (OwnAt.here (W := Wd.pw K p H hp) (np := nf) (s := lst_shp K pf (fs.map Fld.dat))) (ev_var rfl ⟨rfl, rfl, by rw [List.length_map]; omega, ev_tup (ea_cons (ev_str (ea_cons (ev_str (ea_cons (ev_ixN (el_lst (ea_cons (ev_str (ea_cons (ev_str (ea_cons (ev_str (ea_nil ⟨by show 3 ≤ 1000; decide, ?_⟩))))))))))))))⟩)
        refine ev_takeC (stf fs) rfl (by decide) fun y y0 y1 => ?_
        have hy : ∃ r : Str, atI [Dat.str "plain", .str "placed", .str "mixed"] y = some (.str r) := by
          have hy : y = 0 ∨ y = 1 ∨ y = 2 := by omega
          rcases hy with rfl | rfl | rfl
          · exact ⟨_, rfl⟩
          · exact ⟨_, rfl⟩
          · exact ⟨_, rfl⟩
        obtain ⟨r, hr2⟩ := hy
        refine ⟨y, _, rfl, hr2, ea_nil ⟨by show 3 ≤ 1000; decide, ?_⟩⟩
        dsimp only
        exact nx_ret (ev_tupOfL (ev_var rfl ⟨pf, _, rfl, fun I => I.2, rt_of fun H' v I z => k v H' _ I.1.1 I.1.2 z ⟨fs, [sumD r], rfl, hfs, l1, l2, .inr ⟨r, rfl⟩⟩⟩))
      · exact nx_ret (ev_tupOfL (ev_var rfl ⟨pf, _, rfl, fun I => pfl I, rt_of fun H' v I z => k v H' _ (pb I).1 (pb I).2 z ⟨fs, [], by rw [List.append_nil], hfs, l1, l2, .inl rfl⟩⟩))
    refine sq_when (EvT.imp (Pb := fun _ b => b = true → ds ≠ []) ?_ ?_)
    · refine et_and (et_test (ev_neNil (ev_var rfl ⟨q, _, 0, rfl, fun I => (nmd I).2.1, fineL_names hnm, by decide, _, rfl, ?_⟩)))
      refine ifB (fun e1 => ?_) fun e1 z => by cases z
      have hne1 : ds ≠ [] := by intro e; rw [e] at e1; cases e1
      exact et_test (ev_op (ev_takeC (stf fs) rfl (by decide) fun x _ _ => ev_int (op_eqI ⟨_, rfl, fun _ => hne1⟩)))
    rintro _ b hb
    refine ifB (fun e => ?_) fun e => tail fs () _ ⟨hfs, by omega, by omega, _, _, _, _, rfl⟩
    have hne := hb e
    have hpos : 0 < ds.length := List.length_pos_iff.mpr hne
    refine sq_set (ev_takeC (stf fs) rfl (by decide) fun y y0 y1 => ?_)
    obtain ⟨d0, hd0, hd0'⟩ := names_at (ns := ds) (x := 0) (by decide) (by omega)
    have hlast : ∃ dl, dl ∈ ds ∧ atI (ds.map Dat.str) (-1) = some (.str dl) := by
      refine ⟨ds.getLast hne, List.getLast_mem hne, ?_⟩
      unfold atI ixN
      rw [if_neg (by decide), if_pos (by rw [List.length_map]; omega)]
      have e : ((-1 : Int) + ((ds.map Dat.str).length : Nat)).toNat = ds.length - 1 := by rw [List.length_map]; omega
      rw [e]
      show (ds.map Dat.str)[ds.length - 1]? = _
      rw [List.getElem?_map, List.getLast_eq_getElem, List.getElem?_eq_getElem (by omega)]
      rfl
    obtain ⟨dl, hdl, hdl'⟩ := hlast
    have nmr : NmOk "rest" := by show PyData.strOk _ = true; decide +kernel
    refine nx_append OwnAt.here (ev_var rfl ⟨rfl, rfl, by rw [List.length_map]; omega, Ev.imp (P := fun _ d => ∃ f : Fld, d = f.dat ∧ FldOk (fs.flatMap lawTag) ds f) ?_ ?_⟩)
    · refine ev_ixN (el_lst (ea_cons (ev_tup (ea_cons (ev_str (ea_cons (ev_str (ea_cons (ev_tup (ea_cons (ev_str (ea_nil ⟨by show 1 ≤ 1000; decide, ?_⟩))))))))))))
      refine ea_nil ⟨by show 3 ≤ 1000; decide, ?_⟩
      refine ea_cons (ev_tup (ea_cons (ev_str (ea_cons (ev_str (ea_cons (ev_op (ev_var rfl (ev_int (op_ixL (fun I => (nmd I).2.1) hd0' (ea_cons (ev_tup (ea_cons (ev_str (ea_nil ⟨by show 1 ≤ 1000; decide, ?_⟩)))))))))))))))
      refine ea_nil ⟨by show 4 ≤ 1000; decide, ?_⟩
      refine ea_cons (ev_tup (ea_cons (ev_str (ea_cons (ev_str (ea_cons (ev_tup (ea_cons (ev_str (ea_nil ⟨by show 1 ≤ 1000; decide, ?_⟩))))))))))
      refine ea_cons (ev_op (ev_var rfl (ev_neg (n := 0) (ev_int ⟨1, rfl, op_ixL (fun I => (nmd I).2.1) hdl' (ea_nil ⟨by show 4 ≤ 1000; decide, ea_nil ⟨by show 3 ≤ 1000; decide, ?_⟩⟩)⟩))))
      refine ev_var rfl ?_
      have hy : y = 0 ∨ y = 1 ∨ y = 2 := by omega
      rcases hy with rfl | rfl | rfl
      · exact ⟨0, _, rfl, rfl, .bytes "rest" .rest, rfl, nmr, True.intro⟩
      · exact ⟨1, _, rfl, rfl, .row "rest" d0 none, rfl, nmr, hd0, fun x hx => by cases hx⟩
      · exact ⟨2, _, rfl, rfl, .carried "rest" .rest dl, rfl, nmr, True.intro, hdl⟩
    rintro _ d ⟨f, rfl, hf⟩
    have em : fs.map Fld.dat ++ [f.dat] = (fs ++ [f]).map Fld.dat := by simp
    rw [em]
    exact tail (fs ++ [f]) () _ ⟨hfs.snoc (hf.mono fun x hx => by rw [List.nil_append]; exact lawTag_sub x hx), by simp, by simp; omega, _, _, _, _, rfl⟩
end
end Lb
/-! text LbL5 -/
/-! Walks: the law's grammar. -/
namespace Lb
open PySem L2
section
variable {ι : Type} {K : PySem.W.Frag} {W : Wd ι} {i : ι} {Γ : Ctx} {P : ι → Dat → Prop} {Pl : ι → List Dat → Prop} {ta te tc : TE}
theorem el_slN {tl th : TO} (h : EvL K W i te Γ fun j ds => EvO K W j tl Γ fun k lo => EvO K W k th Γ fun l hi => Pl l (cutD ds lo hi)) : EvL K W i (tSl (rSlL K) te tl th) Γ Pl := fun H σ I E Q q =>
  h H σ I E _ fun p H1 j ds np o1 I1 a1 p1 => p1 H1 σ I1 (E.mono o1) _ fun lo H2 k o2 I2 p2 => p2 H2 σ I2 (E.mono (o1.trans o2)) _ fun hi H3 l o3 I3 p3 => by
    obtain ⟨vs, e, al⟩ := (a1.off (W.na np) o2).off (W.na np) o3
    have o := o1.trans (o2.trans o3)
    exact ⟨p, vs, rfl, SqL.of e, fun r hr => q r _ l _ (W.nc I3 hr) (o.trans (Off.new hr)) (W.new I3 hr) ⟨_, upd_same, (al.cutV lo hi).mono (Off.new (A := []) hr)⟩ p3⟩
/-- f(a, a new list, c) -/
theorem ev_callML {sp : Sp} {tl : TE} (h : Ev K W i ta Γ fun j d => EvL K W j tl Γ fun k ds => ∀ q nq, Ev K (W.own q (LstAt K q ds) (lst_shp K q ds) nq) k tc Γ fun l e => CallOk K (W.own q (LstAt K q ds) (lst_shp K q ds) nq) l sp [d, .obj q, e] P) : Ev K W i (tCall sp [] E0 (tCons ta (tCons tl (tCons tc tNil)))) Γ P := fun H σ I E Q q =>
  h H σ I E _ fun v H1 j d o1 I1 a1 p1 => p1 H1 σ I1 (E.mono o1) _ fun r H2 k ds nr o2 I2 a2 p2 => p2 r nr H2 σ ⟨I2, a2⟩ (E.mono (o1.trans o2)) _ fun z H3 l e o3 I3 a3 p3 => by
    show sp ([v, .ref r, z] ++ []) H3 Q E0
    rw [List.append_nil]
    exact p3 H3 [v, .ref r, z] I3 (.cons ((a1.mono o2).mono o3) (.cons (.obj r) (.cons a3 .nil))) Q fun v' H4 m f o4 I4 a4 p4 => q v' H4 m f (o1.trans (o2.trans (o3.trans o4))) I4.1 a4 p4
end
theorem FsOk.mono {deep : List Str} : ∀ {fs : List Fld} {s s' : List Str}, FsOk deep s fs → (∀ x ∈ s, x ∈ s') → FsOk deep s' fs
  | [], _, _, _, _ => True.intro
  | f :: fs, s, s', h, g => ⟨h.1.mono g, FsOk.mono h.2 fun x hx => by
    rcases List.mem_append.mp hx with e | e
    · exact List.mem_append.mpr (.inl (g x e))
    · exact List.mem_append.mpr (.inr e)⟩
abbrev Raw := Str × List Fld × List Dat
def rawD (q : Raw) : Dat := .tup [.str q.1, .tup (q.2.1.map Fld.dat ++ q.2.2)]
def RkOk (q : Raw) : Prop := KdOk q.2.1 ∧ SmOk q.2.2
structure RawOk (raw : List Raw) : Prop where
  ex : ∃ (fs : List Fld) (sm : List Dat) (lo : Raw), SmOk sm ∧ fs ≠ [] ∧ fs.length ≤ 10 ∧ lo.1 = "low" ∧ RkOk lo ∧ ((raw = [(("all" : Str), fs, sm), lo] ∧ FsOk [("low" : Str)] [] fs) ∨ ∃ mi : Raw, raw = [(("all" : Str), fs, sm), lo, mi] ∧ mi.1 = "mid" ∧ RkOk mi ∧ FsOk [("low" : Str), ("mid" : Str)] [] fs)
section
variable {P : Program} {w : World} {K : PySem.W.Frag} {mg : Str → Option Value} {base : Heap} {cR cM cT aS aD : Addr}
def spGrammar (K : PySem.W.Frag) : Sp := SpPl K (α := Unit) (fun _ => []) (fun _ _ _ => True) fun _ d => ∃ raw, d = .tup (raw.map rawD) ∧ RawOk raw
theorem w_grammar (T : Tp K mg w cR cM cT aS aD) (G_law_take : Cl P w K mg base 1 "_law_take" (spPTake K)) (G_law_fields : Cl P w K mg base 4 "_law_fields" (spFields K)) : Cl P w K mg base 5 "_law_grammar" (spGrammar K) := by
  refine Cl.of (ps := ["_law_pool_here"]) T.d_law_grammar (fun f fd F => ?_) fun _ _ _ _ _ _ us hl => match us, hl with | [_], _ => rfl
  refine F.ok sc_law_grammar (fun vs H Q E h => ?_) (fun cdv A outer sh H vs Q E hr h => ?_)
  · obtain ⟨p, u, al, _⟩ := h
    exact al.len
  obtain ⟨p, u, al, pa, pre, k⟩ := h
  try dsimp only at pre
  have hu := hu_of hr
  refine ⟨_, (pss_cons (ps_set (i := 1) sc_law_grammar.nd rfl (Or.inl rfl) (pe_lst pa_nil))
      (pss_cons (ps_for PassesOwn.never rfl (k_forL K (pe_slice (k_slL K) (pe_lst (pa_cons pe_str (pa_cons pe_str pa_nil))) po_none (po_some (pe_op op_add pe_int (k_call G_law_take (hr.mono (by decide)) (pa_cons (pv 0) (pa_cons pe_int pa_nil))))))) (pg_name (i := 2) sc_law_grammar.nd rfl (Or.inl rfl)) (pss_cons (ps_set (i := 3) sc_law_grammar.nd rfl (Or.inl rfl) (pe_tupF (pa_cons pe_str (pa_cons pe_str (pa_cons pe_int (pa_cons pe_str (pa_cons pe_int (pa_cons (pe_ix (k_ixL K) (pe_lst (pa_cons pe_int (pa_cons pe_int pa_nil))) (k_call G_law_take (hr.mono (by decide)) (pa_cons (pv 0) (pa_cons pe_int pa_nil))) (fun _ _ => rfl)) pa_nil))))))))
      (pss_one (ps_expr (k_append K (pv 1) (pe_tupF (pa_cons (pv 2) (pa_cons (pe_op (k_cat K) (pe_tupF (pa_cons (pv 3) pa_nil)) (k_call G_law_fields (hr.mono (by decide)) (pa_cons (pv 0) (pa_cons (pe_lst pa_nil) (pa_cons pe_int pa_nil))))) pa_nil))))))))
      (pss_one (ps_ret (pe_op (k_cat K) (pe_tupF (pa_cons (pe_tupF (pa_cons pe_str (pa_cons (k_call G_law_fields (hr.mono (by decide)) (pa_cons (pv 0) (pa_cons (pe_lc (g := (gName 4)) rfl sc_law_grammar.nd (k_forL K (pv 1)) (blkOk_by (own := [("_law_sort", 4)]) (N := ["_law_pool_here", "_law_deeper", "_law_name", "_law_first", "_law_sort"]) (sc := defScope s_law_grammar) (by decide +kernel)) (fun _ _ _ _ _ => (pg_name (i := 4) sc_law_grammar.nd rfl (Or.inl rfl))) (fun _ _ _ _ _ => pts_nil) (fun _ _ _ _ _ => (pe_ix (k_ixT K) (pv 4) pe_int (fun _ _ => rfl)))) (pa_cons pe_int pa_nil)))) pa_nil))) pa_nil)) (pe_callTy (k_tupOf K) (by rfl) T.n_tuple (by decide +kernel) (pa_cons (pv 1) pa_nil))))))), ?_⟩
  have hp : H p ≠ none := (pool_shp K p).trk pa
  have st : Stays (Wd.pw K p H hp) p (PoolAt K p) := pw_stays
  refine nx_go (W := Wd.pw K p H hp) (i := ()) ?_ ⟨Off.refl, pa⟩ (Sls.start al _ rfl)
  refine sq_setL (el_lst (ea_nil ⟨by decide, fun pf nf => ?_⟩))
  refine sq_forN (el_slN (el_lst (ea_cons (ev_str (ea_cons (ev_str (ea_nil ⟨by show 2 ≤ 1000; decide, ?_⟩)))))))
  refine eo_none (eo_some (ev_op (ev_int (ev_takeC st.own rfl (by decide) fun x x0 x1 => op_int0 ⟨1 + x, rfl, fun q nq => ?_⟩))))
  have hns : ∃ ns : List Str, cutD [Dat.str "low", .str "mid"] none (some (1 + x)) = ns.map Dat.str ∧ (ns = [("low" : Str)] ∨ ns = [("low" : Str), ("mid" : Str)]) := by
    have hx : x = 0 ∨ x = 1 := by omega
    rcases hx with rfl | rfl
    · exact ⟨[("low" : Str)], rfl, .inl rfl⟩
    · exact ⟨[("low" : Str), ("mid" : Str)], rfl, .inr rfl⟩
  obtain ⟨ns, hns1, hns2⟩ := hns
  rw [hns1]
  have hnm : ∀ n ∈ ns, NmOk n := by
    rcases hns2 with rfl | rfl
    · intro n hn; rw [List.mem_singleton.mp hn]; show PyData.strOk _ = true; decide +kernel
    · intro n hn
      rcases List.mem_cons.mp hn with e | e
      · rw [e]; show PyData.strOk _ = true; decide +kernel
      · rw [List.mem_singleton.mp e]; show PyData.strOk _ = true; decide +kernel
  have hnl : ns.length ≤ 2 := by rcases hns2 with rfl | rfl <;> decide
  let Wf : List Raw → Wd Unit := fun raw => ((Wd.pw K p H hp).own pf (LstAt K pf (raw.map rawD)) (lst_shp K pf _) nf).own q (LstAt K q (ns.map Dat.str)) (lst_shp K q _) nq
  have stf : ∀ raw, Stays (Wf raw) p (PoolAt K p) := fun raw => st.own.own
  have pfl : ∀ {raw : List Raw} {j : Unit} {H' : Hp}, (Wf raw).I j H' → LstAt K pf (raw.map rawD) H' := fun I => I.1.2
  have pb : ∀ {raw : List Raw} {j : Unit} {H' : Hp}, (Wf raw).I j H' → (Wd.pw K p H hp).I j H' := fun I => I.1.1
  refine sq_loop (κ := List Raw) (Wf := Wf) (fun m raw _ Γ => raw.map (·.1) = ns.take m ∧ (∀ r ∈ raw, RkOk r) ∧ ∃ x2 x3 x4, Γ = [some (.obj p), some (.obj pf), x2, x3, x4]) [] (fun _ => wk_lst fun I => I.2) ?_ ?_ ?_
  · exact ⟨rfl, by simp, none, none, none, rfl⟩
  · rintro m raw _ Γ d hm hd ⟨h1, h2, x2, x3, x4, rfl⟩
    obtain ⟨nm, hnm', rfl⟩ := get_map hd
    refine tg_name ?_
    refine sq_set (ev_tup ?_)
    refine ea_cons (ev_str (ea_cons (ev_str (ea_cons (ev_int ?_))))) 
    refine ea_cons (ev_str (ea_cons (ev_int ?_)))
    refine ea_cons (ev_ixN (el_lst (ea_cons (ev_int (ea_cons (ev_int (ea_nil ⟨by show 2 ≤ 1000; decide, ?_⟩)))))))
    refine ev_takeC (stf raw) rfl (by decide) fun y y0 y1 => ?_
    have hy : ∃ mo : Int, atI [Dat.int 9, .int 255] y = some (.int mo) ∧ 0 ≤ mo ∧ mo ≤ 65535 := by
      have hy : y = 0 ∨ y = 1 := by omega
      rcases hy with rfl | rfl
      · exact ⟨9, rfl, by decide, by decide⟩
      · exact ⟨255, rfl, by decide, by decide⟩
    obtain ⟨mo, hmo, mo0, mo1⟩ := hy
    refine ⟨y, _, rfl, hmo, ea_nil ⟨by show 6 ≤ 1000; decide, ?_⟩⟩
    have hlr : raw.length ≤ 2 := by
      have := congrArg List.length h1
      rw [List.length_map, List.length_take] at this
      omega
    refine nx_append (OwnAt.here.under (W := ((Wd.pw K p H hp).own pf (LstAt K pf (raw.map rawD)) (lst_shp K pf _) nf)) (s := lst_shp K q (ns.map Dat.str)) (np := nq)) (ev_var rfl ⟨rfl, rfl, by rw [List.length_map]; omega, ?_⟩)
    refine ev_tup (ea_cons (ev_var rfl (ea_cons (ev_op (ev_tup (ea_cons (ev_var rfl (ea_nil ⟨by show 1 ≤ 1000; decide, ?_⟩))))))))
    refine ev_callML (ev_var rfl (el_lst (ea_nil ⟨by decide, fun q2 nq2 => ev_int ?_⟩)))
    have hq2p : q2 ≠ p := fun z => nq2 (.inr (.inr (by rw [z]; exact hp)))
    refine call_Pl ((stf raw).own) ((q2, []), 3) rfl (fun I => ⟨⟨hq2p, I.2, by simp, by simp⟩, by show (1 : Int) ≤ 3; decide, by show (3 : Int) ≤ 5; decide⟩) ?_
    rintro _ ⟨fs, sm, rfl, f1, f2, f3, f4⟩
    refine op_cat (by rw [List.length_append, List.length_map, List.length_singleton]; rcases f4 with rfl | ⟨r, rfl⟩ <;> simp <;> omega) ?_
    refine ea_nil ⟨by show 2 ≤ 1000; decide, ?_⟩
    have em : raw.map rawD ++ [Dat.tup [.str nm, .tup ([Dat.tup [.str "number", .str "one", .int 1, .str "big", .int 0, .int mo]] ++ (fs.map Fld.dat ++ sm))]] = (raw ++ [(nm, Fld.number "one" 1 "big" 0 mo :: fs, sm)]).map rawD := by
      rw [List.map_append]; rfl
    rw [em]
    have nmo : NmOk "one" := by show PyData.strOk _ = true; decide +kernel
    refine fun H' σ I E => Lp.of (raw ++ [(nm, Fld.number "one" 1 "big" 0 mo :: fs, sm)]) I E ⟨?_, ?_, _, _, _, rfl⟩
    · rw [List.map_append, h1, take_snoc hnm']; rfl
    · intro r hr'
      rcases List.mem_append.mp hr' with e | e
      · exact h2 r e
      · rw [List.mem_singleton.mp e]
        exact ⟨⟨⟨mo, fs, rfl⟩, ⟨⟨nmo, .inl rfl, .inl rfl, by decide, by decide, mo0, mo1⟩, f1.mono fun x hx => by cases hx⟩, by show fs.length + 1 ≤ 10; omega⟩, f4⟩
  · rintro raw _ Γ ⟨h1, h2, x2, x3, x4, rfl⟩
    rw [List.length_map, List.take_length] at h1
    refine nx_ret (ev_op (ev_tup ?_))
    refine ea_cons (ev_tup ?_)
    refine ea_cons (ev_str ?_)
    refine ea_cons (ev_callML (ev_var rfl ?_))
    refine el_lcL (ev_var rfl ⟨pf, raw.map rawD, rfl, fun I => pfl I, ?_⟩)
    have hlr : raw.length ≤ 2 := by
      have := congrArg List.length h1
      rw [List.length_map] at this
      omega
    refine lc_name (k := 4) (wk_lst fun I => pfl I) (by rw [List.length_map]; omega) (fun m _ acc => acc = (ns.take m).map Dat.str) rfl (by decide) ?_ ?_
    · rintro m _ acc d pp np hm hd rfl
      obtain ⟨r, hr', rfl⟩ := get_map hd
      refine lct_yes (ev_ix (ds := [.str r.1, .tup (r.2.1.map Fld.dat ++ r.2.2)]) rfl rfl ?_)
      have hn : ns[m]? = some r.1 := by rw [← h1, List.getElem?_map, hr']; rfl
      rw [take_snoc hn, List.map_append]
      rfl
    rintro _ acc rfl q2 nq2
    refine ev_int ?_
    have hq2p : q2 ≠ p := fun z => nq2 (.inr (.inr (by rw [z]; exact hp)))
    have el : (List.map rawD raw).length = ns.length := by rw [List.length_map, ← h1, List.length_map]
    rw [el, List.take_length]
    refine call_Pl ((stf raw).own) ((q2, ns), 5) rfl (fun I => ⟨⟨hq2p, I.2, hnm, by show ns.length ≤ 1000; omega⟩, by show (1 : Int) ≤ 5; decide, by show (5 : Int) ≤ 5; decide⟩) ?_
    rintro _ ⟨fs, sm, rfl, f1, f2, f3, f4⟩
    refine ea_nil ⟨by show 2 ≤ 1000; decide, ea_nil ⟨by show 1 ≤ 1000; decide, ?_⟩⟩
    refine ev_tupOfL (ev_var rfl ⟨pf, raw.map rawD, rfl, fun I => pfl I, op_cat (by rw [List.length_map, List.length_singleton]; omega) (rt_of fun H' v I z => k v H' _ (pb I).1 (pb I).2 z ⟨("all", fs, sm) :: raw, rfl, ?_⟩)⟩)
    refine ⟨fs, sm, ?_⟩
    have hfs : fs ≠ [] := by intro e; rw [e] at f2; simp at f2
    rcases hns2 with rfl | rfl
    · have hl1 : raw.length = 1 := by have := congrArg List.length h1; rw [List.length_map] at this; exact this
      obtain ⟨lo, rfl⟩ := List.length_eq_one_iff.mp hl1
      have e : lo.1 = "low" := (List.cons.inj h1).1
      exact ⟨lo, f4, hfs, by omega, e, h2 lo (by simp), .inl ⟨rfl, f1⟩⟩
    · have hl1 : raw.length = 2 := by have := congrArg List.length h1; rw [List.length_map] at this; exact this
      obtain ⟨lo, mi, rfl⟩ : ∃ a b, raw = [a, b] := by
        match raw, hl1 with
        | [a, b], _ => exact ⟨a, b, rfl⟩
      have e : lo.1 = "low" := (List.cons.inj h1).1
      have e2 : mi.1 = "mid" := (List.cons.inj (List.cons.inj h1).2).1
      exact ⟨lo, f4, hfs, by omega, e, h2 lo (by simp), .inr ⟨mi, rfl, e2, h2 mi (by simp), f1⟩⟩
end
end Lb
/-! text LbL6 -/
/-! Walks: the grammar without sums; lengths, bytes, garbage. -/
namespace Lb
open PySem L2
theorem fld_fine {s deep : List Str} {f : Fld} (h : FldOk s deep f) (hs : ∀ x ∈ s, NmOk x) (hd : ∀ x ∈ deep, NmOk x) : f.dat.fine 4 = true := by
  have st : ∀ {n : Nat} {x : Str}, NmOk x → Dat.fine n (.str x) = true := fun {n x} h => by
    have : PyData.strOk x = true := h
    cases n <;> simpa [Dat.fine] using this
  have lt : ∀ {n : Nat} {x : String}, PyData.strOk (Str.ofString x) = true → Dat.fine n (.str (Str.ofString x)) = true := fun {n x} h => st h
  have ln : ∀ {l : Ln}, LnOk s l → l.dat.fine 3 = true := fun {l} hl => by
    cases l with
    | is n => simp [Ln.dat, Dat.fine, Dat.fineL]; decide +kernel
    | rest => simp [Ln.dat, Dat.fine, Dat.fineL]; decide +kernel
    | of t k m =>
      have ht : PyData.strOk t = true := hl.2.2.2.2.2
      simp [Ln.dat, Dat.fine, Dat.fineL, ht]; decide +kernel
  cases f with
  | number n sz o l m =>
    have h1 : PyData.strOk n = true := h.1
    have h2 : PyData.strOk o = true := by rcases h.2.2.1 with e | e <;> (rw [e]; decide +kernel)
    simp [Fld.dat, Dat.fine, Dat.fineL, h1, h2]; decide +kernel
  | bits a v b w =>
    have h1 : PyData.strOk a = true := h.1
    have h2 : PyData.strOk b = true := h.2.1
    simp [Fld.dat, Dat.fine, Dat.fineL, h1, h2]; decide +kernel
  | bytes n l =>
    have h1 : PyData.strOk n = true := h.1
    have h2 := ln h.2
    simp [Fld.dat, Dat.fine, Dat.fineL, h1, h2]; decide +kernel
  | text n m =>
    have h1 : PyData.strOk n = true := h.1
    simp [Fld.dat, Dat.fine, Dat.fineL, h1]; decide +kernel
  | choice n t ks =>
    have h1 : PyData.strOk n = true := h.1
    have h2 : PyData.strOk t = true := hs t h.2.1
    have h3 : ∀ ks : List (Int × Str), (∀ q ∈ ks, q.2 ∈ deep) → Dat.fineL 2 (ks.map fun q => .tup [.int q.1, .str q.2]) = true := by
      intro ks
      induction ks with
      | nil => intro _; rfl
      | cons q r ih =>
        intro hk
        have h4 : PyData.strOk q.2 = true := hd _ (hk q List.mem_cons_self)
        rw [List.map_cons, Dat.fineL, ih fun x hx => hk x (List.mem_cons_of_mem _ hx)]
        simp [Dat.fine, Dat.fineL, h4]
    have h5 := h3 ks h.2.2.2.2.2
    simp [Fld.dat, Dat.fine, Dat.fineL, h1, h2, h5]; decide +kernel
  | row n k t =>
    have h1 : PyData.strOk n = true := h.1
    have h2 : PyData.strOk k = true := hd k h.2.1
    have h3 : (rowEnd t).fine 3 = true := by
      cases t with
      | none => simp [rowEnd, Dat.fine, Dat.fineL]; decide +kernel
      | some x =>
        have hx : PyData.strOk x = true := (h.2.2 x rfl).2
        simp [rowEnd, Dat.fine, Dat.fineL, hx]; decide +kernel
    simp [Fld.dat, Dat.fine, Dat.fineL, h1, h2, h3]; decide +kernel
  | carried n l k =>
    have h1 : PyData.strOk n = true := h.1
    have h2 : PyData.strOk k = true := hd k h.2.2
    have h3 := ln h.2.1
    simp [Fld.dat, Dat.fine, Dat.fineL, h1, h2, h3]; decide +kernel
theorem fs_nm {deep : List Str} {fs : List Fld} {seen : List Str} (h : FsOk deep seen fs) : ∀ x ∈ fs.flatMap decl, NmOk x := fun x hx => by
  obtain ⟨f, hf, hx⟩ := List.mem_flatMap.mp hx
  obtain ⟨s, h1, _⟩ := h.mem f hf
  exact decl_nm h1 x hx
theorem fs_fine {deep : List Str} (hd : ∀ x ∈ deep, NmOk x) : ∀ {fs : List Fld}, (∀ f ∈ fs, ∃ s, FldOk s deep f ∧ ∀ x ∈ s, NmOk x) → Dat.fineL 4 (fs.map Fld.dat) = true
  | [], _ => rfl
  | f :: fs, h => by
    obtain ⟨s, h1, h2⟩ := h f List.mem_cons_self
    rw [List.map_cons, Dat.fineL, fld_fine h1 h2 hd, fs_fine hd fun g hg => h g (List.mem_cons_of_mem _ hg)]
    rfl
theorem fsok_fine {deep : List Str} {fs : List Fld} (h : FsOk deep [] fs) (hd : ∀ x ∈ deep, NmOk x) : Dat.fineL 4 (fs.map Fld.dat) = true :=
  fs_fine hd fun f hf => let ⟨s, h1, h2⟩ := h.mem f hf; ⟨s, h1, fun x hx => fs_nm h x (by simpa using h2 x hx)⟩
def unraw (raw : List Raw) : Gr := raw.map fun r => (r.1, r.2.1)
theorem nm_low : NmOk "low" := by show PyData.strOk _ = true; decide +kernel
theorem nm_mid : NmOk "mid" := by show PyData.strOk _ = true; decide +kernel
theorem RawOk.gr {raw : List Raw} (h : RawOk raw) : GrOk (unraw raw) := by
  obtain ⟨fs, sm, lo, h1, h2, h3, h4, h5, ⟨rfl, h6⟩ | ⟨mi, rfl, h6, h7, h8⟩⟩ := h
  · refine ⟨fs, lo.2.1, .inl ⟨?_, h6, ⟨h2, h3⟩, h5.1⟩⟩
    show [(("all" : Str), fs), (lo.1, lo.2.1)] = _
    rw [h4]
  · refine ⟨fs, lo.2.1, .inr ⟨mi.2.1, ?_, h8, ⟨h2, h3⟩, h5.1, h7.1⟩⟩
    show [(("all" : Str), fs), (lo.1, lo.2.1), (mi.1, mi.2.1)] = _
    rw [h4, h6]
theorem RkOk.each {r : Raw} (h : RkOk r) : r.2.1 ≠ [] ∧ r.2.1.length ≤ 10 ∧ SmOk r.2.2 ∧ Dat.fineL 4 (r.2.1.map Fld.dat) = true := by
  obtain ⟨⟨⟨m, rs, e⟩, h2, h3⟩, h4⟩ := h
  exact ⟨by rw [e]; simp, h3, h4, fsok_fine h2 fun x hx => by cases hx⟩
theorem RawOk.each {raw : List Raw} (h : RawOk raw) : ∀ r ∈ raw, r.2.1 ≠ [] ∧ r.2.1.length ≤ 10 ∧ SmOk r.2.2 ∧ Dat.fineL 4 (r.2.1.map Fld.dat) = true := by
  obtain ⟨fs, sm, lo, h1, h2, h3, h4, h5, ⟨rfl, h6⟩ | ⟨mi, rfl, h6, h7, h8⟩⟩ := h
  · intro r hr
    rcases List.mem_cons.mp hr with e | hr
    · rw [e]; exact ⟨h2, h3, h1, fsok_fine h6 fun x hx => by rw [List.mem_singleton.mp hx]; exact nm_low⟩
    · rw [List.mem_singleton.mp hr]; exact h5.each
  · intro r hr
    rcases List.mem_cons.mp hr with e | hr
    · rw [e]
      refine ⟨h2, h3, h1, fsok_fine h8 fun x hx => ?_⟩
      rcases List.mem_cons.mp hx with e | e
      · rw [e]; exact nm_low
      · rw [List.mem_singleton.mp e]; exact nm_mid
    · rcases List.mem_cons.mp hr with e | e
      · rw [e]; exact h5.each
      · rw [List.mem_singleton.mp e]; exact h7.each
theorem RawOk.len {raw : List Raw} (h : RawOk raw) : raw.length ≤ 3 := by
  obtain ⟨fs, sm, lo, h1, h2, h3, h4, h5, ⟨rfl, h6⟩ | ⟨mi, rfl, h6, h7, h8⟩⟩ := h
  · show 2 ≤ 3; decide
  · show 3 ≤ 3; decide
theorem ne_sum' (f : Fld) : ¬ f.word = "sum" := by
  cases f with
  | number => show ¬ ("number" : Str) = "sum"; decide +kernel
  | bits => show ¬ ("bits" : Str) = "sum"; decide +kernel
  | bytes => show ¬ ("bytes" : Str) = "sum"; decide +kernel
  | text => show ¬ ("text" : Str) = "sum"; decide +kernel
  | choice => show ¬ ("choice" : Str) = "sum"; decide +kernel
  | row => show ¬ ("row" : Str) = "sum"; decide +kernel
  | carried => show ¬ ("carried" : Str) = "sum"; decide +kernel
section
variable {P : Program} {w : World} {K : PySem.W.Frag} {mg : Str → Option Value} {base : Heap} {cR cM cT aS aD : Addr}
def spNoSums (K : PySem.W.Frag) : Sp := SpA K (α := List Raw) (fun raw => [.tup (raw.map rawD)]) (fun raw _ => RawOk raw) fun raw d => d = grDat (unraw raw)
theorem w_nosums (T : Tp K mg w cR cM cT aS aD) : Cl P w K mg base 1 "_law_without_sums" (spNoSums K) := by
  refine Cl.of (ps := ["_law_grammar_here"]) T.d_law_without_sums (fun f fd F => ?_) fun _ _ _ _ _ _ us hl => match us, hl with | [_], _ => rfl
  refine F.ok sc_law_without_sums (fun vs H Q E h => ?_) (fun cdv A outer sh H vs Q E hr h => ?_)
  · obtain ⟨raw, al, _⟩ := h
    exact al.len
  obtain ⟨raw, al, pre, k⟩ := h
  try dsimp only at pre
  have hu := hu_of hr
  refine ⟨_, (pss_cons (ps_set (i := 1) sc_law_without_sums.nd rfl (Or.inl rfl) (pe_lst pa_nil))
      (pss_cons (ps_for PassesOwn.never rfl (k_forT K (pv 0)) (k_tup K rfl (pgs_cons (pg_name (i := 2) sc_law_without_sums.nd rfl (Or.inl rfl)) (pgs_cons (pg_name (i := 3) sc_law_without_sums.nd rfl (Or.inl rfl)) pgs_nil))) (pss_cons (ps_set (i := 4) sc_law_without_sums.nd rfl (Or.inl rfl) (pe_callTy (k_tupOf K) (by rfl) T.n_tuple (by decide +kernel) (pa_cons (pe_lc (g := (gName 5)) rfl sc_law_without_sums.nd (k_forT K (pv 3)) (blkOk_by (own := [("_law_field", 5)]) (N := ["_law_grammar_here", "_law_found", "_law_name", "_law_fields_here", "_law_kept", "_law_field"]) (sc := defScope s_law_without_sums) (by decide +kernel)) (fun _ _ _ _ _ => (pg_name (i := 5) sc_law_without_sums.nd rfl (Or.inl rfl))) (fun _ _ _ _ _ => (pts_one (pt_cmpR op_ne (pe_ix (k_ixT K) (pv 5) pe_int (fun _ _ => rfl)) pe_str (nomark _)))) (fun _ _ _ _ _ => (pv 5))) pa_nil)))
      (pss_one (ps_expr (k_append K (pv 1) (pe_tupF (pa_cons (pv 2) (pa_cons (pe_op (k_cat K) (pv 4) (pe_op (k_rep K) (pe_tupF (pa_cons (pe_tupF (pa_cons pe_str (pa_cons pe_str (pa_cons pe_int (pa_cons pe_str (pa_cons pe_int (pa_cons pe_int pa_nil))))))) pa_nil)) (pe_callTy k_intB (by rfl) T.n_int (by decide +kernel) (pa_cons (pe_cmpR (k_eqD K hr.units) (pv 4) (pe_tupF pa_nil) (nomark _)) pa_nil)))) pa_nil))))))))
      (pss_one (ps_ret (pe_callTy (k_tupOf K) (by rfl) T.n_tuple (by decide +kernel) (pa_cons (pv 1) pa_nil)))))), ?_⟩
  have each := pre.each
  have hl := pre.len
  refine nx_go (W := .base H) (i := ()) ?_ (fun b o e => e) (Sls.start al _ rfl)
  refine sq_setL (el_lst (ea_nil ⟨by decide, fun pf nf => ?_⟩))
  refine sq_forT (ev_var rfl ⟨_, rfl, fun b => ?_⟩)
  refine sq_loop (κ := List Dat) (Wf := fun l => ((Wd.base H).own pf (LstAt K pf l) (lst_shp K pf _) nf).keep K (.ref b) (.tup (raw.map rawD))) (fun m l _ Γ => l = ((unraw raw).take m).map kdDat ∧ ∃ x2 x3 x4 x5, Γ = [some (.tup (raw.map rawD)), some (.obj pf), x2, x3, x4, x5]) [] (fun _ => wk_tup fun x => x.2) ?_ ?_ ?_
  · exact ⟨rfl, none, none, none, none, rfl⟩
  · rintro m l _ Γ d hm hd ⟨rfl, x2, x3, x4, x5, rfl⟩
    obtain ⟨r, hr2, rfl⟩ := get_map hd
    rw [List.length_map] at hm
    obtain ⟨e1, e2, e3, e4⟩ := each r (List.mem_of_getElem? hr2)
    have hsm : r.2.2.length ≤ 1 := by rcases e3 with e | ⟨s, e⟩ <;> rw [e] <;> simp
    refine tg_tup (ds := [.str r.1, .tup (r.2.1.map Fld.dat ++ r.2.2)]) rfl (tgs_cons (tg_name (tgs_cons (tg_name (tgs_nil ?_)))))
    refine sq_set (ev_tupOf (el_lcT (ev_var rfl ⟨_, rfl, fun b2 => ?_⟩)))
    refine lc_name (k := 5) (wk_tup fun x => x.2) (by rw [List.length_append, List.length_map]; omega) (fun m _ acc => acc = (r.2.1.map Fld.dat).take m) rfl (by decide) ?_ ?_
    · rintro c _ acc d pp np hc hcd rfl
      by_cases h : c < r.2.1.length
      · have hcd' : (r.2.1.map Fld.dat)[c]? = some d := by rw [← hcd, List.getElem?_append_left (by rw [List.length_map]; exact h)]
        obtain ⟨f, hf, rfl⟩ := get_map hcd'
        have e : f.dat = .tup (.str f.word :: f.tl) := f.dat_eq
        refine et_test (ev_op (ev_op (ev_var rfl ?_)))
        rw [e]
        refine ev_int (op_ixT atI0 (ev_str (op_neS ⟨_, rfl, ifN (fun _ => ?_) fun z => absurd z (ne_sum' f)⟩)))
        refine ev_var rfl ?_
        rw [take_snoc hcd', e]
      · have hcd' : r.2.2[c - r.2.1.length]? = some d := by rw [← hcd, List.getElem?_append_right (by rw [List.length_map]; omega), List.length_map]
        obtain ⟨s, rfl⟩ : ∃ s, d = sumD s := by
          rcases e3 with e | ⟨s, e⟩
          · rw [e] at hcd'; cases hcd'
          · rw [e] at hcd'
            have := List.mem_of_getElem? hcd'
            exact ⟨s, List.mem_singleton.mp this⟩
        refine et_test (ev_op (ev_op (ev_var rfl (ev_int (op_ixT (f := .str "sum") rfl (ev_str (op_neS ⟨_, rfl, ifN (fun z => absurd rfl z) fun _ => ?_⟩)))))))
        rw [List.take_of_length_le (by rw [List.length_map]; omega), List.take_of_length_le (by rw [List.length_map]; omega)]
    rintro _ acc rfl
    have et : (r.2.1.map Fld.dat).take ((r.2.1.map Fld.dat ++ r.2.2).length) = r.2.1.map Fld.dat := List.take_of_length_le (by rw [List.length_append]; omega)
    rw [et]
    have f5 : (Dat.tup (r.2.1.map Fld.dat)).fine 5 = true := by simpa [Dat.fine] using e4
    have hne : PyData.eqv (Dat.tup (r.2.1.map Fld.dat)).py (Dat.tup []).py = false := by
      cases hh : r.2.1 with
      | nil => exact absurd hh e1
      | cons _ _ => rfl
    refine nx_append OwnAt.here.keep (ev_var rfl ⟨rfl, rfl, by rw [List.length_map, List.length_take]; unfold unraw; rw [List.length_map]; omega, ?_⟩)
    refine ev_tup (ea_cons (ev_var rfl (ea_cons (ev_op (ev_var rfl (ev_op (ev_tup ?_)))))))
    refine ea_cons (ev_tup ?_)
    refine (ea_cons (ev_str (ea_cons (ev_str (ea_cons (ev_int (ea_cons (ev_str (ea_cons (ev_int (ea_cons (ev_int (ea_nil ⟨by show 6 ≤ 1000; decide, ?_⟩)))))))))))))
    refine ea_nil ⟨by show 1 ≤ 1000; decide, ?_⟩
    refine ev_intB (ev_op (ev_var rfl (ev_tup (ea_nil ⟨by decide, op_eqD (n := 5) (m := 1) f5 rfl (by decide) (by decide) ⟨_, rfl, ?_⟩⟩))))
    rw [hne]
    refine op_rep (by decide) (by decide) (by simp) (by decide) ?_
    refine op_cat (by rw [List.length_map]; simp; omega) (ea_nil ⟨by show 2 ≤ 1000; decide, ?_⟩)
    have es : ((List.replicate (if false = true then (1 : Int) else 0).toNat [Dat.tup [Dat.str "number", .str "last", .int 1, .str "big", .int 0, .int 255]]).flatten : List Dat) = [] := rfl
    have en : (unraw raw)[m]? = some (r.1, r.2.1) := by unfold unraw; rw [List.getElem?_map, hr2]; rfl
    refine fun H' σ I E => Lp.of _ I E ⟨?_, _, _, _, _, rfl⟩
    rw [take_snoc en, List.map_append]
    show _ ++ [Dat.tup [.str r.1, .tup (r.2.1.map Fld.dat ++ [])]] = _ ++ [kdDat (r.1, r.2.1)]
    rw [List.append_nil]
    rfl
  · rintro l _ Γ ⟨rfl, x2, x3, x4, x5, rfl⟩
    refine nx_ret (ev_tupOfL (ev_var rfl ⟨pf, _, rfl, fun I => I.1.2, rt_of fun H' v I z => k v H' _ I.1.1 z ?_⟩))
    have e : (unraw raw).length = (raw.map rawD).length := by unfold unraw; rw [List.length_map, List.length_map]
    rw [← e, List.take_length]
    rfl
end
end Lb
/-! text LbL7 -/
/-! Walks: lengths, bytes, garbage of the law. -/
namespace Lb
open PySem L2
def BytesD (n : Nat) (d : Dat) : Prop := ∃ xs : List Int, d = bytesD xs ∧ (∀ y ∈ xs, 0 ≤ y ∧ y ≤ 255) ∧ xs.length ≤ n
def MTags (seen : List Str) (t : Tags) : Prop := ∀ x ∈ seen, ∃ v, dlook t (.inr x) = some (.int v) ∧ 0 ≤ v ∧ v ≤ 19
section
variable {P : Program} {w : World} {K : PySem.W.Frag} {mg : Str → Option Value} {base : Heap} {cR cM cT aS aD : Addr}
theorem baseD' {H0 : Hp} {a : Addr} {l : List (Key × Dat)} (h : DctAt K a l H0) {j : Unit} {H : Hp} (I : (Wd.base H0).I j H) : DctAt K a l H := h.off (A := []) (by simp) (Off.of_same I)
def spMany (K : PySem.W.Frag) : Sp := SpA K (α := Ln × Addr × Int × List Str × Tags) (fun a => [a.1.dat, .obj a.2.1, .int a.2.2.1]) (fun a H => DctAt K a.2.1 a.2.2.2.2 H ∧ LnOk a.2.2.2.1 a.1 ∧ MTags a.2.2.2.1 a.2.2.2.2) fun a d => ∃ n : Int, d = .int n ∧ (n ≤ 100 ∨ n ≤ a.2.2.1)
theorem w_many (T : Tp K mg w cR cM cT aS aD) : Cl P w K mg base 1 "_law_many" (spMany K) := by
  refine Cl.of (ps := ["_law_length_here", "_law_tags_here", "_law_left"]) T.d_law_many (fun f fd F => ?_) fun _ _ _ _ _ _ us hl => match us, hl with | [_, _, _], _ => rfl
  refine F.ok sc_law_many (fun vs H Q E h => ?_) (fun cdv A outer sh H vs Q E hr h => ?_)
  · obtain ⟨⟨ln, td, left, sn, l⟩, al, _⟩ := h
    exact al.len
  obtain ⟨⟨ln, td, left, sn, l⟩, al, pre, k⟩ := h
  try dsimp only at pre
  have hu := hu_of hr
  refine ⟨_, (pss_cons (ps_if (pt_cmpR op_eq (pe_ix (k_ixT K) (pv 0) pe_int (fun _ _ => rfl)) pe_str (nomark _)) (pss_one (ps_ret (pe_op op_add (pe_op op_mul (pe_dget hu (pv 1) (pe_ix (k_ixT K) (pv 0) pe_int (fun _ _ => rfl)) (fun _ _ => rfl)) (pe_ix (k_ixT K) (pv 0) pe_int (fun _ _ => rfl))) (pe_ix (k_ixT K) (pv 0) pe_int (fun _ _ => rfl))))) pss_nil)
      (pss_one (ps_ret (pe_ifExp (pt_cmpR op_eq (pe_ix (k_ixT K) (pv 0) pe_int (fun _ _ => rfl)) pe_str (nomark _)) (pv 2) (pe_ix (k_ixT K) (pv 0) pe_int (fun _ _ => rfl)))))), ?_⟩
  obtain ⟨hd, ok, tg⟩ := pre
  refine nx_go (W := .base H) (i := ()) ?_ (fun b o e => e) (Sls.start al _ rfl)
  have hk : ([some ln.dat, some (.obj td), some (.int left)] : Ctx)[0]? = some (some (.tup (.str ln.word :: ln.tl))) := by rw [← ln.dat_eq]; rfl
  refine sq_when (et_word (by exact hk) (fun e => ?_) fun e1 => ?_)
  · obtain ⟨t, x, m, rfl⟩ := ln.inv.2.1 e
    obtain ⟨v, hv, v0, v1⟩ := tg t ok.1
    refine nx_ret (ev_op (ev_op (ev_dget (ev_var rfl ?_))))
    refine ev_ix (ds := [.str "of", .str t, .int x, .int m]) rfl rfl ⟨td, l, t, _, rfl, fun I => baseD' hd I, rfl, hv, ?_⟩
    refine ev_ix (ds := [.str "of", .str t, .int x, .int m]) rfl rfl (op_int1 (by right; have := ok.2; omega) ?_)
    refine ev_ix (ds := [.str "of", .str t, .int x, .int m]) rfl rfl (op_int0 (rt_of fun H' u I z => k u H' _ I z ⟨_, rfl, ?_⟩))
    have hx : x = 1 ∨ x = 2 := by have := ok.2; omega
    have := ok.2
    left; rcases hx with rfl | rfl <;> omega
  refine nx_ret (ev_ifx (et_word (by exact hk) (fun e => ?_) fun e2 => ?_))
  · exact ev_var rfl (rt_of fun H' v I z => k v H' _ I z ⟨_, rfl, .inr (Int.le_refl _)⟩)
  obtain ⟨n, rfl⟩ : ∃ n, ln = .is n := by
    cases ln with
    | is n => exact ⟨_, rfl⟩
    | of => exact absurd rfl e1
    | rest => exact absurd rfl e2
  exact ev_ix (ds := [.str "is", .int n]) rfl rfl (rt_of fun H' v I z => k v H' _ I z ⟨_, rfl, .inl ok.2⟩)
def spBytes (K : PySem.W.Frag) : Sp := SpA K (α := Int × Int × Str) (fun a => [.int a.1, .int a.2.1, .str a.2.2]) (fun a _ => a.2.1 = 1 ∨ a.2.1 = 2) fun _ d => BytesD 2 d
theorem w_bytes (T : Tp K mg w cR cM cT aS aD) : Cl P w K mg base 1 "_law_bytes" (spBytes K) := by
  refine Cl.of (ps := ["_law_worth", "_law_size", "_law_order"]) T.d_law_bytes (fun f fd F => ?_) fun _ _ _ _ _ _ us hl => match us, hl with | [_, _, _], _ => rfl
  refine F.ok sc_law_bytes (fun vs H Q E h => ?_) (fun cdv A outer sh H vs Q E hr h => ?_)
  · obtain ⟨⟨wo, sz, od⟩, al, _⟩ := h
    exact al.len
  obtain ⟨⟨wo, sz, od⟩, al, pre, k⟩ := h
  try dsimp only at pre
  have hu := hu_of hr
  refine ⟨_, (pss_cons (ps_set (i := 3) sc_law_bytes.nd rfl (Or.inl rfl) (pe_tupF pa_nil))
      (pss_cons (ps_for PassesOwn.never rfl (pi_range1 (by rfl) T.n_range (pa_cons (pv 1) pa_nil)) (pg_name (i := 4) sc_law_bytes.nd rfl (Or.inl rfl)) (pss_cons (ps_set (i := 3) sc_law_bytes.nd rfl (Or.inl rfl) (pe_op (k_cat K) (pe_tupF (pa_cons (pe_op op_mod (pv 0) pe_int) pa_nil)) (pv 3)))
      (pss_one (ps_set (i := 0) sc_law_bytes.nd rfl (Or.inl rfl) (pe_op op_fdiv (pv 0) pe_int)))))
      (pss_one (ps_ret (pe_ix (k_ixL K) (pe_lst (pa_cons (pv 3) (pa_cons (k_revT K (pv 3)) pa_nil))) (pe_callTy k_intB (by rfl) T.n_int (by decide +kernel) (pa_cons (pe_cmpR op_eq (pv 2) pe_str (nomark _)) pa_nil)) (fun _ _ => rfl)))))), ?_⟩
  refine nx_go (W := .base H) (i := ()) ?_ (fun b o e => e) (Sls.start al _ rfl)
  refine sq_set (ev_tup (ea_nil ⟨by decide, ?_⟩))
  refine sq_forR (ea_cons (ev_var rfl (ea_nil ⟨sz, rfl, ⟨by omega, by omega⟩, ?_⟩)))
  have hsz : sz.toNat ≤ 2 := by omega
  generalize sz.toNat = c at hsz
  refine sq_loop (κ := Unit) (Wf := fun _ => Wd.base H) (fun m _ _ Γ => ∃ (wo' : Int) (xs : List Int) (x : Option Dat), (∀ y ∈ xs, 0 ≤ y ∧ y ≤ 255) ∧ xs.length = m ∧ Γ = [some (.int wo'), some (.int sz), some (.str od), some (bytesD xs), x]) () (fun _ => wk_rng) ?_ ?_ ?_
  · exact ⟨wo, [], none, by simp, rfl, rfl⟩
  · rintro m _ _ Γ d hm rfl ⟨wo', xs, x, h1, h2, rfl⟩
    refine tg_name (sq_set (ev_op (ev_tup (ea_cons (ev_op (ev_var rfl (ev_int (op_int1 (by decide) (ea_nil ⟨by show 1 ≤ 1000; decide, ?_⟩)))))))))
    refine ev_var rfl (op_cat (by rw [List.length_map]; simp; omega) ?_)
    refine nx_set (ev_op (ev_var rfl (ev_int (op_int1 ⟨by decide, by decide⟩ ?_))))
    refine fun H' σ I E => Lp.of () I E ⟨_, (wo' % 256) :: xs, _, ?_, by simp [h2], rfl⟩
    intro y hy
    rcases List.mem_cons.mp hy with e | e
    · rw [e]
      have := Int.emod_nonneg wo' (show (256 : Int) ≠ 0 by decide)
      have := Int.emod_lt_of_pos wo' (show (0 : Int) < 256 by decide)
      omega
    · exact h1 y e
  · rintro _ _ Γ ⟨wo', xs, x, h1, h2, rfl⟩
    refine nx_ret (ev_ixN (el_lst (ea_cons (ev_var rfl (ea_cons (ev_revT (ev_var rfl ⟨_, rfl, ea_nil ⟨by show 2 ≤ 1000; decide, ?_⟩⟩)))))))
    refine ev_intB (ev_op (ev_var rfl (ev_str (op_eqS ⟨_, rfl, ?_⟩))))
    by_cases e : od = "small"
    · rw [decide_eq_true e]
      refine ⟨1, _, rfl, rfl, rt_of fun H' v I z => k v H' _ I z ⟨xs.reverse, by rw [bytesD, List.map_reverse], fun y hy => h1 y (List.mem_reverse.mp hy), by rw [List.length_reverse]; omega⟩⟩
    · rw [decide_eq_false e]
      refine ⟨0, _, rfl, rfl, rt_of fun H' v I z => k v H' _ I z ⟨xs, rfl, h1, by omega⟩⟩
def spGarbage (K : PySem.W.Frag) : Sp := SpPl K (α := Int) (fun n => [.int n]) (fun _ n _ => 0 ≤ n ∧ n ≤ 1000) fun n d => BytesD n.toNat d
theorem w_garbage (T : Tp K mg w cR cM cT aS aD) (G_law_take : Cl P w K mg base 1 "_law_take" (spPTake K)) : Cl P w K mg base 2 "_law_garbage" (spGarbage K) := by
  refine Cl.of (ps := ["_law_pool_here", "_law_many_here"]) T.d_law_garbage (fun f fd F => ?_) fun _ _ _ _ _ _ us hl => match us, hl with | [_, _], _ => rfl
  refine F.ok sc_law_garbage (fun vs H Q E h => ?_) (fun cdv A outer sh H vs Q E hr h => ?_)
  · obtain ⟨p, n, al, _⟩ := h
    exact al.len
  obtain ⟨p, n, al, pa, pre, k⟩ := h
  try dsimp only at pre
  have hu := hu_of hr
  refine ⟨_, (pss_one (ps_ret (pe_callTy (k_tupOf K) (by rfl) T.n_tuple (by decide +kernel) (pa_cons (pe_lc (g := (gName 2)) rfl sc_law_garbage.nd (pi_range1 (by rfl) T.n_range (pa_cons (pv 1) pa_nil)) (blkOk_by (own := [("_law_turn", 2)]) (N := ["_law_pool_here", "_law_many_here", "_law_turn"]) (sc := defScope s_law_garbage) (by decide +kernel)) (fun _ _ _ _ _ => (pg_name (i := 2) sc_law_garbage.nd rfl (Or.inl rfl))) (fun _ _ _ _ _ => pts_nil) (fun _ _ _ _ _ => (pe_ix (k_ixL K) (pe_lst (pa_cons pe_int (pa_cons pe_int (pa_cons pe_int (pa_cons pe_int (pa_cons pe_int (pa_cons (k_call G_law_take (hr.mono (by decide)) (pa_cons (pv 0) (pa_cons pe_int pa_nil))) pa_nil))))))) (k_call G_law_take (hr.mono (by decide)) (pa_cons (pv 0) (pa_cons pe_int pa_nil))) (fun _ _ => rfl)))) pa_nil)))), ?_⟩
  have hp : H p ≠ none := (pool_shp K p).trk pa
  have st : Stays (Wd.pw K p H hp) p (PoolAt K p) := pw_stays
  refine nx_go (W := Wd.pw K p H hp) (i := ()) ?_ ⟨Off.refl, pa⟩ (Sls.start al _ rfl)
  refine nx_ret (ev_tupOf (el_lcR (ea_cons (ev_var rfl (ea_nil ⟨n, rfl, ⟨by omega, by omega⟩, ?_⟩)))))
  refine lc_name (k := 2) wk_rng (by omega) (fun m _ acc => ∃ xs : List Int, acc = xs.map Dat.int ∧ (∀ y ∈ xs, 0 ≤ y ∧ y ≤ 255) ∧ xs.length = m) ⟨[], rfl, by simp, rfl⟩ (by decide) ?_ ?_
  · rintro m _ acc d pp np hm rfl ⟨xs, rfl, h1, h2⟩
    have stt := st.own (s := lst_shp K pp (xs.map Dat.int)) (np := np)
    refine lct_yes (ev_ixN (el_lst ?_))
    refine ea_cons (ev_int (ea_cons (ev_int (ea_cons (ev_int ?_)))))
    refine ea_cons (ev_int (ea_cons (ev_int (ea_cons (ev_takeC stt rfl (by decide) fun y y0 y1 => ea_nil ⟨by show 6 ≤ 1000; decide, ?_⟩)))))
    refine ev_takeC stt rfl (by decide) fun z z0 z1 => ?_
    have hz : ∃ u : Int, atI [Dat.int 0, .int 1, .int 2, .int 59, .int 255, .int y] z = some (.int u) ∧ 0 ≤ u ∧ u ≤ 255 := by
      have hz : z = 0 ∨ z = 1 ∨ z = 2 ∨ z = 3 ∨ z = 4 ∨ z = 5 := by omega
      rcases hz with rfl | rfl | rfl | rfl | rfl | rfl
      · exact ⟨0, rfl, by decide, by decide⟩
      · exact ⟨1, rfl, by decide, by decide⟩
      · exact ⟨2, rfl, by decide, by decide⟩
      · exact ⟨59, rfl, by decide, by decide⟩
      · exact ⟨255, rfl, by decide, by decide⟩
      · exact ⟨y, rfl, y0, by omega⟩
    obtain ⟨u, hu, u0, u1⟩ := hz
    refine ⟨z, _, rfl, hu, xs ++ [u], by simp, ?_, by simp [h2]⟩
    intro y hy
    rcases List.mem_append.mp hy with e | e
    · exact h1 y e
    · rw [List.mem_singleton.mp e]; exact ⟨u0, u1⟩
  · rintro _ acc ⟨xs, rfl, h1, h2⟩
    exact rt_of fun H' v I z => k v H' _ I.1 I.2 z ⟨xs, rfl, h1, by omega⟩
end
end Lb
/-! text LbH -/
/-! Walks: words, numbers. -/
namespace Lb
open PySem L2
section
variable {P : Program} {w : World} {K : PySem.W.Frag} {mg : Str → Option Value} {base : Heap} {cR cM cT aS aD : Addr}
def KN (s : Str) : Prop := s = "all" ∨ s = "low" ∨ s = "mid"
theorem KN.all {P : Str → Prop} (h1 : P "all") (h2 : P "low") (h3 : P "mid") {s : Str} (h : KN s) : P s := by rcases h with rfl | rfl | rfl <;> assumption
def spIsWord (K : PySem.W.Frag) : Sp := SpA K (α := Str) (fun s => [.str s]) (fun s _ => KN s) fun _ d => d = .bl true
theorem w_is_word (T : Tp K mg w cR cM cT aS aD) : Cl P w K mg base 1 "is_word" (spIsWord K) := by
  refine Cl.of (ps := ["thing"]) T.d_is_word (fun f fd F => ?_) fun _ _ _ _ _ _ us hl => match us, hl with | [_], _ => rfl
  refine F.ok sc_is_word (fun vs H Q E h => ?_) (fun cdv A outer s H vs Q E hr h => ?_)
  · obtain ⟨s, al, hs, _⟩ := h
    exact al.len
  · obtain ⟨s, al, hs, k⟩ := h
    refine ⟨_, (pss_one (ps_ret (pe_and (pe_callB (k_isi K) (by rfl) T.n_isinstance (by decide +kernel) (pa_cons (pv 0) (pa_cons (pe_bltn (v := .ty "str") (by rfl) T.n_str (by decide +kernel) rfl) pa_nil))) (pe_and (pe_chain op_le op_le pe_int (pe_callB k_lenS (by rfl) T.n_len (by decide +kernel) (pa_cons (pv 0) pa_nil)) (k_gint T.g_LONGEST)) (pe_one (pe_callB (k_all K rfl) (by rfl) T.n_all (by decide +kernel) (pa_cons (pe_lc (g := (gName 1)) rfl sc_is_word.nd (pi_str (pv 0)) (blkOk_by (own := [("sign", 1)]) (N := ["thing", "sign"]) (sc := defScope s_is_word) (by decide +kernel)) (fun _ _ _ _ _ => (pg_name (i := 1) sc_is_word.nd rfl (Or.inl rfl))) (fun _ _ _ _ _ => pts_nil) (fun _ _ _ _ _ => (pe_cmpR k_inSg (pv 1) (k_gstr T.g_LETTERS) (by rfl)))) pa_nil))))))), ?_⟩
    refine nx_go (W := .base H) (i := ()) ?_ (fun b o e => e) (Sls.start al _ rfl)
    have h1 : s.length ≤ 8 ∧ 1 ≤ s.length := hs.all (P := fun s => s.length ≤ 8 ∧ 1 ≤ s.length) (by decide +kernel) (by decide +kernel) (by decide +kernel)
    have h2 : s.cps.size = s.length := rfl
    have h3 : (s.cps.toList.map fun c => decide (c ∈ ("abcdefghijklmnopqrstuvwxyz" : Str).cps.toList)).all id = true := hs.all (P := fun s => (s.cps.toList.map fun c => decide (c ∈ ("abcdefghijklmnopqrstuvwxyz" : Str).cps.toList)).all id = true) (by decide +kernel) (by decide +kernel) (by decide +kernel)
    refine nx_ret ?_
    refine ev_andV (ev_isStr (s := s) (ev_var rfl ⟨s, rfl, true, rfl, ifT rfl ?_⟩))
    refine ev_andV (ev_chain (ev_int ?_))
    refine ev_lenS (ev_var rfl ⟨s, rfl, by omega, ?_⟩)
    refine op_bl0 ⟨_, rfl, ifT (by simp; omega) ?_⟩
    refine ev_int (op_bl0 ⟨_, rfl, ifT (by simp; omega) ?_⟩)
    refine ev_all (el_lcS (ev_var rfl ⟨s, rfl, ?_⟩))
    refine lc_name (k := 1) (n := s.cps.size) wk_str (by omega) (fun m _ acc => acc = ((s.cps.toList.take m).map fun c => decide (c ∈ ("abcdefghijklmnopqrstuvwxyz" : Str).cps.toList)).map Dat.bl) rfl (by decide) ?_ ?_
    · rintro m _ acc d p np hm ⟨c, hc, rfl⟩ rfl
      refine lct_yes (ev_op (ev_var rfl (ev_str (op_inSg ?_))))
      have e : s.cps.toList[m]? = some c := by rw [← hc]; simp
      rw [List.take_succ, e]
      simp
    · rintro _ acc rfl
      refine ⟨_, rfl, rt_of fun H v I a => ?_⟩
      refine k v H _ I a ?_
      rw [List.take_of_length_le (by simp), h3]
def spNumberIn (K : PySem.W.Frag) : Sp := SpA K (α := List Int × Str) (fun a => [.tup (a.1.map Dat.int), .str a.2]) (fun _ _ => True) fun a d => d = .int (numOf a.2 a.1)
theorem w_number_in (T : Tp K mg w cR cM cT aS aD) : ClK P w K mg base 1 "number_in" ["order"] (spNumberIn K) := by
  obtain ⟨f, fd, F, m⟩ := T.d_number_in.ex
  refine ⟨f, fd, ["some", "order"], ?_, m, F.kp, ?_⟩
  · refine F.ok sc_number_in (fun vs H Q E h => ?_) (fun cdv A outer s H vs Q E hr h => ?_)
    · obtain ⟨a, al, _⟩ := h
      exact al.len
    · obtain ⟨⟨xs, o⟩, al, _, k⟩ := h
      refine ⟨_, (pss_cons (ps_set (i := 2) sc_number_in.nd rfl (Or.inl rfl) pe_int)
      (pss_cons (ps_for PassesOwn.never rfl (k_forT K (pe_ifExp (pt_cmpR op_eq (pv 1) pe_str (nomark _)) (pv 0) (k_revT K (pv 0)))) (pg_name (i := 3) sc_number_in.nd rfl (Or.inl rfl)) (pss_one (ps_set (i := 2) sc_number_in.nd rfl (Or.inl rfl) (pe_op op_add (pe_op op_mul (pv 2) (k_gint T.g_BYTE)) (pv 3)))))
      (pss_one (ps_ret (pv 2))))), ?_⟩
      refine nx_go (W := .base H) (i := ()) ?_ (fun b o e => e) (Sls.start al _ rfl)
      refine sq_set (ev_int ?_)
      refine sq_forT ?_
      refine Ev.imp (P := fun _ d => ∃ ys : List Int, d = .tup (ys.map Dat.int) ∧ numOf o xs = bigOf ys) ?_ ?_
      · refine ev_ifx (et_test (ev_op (ev_var rfl (ev_str (op_eqS ⟨_, rfl, ifD (fun e => ?_) fun e => ?_⟩)))))
        · exact ev_var rfl ⟨xs, rfl, by unfold numOf; rw [if_pos e]⟩
        · exact ev_revT (ev_var rfl ⟨_, rfl, xs.reverse, by rw [List.map_reverse], by unfold numOf; rw [if_neg e]⟩)
      rintro _ d ⟨ys, rfl, e⟩
      refine ⟨_, rfl, fun a => ?_⟩
      refine sq_loop (κ := Unit) (Wf := fun _ => (Wd.base H).keep K (.ref a) (.tup (ys.map Dat.int))) (fun m _ _ Γ => ∃ x, Γ = [some (.tup (xs.map Dat.int)), some (.str o), some (.int (bigOf (ys.take m))), x]) () (fun _ => wk_tup fun x => x.2) ?_ ?_ ?_
      · exact ⟨none, rfl⟩
      · rintro m _ _ Γ d hm hd ⟨x, rfl⟩
        obtain ⟨z, hz, rfl⟩ : ∃ z, ys[m]? = some z ∧ d = .int z := by
          rw [List.getElem?_map] at hd
          cases q : ys[m]? with
          | none => rw [q] at hd; cases hd
          | some z => rw [q] at hd; exact ⟨z, rfl, (Option.some.inj hd).symm⟩
        refine tg_name (nx_set (ev_op (ev_op (ev_var rfl (ev_int (op_int1 ?_ (ev_var rfl (op_int0 ?_)))) ))))
        · exact .inr (by decide)
        refine fun H σ I E => Lp.of () I E ?_
        refine ⟨some (.int z), ?_⟩
        rw [List.take_succ, hz]
        simp [bigOf]
      · rintro _ _ Γ ⟨x, rfl⟩
        refine nx_ret (ev_var rfl (rt_of fun H v I a => k v H _ I.1 a ?_))
        rw [List.length_map, List.take_length]
        exact congrArg Dat.int e.symm
  · obtain ⟨oc, od, kV, doc, pm, an, cdv, ct, osl, rfl, lk, hcd⟩ := F.ex
    exact kb_of fun x y => rfl
end
end Lb
/-! text LbI -/
/-! Walks: grammars. -/
namespace Lb
open PySem L2
section
variable {P : Program} {w : World} {K : PySem.W.Frag} {mg : Str → Option Value} {base : Heap} {cR cM cT aS aD : Addr}
theorem baseD {H0 : Hp} {a : Addr} {l : List (Key × Dat)} (h : DctAt K a l H0) {j : Unit} {H : Hp} (I : (Wd.base H0).I j H) : DctAt K a l H := h.off (A := []) (by simp) (Off.of_same I)
theorem baseN {H0 : Hp} {p : Addr} (h : ¬ (Wd.base H0).C p) : H0 p = none := Classical.byContradiction h
def FOk (f : Fld) : Prop := ∃ s deep, FldOk s deep f
def spKindsIn (K : PySem.W.Frag) : Sp := SpAL K (α := Fld) (fun f => [f.dat]) (fun f _ => FOk f) fun f l => l = (kindsOf f).map Dat.str
theorem w_kinds_in (T : Tp K mg w cR cM cT aS aD) : Cl P w K mg base 1 "kinds_in" (spKindsIn K) := by
  refine Cl.of (ps := ["field"]) T.d_kinds_in (fun f fd F => ?_) fun _ _ _ _ _ _ us hl => match us, hl with | [_], _ => rfl
  refine F.ok sc_kinds_in (fun vs H Q E h => ?_) (fun cdv A outer sh H vs Q E hr h => ?_)
  · obtain ⟨a, al, _⟩ := h
    exact al.len
  obtain ⟨a, al, pre, k⟩ := h
  try dsimp only at pre
  have hu := hu_of hr
  refine ⟨_, (pss_cons (ps_if (pt_cmpR op_eq (pe_ix (k_ixT K) (pv 0) pe_int (fun _ _ => rfl)) pe_str (nomark _)) (pss_one (ps_ret (pe_lc (g := (gTup K 2 (gCons (gName 1) (gCons (gName 2) gNil)))) rfl sc_kinds_in.nd (k_forT K (pe_ix (k_ixT K) (pv 0) pe_int (fun _ _ => rfl))) (blkOk_by (own := [("worth", 1), ("kind", 2)]) (N := ["field", "worth", "kind"]) (sc := defScope s_kinds_in) (by decide +kernel)) (fun _ _ _ _ _ => (k_tup K rfl (pgs_cons (pg_name (i := 1) sc_kinds_in.nd rfl (Or.inl rfl)) (pgs_cons (pg_name (i := 2) sc_kinds_in.nd rfl (Or.inl rfl)) pgs_nil)))) (fun _ _ _ _ _ => pts_nil) (fun _ _ _ _ _ => (pv 2))))) pss_nil)
      (pss_cons (ps_if (pt_cmpR op_eq (pe_ix (k_ixT K) (pv 0) pe_int (fun _ _ => rfl)) pe_str (nomark _)) (pss_one (ps_ret (pe_lst (pa_cons (pe_ix (k_ixT K) (pv 0) pe_int (fun _ _ => rfl)) pa_nil)))) pss_nil)
      (pss_one (ps_ret (pe_ifExp (pt_cmpR op_eq (pe_ix (k_ixT K) (pv 0) pe_int (fun _ _ => rfl)) pe_str (nomark _)) (pe_lst (pa_cons (pe_ix (k_ixT K) (pv 0) pe_int (fun _ _ => rfl)) pa_nil)) (pe_lst pa_nil)))))), ?_⟩
  refine nx_go (W := .base H) (i := ()) ?_ (fun b o e => e) (Sls.start al _ rfl)
  have hk : ([some a.dat, none, none] : Ctx)[0]? = some (some (.tup (.str a.word :: a.tl))) := by rw [← a.dat_eq]; rfl
  obtain ⟨sn, dp, ok⟩ := pre
  refine sq_when (et_word (by exact hk) (fun e => ?_) fun e1 => ?_)
  · obtain ⟨n, t, ks, rfl⟩ := a.inv.2.2.2.2.1 e
    have hl : ks.length ≤ 10 := ok.2.2.2.2.1
    refine nx_retL ?_
    refine el_lcT (ev_ix (ds := [.str "choice", .str n, .str t, .tup (ks.map fun q => .tup [.int q.1, .str q.2])]) rfl rfl ⟨_, rfl, fun b => ?_⟩)
    refine lc_pair (k := 1) (l := 2) (wk_tup fun x => x.2) (by rw [List.length_map]; omega) (fun m _ acc => acc = ((ks.take m).map (·.2)).map Dat.str) rfl (by decide) (by decide) ?_ ?_
    · rintro m _ acc d p np hm hd rfl
      obtain ⟨q, hq, rfl⟩ := get_map hd
      refine ⟨_, _, rfl, lct_yes (ev_var rfl ?_)⟩
      rw [take_snoc hq, List.map_append, List.map_append]
      rfl
    · rintro _ acc rfl p H' np I' la
      refine k p H' _ (baseN np) I' la ?_
      rw [List.length_map, List.take_length]
      rfl
  refine sq_when (et_word (by exact hk) (fun e => ?_) fun e2 => ?_)
  · obtain ⟨n, kk, t, rfl⟩ := a.inv.2.2.2.2.2.1 e
    refine nx_retL (el_lst (ea_cons (ev_ix (ds := [.str "row", .str n, .str kk, rowEnd t]) rfl rfl (ea_nil ⟨by show 1 ≤ 1000; decide, fun p H' np I' la => k p H' _ (baseN np) I' la rfl⟩))))
  refine nx_retL (el_ifx (et_word (by exact hk) (fun e => ?_) fun e3 => ?_))
  · obtain ⟨n, l, kk, rfl⟩ := a.inv.2.2.2.2.2.2 e
    exact el_lst (ea_cons (ev_ix (ds := [.str "carried", .str n, l.dat, .str kk]) rfl rfl (ea_nil ⟨by show 1 ≤ 1000; decide, fun p H' np I' la => k p H' _ (baseN np) I' la rfl⟩)))
  · refine el_lst (ea_nil ⟨by decide, fun p H' np I' la => k p H' _ (baseN np) I' la ?_⟩)
    cases a with
    | choice n t ks => exact absurd rfl e1
    | row n kk t => exact absurd rfl e2
    | carried n l kk => exact absurd rfl e3
    | _ => rfl
def spKindTable (K : PySem.W.Frag) : Sp := SpAD K (α := Gr) (fun G => [grDat G]) (fun G _ => GrOk G) fun G l => l = tblOf G
theorem w_kind_table (T : Tp K mg w cR cM cT aS aD) : Cl P w K mg base 1 "kind_table" (spKindTable K) := by
  refine Cl.of (ps := ["grammar"]) T.d_kind_table (fun f fd F => ?_) fun _ _ _ _ _ _ us hl => match us, hl with | [_], _ => rfl
  refine F.ok sc_kind_table (fun vs H Q E h => ?_) (fun cdv A outer sh H vs Q E hr h => ?_)
  · obtain ⟨G, al, _⟩ := h
    exact al.len
  obtain ⟨G, al, pre, k⟩ := h
  try dsimp only at pre
  have hu := hu_of hr
  refine ⟨_, (pss_one (ps_ret (pe_dc (g := (gTup K 2 (gCons (gName 1) (gCons (gName 2) gNil)))) rfl sc_kind_table.nd (k_forT K (pv 0)) (blkOk_by (own := [("name", 1), ("fields", 2)]) (N := ["grammar", "name", "fields"]) (sc := defScope s_kind_table) (by decide +kernel)) (fun _ _ _ _ _ => (k_tup K rfl (pgs_cons (pg_name (i := 1) sc_kind_table.nd rfl (Or.inl rfl)) (pgs_cons (pg_name (i := 2) sc_kind_table.nd rfl (Or.inl rfl)) pgs_nil)))) (fun _ _ _ _ _ => pts_nil) (fun _ _ _ _ _ => (pv 1)) (fun _ _ _ _ _ => (pv 2))))), ?_⟩
  refine nx_go (W := .base H) (i := ()) ?_ (fun b o e => e) (Sls.start al _ rfl)
  refine nx_retD (ed_dcT (by decide) (by decide) (ev_var rfl ⟨_, rfl, by rw [List.length_map]; have := pre.len; omega, fun b => ⟨fun m _ acc => acc = (tblOf G).take m, rfl, ?_, ?_⟩⟩))
  · rintro m _ acc d p np hd rfl
    obtain ⟨q, hq, rfl⟩ := get_map hd
    refine ⟨_, _, rfl, ev_var rfl (ev_var rfl ⟨_, rfl, ?_⟩)⟩
    have hq' : (tblOf G)[m]? = some ((.inr q.1 : Key), .tup (q.2.map Fld.dat)) := by unfold tblOf; rw [List.getElem?_map, hq]; rfl
    show dput _ _ _ = _
    rw [take_snoc hq', dput_new]
    refine dlook_none fun x hx z => ?_
    have nd := pre.nodup
    have hm : m < (namesOf G).length := by unfold namesOf; rw [List.length_map]; exact (List.getElem?_eq_some_iff.mp hq).1
    have h1 : q.1 = (namesOf G)[m] := by
      have : (namesOf G)[m]? = some q.1 := by unfold namesOf; rw [List.getElem?_map, hq]; rfl
      rw [List.getElem?_eq_getElem hm] at this
      exact (Option.some.inj this).symm
    obtain ⟨i, hi⟩ := List.mem_iff_getElem?.mp hx
    have hi' : i < m ∧ (tblOf G)[i]? = some x := by
      rw [List.getElem?_take] at hi
      by_cases c : i < m
      · rw [if_pos c] at hi; exact ⟨c, hi⟩
      · rw [if_neg c] at hi; cases hi
    have h2 : ∃ r, G[i]? = some r ∧ x = ((.inr r.1 : Key), .tup (r.2.map Fld.dat)) := by
      have := hi'.2
      unfold tblOf at this
      rw [List.getElem?_map] at this
      cases e : G[i]? with
      | none => rw [e] at this; cases this
      | some r => rw [e] at this; exact ⟨r, rfl, (Option.some.inj this).symm⟩
    obtain ⟨r, hr', rfl⟩ := h2
    have h3 : (namesOf G)[i]'(by omega) = r.1 := by
      have : (namesOf G)[i]? = some r.1 := by unfold namesOf; rw [List.getElem?_map, hr']; rfl
      rw [List.getElem?_eq_getElem (by omega)] at this
      exact Option.some.inj this
    have h4 : r.1 = q.1 := Sum.inr.inj z
    exact (List.pairwise_iff_getElem.mp nd i m (by omega) hm hi'.1) (h3.trans (h4.trans h1))
  · rintro _ acc rfl p H' np I' la
    refine k p H' _ (baseN np) I' la ?_
    show (tblOf G).take (G.map kdDat).length = tblOf G
    rw [List.take_of_length_le]
    unfold tblOf
    rw [List.length_map, List.length_map]
    exact Nat.le_refl _
def spFieldsOf (K : PySem.W.Frag) : Sp := SpA K (α := Gr × Str) (fun a => [grDat a.1, .str a.2]) (fun a _ => GrOk a.1 ∧ a.2 ∈ namesOf a.1) fun a d => d = .tup ((fieldsOf a.1 a.2).map Fld.dat)
theorem w_fields_of (T : Tp K mg w cR cM cT aS aD) (G_kind_table : Cl P w K mg base 1 "kind_table" (spKindTable K)) (G_is_word : Cl P w K mg base 1 "is_word" (spIsWord K)) : Cl P w K mg base 2 "fields_of" (spFieldsOf K) := by
  refine Cl.of (ps := ["grammar", "kind"]) T.d_fields_of (fun f fd F => ?_) fun _ _ _ _ _ _ us hl => match us, hl with | [_, _], _ => rfl
  refine F.ok sc_fields_of (fun vs H Q E h => ?_) (fun cdv A outer sh H vs Q E hr h => ?_)
  · obtain ⟨⟨G, kd⟩, al, _⟩ := h
    exact al.len
  obtain ⟨⟨G, kd⟩, al, pre, k⟩ := h
  try dsimp only at pre
  have hu := hu_of hr
  refine ⟨_, (pss_cons (ps_set (i := 2) sc_fields_of.nd rfl (Or.inl rfl) (k_call G_kind_table (hr.mono (by decide)) (pa_cons (pv 0) pa_nil)))
      (pss_cons (ps_if (PW.pt (pw_or (pt_not (pt_val (k_call G_is_word (hr.mono (by decide)) (pa_cons (pv 1) pa_nil)))) (pw_or1 (pt_cmp (pc_dnotin hu (pv 1) (pv 2)))))) (pss_one ps_never) pss_nil)
      (pss_one (ps_ret (pe_dget hu (pv 2) (pv 1) (fun _ _ => rfl)))))), ?_⟩
  obtain ⟨ok, hm⟩ := pre
  refine nx_go (W := .base H) (i := ()) ?_ (fun b o e => e) (Sls.start al _ rfl)
  refine sq_setD (ed_call (ea_cons (ev_var rfl (ea_nil (call_AD G rfl (fun _ => ok) ?_)))))
  rintro l rfl p np
  obtain ⟨q, hq, rfl⟩ := List.mem_map.mp hm
  obtain ⟨m, hq'⟩ := List.mem_iff_getElem?.mp hq
  have hlk := tbl_look ok.nodup hq'
  have hst : ∀ {H' : Hp} {j : Unit}, ((Wd.base H).own p (DctAt K p (tblOf G)) (dct_shp K p _) np).I j H' → DctAt K p (tblOf G) H' := fun I => I.2
  have kn : KN q.1 := ok.names q.1 (List.mem_map.mpr ⟨q, hq, rfl⟩)
  refine sq_when (et_or (et_not (et_B (ev_call (ea_cons (ev_var rfl (ea_nil (call_A q.1 rfl (fun _ => kn) ?_))))))))
  rintro _ rfl
  refine ⟨true, rfl, ifF rfl ?_⟩
  refine et_dnin (ev_var rfl (ev_var rfl ⟨p, tblOf G, .inr q.1, rfl, hst, rfl, ifF (by rw [hlk]; rfl) ?_⟩))
  refine nx_ret (ev_dget (ev_var rfl (ev_var rfl ⟨p, tblOf G, q.1, _, rfl, hst, rfl, hlk, ?_⟩)))
  refine rt_of fun H' v I a => k v H' _ I.1 a ?_
  show _ = Dat.tup ((fieldsOf G q.1).map Fld.dat)
  rw [ok.fields hq']
def spTagsIn (K : PySem.W.Frag) : Sp := SpAD K (α := Fld) (fun f => [f.dat]) (fun f _ => FOk f) fun f l => TgOk (decl f) l ∧ l.length ≤ 2
theorem w_tags_in (T : Tp K mg w cR cM cT aS aD) : Cl P w K mg base 1 "tags_in" (spTagsIn K) := by
  refine Cl.of (ps := ["field"]) T.d_tags_in (fun f fd F => ?_) fun _ _ _ _ _ _ us hl => match us, hl with | [_], _ => rfl
  refine F.ok sc_tags_in (fun vs H Q E h => ?_) (fun cdv A outer sh H vs Q E hr h => ?_)
  · obtain ⟨a, al, _⟩ := h
    exact al.len
  obtain ⟨a, al, pre, k⟩ := h
  try dsimp only at pre
  have hu := hu_of hr
  refine ⟨_, (pss_cons (ps_if (pt_cmpR op_eq (pe_ix (k_ixT K) (pv 0) pe_int (fun _ _ => rfl)) pe_str (nomark _)) (pss_one (ps_ret (pe_disp (pps_cons (pe_ix (k_ixT K) (pv 0) pe_int (fun _ _ => rfl)) (pe_tupF (pa_cons (pe_ix (k_ixT K) (pv 0) pe_int (fun _ _ => rfl)) (pa_cons (pe_ix (k_ixT K) (pv 0) pe_int (fun _ _ => rfl)) pa_nil))) pps_nil) (by rfl) (by rfl) (fun z => by cases z) (by decide)))) pss_nil)
      (pss_cons (ps_if (pt_cmpR op_eq (pe_ix (k_ixT K) (pv 0) pe_int (fun _ _ => rfl)) pe_str (nomark _)) (pss_one (ps_ret (pe_dc (g := (gTup K 2 (gCons (gName 1) (gCons (gName 2) gNil)))) rfl sc_tags_in.nd (k_forT K (pe_ix (k_ixT K) (pv 0) pe_int (fun _ _ => rfl))) (blkOk_by (own := [("name", 1), ("width", 2)]) (N := ["field", "name", "width"]) (sc := defScope s_tags_in) (by decide +kernel)) (fun _ _ _ _ _ => (k_tup K rfl (pgs_cons (pg_name (i := 1) sc_tags_in.nd rfl (Or.inl rfl)) (pgs_cons (pg_name (i := 2) sc_tags_in.nd rfl (Or.inl rfl)) pgs_nil)))) (fun _ _ _ _ _ => pts_nil) (fun _ _ _ _ _ => (pv 1)) (fun _ _ _ _ _ => (pe_tupF (pa_cons pe_int (pa_cons (pe_op op_sub (pe_op op_shl pe_int (pv 2)) pe_int) pa_nil))))))) pss_nil)
      (pss_one (ps_ret pe_dnewK)))), ?_⟩
  obtain ⟨sn, dp, ok⟩ := pre
  refine nx_go (W := .base H) (i := ()) ?_ (fun b o e => e) (Sls.start al _ rfl)
  have hk : ([some a.dat, none, none] : Ctx)[0]? = some (some (.tup (.str a.word :: a.tl))) := by rw [← a.dat_eq]; rfl
  refine sq_when (et_word (by exact hk) (fun e => ?_) fun e1 => ?_)
  · obtain ⟨n, s, o, l, m, rfl⟩ := a.inv.1 e
    refine nx_retD (ed_disp1 fun p np => ev_ix (ds := [.str "number", .str n, .int s, .str o, .int l, .int m]) rfl rfl (ev_tup (ea_cons (ev_ix (ds := [.str "number", .str n, .int s, .str o, .int l, .int m]) rfl rfl (ea_cons (ev_ix (ds := [.str "number", .str n, .int s, .str o, .int l, .int m]) rfl rfl (ea_nil ⟨by show 2 ≤ 1000; decide, _, rfl, fun p H' np I' la => ?_⟩)))))))
    refine k p H' _ (baseN np) I' la ⟨⟨fun q hq => ?_, fun x hx => ?_⟩, by show 1 ≤ 2; decide⟩
    · rw [List.mem_singleton.mp hq]
      exact ⟨l, m, rfl, ok.2.2.2.1, ok.2.2.2.2.1⟩
    · rw [List.mem_singleton.mp hx]
      simp [dlook]
  refine sq_when (et_word (by exact hk) (fun e => ?_) fun e2 => ?_)
  · obtain ⟨n1, w1, n2, w2, rfl⟩ := a.inv.2.1 e
    obtain ⟨_, _, hw1, hw2, hw3⟩ := ok
    refine nx_retD (ed_dcT (by decide) (by decide) (ev_ix (ds := [.str "bits", .tup [.tup [.str n1, .int w1], .tup [.str n2, .int w2]]]) rfl rfl ⟨_, rfl, by show 2 ≤ 1000000; decide, fun b => ⟨fun m _ acc => acc.length ≤ m ∧ (∀ q ∈ acc, TgD q.2) ∧ ∀ x ∈ [n1, n2].take m, (dlook acc (.inr x)).isSome = true, ⟨Nat.le_refl _, by simp, by simp⟩, ?_, ?_⟩⟩))
    · rintro m _ acc d p np hd ⟨g0, g1, g2⟩
      obtain ⟨n, v, rfl, hv0, hv1, hn⟩ : ∃ (n : Str) (v : Int), d = .tup [.str n, .int v] ∧ 0 ≤ v ∧ v ≤ 8 ∧ [n1, n2][m]? = some n := by
        match m, hd with
        | 0, hd => cases hd; exact ⟨n1, w1, rfl, by omega, by omega, rfl⟩
        | 1, hd => cases hd; exact ⟨n2, w2, rfl, by omega, by omega, rfl⟩
        | m + 2, hd => cases hd
      refine ⟨_, _, rfl, ev_var rfl (ev_tup (ea_cons (ev_int (ea_cons ?_))))⟩
      refine ev_op (ev_op (ev_int (ev_var rfl (op_int1 ⟨hv0, by omega, by decide⟩ (ev_int (op_int0 (ea_nil ⟨by show 2 ≤ 1000; decide, _, rfl, ?_⟩)))))))
      refine ⟨Nat.le_trans (dput_len ..) (Nat.succ_le_succ g0), dput_mem g1 ⟨0, _, rfl, by decide, by decide⟩, fun x hx => dput_has ?_⟩
      rw [take_snoc hn] at hx
      rcases List.mem_append.mp hx with z | z
      · exact .inl (g2 x z)
      · rw [List.mem_singleton.mp z]; exact .inr rfl
    · rintro _ acc ⟨g0, g1, g2⟩ p H' np I' la
      exact k p H' _ (baseN np) I' la ⟨⟨g1, fun x hx => g2 x (by rw [List.mem_singleton.mp hx]; simp)⟩, g0⟩
  refine nx_retD (ed_new fun p H' np I' la => k p H' _ (baseN np) I' la ⟨⟨by simp, fun x hx => ?_⟩, by decide⟩)
  cases a with
  | number n s o l m => exact absurd rfl e1
  | bits n1 w1 n2 w2 => exact absurd rfl e2
  | _ => cases hx
def spTagsOf (K : PySem.W.Frag) : Sp := SpAD K (α := List Fld) (fun fs => [.tup (fs.map Fld.dat)]) (fun fs _ => (∀ f ∈ fs, FOk f) ∧ fs.length ≤ 10) fun fs l => TgOk (fs.flatMap decl) l ∧ l.length ≤ 20
theorem w_tags_of (T : Tp K mg w cR cM cT aS aD) (G_tags_in : Cl P w K mg base 1 "tags_in" (spTagsIn K)) : Cl P w K mg base 2 "tags_of" (spTagsOf K) := by
  refine Cl.of (ps := ["fields"]) T.d_tags_of (fun f fd F => ?_) fun _ _ _ _ _ _ us hl => match us, hl with | [_], _ => rfl
  refine F.ok sc_tags_of (fun vs H Q E h => ?_) (fun cdv A outer sh H vs Q E hr h => ?_)
  · obtain ⟨fs, al, _⟩ := h
    exact al.len
  obtain ⟨fs, al, pre, k⟩ := h
  try dsimp only at pre
  have hu := hu_of hr
  refine ⟨_, (pss_cons (ps_set (i := 1) sc_tags_of.nd rfl (Or.inl rfl) pe_dnewK)
      (pss_cons (ps_for PassesOwn.never rfl (k_forT K (pv 0)) (pg_name (i := 2) sc_tags_of.nd rfl (Or.inl rfl)) (pss_one (ps_expr (k_update K (pv 1) (k_call G_tags_in (hr.mono (by decide)) (pa_cons (pv 2) pa_nil))))))
      (pss_one (ps_ret (pv 1))))), ?_⟩
  obtain ⟨ok, hl⟩ := pre
  refine nx_go (W := .base H) (i := ()) ?_ (fun b o e => e) (Sls.start al _ rfl)
  refine sq_setD (ed_new fun p np => ?_)
  refine sq_forT (ev_var rfl ⟨_, rfl, fun b => ?_⟩)
  refine sq_loop (κ := List (Key × Dat)) (Wf := fun l => ((Wd.base H).own p (DctAt K p l) (dct_shp K p l) np).keep K (.ref b) (.tup (fs.map Fld.dat))) (fun m l _ Γ => l.length ≤ 2 * m ∧ TgOk ((fs.take m).flatMap decl) l ∧ ∃ x, Γ = [some (.tup (fs.map Fld.dat)), some (.obj p), x]) [] (fun _ => wk_tup fun x => x.2) ?_ ?_ ?_
  · exact ⟨Nat.le_refl _, ⟨by simp, by simp⟩, none, rfl⟩
  · rintro m l _ Γ d hm hd ⟨g0, g1, x, rfl⟩
    obtain ⟨f, hf, rfl⟩ := get_map hd
    rw [List.length_map] at hm
    refine tg_name (nx_update OwnAt.here.keep (ev_var rfl ⟨rfl, ed_call (ea_cons (ev_var rfl (ea_nil (call_AD f rfl (fun _ => ok f (List.mem_of_getElem? hf)) ?_))))⟩))
    rintro more ⟨g2, g3⟩
    refine ⟨by omega, fun H' σ I E => Lp.of (dmerge l more) I E ?_⟩
    refine ⟨Nat.le_trans dmerge_len (by omega), ⟨dmerge_mem g1.1 g2.1, fun y hy => dmerge_has ?_⟩, _, rfl⟩
    rw [take_snoc hf, List.flatMap_append] at hy
    rcases List.mem_append.mp hy with z | z
    · exact .inl (g1.2 y z)
    · exact .inr (g2.2 y (by simpa using z))
  · rintro l _ Γ ⟨g0, g1, x, rfl⟩
    rw [List.length_map] at g0 g1
    rw [List.take_length] at g1
    refine nx_ret (ev_var rfl (rt_L fun H' I => ?_))
    exact k p H' l (baseN np) I.1.1 I.1.2 ⟨g1, by omega⟩
def spGoesOn (K : PySem.W.Frag) : Sp := SpA K (α := Addr × Fld × List (Key × Dat)) (fun a => [.obj a.1, a.2.1.dat]) (fun a H => DctAt K a.1 a.2.2 H ∧ FOk a.2.1 ∧ KnOk (kindsOf a.2.1) a.2.2) fun _ d => ∃ b, d = .bl b
theorem w_goes_on (T : Tp K mg w cR cM cT aS aD) (G_kinds_in : Cl P w K mg base 1 "kinds_in" (spKindsIn K)) : Cl P w K mg base 2 "goes_on" (spGoesOn K) := by
  refine Cl.of (ps := ["known", "field"]) T.d_goes_on (fun f fd F => ?_) fun _ _ _ _ _ _ us hl => match us, hl with | [_, _], _ => rfl
  refine F.ok sc_goes_on (fun vs H Q E h => ?_) (fun cdv A outer sh H vs Q E hr h => ?_)
  · obtain ⟨⟨kn, a, l⟩, al, _⟩ := h
    exact al.len
  obtain ⟨⟨kn, a, l⟩, al, pre, k⟩ := h
  try dsimp only at pre
  have hu := hu_of hr
  refine ⟨_, (pss_cons (ps_if (pt_cmpR (k_in K) (pe_ix (k_ixT K) (pv 1) pe_int (fun _ _ => rfl)) (pe_tupF (pa_cons pe_str (pa_cons pe_str pa_nil))) (by rfl)) (pss_one (ps_ret (pe_cmpR (k_eqD K hr.units) (pe_ix (k_ixT K) (pv 1) pe_int (fun _ _ => rfl)) (k_gref T.g_REST) (nomark _)))) pss_nil)
      (pss_cons (ps_if (pt_cmpR op_eq (pe_ix (k_ixT K) (pv 1) pe_int (fun _ _ => rfl)) pe_str (nomark _)) (pss_one (ps_ret (pe_cmpR (k_eqD K hr.units) (pe_ix (k_ixT K) (pv 1) pe_int (fun _ _ => rfl)) (k_gref T.g_REST) (nomark _)))) pss_nil)
      (pss_one (ps_ret (pe_and (pe_cmpR op_eq (pe_ix (k_ixT K) (pv 1) pe_int (fun _ _ => rfl)) pe_str (nomark _)) (pe_one (pe_callB (k_any K rfl) (by rfl) T.n_any (by decide +kernel) (pa_cons (pe_lc (g := (gName 2)) rfl sc_goes_on.nd (k_forL K (k_call G_kinds_in (hr.mono (by decide)) (pa_cons (pv 1) pa_nil))) (blkOk_by (own := [("kind", 2)]) (N := ["known", "field", "kind"]) (sc := defScope s_goes_on) (by decide +kernel)) (fun _ _ _ _ _ => (pg_name (i := 2) sc_goes_on.nd rfl (Or.inl rfl))) (fun _ _ _ _ _ => pts_nil) (fun _ _ _ _ _ => (pe_ix (k_ixT K) (pe_dget hu (pv 0) (pv 2) (fun _ _ => rfl)) pe_int (fun _ _ => rfl)))) pa_nil)))))))), ?_⟩
  obtain ⟨hd, fo, ko⟩ := pre
  obtain ⟨sn, dp, ok⟩ := id fo
  refine nx_go (W := .base H) (i := ()) ?_ (fun b o e => e) (Sls.start al _ rfl)
  have hk : ([some (.obj kn), some a.dat, none] : Ctx)[1]? = some (some (.tup (.str a.word :: a.tl))) := by rw [← a.dat_eq]; rfl
  refine sq_when (et_word2 (by exact hk) (fun e => ?_) fun e1 e2 => ?_)
  · have fin : ∀ H' v, Same H H' → At K H' v (.bl true) ∨ At K H' v (.bl false) → Q v H' := fun H' v s z => z.elim (fun z => k v H' _ s z ⟨_, rfl⟩) fun z => k v H' _ s z ⟨_, rfl⟩
    have fin' : ∀ b : Bool, Rt K (Wd.base H) () (.bl b) Q := fun b => rt_of fun H' v I z => fin H' v I (by cases b; exact .inr z; exact .inl z)
    rcases e with e | e
    · obtain ⟨n, l, rfl⟩ := a.inv.2.2.1 e
      exact nx_ret (rest_eq T.r_REST (ev_ix (ds := [.str "bytes", .str n, l.dat]) rfl rfl ⟨l, rfl, fun t k m z => by subst z; exact ok.2.2.2.2.2.2, fin' _⟩))
    · obtain ⟨n, l, kk, rfl⟩ := a.inv.2.2.2.2.2.2 e
      exact nx_ret (rest_eq T.r_REST (ev_ix (ds := [.str "carried", .str n, l.dat, .str kk]) rfl rfl ⟨l, rfl, fun t k m z => by subst z; exact ok.2.1.2.2.2.2.2, fin' _⟩))
  refine sq_when (et_word (by exact hk) (fun e => ?_) fun e3 => ?_)
  · obtain ⟨n, kk, t, rfl⟩ := a.inv.2.2.2.2.2.1 e
    exact nx_ret (rest_eqR T.r_REST (ev_ix (ds := [.str "row", .str n, .str kk, rowEnd t]) rfl rfl ⟨t, rfl, fun t z => (ok.2.2 t z).2, rt_of fun H' v I z => k v H' _ I z ⟨_, rfl⟩⟩))
  refine nx_ret (ev_andV (ev_op (ev_op (ev_var (by exact hk) (ev_int (op_ixT atI0 (ev_str (op_eqS ⟨_, rfl, ifD (fun e => ?_) fun e => ?_⟩))))))))
  · refine ev_any (el_lcN (el_call (ea_cons (ev_var rfl (ea_nil (call_AL a rfl (fun _ => fo) ?_))))))
    rintro ds rfl p np
    refine lc_name (k := 2) (wk_lst fun x => x.2) (by
      rw [List.length_map]
      obtain ⟨n, t, ks, rfl⟩ := a.inv.2.2.2.2.1 e
      have hl : ks.length ≤ 10 := ok.2.2.2.2.1
      show (ks.map (·.2)).length ≤ _
      rw [List.length_map]; omega) (fun m _ acc => ∃ bs : List Bool, acc = bs.map Dat.bl) ⟨[], rfl⟩ (by decide) ?_ ?_
    · rintro m _ acc d q nq hm hd' ⟨bs, rfl⟩
      obtain ⟨kd, hkd, rfl⟩ := get_map hd'
      obtain ⟨d, hlk, b, n, rfl⟩ := ko.look (List.mem_of_getElem? hkd)
      refine lct_yes (ev_op (ev_dget (ev_var rfl (ev_var rfl ⟨kn, l, kd, _, rfl, fun I => baseD hd I.1.1, rfl, hlk, ev_int (op_ixT rfl ⟨bs ++ [b], by simp⟩)⟩))))
    · rintro _ acc ⟨bs, rfl⟩
      exact ⟨bs, rfl, rt_of fun H' v I z => k v H' _ I z ⟨_, rfl⟩⟩
  · exact rt_of fun H' v I z => k v H' _ I z ⟨_, rfl⟩
def spLeastLength (K : PySem.W.Frag) : Sp := SpA K (α := Ln × Addr × List Str × List (Key × Dat)) (fun a => [a.1.dat, .obj a.2.1]) (fun a H => DctAt K a.2.1 a.2.2.2 H ∧ LnOk a.2.2.1 a.1 ∧ TgOk a.2.2.1 a.2.2.2) fun _ d => ∃ n, d = .int n
theorem w_least_length (T : Tp K mg w cR cM cT aS aD) : Cl P w K mg base 1 "least_length" (spLeastLength K) := by
  refine Cl.of (ps := ["length", "tags"]) T.d_least_length (fun f fd F => ?_) fun _ _ _ _ _ _ us hl => match us, hl with | [_, _], _ => rfl
  refine F.ok sc_least_length (fun vs H Q E h => ?_) (fun cdv A outer sh H vs Q E hr h => ?_)
  · obtain ⟨⟨ln, td, sn, l⟩, al, _⟩ := h
    exact al.len
  obtain ⟨⟨ln, td, sn, l⟩, al, pre, k⟩ := h
  try dsimp only at pre
  have hu := hu_of hr
  refine ⟨_, (pss_cons (ps_if (pt_cmpR op_eq (pe_ix (k_ixT K) (pv 0) pe_int (fun _ _ => rfl)) pe_str (nomark _)) (pss_one (ps_ret (pe_ix (k_ixT K) (pv 0) pe_int (fun _ _ => rfl)))) pss_nil)
      (pss_cons (ps_if (pt_cmpR op_eq (pe_ix (k_ixT K) (pv 0) pe_int (fun _ _ => rfl)) pe_str (nomark _)) (pss_cons (ps_asg (pv 0) (k_tup K rfl (pgs_cons (pg_name (i := 2) sc_least_length.nd rfl (Or.inl rfl)) (pgs_cons (pg_name (i := 3) sc_least_length.nd rfl (Or.inl rfl)) (pgs_cons (pg_name (i := 4) sc_least_length.nd rfl (Or.inl rfl)) (pgs_cons (pg_name (i := 5) sc_least_length.nd rfl (Or.inl rfl)) pgs_nil))))))
      (pss_one (ps_ret (pe_callB (k_max rfl) (by rfl) T.n_max (by decide +kernel) (pa_cons pe_int (pa_cons (pe_op op_add (pe_op op_mul (pv 4) (pe_ix (k_ixT K) (pe_dget hu (pv 1) (pv 3) (fun _ _ => rfl)) pe_int (fun _ _ => rfl))) (pv 5)) pa_nil)))))) pss_nil)
      (pss_one (ps_ret pe_int)))), ?_⟩
  obtain ⟨hd, ok, tg⟩ := pre
  refine nx_go (W := .base H) (i := ()) ?_ (fun b o e => e) (Sls.start al _ rfl)
  have hk : ([some ln.dat, some (.obj td), none, none, none, none] : Ctx)[0]? = some (some (.tup (.str ln.word :: ln.tl))) := by rw [← ln.dat_eq]; rfl
  refine sq_when (et_word (by exact hk) (fun e => ?_) fun e1 => ?_)
  · obtain ⟨n, rfl⟩ := ln.inv.1 e
    exact nx_ret (ev_ix (ds := [.str "is", .int n]) rfl rfl (rt_of fun H' v I z => k v H' _ I z ⟨_, rfl⟩))
  refine sq_when (et_word (by exact hk) (fun e => ?_) fun e2 => ?_)
  · obtain ⟨t, x, m, rfl⟩ := ln.inv.2.1 e
    obtain ⟨d, hlk, a, b, rfl, hb⟩ := tg.look ok.1
    refine sq_asg (ev_var rfl (tg_tup (ds := [.str "of", .str t, .int x, .int m]) rfl (tgs_cons (tg_name (tgs_cons (tg_name (tgs_cons (tg_name (tgs_cons (tg_name (tgs_nil ?_)))))))))))
    refine nx_ret (ev_max2 (ev_int (ev_op (ev_op (ev_var rfl ?_)))))
    refine ev_op (ev_dget (ev_var rfl (ev_var rfl ⟨td, l, t, _, rfl, fun I => baseD hd I, rfl, hlk, ?_⟩)))
    refine ev_int (op_ixT rfl (op_int1 ?_ (ev_var rfl (op_int0 ⟨_, _, rfl, rfl, ?_⟩))))
    · left; have := ok.2; omega
    · exact rt_of fun H' v I z => k v H' _ I z ⟨_, rfl⟩
  exact nx_ret (ev_int (rt_of fun H' v I z => k v H' _ I z ⟨_, rfl⟩))
def LfPre (K : PySem.W.Frag) (a : Addr × Fld × Addr × List Str × List Str × List (Key × Dat) × List (Key × Dat)) (H : Hp) : Prop := match a with
  | (kn, f, td, sn, dp, kl, tl) => DctAt K kn kl H ∧ DctAt K td tl H ∧ FldOk sn dp f ∧ KnOk (kindsOf f) kl ∧ TgOk sn tl
def spLeastField (K : PySem.W.Frag) : Sp := SpA K (α := Addr × Fld × Addr × List Str × List Str × List (Key × Dat) × List (Key × Dat)) (fun a => [.obj a.1, a.2.1.dat, .obj a.2.2.1]) (LfPre K) fun _ d => ∃ n, d = .int n
theorem w_least_field (T : Tp K mg w cR cM cT aS aD) (G_kinds_in : Cl P w K mg base 1 "kinds_in" (spKindsIn K)) (G_least_length : Cl P w K mg base 1 "least_length" (spLeastLength K)) : Cl P w K mg base 2 "least_field" (spLeastField K) := by
  refine Cl.of (ps := ["known", "field", "tags"]) T.d_least_field (fun f fd F => ?_) fun _ _ _ _ _ _ us hl => match us, hl with | [_, _, _], _ => rfl
  refine F.ok sc_least_field (fun vs H Q E h => ?_) (fun cdv A outer sh H vs Q E hr h => ?_)
  · obtain ⟨⟨kn, a, td, sn, dp, kl, tl⟩, al, _⟩ := h
    exact al.len
  obtain ⟨⟨kn, a, td, sn, dp, kl, tl⟩, al, pre, k⟩ := h
  try dsimp only at pre
  have hu := hu_of hr
  refine ⟨_, (pss_cons (ps_if (pt_cmpR op_eq (pe_ix (k_ixT K) (pv 1) pe_int (fun _ _ => rfl)) pe_str (nomark _)) (pss_one (ps_ret (pe_ix (k_ixT K) (pv 1) pe_int (fun _ _ => rfl)))) pss_nil)
      (pss_cons (ps_if (pt_cmpR (k_in K) (pe_ix (k_ixT K) (pv 1) pe_int (fun _ _ => rfl)) (pe_tupF (pa_cons pe_str (pa_cons pe_str pa_nil))) (by rfl)) (pss_one (ps_ret pe_int)) pss_nil)
      (pss_cons (ps_if (pt_cmpR (k_in K) (pe_ix (k_ixT K) (pv 1) pe_int (fun _ _ => rfl)) (pe_tupF (pa_cons pe_str (pa_cons pe_str pa_nil))) (by rfl)) (pss_one (ps_ret (k_call G_least_length (hr.mono (by decide)) (pa_cons (pe_ix (k_ixT K) (pv 1) pe_int (fun _ _ => rfl)) (pa_cons (pv 2) pa_nil))))) pss_nil)
      (pss_cons (ps_if (pt_cmpR op_eq (pe_ix (k_ixT K) (pv 1) pe_int (fun _ _ => rfl)) pe_str (nomark _)) (pss_one ps_never) pss_nil)
      (pss_cons (ps_if (pt_cmpR op_eq (pe_ix (k_ixT K) (pv 1) pe_int (fun _ _ => rfl)) pe_str (nomark _)) (pss_one (ps_ret (pe_callB (k_minL K rfl) (by rfl) T.n_min (by decide +kernel) (pa_cons (pe_lc (g := (gName 3)) rfl sc_least_field.nd (k_forL K (k_call G_kinds_in (hr.mono (by decide)) (pa_cons (pv 1) pa_nil))) (blkOk_by (own := [("kind", 3)]) (N := ["known", "field", "tags", "kind"]) (sc := defScope s_least_field) (by decide +kernel)) (fun _ _ _ _ _ => (pg_name (i := 3) sc_least_field.nd rfl (Or.inl rfl))) (fun _ _ _ _ _ => pts_nil) (fun _ _ _ _ _ => (pe_ix (k_ixT K) (pe_dget hu (pv 0) (pv 3) (fun _ _ => rfl)) pe_int (fun _ _ => rfl)))) pa_nil)))) pss_nil)
      (pss_one (ps_ret (pe_ifExp (pt_cmpR (k_eqD K hr.units) (pe_ix (k_ixT K) (pv 1) pe_int (fun _ _ => rfl)) (k_gref T.g_REST) (nomark _)) pe_int (pe_op op_mul (pe_ix (k_ixT K) (pe_dget hu (pv 2) (pe_ix (k_ixT K) (pe_ix (k_ixT K) (pv 1) pe_int (fun _ _ => rfl)) pe_int (fun _ _ => rfl)) (fun _ _ => rfl)) pe_int (fun _ _ => rfl)) (pe_ix (k_ixT K) (pe_dget hu (pv 0) (pe_ix (k_ixT K) (pv 1) pe_int (fun _ _ => rfl)) (fun _ _ => rfl)) pe_int (fun _ _ => rfl))))))))))), ?_⟩
  obtain ⟨hkn, htd, ok, ko, tg⟩ := pre
  refine nx_go (W := .base H) (i := ()) ?_ (fun b o e => e) (Sls.start al _ rfl)
  have hk : ([some (.obj kn), some a.dat, some (.obj td), none] : Ctx)[1]? = some (some (.tup (.str a.word :: a.tl))) := by rw [← a.dat_eq]; rfl
  have fin : ∀ n, Rt K (Wd.base H) () (.int n) Q := fun n => rt_of fun H' v I z => k v H' _ I z ⟨_, rfl⟩
  have finL : ∀ ln : Ln, LnOk sn ln → CallOk K (Wd.base H) () (spLeastLength K) [ln.dat, .obj td] fun j d => Rt K (Wd.base H) j d Q := fun ln hl =>
    call_A (ln, td, sn, tl) rfl (fun I => ⟨baseD htd I, hl, tg⟩) (by rintro _ ⟨n, rfl⟩; exact fin n)
  refine sq_when (et_word (by exact hk) (fun e => ?_) fun e1 => ?_)
  · obtain ⟨n, s, o, l, m, rfl⟩ := a.inv.1 e
    exact nx_ret (ev_ix (ds := [.str "number", .str n, .int s, .str o, .int l, .int m]) rfl rfl (fin _))
  refine sq_when (et_word2 (by exact hk) (fun e => nx_ret (ev_int (fin _))) fun e2 e3 => ?_)
  refine sq_when (et_word2 (by exact hk) (fun e => ?_) fun e4 e5 => ?_)
  · rcases e with e | e
    · obtain ⟨n, l, rfl⟩ := a.inv.2.2.1 e
      exact nx_ret (ev_call (ea_cons (ev_ix (ds := [.str "bytes", .str n, l.dat]) rfl rfl (ea_cons (ev_var rfl (ea_nil (finL l ok.2)))))))
    · obtain ⟨n, l, kk, rfl⟩ := a.inv.2.2.2.2.2.2 e
      exact nx_ret (ev_call (ea_cons (ev_ix (ds := [.str "carried", .str n, l.dat, .str kk]) rfl rfl (ea_cons (ev_var rfl (ea_nil (finL l ok.2.1)))))))
  refine sq_when (et_word (by exact hk) (fun e => ?_) fun e6 => ?_)
  · exfalso
    cases a <;> (revert e; simp only [Fld.word]; decide +kernel)
  refine sq_when (et_word (by exact hk) (fun e => ?_) fun e7 => ?_)
  · obtain ⟨n, t, ks, rfl⟩ := a.inv.2.2.2.2.1 e
    refine nx_ret (ev_minL (el_lcN (el_call (ea_cons (ev_var rfl (ea_nil (call_AL (.choice n t ks) rfl (fun _ => ⟨sn, dp, ok⟩) ?_)))))))
    rintro ds rfl p np
    have hl : ks.length ≤ 10 := ok.2.2.2.2.1
    have hl2 : (kindsOf (.choice n t ks)).length = ks.length := List.length_map ..
    refine lc_name (k := 3) (wk_lst fun x => x.2) (by rw [List.length_map]; omega) (fun m _ acc => ∃ ns : List Int, acc = ns.map Dat.int ∧ ns.length = m) ⟨[], rfl, rfl⟩ (by decide) ?_ ?_
    · rintro m _ acc d q nq hm hd' ⟨ns, rfl, hns⟩
      obtain ⟨kd, hkd, rfl⟩ := get_map hd'
      obtain ⟨d, hlk, b, n, rfl⟩ := ko.look (List.mem_of_getElem? hkd)
      refine lct_yes (ev_op (ev_dget (ev_var rfl (ev_var rfl ⟨kn, kl, kd, _, rfl, fun I => baseD hkn I.1.1, rfl, hlk, ev_int (op_ixT rfl ⟨ns ++ [n], by simp, by simp [hns]⟩)⟩))))
    · rintro _ acc ⟨ns, rfl, hns⟩
      refine ⟨ns, rfl, ?_, fun m _ => fin m⟩
      rw [hns, List.length_map, hl2]
      exact List.length_pos_iff.mpr ok.2.2.1
  obtain ⟨n, kk, t, rfl⟩ : ∃ n kk t, a = .row n kk t := by
    cases a with
    | number => exact absurd rfl e1
    | bits => exact absurd rfl e2
    | bytes => exact absurd rfl e4
    | text => exact absurd rfl e3
    | choice => exact absurd rfl e7
    | row n kk t => exact ⟨_, _, _, rfl⟩
    | carried => exact absurd rfl e5
  refine nx_ret (ev_ifx (et_test (rest_eqR T.r_REST (ev_ix (ds := [.str "row", .str n, .str kk, rowEnd t]) rfl rfl ⟨t, rfl, fun x z => (ok.2.2 x z).2, _, rfl, ?_⟩))))
  cases t with
  | none => exact ifT rfl (ev_int (fin _))
  | some x =>
    refine ifF rfl ?_
    obtain ⟨d, hlk, p, q, rfl, hb⟩ := tg.look (ok.2.2 x rfl).1
    obtain ⟨d, hlk2, b, n', rfl⟩ := ko.look (x := kk) List.mem_cons_self
    refine ev_op (ev_op (ev_dget (ev_var rfl ?_)))
    refine ev_ix2 (ds := [.str "row", .str n, .str kk, rowEnd (some x)]) (es := [.str "of", .str x]) rfl rfl rfl ⟨td, tl, x, _, rfl, fun I => baseD htd I, rfl, hlk, ev_int (op_ixT rfl ?_)⟩
    refine ev_op (ev_dget (ev_var rfl ?_))
    refine ev_ix (ds := [.str "row", .str n, .str kk, rowEnd (some x)]) rfl rfl ⟨kn, kl, kk, _, rfl, fun I => baseD hkn I, rfl, hlk2, ev_int (op_ixT rfl (op_int1 ?_ (fin _)))⟩
    left; omega
def spLengthBy (K : PySem.W.Frag) : Sp := SpA K (α := Ln × Addr × Int × List Str × Tags) (fun a => [a.1.dat, .obj a.2.1, .int a.2.2.1]) (fun a H => DctAt K a.2.1 a.2.2.2.2 H ∧ LnOk a.2.2.2.1 a.1 ∧ ∀ x ∈ a.2.2.2.1, ∃ v, dlook a.2.2.2.2 (.inr x) = some (.int v)) fun a d => d = .int (lenBy a.1 a.2.2.2.2 a.2.2.1)
theorem w_length_by (T : Tp K mg w cR cM cT aS aD) : Cl P w K mg base 1 "length_by" (spLengthBy K) := by
  refine Cl.of (ps := ["length", "tags", "left"]) T.d_length_by (fun f fd F => ?_) fun _ _ _ _ _ _ us hl => match us, hl with | [_, _, _], _ => rfl
  refine F.ok sc_length_by (fun vs H Q E h => ?_) (fun cdv A outer sh H vs Q E hr h => ?_)
  · obtain ⟨⟨ln, td, left, sn, l⟩, al, _⟩ := h
    exact al.len
  obtain ⟨⟨ln, td, left, sn, l⟩, al, pre, k⟩ := h
  try dsimp only at pre
  have hu := hu_of hr
  refine ⟨_, (pss_cons (ps_if (pt_cmpR op_eq (pe_ix (k_ixT K) (pv 0) pe_int (fun _ _ => rfl)) pe_str (nomark _)) (pss_one (ps_ret (pe_ix (k_ixT K) (pv 0) pe_int (fun _ _ => rfl)))) pss_nil)
      (pss_cons (ps_if (pt_cmpR op_eq (pe_ix (k_ixT K) (pv 0) pe_int (fun _ _ => rfl)) pe_str (nomark _)) (pss_one (ps_ret (pv 2))) pss_nil)
      (pss_one (ps_ret (pe_op op_add (pe_op op_mul (pe_dget hu (pv 1) (pe_ix (k_ixT K) (pv 0) pe_int (fun _ _ => rfl)) (fun _ _ => rfl)) (pe_ix (k_ixT K) (pv 0) pe_int (fun _ _ => rfl))) (pe_ix (k_ixT K) (pv 0) pe_int (fun _ _ => rfl))))))), ?_⟩
  obtain ⟨hd, ok, tg⟩ := pre
  refine nx_go (W := .base H) (i := ()) ?_ (fun b o e => e) (Sls.start al _ rfl)
  have hk : ([some ln.dat, some (.obj td), some (.int left)] : Ctx)[0]? = some (some (.tup (.str ln.word :: ln.tl))) := by rw [← ln.dat_eq]; rfl
  refine sq_when (et_word (by exact hk) (fun e => ?_) fun e1 => ?_)
  · obtain ⟨n, rfl⟩ := ln.inv.1 e
    exact nx_ret (ev_ix (ds := [.str "is", .int n]) rfl rfl (rt_of fun H' v I z => k v H' _ I z rfl))
  refine sq_when (et_word (by exact hk) (fun e => ?_) fun e2 => ?_)
  · obtain rfl := ln.inv.2.2 e
    exact nx_ret (ev_var rfl (rt_of fun H' v I z => k v H' _ I z rfl))
  obtain ⟨t, x, m, rfl⟩ : ∃ t x m, ln = .of t x m := by
    cases ln with
    | is => exact absurd rfl e1
    | rest => exact absurd rfl e2
    | of t x m => exact ⟨_, _, _, rfl⟩
  obtain ⟨v, hv⟩ := tg t ok.1
  have e0 : lenBy (.of t x m) l left = v * x + m := by simp only [lenBy, tagv, hv]
  refine nx_ret (ev_op (ev_op (ev_dget (ev_var rfl ?_))))
  refine ev_ix (ds := [.str "of", .str t, .int x, .int m]) rfl rfl ⟨td, l, t, _, rfl, fun I => baseD hd I, rfl, hv, ?_⟩
  refine ev_ix (ds := [.str "of", .str t, .int x, .int m]) rfl rfl (op_int1 ?_ ?_)
  · right; have := ok.2; omega
  · exact ev_ix (ds := [.str "of", .str t, .int x, .int m]) rfl rfl (op_int0 (rt_of fun H' v I z => k v H' _ I z (congrArg Dat.int e0.symm)))
def leftAt (v w : Int) : Nat → Int
  | 0 => 8
  | 1 => 8 - v
  | _ => 8 - v - w
theorem parts_step {by_ v w : Int} {n1 n2 : Str} (h1 : 1 ≤ v) (h2 : v ≤ 7) (h3 : w = 8 - v) {m : Nat} {d : Dat} (hd : [Dat.tup [.str n1, .int v], .tup [.str n2, .int w]][m]? = some d) : ∃ (n : Str) (u e : Int), d = .tup [.str n, .int u] ∧ leftAt v w (m + 1) = leftAt v w m - u ∧ 0 ≤ u ∧ u ≤ 7 ∧ 0 ≤ leftAt v w m - u ∧
    e = (by_ / 2 ^ (leftAt v w m - u).toNat) % (1 * 2 ^ u.toNat) ∧ [Dat.int (bitA by_ v), .int (bitB by_ v w)].take (m + 1) = [Dat.int (bitA by_ v), .int (bitB by_ v w)].take m ++ [.int e] := by
  match m, hd with
  | 0, hd => cases hd; exact ⟨n1, v, _, rfl, rfl, by omega, by omega, by show 0 ≤ 8 - v; omega, rfl, by simp [bitA, leftAt]⟩
  | 1, hd => cases hd; exact ⟨n2, w, _, rfl, rfl, by omega, by omega, by show 0 ≤ 8 - v - w; omega, rfl, by simp [bitB, leftAt]⟩
  | m + 2, hd => cases hd
def spPartsOf (K : PySem.W.Frag) : Sp := SpA K (α := Int × Str × Int × Str × Int) (fun a => [.int a.1, .tup [.tup [.str a.2.1, .int a.2.2.1], .tup [.str a.2.2.2.1, .int a.2.2.2.2]]]) (fun a _ => 1 ≤ a.2.2.1 ∧ a.2.2.1 ≤ 7 ∧ a.2.2.2.2 = 8 - a.2.2.1) fun a d => d = .tup [.int (bitA a.1 a.2.2.1), .int (bitB a.1 a.2.2.1 a.2.2.2.2)]
theorem w_parts_of (T : Tp K mg w cR cM cT aS aD) : Cl P w K mg base 1 "parts_of" (spPartsOf K) := by
  refine Cl.of (ps := ["byte", "parts"]) T.d_parts_of (fun f fd F => ?_) fun _ _ _ _ _ _ us hl => match us, hl with | [_, _], _ => rfl
  refine F.ok sc_parts_of (fun vs H Q E h => ?_) (fun cdv A outer sh H vs Q E hr h => ?_)
  · obtain ⟨⟨by_, n1, v, n2, w2⟩, al, _⟩ := h
    exact al.len
  obtain ⟨⟨by_, n1, v, n2, w2⟩, al, pre, k⟩ := h
  try dsimp only at pre
  have hu := hu_of hr
  refine ⟨_, (pss_cons (ps_set (i := 2) sc_parts_of.nd rfl (Or.inl rfl) (pe_lst pa_nil))
      (pss_cons (ps_set (i := 3) sc_parts_of.nd rfl (Or.inl rfl) pe_int)
      (pss_cons (ps_for PassesOwn.never rfl (k_forT K (pv 1)) (k_tup K rfl (pgs_cons (pg_name (i := 4) sc_parts_of.nd rfl (Or.inl rfl)) (pgs_cons (pg_name (i := 5) sc_parts_of.nd rfl (Or.inl rfl)) pgs_nil))) (pss_cons (ps_aug (i := 3) sc_parts_of.nd rfl (Or.inl rfl) (pv 5) ip_sub)
      (pss_one (ps_expr (k_append K (pv 2) (pe_op op_mod (pe_op op_shr (pv 0) (pv 3)) (pe_op op_shl pe_int (pv 5))))))))
      (pss_one (ps_ret (pe_callTy (k_tupOf K) (by rfl) T.n_tuple (by decide +kernel) (pa_cons (pv 2) pa_nil))))))), ?_⟩
  obtain ⟨h1, h2, h3⟩ := pre
  refine nx_go (W := .base H) (i := ()) ?_ (fun b o e => e) (Sls.start al _ rfl)
  refine sq_setL (el_lst (ea_nil ⟨by decide, fun p np => ?_⟩))
  refine sq_set (ev_int ?_)
  refine sq_forT (ev_var rfl ⟨_, rfl, fun b => ?_⟩)
  refine sq_loop (κ := List Dat) (Wf := fun l => ((Wd.base H).own p (LstAt K p l) (lst_shp K p l) np).keep K (.ref b) (.tup [.tup [.str n1, .int v], .tup [.str n2, .int w2]])) (fun m l _ Γ => ∃ x y, Γ = [some (.int by_), some (.tup [.tup [.str n1, .int v], .tup [.str n2, .int w2]]), some (.obj p), some (.int (leftAt v w2 m)), x, y] ∧ l = [Dat.int (bitA by_ v), .int (bitB by_ v w2)].take m) [] (fun _ => wk_tup fun x => x.2) ?_ ?_ ?_
  · exact ⟨none, none, rfl, rfl⟩
  · rintro m l _ Γ d hm hd ⟨x, y, rfl, rfl⟩
    obtain ⟨n, u, e, rfl, hn, hu0, hu1, he0, he1, he2⟩ := parts_step (by_ := by_) h1 h2 h3 hd
    refine tg_tup rfl (tgs_cons (tg_name (tgs_cons (tg_name (tgs_nil ?_)))))
    refine sq_aug rfl (ev_var rfl ⟨u, rfl, ?_⟩)
    refine nx_append OwnAt.here.keep (ev_var rfl ⟨rfl, rfl, by rw [List.length_take]; exact Nat.le_trans (Nat.min_le_right ..) (by show 2 ≤ 1000000; decide), ?_⟩)
    refine ev_op (ev_op (ev_var rfl (ev_var rfl (op_int1 he0 (ev_op (ev_int (ev_var rfl (op_int1 ⟨hu0, by omega, by decide⟩ (op_int1 ?_ ?_)))))))))
    · have : (0 : Int) < 2 ^ u.toNat := Int.pow_pos (by decide)
      omega
    · refine fun H' σ I E => Lp.of _ I E ?_
      refine ⟨some (.str n), some (.int u), ?_, ?_⟩
      · rw [hn]; rfl
      · rw [he2, he1]
  · rintro l _ Γ ⟨x, y, rfl, rfl⟩
    exact nx_ret (ev_tupOfL (ev_var rfl ⟨p, _, rfl, fun I => I.1.2, rt_of fun H' v I z => k v H' _ I.1.1 z rfl⟩))
end
end Lb
/-! text LbP -/
/-! The plain law: what a reading tells, and what a turned byte changes. -/
namespace Lb
open PySem L2
def Tile : List Spr → Int → Int → Prop
  | [], p, q => p = q
  | s :: r, p, q => s.b = p ∧ s.b ≤ s.e ∧ Tile r s.e q
theorem Tile.append : ∀ {a b : List Spr} {p q r : Int}, Tile a p q → Tile b q r → Tile (a ++ b) p r
  | [], _, _, _, _, h, g => by cases h; exact g
  | _ :: _, _, _, _, _, h, g => ⟨h.1, h.2.1, Tile.append h.2.2 g⟩
theorem Tile.le : ∀ {a : List Spr} {p q : Int}, Tile a p q → p ≤ q
  | [], _, _, h => Int.le_of_eq h
  | s :: r, p, q, h => by have := Tile.le h.2.2; have := h.1; have := h.2.1; omega
def OwnS (bs : List Int) (s : Spr) : Prop := 0 ≤ s.b ∧ s.e ≤ bs.length ∧ (s.what = "bytes" → s.worth = bytesD (cutB bs s.b (s.e - s.b))) ∧ (s.what = "text" → s.worth = bytesD (cutB bs s.b (s.e - 1 - s.b)) ∧ s.b + 1 ≤ s.e)
def fixS (bs' : List Int) (s : Spr) : Spr := if s.what = "bytes" then { s with worth := bytesD (cutB bs' s.b (s.e - s.b)) } else s
def badS (s : Spr) : Prop := s.what ≠ "bytes" ∧ s.what ≠ "unknown" ∧ ¬ (s.what = "lacking" ∧ s.worth ≠ .str "mark")
def Clear (x : Nat) (sp : List Spr) : Prop := ∀ s ∈ sp, badS s → ¬ (s.b ≤ x ∧ (x : Int) < s.e)
structure Sim (bs bs' : List Int) (x : Nat) : Prop where
  len : bs'.length = bs.length
  at_ : ∀ i : Nat, i ≠ x → bs'[i]? = bs[i]?
theorem cut_same {bs bs' : List Int} {x : Nat} (S : Sim bs bs' x) {p n : Int} (hp : 0 ≤ p) (hn : 0 ≤ n) (h : ¬ (p ≤ x ∧ (x : Int) < p + n)) : cutB bs' p n = cutB bs p n := by
  unfold cutB
  apply List.ext_getElem?
  intro i
  rw [List.getElem?_take, List.getElem?_take, List.getElem?_drop, List.getElem?_drop]
  split
  · rw [S.at_]
    omega
  · rfl
theorem cut_len {bs : List Int} {p n : Int} (hp : 0 ≤ p) (hn : 0 ≤ n) (h : p + n ≤ bs.length) : (cutB bs p n).length = n.toNat := by
  unfold cutB
  rw [List.length_take, List.length_drop]
  omega
/-- what holds of a reading from p on, with the end E: r on bs, r' on bs' -/
structure Good (bs bs' : List Int) (x : Nat) (E p : Int) (r r' : List Spr × Int × Bool) : Prop where
  tile : Tile r.1 p r.2.1
  hi : r.2.1 ≤ E
  nok : r.2.2 = false → r.2.1 = E
  own : ∀ s ∈ r.1, OwnS bs s
  ni : Clear x r.1 → r' = (r.1.map (fixS bs'), r.2)
theorem Good.lo {bs bs' : List Int} {x : Nat} {E p : Int} {r r' : List Spr × Int × Bool} (g : Good bs bs' x E p r r') : p ≤ r.2.1 := g.tile.le
def InGood (bs bs' : List Int) (x : Nat) (deep : List Str) (inn inn' : Inner) : Prop := ∀ (k : Str) (p E : Int) (path : List Dat), k ∈ deep → 0 ≤ p → p ≤ E → E ≤ bs.length →
  Good bs bs' x E p (inn k p E path) (inn' k p E path) ∧ ((inn k p E path).2.2 = true → p + 1 ≤ (inn k p E path).2.1)
def TagsOk (seen : List Str) (t : Tags) : Prop := ∀ x ∈ seen, ∃ v, dlook t (.inr x) = some (.int v) ∧ 0 ≤ v ∧ v ≤ 65535
/-- the same of a field, tags with it -/
structure GoodF (bs bs' : List Int) (x : Nat) (seen : List Str) (E p : Int) (f : Fld) (r r' : Res) : Prop where
  tile : Tile r.1 p (if r.2.2.2 = true then r.2.1 else E)
  hi : r.2.2.2 = true → r.2.1 ≤ E
  own : ∀ s ∈ r.1, OwnS bs s
  tags : r.2.2.2 = true → TagsOk (seen ++ decl f) r.2.2.1
  ni : Clear x r.1 → r' = (r.1.map (fixS bs'), r.2)
section
variable {bs bs' : List Int} {x : Nat} {E p : Int} {path : List Dat} {name word : Str}
theorem stop_tile {p' : Int} (h : p' ≤ E) : Tile (stopS p' E path word) p' E := by
  unfold stopS
  split
  · exact ⟨rfl, h, rfl⟩
  · show p' = E; omega
theorem ne_ub : ¬ (("unknown" : Str) = "bytes") := by decide +kernel
theorem ne_ut : ¬ (("unknown" : Str) = "text") := by decide +kernel
theorem ne_lb : ¬ (("lacking" : Str) = "bytes") := by decide +kernel
theorem ne_lt : ¬ (("lacking" : Str) = "text") := by decide +kernel
theorem ne_lu : ¬ (("lacking" : Str) = "unknown") := by decide +kernel
theorem ne_fb : ¬ (("faulty" : Str) = "bytes") := by decide +kernel
theorem ne_ft : ¬ (("faulty" : Str) = "text") := by decide +kernel
theorem ne_fu : ¬ (("faulty" : Str) = "unknown") := by decide +kernel
theorem ne_fl : ¬ (("faulty" : Str) = "lacking") := by decide +kernel
theorem ne_nb : ¬ (("number" : Str) = "bytes") := by decide +kernel
theorem ne_nt : ¬ (("number" : Str) = "text") := by decide +kernel
theorem ne_nu : ¬ (("number" : Str) = "unknown") := by decide +kernel
theorem ne_nl : ¬ (("number" : Str) = "lacking") := by decide +kernel
theorem ne_bb : ¬ (("bits" : Str) = "bytes") := by decide +kernel
theorem ne_bt : ¬ (("bits" : Str) = "text") := by decide +kernel
theorem ne_bu : ¬ (("bits" : Str) = "unknown") := by decide +kernel
theorem ne_bl : ¬ (("bits" : Str) = "lacking") := by decide +kernel
theorem ne_tb : ¬ (("text" : Str) = "bytes") := by decide +kernel
theorem ne_tu : ¬ (("text" : Str) = "unknown") := by decide +kernel
theorem ne_tl : ¬ (("text" : Str) = "lacking") := by decide +kernel
theorem ne_byt : ¬ (("bytes" : Str) = "text") := by decide +kernel
theorem stop_own {p' : Int} (h0 : 0 ≤ p') (hE : E ≤ bs.length) : ∀ s ∈ stopS p' E path word, OwnS bs s := by
  intro s hs
  unfold stopS at hs
  split at hs
  · rw [List.mem_singleton.mp hs]
    exact ⟨h0, hE, fun z => absurd z ne_ub, fun z => absurd z ne_ut⟩
  · cases hs
theorem stop_fix {p' : Int} : (stopS p' E path word).map (fixS bs') = stopS p' E path word := by
  unfold stopS
  split
  · show [fixS bs' _] = _
    unfold fixS
    rw [if_neg ne_ub]
  · rfl
theorem lack_tile (h : p ≤ E) : Tile (lackS p E path name word) p E := ⟨rfl, h, rfl⟩
theorem lack_own (h0 : 0 ≤ p) (hE : E ≤ bs.length) : ∀ s ∈ lackS p E path name word, OwnS bs s := by
  intro s hs
  rw [List.mem_singleton.mp hs]
  exact ⟨h0, hE, fun z => absurd z ne_lb, fun z => absurd z ne_lt⟩
theorem lack_fix : (lackS p E path name word).map (fixS bs') = lackS p E path name word := by
  show [fixS bs' _] = _
  unfold fixS
  rw [if_neg ne_lb]
  rfl
theorem fail_tile {n : Int} (hn : 0 ≤ n) (h : p + n ≤ E) : Tile (failS p n E path name word) p E := ⟨rfl, by show p ≤ p + n; omega, stop_tile h⟩
theorem fail_own {n : Int} (h0 : 0 ≤ p) (hn : 0 ≤ n) (h : p + n ≤ E) (hE : E ≤ bs.length) : ∀ s ∈ failS p n E path name word, OwnS bs s := by
  intro s hs
  rcases List.mem_cons.mp hs with e | e
  · rw [e]
    exact ⟨h0, by show p + n ≤ _; omega, fun z => absurd z ne_fb, fun z => absurd z ne_ft⟩
  · exact stop_own (by omega) hE s e
theorem fail_fix {n : Int} : (failS p n E path name word).map (fixS bs') = failS p n E path name word := by
  show fixS bs' _ :: (stopS _ _ _ _).map _ = _
  rw [stop_fix]
  unfold fixS
  rw [if_neg ne_fb]
  rfl
theorem TagsOk.mono {s s' : List Str} {t : Tags} (h : TagsOk s t) (g : ∀ x ∈ s', x ∈ s) : TagsOk s' t := fun x hx => h x (g x hx)
theorem TagsOk.put {s : List Str} {t : Tags} {n : Str} {v : Int} (h : TagsOk s t) (h0 : 0 ≤ v) (h1 : v ≤ 65535) : TagsOk (s ++ [n]) (dput t (.inr n) (.int v)) := by
  intro x hx
  rw [dlook_put]
  by_cases e : x = n
  · rw [if_pos (by rw [e])]; exact ⟨v, rfl, h0, h1⟩
  · rw [if_neg fun z => e (Sum.inr.inj z)]
    refine h x ((List.mem_append.mp hx).resolve_right fun z => e (List.mem_singleton.mp z))
theorem TagsOk.tagv {s : List Str} {t : Tags} {n : Str} (h : TagsOk s t) (hn : n ∈ s) : dlook t (.inr n) = some (.int (tagv t n)) ∧ 0 ≤ Lb.tagv t n ∧ Lb.tagv t n ≤ 65535 := by
  obtain ⟨v, h1, h2, h3⟩ := h n hn
  have : Lb.tagv t n = v := by simp only [Lb.tagv, h1]
  rw [this]
  exact ⟨h1, h2, h3⟩
theorem idx_first {m : Int} : ∀ {xs : List Int} {i : Nat}, xs[i]? = some m → xs.idxOf m ≤ i
  | [], _, h => by cases h
  | y :: ys, i, h => by
    rw [List.idxOf_cons]
    cases e : (y == m) with
    | true => simp
    | false =>
      cases i with
      | zero =>
        have : y = m := Option.some.inj h
        rw [this] at e
        simp at e
      | succ i =>
        have := idx_first (xs := ys) (i := i) h
        simp
        exact this
theorem idx_same {xs ys : List Int} {m : Int} (h : m ∈ xs) (hl : ys.length = xs.length) (he : ∀ i, i ≤ xs.idxOf m → ys[i]? = xs[i]?) : m ∈ ys ∧ ys.idxOf m = xs.idxOf m := by
  have hi : xs.idxOf m < xs.length := List.idxOf_lt_length_iff.mpr h
  have h1 : xs[xs.idxOf m]? = some m := by
    rw [List.getElem?_eq_getElem hi]
    exact congrArg some (List.getElem_idxOf hi)
  have h2 : ys[xs.idxOf m]? = some m := (he _ (Nat.le_refl _)).trans h1
  have hm : m ∈ ys := List.mem_of_getElem? h2
  refine ⟨hm, ?_⟩
  have hj : ys.idxOf m < ys.length := List.idxOf_lt_length_iff.mpr hm
  have h3 : ys[ys.idxOf m]? = some m := by
    rw [List.getElem?_eq_getElem hj]
    exact congrArg some (List.getElem_idxOf hj)
  have le1 : ys.idxOf m ≤ xs.idxOf m := idx_first h2
  have le2 : xs.idxOf m ≤ ys.idxOf m := idx_first ((he _ le1).symm.trans h3)
  omega
theorem Clear.app {a b : List Spr} (h : Clear x (a ++ b)) : Clear x a ∧ Clear x b := ⟨fun s hs => h s (List.mem_append.mpr (.inl hs)), fun s hs => h s (List.mem_append.mpr (.inr hs))⟩
theorem fix_other {s : Spr} (h : s.what ≠ "bytes") : fixS bs' s = s := by unfold fixS; rw [if_neg h]
/-- a plain reading of size n at p: clear of x, the bytes are the same -/
theorem clear_one {n : Int} {s : Spr} {r : List Spr} (h : Clear x (s :: r)) (hs : badS s) (e1 : s.b = p) (e2 : s.e = p + n) : ¬ (p ≤ x ∧ (x : Int) < p + n) := by
  have := h s List.mem_cons_self hs
  rw [e1, e2] at this
  exact this
theorem lenBy_is {l : Ln} {t : Tags} {left : Int} {s : List Str} (hl : LnOk s l) (h : 0 ≤ left) (hn : lenBy l t left < 0) : l.isRest = false := by
  cases l with
  | rest => exact absurd hn (by show ¬ left < 0; omega)
  | _ => rfl
variable {inn inn' : Inner} {deep seen : List Str} {t : Tags} {f : Fld}
theorem lookup_mem {v : Int} {k : Str} : ∀ {ks : List (Int × Str)}, ks.lookup v = some k → (v, k) ∈ ks
  | [], h => by cases h
  | (a, b) :: r, h => by
    unfold List.lookup at h
    split at h
    · rename_i e
      have e' : v = a := by simpa using e
      cases h
      rw [e']
      exact List.mem_cons_self
    · exact List.mem_cons_of_mem _ (lookup_mem h)
theorem good_row {k n : Str} {opn : Bool} (hi : InGood bs bs' x deep inn inn') (hk : k ∈ deep) (hE : E ≤ bs.length) : ∀ (m i : Nat) (p : Int), 0 ≤ p → p ≤ E → Good bs bs' x E p (rowGo inn k n opn E path m i p) (rowGo inn' k n opn E path m i p)
  | 0, i, p, h0, hp => ⟨rfl, hp, fun z => (by cases z), fun s hs => (by cases hs), fun _ => rfl⟩
  | m + 1, i, p, h0, hp => by
    unfold rowGo
    by_cases c : opn = true ∧ ¬ p < E
    · rw [if_pos c, if_pos c]
      exact ⟨rfl, hp, fun z => (by cases z), fun s hs => (by cases hs), fun _ => rfl⟩
    · rw [if_neg c, if_neg c]
      obtain ⟨g, _⟩ := hi k p E (path ++ [.str n, .int (i : Nat)]) hk h0 hp hE
      dsimp only
      cases z : (inn k p E (path ++ [.str n, .int (i : Nat)])).2.2 with
      | true =>
        rw [if_pos rfl]
        have g2 := good_row (n := n) (opn := opn) hi hk hE m (i + 1) _ (by have := g.lo; omega) g.hi
        refine ⟨g.tile.append g2.tile, g2.hi, g2.nok, fun s hs => ?_, fun cl => ?_⟩
        · rcases List.mem_append.mp hs with e | e
          · exact g.own s e
          · exact g2.own s e
        · obtain ⟨c1, c2⟩ := cl.app
          rw [g.ni c1]
          dsimp only
          rw [z, if_pos rfl, g2.ni c2]
          dsimp only
          rw [List.map_append]
      | false =>
        rw [if_neg (by simp)]
        refine ⟨g.tile, g.hi, fun _ => g.nok z, g.own, fun cl => ?_⟩
        rw [g.ni cl]
        dsimp only
        rw [z, if_neg (by simp)]
theorem good_field (S : Sim bs bs' x) (hb : ∀ y ∈ bs, 0 ≤ y ∧ y ≤ 255) (hi : InGood bs bs' x deep inn inn') (ok : FldOk seen deep f) (tg : TagsOk seen t) (h0 : 0 ≤ p) (hp : p ≤ E) (hE : E ≤ bs.length) :
    GoodF bs bs' x seen E p f (rdFld bs inn E path p t f) (rdFld bs' inn' E path p t f) := by
  cases f with
  | number n s o l m =>
    obtain ⟨_, hs, ho, hl0, hl1, hlm, hm⟩ := ok
    simp only [rdFld]
    by_cases c1 : p + s > E
    · rw [if_pos c1, if_pos c1]
      exact ⟨lack_tile hp, fun z => (by cases z), lack_own h0 hE, fun z => (by cases z), fun _ => by rw [lack_fix]⟩
    · rw [if_neg c1, if_neg c1]
      by_cases c2 : l ≤ numOf o (cutB bs p s) ∧ numOf o (cutB bs p s) ≤ m
      · rw [if_pos c2]
        refine ⟨⟨rfl, by show p ≤ p + s; omega, rfl⟩, fun _ => by show p + s ≤ E; omega, ?_, fun _ => ?_, fun cl => ?_⟩
        · intro y hy
          rw [List.mem_singleton.mp hy]
          exact ⟨h0, by show p + s ≤ _; omega, fun z => absurd z ne_nb, fun z => absurd z ne_nt⟩
        · exact tg.put (by omega) (by omega)
        · rw [cut_same S h0 (by omega) (clear_one (p := p) (n := s) cl ⟨ne_nb, ne_nu, fun z => ne_nl z.1⟩ rfl rfl), if_pos c2]
          show _ = ([fixS bs' _], _)
          rw [fix_other ne_nb]
      · rw [if_neg c2]
        refine ⟨fail_tile (by omega) (by omega), fun z => (by cases z), fail_own h0 (by omega) (by omega) hE, fun z => (by cases z), fun cl => ?_⟩
        rw [cut_same S h0 (by omega) (clear_one (p := p) (n := s) cl ⟨ne_fb, ne_fu, fun z => ne_fl z.1⟩ rfl rfl), if_neg c2]
        show _ = ((failS _ _ _ _ _ _).map _, _)
        rw [fail_fix]
  | bits a v b w =>
    obtain ⟨_, _, hv1, hv2, hw⟩ := ok
    simp only [rdFld]
    by_cases c1 : p + 1 > E
    · rw [if_pos c1, if_pos c1]
      exact ⟨lack_tile hp, fun z => (by cases z), lack_own h0 hE, fun z => (by cases z), fun _ => by rw [lack_fix]⟩
    · rw [if_neg c1, if_neg c1]
      have p7 : ∀ u : Int, 0 ≤ u → u ≤ 7 → (0 : Int) < 2 ^ u.toNat ∧ (2 : Int) ^ u.toNat ≤ 128 := by
        intro u hu0 hu1
        have : u.toNat ≤ 7 := by omega
        generalize u.toNat = k at this
        match k, this with
        | 0, _ | 1, _ | 2, _ | 3, _ | 4, _ | 5, _ | 6, _ | 7, _ => exact ⟨by decide, by decide⟩
      refine ⟨⟨rfl, by show p ≤ p + 1; omega, rfl⟩, fun _ => by show p + 1 ≤ E; omega, ?_, fun _ => ?_, fun cl => ?_⟩
      · intro y hy
        rw [List.mem_singleton.mp hy]
        exact ⟨h0, by show p + 1 ≤ _; omega, fun z => absurd z ne_bb, fun z => absurd z ne_bt⟩
      · have hmono : ∀ t', TagsOk ((seen ++ [a]) ++ [b]) t' → TagsOk (seen ++ decl (.bits a v b w)) t' := fun t' h => h.mono fun y hy => by
          rcases List.mem_append.mp hy with e | e
          · exact List.mem_append.mpr (.inl (List.mem_append.mpr (.inl e)))
          · exact List.mem_append.mpr (.inr e)
        have pv := p7 v (by omega) hv2
        have pw := p7 w (by omega) (by omega)
        refine hmono _ ((tg.put ?_ ?_).put ?_ ?_)
        · exact Int.emod_nonneg _ (by omega)
        · have := Int.emod_lt_of_pos ((cutB bs p 1).headD 0 / 2 ^ (8 - v).toNat) pv.1
          unfold bitA; omega
        · exact Int.emod_nonneg _ (by omega)
        · have := Int.emod_lt_of_pos ((cutB bs p 1).headD 0 / 2 ^ (8 - v - w).toNat) pw.1
          unfold bitB; omega
      · rw [cut_same S h0 (by omega) (clear_one (p := p) (n := 1) cl ⟨ne_bb, ne_bu, fun z => ne_bl z.1⟩ rfl rfl)]
        show _ = ([fixS bs' _], _)
        rw [fix_other ne_bb]
  | bytes n l =>
    simp only [rdFld]
    by_cases c1 : lenBy l t (E - p) < 0 ∧ l.isRest = false
    · rw [if_pos c1, if_pos c1]
      refine ⟨fail_tile (by omega) (by omega), fun z => (by cases z), fail_own h0 (by omega) (by omega) hE, fun z => (by cases z), fun cl => ?_⟩
      show _ = ((failS _ _ _ _ _ _).map _, _)
      rw [fail_fix]
    · rw [if_neg c1, if_neg c1]
      by_cases c2 : lenBy l t (E - p) < 0 ∨ p + lenBy l t (E - p) > E
      · rw [if_pos c2, if_pos c2]
        exact ⟨lack_tile hp, fun z => (by cases z), lack_own h0 hE, fun z => (by cases z), fun _ => by rw [lack_fix]⟩
      · rw [if_neg c2, if_neg c2]
        have e : p + lenBy l t (E - p) - p = lenBy l t (E - p) := by omega
        refine ⟨⟨rfl, by show p ≤ p + _; omega, rfl⟩, fun _ => by show p + _ ≤ E; omega, ?_, fun _ => tg.mono fun y hy => by simpa [decl] using hy, fun _ => ?_⟩
        · intro y hy
          rw [List.mem_singleton.mp hy]
          exact ⟨h0, by show p + _ ≤ _; omega, fun _ => by dsimp only; rw [e], fun z => absurd z ne_byt⟩
        · show _ = ([fixS bs' _], _)
          unfold fixS
          rw [if_pos rfl]
          dsimp only
          rw [e]
  | text n m =>
    simp only [rdFld]
    have lc : (cutB bs p (E - p)).length = (E - p).toNat := cut_len h0 (by omega) (by omega)
    by_cases c1 : m ∈ cutB bs p (E - p)
    · rw [if_pos c1]
      have hlt : (cutB bs p (E - p)).idxOf m < (cutB bs p (E - p)).length := List.idxOf_lt_length_iff.mpr c1
      refine ⟨⟨rfl, by show p ≤ p + _; omega, rfl⟩, fun _ => by show p + _ ≤ E; omega, ?_, fun _ => tg.mono fun y hy => by simpa [decl] using hy, fun cl => ?_⟩
      · intro y hy
        rw [List.mem_singleton.mp hy]
        refine ⟨h0, by show p + _ ≤ _; omega, fun z => absurd z ne_tb, fun _ => ⟨?_, by show p + 1 ≤ p + _; omega⟩⟩
        dsimp only
        have e1 : p + ((((cutB bs p (E - p)).idxOf m : Nat) : Int) + 1) - 1 - p = (((cutB bs p (E - p)).idxOf m : Nat) : Int) := by omega
        rw [e1]
      · have hx := clear_one (p := p) (n := (((cutB bs p (E - p)).idxOf m : Nat) : Int) + 1) cl ⟨ne_tb, ne_tu, fun z => ne_tl z.1⟩ rfl rfl
        have lc' : (cutB bs' p (E - p)).length = (E - p).toNat := cut_len h0 (by omega) (by rw [S.len]; omega)
        have hid := idx_same (ys := cutB bs' p (E - p)) c1 (by rw [lc, lc']) (fun i hi => by
          unfold cutB
          rw [List.getElem?_take, List.getElem?_take, List.getElem?_drop, List.getElem?_drop]
          split
          · rw [S.at_]; omega
          · rfl)
        rw [if_pos hid.1, hid.2, cut_same S h0 (by omega) (by omega)]
        show _ = ([fixS bs' _], _)
        rw [fix_other ne_tb]
    · rw [if_neg c1]
      refine ⟨lack_tile hp, fun z => (by cases z), lack_own h0 hE, fun z => (by cases z), fun cl => ?_⟩
      have hx := cl _ List.mem_cons_self ⟨ne_lb, ne_lu, fun z => z.2 rfl⟩
      dsimp only at hx
      rw [cut_same S h0 (by omega) (by omega), if_neg c1]
      show _ = ((lackS _ _ _ _ _).map _, _)
      rw [lack_fix]
  | choice n tg' ks =>
    simp only [rdFld]
    cases e : ks.lookup (tagv t tg') with
    | none =>
      refine ⟨⟨rfl, hp, rfl⟩, fun z => (by cases z), ?_, fun z => (by cases z), fun _ => ?_⟩
      · intro y hy
        rw [List.mem_singleton.mp hy]
        exact ⟨h0, hE, fun z => absurd z ne_ub, fun z => absurd z ne_ut⟩
      · show _ = ([fixS bs' _], _)
        rw [fix_other ne_ub]
    | some kd =>
      have hk : kd ∈ deep := by
        obtain ⟨_, _, _, _, _, hd⟩ := ok
        exact hd _ (lookup_mem e)
      obtain ⟨g, _⟩ := hi kd p E (path ++ [.str n]) hk h0 hp hE
      refine ⟨?_, fun _ => g.hi, g.own, fun _ => tg.mono fun y hy => by simpa [decl] using hy, fun cl => ?_⟩
      · dsimp only
        cases z : (inn kd p E (path ++ [.str n])).2.2 with
        | true => rw [if_pos rfl]; exact g.tile
        | false => rw [if_neg (by simp)]; have := g.tile; rw [g.nok z] at this; exact this
      · dsimp only at cl ⊢
        rw [g.ni cl]
  | row n k tg' =>
    simp only [rdFld]
    have g := good_row (path := path) (n := n) (opn := tg'.isNone) hi ok.2.1 hE (rowFuel t E p tg') 0 p h0 hp
    refine ⟨?_, fun _ => g.hi, g.own, fun _ => tg.mono fun y hy => by simpa [decl] using hy, fun cl => ?_⟩
    · dsimp only
      cases z : (rowGo inn k n tg'.isNone E path (rowFuel t E p tg') 0 p).2.2 with
      | true => rw [if_pos rfl]; exact g.tile
      | false => rw [if_neg (by simp)]; have := g.tile; rw [g.nok z] at this; exact this
    · dsimp only at cl ⊢
      rw [g.ni cl]
  | carried n l k =>
    simp only [rdFld]
    by_cases c1 : lenBy l t (E - p) < 0 ∧ l.isRest = false
    · rw [if_pos c1, if_pos c1]
      refine ⟨fail_tile (by omega) (by omega), fun z => (by cases z), fail_own h0 (by omega) (by omega) hE, fun z => (by cases z), fun cl => ?_⟩
      show _ = ((failS _ _ _ _ _ _).map _, _)
      rw [fail_fix]
    · rw [if_neg c1, if_neg c1]
      by_cases c2 : lenBy l t (E - p) < 0 ∨ p + lenBy l t (E - p) > E
      · rw [if_pos c2, if_pos c2]
        exact ⟨lack_tile hp, fun z => (by cases z), lack_own h0 hE, fun z => (by cases z), fun _ => by rw [lack_fix]⟩
      · rw [if_neg c2, if_neg c2]
        obtain ⟨g, _⟩ := hi k p (p + lenBy l t (E - p)) (path ++ [.str n]) ok.2.2 h0 (by omega) (by omega)
        cases z : (inn k p (p + lenBy l t (E - p)) (path ++ [.str n])).2.2 with
        | true =>
          rw [if_pos rfl]
          refine ⟨g.tile.append (by rw [if_pos rfl]; exact stop_tile g.hi), fun _ => by dsimp only; omega, fun s hs => ?_, fun _ => tg.mono fun y hy => by simpa [decl] using hy, fun cl => ?_⟩
          · rcases List.mem_append.mp hs with e | e
            · exact g.own s e
            · exact stop_own (by have := g.lo; omega) (by omega) s e
          · dsimp only at cl
            obtain ⟨d1, _⟩ := cl.app
            rw [g.ni d1]
            dsimp only
            rw [z, if_pos rfl, List.map_append, stop_fix]
        | false =>
          rw [if_neg (by simp)]
          refine ⟨by rw [if_pos rfl]; have := g.tile; rw [g.nok z] at this; exact this, fun _ => by dsimp only; omega, g.own, fun _ => tg.mono fun y hy => by simpa [decl] using hy, fun cl => ?_⟩
          dsimp only at cl
          rw [g.ni cl]
          dsimp only
          rw [z, if_neg (by simp)]
theorem good_fs (S : Sim bs bs' x) (hb : ∀ y ∈ bs, 0 ≤ y ∧ y ≤ 255) (hi : InGood bs bs' x deep inn inn') (hE : E ≤ bs.length) : ∀ {fs : List Fld} {seen : List Str} {p : Int} {t : Tags}, FsOk deep seen fs → TagsOk seen t → 0 ≤ p → p ≤ E →
    Good bs bs' x E p (rdFs bs inn E path fs p t) (rdFs bs' inn' E path fs p t)
  | [], _, p, _, _, _, h0, hp => ⟨rfl, hp, fun z => (by cases z), fun s hs => (by cases hs), fun _ => rfl⟩
  | f :: fs, seen, p, t, ok, tg, h0, hp => by
    have g := good_field (path := path) S hb hi ok.1 tg h0 hp hE
    unfold rdFs
    dsimp only
    cases z : (rdFld bs inn E path p t f).2.2.2 with
    | true =>
      rw [if_pos rfl]
      have gt := g.tile
      rw [z, if_pos rfl] at gt
      have g2 := good_fs S hb hi hE ok.2 (g.tags z) (by have := gt.le; omega) (g.hi z)
      refine ⟨gt.append g2.tile, g2.hi, g2.nok, fun s hs => ?_, fun cl => ?_⟩
      · rcases List.mem_append.mp hs with e | e
        · exact g.own s e
        · exact g2.own s e
      · obtain ⟨c1, c2⟩ := cl.app
        rw [g.ni c1]
        dsimp only
        rw [z, if_pos rfl, g2.ni c2]
        dsimp only
        rw [List.map_append]
    | false =>
      rw [if_neg (by simp)]
      have gt := g.tile
      rw [z, if_neg (by simp)] at gt
      refine ⟨gt, Int.le_refl _, fun _ => rfl, g.own, fun cl => ?_⟩
      rw [g.ni cl]
      dsimp only
      rw [z, if_neg (by simp)]
theorem in0_good : InGood bs bs' x [] inn0 inn0 := fun k p E path hk => nomatch hk
end
/-! ### how many spreads, how many tags -/
section
variable {bs : List Int} {inn : Inner} {E p : Int} {path : List Dat} {t : Tags} {deep seen : List Str} {f : Fld}
theorem stop_len {q : Int} {word : Str} : (stopS q E path word).length ≤ 1 := by unfold stopS; split <;> simp
theorem row_len {B : Nat} {k n : Str} {opn : Bool} (h : ∀ (p : Int) (path : List Dat), 0 ≤ p → p ≤ E → (inn k p E path).1.length ≤ B ∧ (inn k p E path).2.1 ≤ E ∧ ((inn k p E path).2.2 = true → p + 1 ≤ (inn k p E path).2.1)) : ∀ (m i : Nat) (p : Int), 0 ≤ p → p ≤ E → (rowGo inn k n opn E path m i p).1.length ≤ B * ((E - p).toNat + 1)
  | 0, i, p, h0, hp => Nat.zero_le _
  | m + 1, i, p, h0, hp => by
    unfold rowGo
    split
    · exact Nat.zero_le _
    · obtain ⟨h1, h2, h3⟩ := h p (path ++ [.str n, .int (i : Nat)]) h0 hp
      dsimp only
      cases z : (inn k p E (path ++ [.str n, .int (i : Nat)])).2.2 with
      | true =>
        rw [if_pos rfl, List.length_append]
        have h3 := h3 z
        have ih := row_len (n := n) (opn := opn) h m (i + 1) _ (show (0 : Int) ≤ (inn k p E (path ++ [.str n, .int (i : Nat)])).2.1 by omega) h2
        have e : (E - p).toNat + 1 = ((E - p).toNat - 1 + 1) + 1 := by omega
        have l : B * ((E - (inn k p E (path ++ [.str n, .int (i : Nat)])).2.1).toNat + 1) ≤ B * ((E - p).toNat - 1 + 1) := Nat.mul_le_mul_left _ (by omega)
        rw [e, Nat.mul_succ]
        omega
      | false =>
        rw [if_neg (by simp)]
        dsimp only
        rw [Nat.mul_succ]
        omega
theorem fld_len {B : Nat} (h : ∀ k ∈ deep, ∀ (E p : Int) (path : List Dat), 0 ≤ p → p ≤ E → E ≤ bs.length → (inn k p E path).1.length ≤ B ∧ (inn k p E path).2.1 ≤ E ∧ ((inn k p E path).2.2 = true → p + 1 ≤ (inn k p E path).2.1)) (ok : FldOk seen deep f) (h0 : 0 ≤ p) (hp : p ≤ E) (hE : E ≤ bs.length) (hl : bs.length ≤ 1000) :
    (rdFld bs inn E path p t f).1.length ≤ 2 + B * 1001 := by
  have h1 : ∀ {word nm : Str}, (lackS p E path nm word).length ≤ 2 + B * 1001 := fun {_ _} => by show 1 ≤ _; omega
  have h2 : ∀ {q : Int} {word nm : Str}, (failS p q E path nm word).length ≤ 2 + B * 1001 := fun {q word _} => by
    show (stopS _ _ _ _).length + 1 ≤ _
    have := stop_len (E := E) (path := path) (q := p + q) (word := "behind")
    omega
  cases f with
  | number n s o l m =>
    simp only [rdFld]
    split
    · exact h1
    · split
      · show 1 ≤ _; omega
      · exact h2
  | bits a v b w =>
    simp only [rdFld]
    split
    · exact h1
    · show 1 ≤ _; omega
  | bytes n l =>
    simp only [rdFld]
    split
    · exact h2
    · split
      · exact h1
      · show 1 ≤ _; omega
  | text n m =>
    simp only [rdFld]
    split
    · show 1 ≤ _; omega
    · exact h1
  | choice n tg' ks =>
    simp only [rdFld]
    cases e : ks.lookup (tagv t tg') with
    | none => show 1 ≤ _; omega
    | some kd =>
      have := (h kd (ok.2.2.2.2.2 _ (lookup_mem e)) E p (path ++ [.str n]) h0 hp hE).1
      dsimp only
      omega
  | row n k tg' =>
    simp only [rdFld]
    have := row_len (B := B) (n := n) (opn := tg'.isNone) (path := path) (fun p path h0 hp => h k ok.2.1 E p path h0 hp hE) (rowFuel t E p tg') 0 p h0 hp
    have l : B * ((E - p).toNat + 1) ≤ B * 1001 := Nat.mul_le_mul_left _ (by omega)
    omega
  | carried n l k =>
    simp only [rdFld]
    split
    · exact h2
    · split
      · exact h1
      · rename_i c1 c2
        have h3 := (h k ok.2.2 (p + lenBy l t (E - p)) p (path ++ [.str n]) h0 (by omega) (by omega)).1
        dsimp only
        split
        · rw [List.length_append]
          have := stop_len (E := p + lenBy l t (E - p)) (path := path ++ [.str n]) (q := (inn k p (p + lenBy l t (E - p)) (path ++ [.str n])).2.1) (word := "left")
          omega
        · omega
theorem fld_tags : (rdFld bs inn E path p t f).2.2.1.length ≤ t.length + 2 := by
  cases f with
  | number n s o l m =>
    simp only [rdFld]
    split
    · show t.length ≤ _; omega
    · split
      · have := dput_len t (.inr n) (.int (numOf o (cutB bs p s))); dsimp only; omega
      · show t.length ≤ _; omega
  | bits a v b w =>
    simp only [rdFld]
    split
    · show t.length ≤ _; omega
    · have h1 := dput_len t (.inr a) (.int (bitA ((cutB bs p 1).headD 0) v))
      have h2 := dput_len (dput t (.inr a) (.int (bitA ((cutB bs p 1).headD 0) v))) (.inr b) (.int (bitB ((cutB bs p 1).headD 0) v w))
      dsimp only; omega
  | bytes n l => simp only [rdFld]; split <;> (try split) <;> (show t.length ≤ _; omega)
  | text n m => simp only [rdFld]; split <;> (show t.length ≤ _; omega)
  | choice n tg' ks => simp only [rdFld]; split <;> (show t.length ≤ _; omega)
  | row n k tg' => simp only [rdFld]; omega
  | carried n l k => simp only [rdFld]; split <;> (try split) <;> (show t.length ≤ _; omega)
theorem fs_len {A : Nat} (h : ∀ (seen : List Str) (f : Fld) (p : Int) (t : Tags), FldOk seen deep f → TagsOk seen t → 0 ≤ p → p ≤ E → (rdFld bs inn E path p t f).1.length ≤ A ∧ ((rdFld bs inn E path p t f).2.2.2 = true → p ≤ (rdFld bs inn E path p t f).2.1 ∧ (rdFld bs inn E path p t f).2.1 ≤ E ∧ TagsOk (seen ++ decl f) (rdFld bs inn E path p t f).2.2.1)) :
    ∀ {fs : List Fld} {seen : List Str} {p : Int} {t : Tags}, FsOk deep seen fs → TagsOk seen t → 0 ≤ p → p ≤ E → (rdFs bs inn E path fs p t).1.length ≤ A * fs.length
  | [], _, _, _, _, _, _, _ => Nat.zero_le _
  | f :: fs, seen, p, t, ok, tg, h0, hp => by
    obtain ⟨h1, h2⟩ := h seen f p t ok.1 tg h0 hp
    unfold rdFs
    dsimp only
    rw [List.length_cons, Nat.mul_succ]
    cases z : (rdFld bs inn E path p t f).2.2.2 with
    | true =>
      rw [if_pos rfl, List.length_append]
      obtain ⟨g1, g2, g3⟩ := h2 z
      have := fs_len h ok.2 g3 (by omega) g2
      omega
    | false =>
      rw [if_neg (by simp)]
      dsimp only
      omega
end
theorem Sim.refl {bs : List Int} : Sim bs bs 0 := ⟨rfl, fun _ _ => rfl⟩
/-- the deeper kinds of an ordered grammar -/
theorem GrOk.deepK {G : Gr} (h : GrOk G) : ∃ deep : List Str, (deep = [("low" : Str)] ∨ deep = [("low" : Str), ("mid" : Str)]) ∧ FsOk deep [] (fieldsOf G "all") ∧ ((fieldsOf G "all") ≠ [] ∧ (fieldsOf G "all").length ≤ 10) ∧ (∀ k ∈ deep, KdOk (fieldsOf G k) ∧ k ∈ namesOf G) ∧ ("all" : Str) ∈ namesOf G := by
  have nd := h
  obtain ⟨fs, fl, ⟨rfl, h1, h2, h3⟩ | ⟨fm, rfl, h1, h2, h3, h4⟩⟩ := h
  · have e0 : fieldsOf [(("all" : Str), fs), (("low" : Str), fl)] "all" = fs := nd.fields (m := 0) rfl
    have e1 : fieldsOf [(("all" : Str), fs), (("low" : Str), fl)] "low" = fl := nd.fields (m := 1) rfl
    refine ⟨["low"], .inl rfl, by rw [e0]; exact h1, by rw [e0]; exact h2, fun k hk => ?_, by simp [namesOf]⟩
    rw [List.mem_singleton.mp hk, e1]
    exact ⟨h3, by simp [namesOf]⟩
  · have e0 : fieldsOf [(("all" : Str), fs), (("low" : Str), fl), (("mid" : Str), fm)] "all" = fs := nd.fields (m := 0) rfl
    have e1 : fieldsOf [(("all" : Str), fs), (("low" : Str), fl), (("mid" : Str), fm)] "low" = fl := nd.fields (m := 1) rfl
    have e2 : fieldsOf [(("all" : Str), fs), (("low" : Str), fl), (("mid" : Str), fm)] "mid" = fm := nd.fields (m := 2) rfl
    refine ⟨["low", "mid"], .inr rfl, by rw [e0]; exact h1, by rw [e0]; exact h2, fun k hk => ?_, by simp [namesOf]⟩
    rcases List.mem_cons.mp hk with e | hk
    · rw [e, e1]; exact ⟨h3, by simp [namesOf]⟩
    · rw [List.mem_singleton.mp hk, e2]; exact ⟨h4, by simp [namesOf]⟩
theorem tags0 {t : Tags} : TagsOk [] t := fun x hx => nomatch hx
theorem in1_good {G : Gr} {bs bs' : List Int} {x : Nat} {deep : List Str} (hd : ∀ k ∈ deep, KdOk (fieldsOf G k)) (S : Sim bs bs' x) (hb : ∀ y ∈ bs, 0 ≤ y ∧ y ≤ 255) : InGood bs bs' x deep (inn1 G bs) (inn1 G bs') := fun k p E path hk h0 hp hE => by
  obtain ⟨⟨m, r, e⟩, h2, h3⟩ := hd k hk
  have g := good_fs (path := path) S hb (in0_good (x := x)) hE h2 (tags0 (t := [])) h0 hp
  refine ⟨g, fun z => ?_⟩
  have z' : (rdFs bs inn0 E path (fieldsOf G k) p []).2.2 = true := z
  show p + 1 ≤ (rdFs bs inn0 E path (fieldsOf G k) p []).2.1
  rw [e] at z' h2 ⊢
  have gf := good_field (path := path) S hb (in0_good (x := x)) h2.1 (tags0 (t := [])) h0 hp hE
  unfold rdFs at z' ⊢
  dsimp only at z' ⊢
  cases c : (rdFld bs inn0 E path p [] (.number "one" 1 "big" 0 m)).2.2.2 with
  | false => rw [c, if_neg (by simp)] at z'; cases z'
  | true =>
    rw [if_pos rfl]
    have ep : (rdFld bs inn0 E path p [] (.number "one" 1 "big" 0 m)).2.1 = p + 1 := by
      simp only [rdFld] at c ⊢
      by_cases c1 : p + 1 > E
      · rw [if_pos c1] at c; cases c
      · rw [if_neg c1] at c ⊢
        by_cases c2 : 0 ≤ numOf "big" (cutB bs p 1) ∧ numOf "big" (cutB bs p 1) ≤ m
        · rw [if_pos c2]
        · rw [if_neg c2] at c; cases c
    have gt := gf.tile
    rw [c, if_pos rfl] at gt
    have g2 := good_fs (path := path) S hb (in0_good (x := x)) hE h2.2 (gf.tags c) (by have := gt.le; omega) (gf.hi c)
    have h9 := g2.lo
    rw [ep] at h9
    rw [ep]
    exact h9
/-- the whole: the spreads tile the bytes, hold their own, and a byte that hangs on nothing changes nothing else -/
theorem rdAll_good {G : Gr} (ok : GrOk G) {bs bs' : List Int} {x : Nat} (S : Sim bs bs' x) (hb : ∀ y ∈ bs, 0 ≤ y ∧ y ≤ 255) : Tile (rdAll G bs) 0 bs.length ∧ (∀ s ∈ rdAll G bs, OwnS bs s) ∧ (Clear x (rdAll G bs) → rdAll G bs' = (rdAll G bs).map (fixS bs')) := by
  obtain ⟨deep, _, h1, h2, h3, _⟩ := ok.deepK
  have g := good_fs (path := []) S hb (in1_good (G := G) (deep := deep) (fun k hk => (h3 k hk).1) S hb) (Int.le_refl _) h1 (tags0 (t := [])) (Int.le_refl 0) (by omega)
  unfold rdAll
  rw [S.len]
  dsimp only
  cases z : (rdFs bs (inn1 G bs) bs.length [] (fieldsOf G "all") 0 []).2.2 with
  | true =>
    rw [if_pos rfl]
    refine ⟨g.tile.append (stop_tile g.hi), fun s hs => ?_, fun cl => ?_⟩
    · rcases List.mem_append.mp hs with e | e
      · exact g.own s e
      · exact stop_own (by have := g.lo; omega) (Int.le_refl _) s e
    · rw [g.ni cl.app.1]
      dsimp only
      rw [z, if_pos rfl, List.map_append, stop_fix]
  | false =>
    rw [if_neg (by simp)]
    refine ⟨by have := g.tile; rw [g.nok z] at this; exact this, g.own, fun cl => ?_⟩
    rw [g.ni cl]
    dsimp only
    rw [z, if_neg (by simp)]
def deepOf (G : Gr) : List Str := (namesOf G).drop 1
theorem GrOk.deepOk {G : Gr} (h : GrOk G) : FsOk (deepOf G) [] (fieldsOf G "all") ∧ ((fieldsOf G "all") ≠ [] ∧ (fieldsOf G "all").length ≤ 10) ∧ (∀ k ∈ deepOf G, KdOk (fieldsOf G k) ∧ k ∈ namesOf G) ∧ ("all" : Str) ∈ namesOf G := by
  have nd := h
  obtain ⟨fs, fl, ⟨rfl, h1, h2, h3⟩ | ⟨fm, rfl, h1, h2, h3, h4⟩⟩ := h
  · have e0 : fieldsOf [(("all" : Str), fs), (("low" : Str), fl)] "all" = fs := nd.fields (m := 0) rfl
    have e1 : fieldsOf [(("all" : Str), fs), (("low" : Str), fl)] "low" = fl := nd.fields (m := 1) rfl
    refine ⟨by rw [e0]; exact h1, by rw [e0]; exact h2, fun k hk => ?_, by simp [namesOf]⟩
    have hk' : k ∈ [("low" : Str)] := hk
    rw [List.mem_singleton.mp hk', e1]
    exact ⟨h3, by simp [namesOf]⟩
  · have e0 : fieldsOf [(("all" : Str), fs), (("low" : Str), fl), (("mid" : Str), fm)] "all" = fs := nd.fields (m := 0) rfl
    have e1 : fieldsOf [(("all" : Str), fs), (("low" : Str), fl), (("mid" : Str), fm)] "low" = fl := nd.fields (m := 1) rfl
    have e2 : fieldsOf [(("all" : Str), fs), (("low" : Str), fl), (("mid" : Str), fm)] "mid" = fm := nd.fields (m := 2) rfl
    refine ⟨by rw [e0]; exact h1, by rw [e0]; exact h2, fun k hk => ?_, by simp [namesOf]⟩
    have hk' : k ∈ [("low" : Str), ("mid" : Str)] := hk
    rcases List.mem_cons.mp hk' with e | hk'
    · rw [e, e1]; exact ⟨h3, by simp [namesOf]⟩
    · rw [List.mem_singleton.mp hk', e2]; exact ⟨h4, by simp [namesOf]⟩
end Lb
/-! text LbU -/
/-! The reader's world: its objects, its promises. -/
namespace Lb
open PySem L2
structure Rdr where
  R : Addr
  L : Addr
  kn : Addr
  G : Gr
  bs : List Int
structure Thg where
  t : Addr
  τ : Addr
  φ : Addr
  b : Int
  E : Int
  path : List Dat
structure TSt where
  sp : List Spr
  place : Int
  tags : Tags
  fl : Tags
def rdF (r : Rdr) : List (Str × Dat) := [("by_grammar", grDat r.G), ("known", .obj r.kn), ("all_bytes", bytesD r.bs), ("found", .obj r.L)]
def thF (r : Rdr) (g : Thg) (p : Int) : List (Str × Dat) := [("reader", .obj r.R), ("begin", .int g.b), ("place", .int p), ("limit", .int g.E), ("end", .int g.E), ("path", .tup g.path), ("tags", .obj g.τ), ("fields", .obj g.φ)]
def rmF (p l e : Int) : List (Str × Dat) := [("place", .int p), ("limit", .int l), ("end", .int e)]
section
variable (K : PySem.W.Frag) (cR cT : Addr)
def RAt (r : Rdr) (s : List Spr) (H : Hp) : Prop := InsAt K r.R cR (rdF r) H ∧ LstAt K r.L (s.map Spr.dat) H
structure TAt (r : Rdr) (g : Thg) (s : TSt) (H : Hp) : Prop where
  rd : RAt K cR r s.sp H
  th : InsAt K g.t cT (thF r g s.place) H
  tg : DctAt K g.τ s.tags H
  fl : DctAt K g.φ s.fl H
  ne : g.τ ≠ g.φ
  nc : g.t ≠ r.R
end
section
variable {K : PySem.W.Frag} {cR cT : Addr} {r : Rdr} {g : Thg} {s s' : TSt} {H H' : Hp} {B : List Addr}
theorem InsAt.ne_lst {p q C : Addr} {l : List (Str × Dat)} {ds : List Dat} (h : InsAt K p C l H) (h' : LstAt K q ds H) : p ≠ q := by
  obtain ⟨_, _, a, _⟩ := h
  obtain ⟨_, b, _⟩ := h'
  rintro rfl
  rw [a] at b; cases b
theorem InsAt.ne_dct {p q C : Addr} {l : List (Str × Dat)} {ds : List (Key × Dat)} (h : InsAt K p C l H) (h' : DctAt K q ds H) : p ≠ q := by
  obtain ⟨_, _, a, _⟩ := h
  obtain ⟨_, b, _⟩ := h'
  rintro rfl
  rw [a] at b; cases b
theorem LstAt.ne_dct {p q : Addr} {l : List Dat} {ds : List (Key × Dat)} (h : LstAt K p l H) (h' : DctAt K q ds H) : p ≠ q := by
  obtain ⟨_, a, _⟩ := h
  obtain ⟨_, b, _⟩ := h'
  rintro rfl
  rw [a] at b; cases b
theorem InsAt.trk {p C : Addr} {l : List (Str × Dat)} (h : InsAt K p C l H) : H p ≠ none := by obtain ⟨_, _, a, _⟩ := h; rw [a]; exact fun z => nomatch z
theorem LstAt.trk {p : Addr} {l : List Dat} (h : LstAt K p l H) : H p ≠ none := by obtain ⟨_, a, _⟩ := h; rw [a]; exact fun z => nomatch z
theorem DctAt.trk {p : Addr} {l : List (Key × Dat)} (h : DctAt K p l H) : H p ≠ none := by obtain ⟨_, a, _⟩ := h; rw [a]; exact fun z => nomatch z
theorem RAt.off {sp : List Spr} (h : RAt K cR r sp H) (n1 : r.R ∉ B) (n2 : r.L ∉ B) (o : Off B H H') : RAt K cR r sp H' := ⟨h.1.off n1 o, h.2.off n2 o⟩
theorem TAt.off (h : TAt K cR cT r g s H) (n : ∀ x ∈ [r.R, r.L, g.t, g.τ, g.φ], x ∉ B) (o : Off B H H') : TAt K cR cT r g s H' where
  rd := h.rd.off (n _ (by simp)) (n _ (by simp)) o
  th := h.th.off (n _ (by simp)) o
  tg := h.tg.off (n _ (by simp)) o
  fl := h.fl.off (n _ (by simp)) o
  ne := h.ne
  nc := h.nc
theorem TAt.trk (h : TAt K cR cT r g s H) : ∀ x ∈ [r.R, r.L, g.t, g.τ, g.φ], H x ≠ none := by
  have hl := h.fl
  intro x hx
  simp only [List.mem_cons, List.not_mem_nil, or_false] at hx
  rcases hx with rfl | rfl | rfl | rfl | rfl
  · exact h.rd.1.trk
  · exact h.rd.2.trk
  · exact h.th.trk
  · exact h.tg.trk
  · exact hl.trk
/-- a reader in a world -/
structure RLens {ι : Type} (K : PySem.W.Frag) (cR : Addr) (W : Wd ι) (r : Rdr) (gt : ι → List Spr) (st : ι → List Spr → ι) : Prop where
  get : ∀ {i : ι} {H : Hp}, W.I i H → RAt K cR r (gt i) H
  put : ∀ {i : ι} {H H' : Hp} {s' : List Spr}, W.I i H → Off [r.L] H H' → RAt K cR r s' H' → W.I (st i s') H'
  mem : r.L ∈ W.A
section
variable {ι : Type} {W : Wd ι} {gt : ι → List Spr} {st : ι → List Spr → ι}
theorem RLens.keep {v : V} {d : Dat} (h : RLens K cR W r gt st) : RLens K cR (W.keep K v d) r gt st := ⟨fun I => h.get I.1, fun I o a => ⟨h.put I.1 o a, I.2.mono o⟩, h.mem⟩
theorem RLens.own {p : Addr} {φ : Hp → Prop} {sh : Shp p φ} {np : ¬ W.C p} (h : RLens K cR W r gt st) : RLens K cR (W.own p φ sh np) r gt st := ⟨fun I => h.get I.1, fun I o a => ⟨h.put I.1 o a, sh.off I.2 (fun z => by
  rcases List.mem_cons.mp z with e | e
  · rw [e] at np; exact np (W.trk h.mem)
  · cases e) o⟩, h.mem⟩
end
/-- a thing in a world -/
structure TLens (K : PySem.W.Frag) (cR cT : Addr) (W : Wd TSt) (r : Rdr) (g : Thg) : Prop where
  get : ∀ {i : TSt} {H : Hp}, W.I i H → TAt K cR cT r g i H
  put : ∀ {i : TSt} {H H' : Hp} {s' : TSt}, W.I i H → Off [r.L, g.t, g.τ, g.φ] H H' → TAt K cR cT r g s' H' → W.I s' H'
  mem : ∀ x ∈ [r.L, g.t, g.τ, g.φ], x ∈ W.A
section
variable {W : Wd TSt}
theorem TLens.keep {v : V} {d : Dat} (h : TLens K cR cT W r g) : TLens K cR cT (W.keep K v d) r g := ⟨fun I => h.get I.1, fun I o a => ⟨h.put I.1 o a, I.2.mono o⟩, h.mem⟩
theorem TLens.own {p : Addr} {φ : Hp → Prop} {sh : Shp p φ} {np : ¬ W.C p} (h : TLens K cR cT W r g) : TLens K cR cT (W.own p φ sh np) r g := ⟨fun I => h.get I.1, fun I o a => ⟨h.put I.1 o a, sh.off I.2 (fun z => np (W.trk (h.mem _ z))) o⟩, h.mem⟩
theorem off4 {x : Addr} (hx : x ∈ [r.L, g.t, g.τ, g.φ]) (o : Off [x] H H') : Off [r.L, g.t, g.τ, g.φ] H H' := o.mono fun y hy => by rw [List.mem_singleton.mp hy]; exact hx
/-- the parts of a thing, one changed -/
theorem TAt.setR {sp : List Spr} (h : TAt K cR cT r g s H) (o : Off [r.L] H H') (a : RAt K cR r sp H') : TAt K cR cT r g { s with sp := sp } H' where
  rd := a
  th := h.th.off (by simpa using h.th.ne_lst h.rd.2) o
  tg := h.tg.off (by simpa using (h.rd.2.ne_dct h.tg).symm) o
  fl := h.fl.off (by simpa using (h.rd.2.ne_dct h.fl).symm) o
  ne := h.ne
  nc := h.nc
theorem TAt.setT {p : Int} (h : TAt K cR cT r g s H) (o : Off [g.t] H H') (a : InsAt K g.t cT (thF r g p) H') : TAt K cR cT r g { s with place := p } H' where
  rd := h.rd.off (by simpa using h.nc.symm) (by simpa using (h.th.ne_lst h.rd.2).symm) o
  th := a
  tg := h.tg.off (by simpa using (h.th.ne_dct h.tg).symm) o
  fl := h.fl.off (by simpa using (h.th.ne_dct h.fl).symm) o
  ne := h.ne
  nc := h.nc
theorem TAt.setG {t : Tags} (h : TAt K cR cT r g s H) (o : Off [g.τ] H H') (a : DctAt K g.τ t H') : TAt K cR cT r g { s with tags := t } H' where
  rd := h.rd.off (by simpa using h.rd.1.ne_dct h.tg) (by simpa using h.rd.2.ne_dct h.tg) o
  th := h.th.off (by simpa using h.th.ne_dct h.tg) o
  tg := a
  fl := h.fl.off (by simpa using h.ne.symm) o
  ne := h.ne
  nc := h.nc
theorem TAt.setF {l : Tags} (h : TAt K cR cT r g s H) (o : Off [g.φ] H H') (a : DctAt K g.φ l H') : TAt K cR cT r g { s with fl := l } H' where
  rd := h.rd.off (by simpa using h.rd.1.ne_dct h.fl) (by simpa using h.rd.2.ne_dct h.fl) o
  th := h.th.off (by simpa using h.th.ne_dct h.fl) o
  tg := h.tg.off (by simpa using h.ne) o
  fl := a
  ne := h.ne
  nc := h.nc
theorem TLens.rl (h : TLens K cR cT W r g) : RLens K cR W r TSt.sp (fun s x => { s with sp := x }) :=
  ⟨fun I => (h.get I).rd, fun I o a => h.put I (off4 (by simp) o) ((h.get I).setR o a), h.mem _ (by simp)⟩
end
/-- the world of a reader's method -/
def Wd.rdr (K : PySem.W.Frag) (cR : Addr) (r : Rdr) (H0 : Hp) (h1 : H0 r.R ≠ none) (h2 : H0 r.L ≠ none) : Wd (List Spr) where
  A := [r.L]
  C := fun p => H0 p ≠ none
  I := fun s H => Off [r.L] H0 H ∧ RAt K cR r s H
  clm := fun {i H p} h m z => by
    by_cases hp : p = r.L
    · rw [hp] at z; exact h.2.2.trk z
    · cases e : H0 p with
      | none => exact m e
      | some o => rw [h.1.at_ e (by simp [hp])] at z; cases z
  off := fun {i B H H'} h m o => ⟨fun b u e x => o b u (h.1 b u e x) fun z => absurd (show H0 b ≠ none by rw [e]; exact fun q => nomatch q) (m b z), h.2.off (fun z => m _ z h1) (fun z => m _ z h2) o⟩
  trk := fun {a} h => by rw [List.mem_singleton.mp h]; exact h2
theorem rdr_lens {H0 : Hp} {h1 : H0 r.R ≠ none} {h2 : H0 r.L ≠ none} : RLens K cR (Wd.rdr K cR r H0 h1 h2) r (fun s => s) fun _ s => s := ⟨fun I => I.2, fun I o a => ⟨I.1.trans o, a⟩, List.mem_cons_self⟩
/-- the world of a thing: what is in A0 may have changed since H0; the rest of the thing is new since then -/
def Wd.thg (K : PySem.W.Frag) (cR cT : Addr) (r : Rdr) (g : Thg) (A0 : List Addr) (H0 : Hp) (hs : ∀ x ∈ A0, x ∈ [r.L, g.t, g.τ, g.φ]) (hn : ∀ x ∈ [r.L, g.t, g.τ, g.φ], x ∈ A0 ∨ H0 x = none) : Wd TSt where
  A := [r.L, g.t, g.τ, g.φ]
  C := fun p => p ∈ [r.R, r.L, g.t, g.τ, g.φ] ∨ H0 p ≠ none
  I := fun s H => Off A0 H0 H ∧ TAt K cR cT r g s H
  clm := fun {i H p} h m z => by
    by_cases hp : p ∈ [r.R, r.L, g.t, g.τ, g.φ]
    · exact h.2.trk p hp z
    · cases e : H0 p with
      | none => exact (m.resolve_left hp) e
      | some o => rw [h.1.at_ e (fun q => hp (List.mem_cons_of_mem _ (hs p q)))] at z; cases z
  off := fun {i B H H'} h m o => ⟨fun b u e x => o b u (h.1 b u e x) fun z => absurd (.inr (show H0 b ≠ none by rw [e]; exact fun q => nomatch q)) (m b z), h.2.off (fun x hx z => m x z (.inl hx)) o⟩
  trk := fun {a} h => .inl (List.mem_cons_of_mem _ h)
theorem thg_lens {A0 : List Addr} {H0 : Hp} {hs : ∀ x ∈ A0, x ∈ [r.L, g.t, g.τ, g.φ]} {hn : ∀ x ∈ [r.L, g.t, g.τ, g.φ], x ∈ A0 ∨ H0 x = none} : TLens K cR cT (Wd.thg K cR cT r g A0 H0 hs hn) r g :=
  ⟨fun I => I.2, fun {i H H' s'} I o a => ⟨(fun b u e m => by
    have h1 := I.1 b u e m
    refine o b u h1 fun z => ?_
    rcases hn b z with c | c
    · exact m c
    · rw [c] at e; cases e), a⟩, fun x hx => hx⟩
/-- promises of a reader's method -/
def SpR {α : Type} (K : PySem.W.Frag) (cR : Addr) (args : α → List Dat) (pre : Rdr → List Spr → α → Hp → Prop) (post : Rdr → α → List Spr → Dat → Prop) : Sp := fun vs H Q _ => ∃ (a : α) (r : Rdr) (s : List Spr), AtL K H vs (.obj r.R :: args a) ∧ pre r s a H ∧ RAt K cR r s H ∧
  ∀ v H' d new, Off [r.L] H H' → RAt K cR r (s ++ new) H' → At K H' v d → post r a new d → Q v H'
theorem call_R {α ι : Type} {W : Wd ι} {gt : ι → List Spr} {st : ι → List Spr → ι} {args : α → List Dat} {pre : Rdr → List Spr → α → Hp → Prop} {post : Rdr → α → List Spr → Dat → Prop} {ds : List Dat} {i : ι} {P : ι → Dat → Prop} (ln : RLens K cR W r gt st) (a : α) (hd : ds = .obj r.R :: args a) (h : ∀ {H : Hp}, W.I i H → pre r (gt i) a H)
    (q : ∀ d new, post r a new d → P (st i (gt i ++ new)) d) : CallOk K W i (SpR K cR args pre post) ds P := fun H vs I al Q k =>
  ⟨a, r, gt i, hd ▸ al, h I, ln.get I, fun v H' d new o ra at' ps => k v H' _ d (o.mono fun x hx => by rw [List.mem_singleton.mp hx]; exact ln.mem) (ln.put I o ra) at' (q d new ps)⟩
/-- promises of a thing's method -/
def SpT {α : Type} (K : PySem.W.Frag) (cR cT : Addr) (args : α → List Dat) (pre : Rdr → Thg → TSt → α → Prop) (post : Rdr → Thg → TSt → α → TSt → Dat → Prop) : Sp := fun vs H Q _ => ∃ (a : α) (r : Rdr) (g : Thg) (s : TSt), AtL K H vs (.obj g.t :: args a) ∧ pre r g s a ∧ TAt K cR cT r g s H ∧
  ∀ v H' d s', Off [r.L, g.t, g.τ, g.φ] H H' → TAt K cR cT r g s' H' → At K H' v d → post r g s a s' d → Q v H'
theorem call_T {α : Type} {W : Wd TSt} {args : α → List Dat} {pre : Rdr → Thg → TSt → α → Prop} {post : Rdr → Thg → TSt → α → TSt → Dat → Prop} {ds : List Dat} {i : TSt} {P : TSt → Dat → Prop} (ln : TLens K cR cT W r g) (a : α) (hd : ds = .obj g.t :: args a) (h : pre r g i a)
    (q : ∀ d s', post r g i a s' d → P s' d) : CallOk K W i (SpT K cR cT args pre post) ds P := fun H vs I al Q k =>
  ⟨a, r, g, i, hd ▸ al, h, ln.get I, fun v H' d s' o ra at' ps => k v H' _ d (o.mono ln.mem) (ln.put I o ra) at' (q d s' ps)⟩
end
end Lb
/-! text LbFl -/
/-! Attributes of the three classes, by name (printed by mkF.py). -/
namespace Lb
open PySem L2
theorem nx_all_bytes_by_grammar : ¬ (("all_bytes" : Str) = "by_grammar") := by decide +kernel
theorem nx_all_bytes_found : ¬ (("all_bytes" : Str) = "found") := by decide +kernel
theorem nx_all_bytes_known : ¬ (("all_bytes" : Str) = "known") := by decide +kernel
theorem nx_begin_end : ¬ (("begin" : Str) = "end") := by decide +kernel
theorem nx_begin_fields : ¬ (("begin" : Str) = "fields") := by decide +kernel
theorem nx_begin_limit : ¬ (("begin" : Str) = "limit") := by decide +kernel
theorem nx_begin_path : ¬ (("begin" : Str) = "path") := by decide +kernel
theorem nx_begin_place : ¬ (("begin" : Str) = "place") := by decide +kernel
theorem nx_begin_reader : ¬ (("begin" : Str) = "reader") := by decide +kernel
theorem nx_begin_tags : ¬ (("begin" : Str) = "tags") := by decide +kernel
theorem nx_by_grammar_all_bytes : ¬ (("by_grammar" : Str) = "all_bytes") := by decide +kernel
theorem nx_by_grammar_found : ¬ (("by_grammar" : Str) = "found") := by decide +kernel
theorem nx_by_grammar_known : ¬ (("by_grammar" : Str) = "known") := by decide +kernel
theorem nx_bytes_there_begin : ¬ (("bytes_there" : Str) = "begin") := by decide +kernel
theorem nx_bytes_there_end : ¬ (("bytes_there" : Str) = "end") := by decide +kernel
theorem nx_bytes_there_fields : ¬ (("bytes_there" : Str) = "fields") := by decide +kernel
theorem nx_bytes_there_limit : ¬ (("bytes_there" : Str) = "limit") := by decide +kernel
theorem nx_bytes_there_path : ¬ (("bytes_there" : Str) = "path") := by decide +kernel
theorem nx_bytes_there_place : ¬ (("bytes_there" : Str) = "place") := by decide +kernel
theorem nx_bytes_there_reader : ¬ (("bytes_there" : Str) = "reader") := by decide +kernel
theorem nx_bytes_there_tags : ¬ (("bytes_there" : Str) = "tags") := by decide +kernel
theorem nx_end_begin : ¬ (("end" : Str) = "begin") := by decide +kernel
theorem nx_end_fields : ¬ (("end" : Str) = "fields") := by decide +kernel
theorem nx_end_limit : ¬ (("end" : Str) = "limit") := by decide +kernel
theorem nx_end_path : ¬ (("end" : Str) = "path") := by decide +kernel
theorem nx_end_place : ¬ (("end" : Str) = "place") := by decide +kernel
theorem nx_end_reader : ¬ (("end" : Str) = "reader") := by decide +kernel
theorem nx_end_tags : ¬ (("end" : Str) = "tags") := by decide +kernel
theorem nx_fails_begin : ¬ (("fails" : Str) = "begin") := by decide +kernel
theorem nx_fails_end : ¬ (("fails" : Str) = "end") := by decide +kernel
theorem nx_fails_fields : ¬ (("fails" : Str) = "fields") := by decide +kernel
theorem nx_fails_limit : ¬ (("fails" : Str) = "limit") := by decide +kernel
theorem nx_fails_path : ¬ (("fails" : Str) = "path") := by decide +kernel
theorem nx_fails_place : ¬ (("fails" : Str) = "place") := by decide +kernel
theorem nx_fails_reader : ¬ (("fails" : Str) = "reader") := by decide +kernel
theorem nx_fails_tags : ¬ (("fails" : Str) = "tags") := by decide +kernel
theorem nx_fields_begin : ¬ (("fields" : Str) = "begin") := by decide +kernel
theorem nx_fields_end : ¬ (("fields" : Str) = "end") := by decide +kernel
theorem nx_fields_limit : ¬ (("fields" : Str) = "limit") := by decide +kernel
theorem nx_fields_path : ¬ (("fields" : Str) = "path") := by decide +kernel
theorem nx_fields_place : ¬ (("fields" : Str) = "place") := by decide +kernel
theorem nx_fields_reader : ¬ (("fields" : Str) = "reader") := by decide +kernel
theorem nx_fields_tags : ¬ (("fields" : Str) = "tags") := by decide +kernel
theorem nx_found_all_bytes : ¬ (("found" : Str) = "all_bytes") := by decide +kernel
theorem nx_found_by_grammar : ¬ (("found" : Str) = "by_grammar") := by decide +kernel
theorem nx_found_known : ¬ (("found" : Str) = "known") := by decide +kernel
theorem nx_is_short_begin : ¬ (("is_short" : Str) = "begin") := by decide +kernel
theorem nx_is_short_end : ¬ (("is_short" : Str) = "end") := by decide +kernel
theorem nx_is_short_fields : ¬ (("is_short" : Str) = "fields") := by decide +kernel
theorem nx_is_short_limit : ¬ (("is_short" : Str) = "limit") := by decide +kernel
theorem nx_is_short_path : ¬ (("is_short" : Str) = "path") := by decide +kernel
theorem nx_is_short_place : ¬ (("is_short" : Str) = "place") := by decide +kernel
theorem nx_is_short_reader : ¬ (("is_short" : Str) = "reader") := by decide +kernel
theorem nx_is_short_tags : ¬ (("is_short" : Str) = "tags") := by decide +kernel
theorem nx_known_all_bytes : ¬ (("known" : Str) = "all_bytes") := by decide +kernel
theorem nx_known_by_grammar : ¬ (("known" : Str) = "by_grammar") := by decide +kernel
theorem nx_known_found : ¬ (("known" : Str) = "found") := by decide +kernel
theorem nx_lacks_begin : ¬ (("lacks" : Str) = "begin") := by decide +kernel
theorem nx_lacks_end : ¬ (("lacks" : Str) = "end") := by decide +kernel
theorem nx_lacks_fields : ¬ (("lacks" : Str) = "fields") := by decide +kernel
theorem nx_lacks_limit : ¬ (("lacks" : Str) = "limit") := by decide +kernel
theorem nx_lacks_path : ¬ (("lacks" : Str) = "path") := by decide +kernel
theorem nx_lacks_place : ¬ (("lacks" : Str) = "place") := by decide +kernel
theorem nx_lacks_reader : ¬ (("lacks" : Str) = "reader") := by decide +kernel
theorem nx_lacks_tags : ¬ (("lacks" : Str) = "tags") := by decide +kernel
theorem nx_limit_begin : ¬ (("limit" : Str) = "begin") := by decide +kernel
theorem nx_limit_end : ¬ (("limit" : Str) = "end") := by decide +kernel
theorem nx_limit_fields : ¬ (("limit" : Str) = "fields") := by decide +kernel
theorem nx_limit_path : ¬ (("limit" : Str) = "path") := by decide +kernel
theorem nx_limit_place : ¬ (("limit" : Str) = "place") := by decide +kernel
theorem nx_limit_reader : ¬ (("limit" : Str) = "reader") := by decide +kernel
theorem nx_limit_tags : ¬ (("limit" : Str) = "tags") := by decide +kernel
theorem nx_path_begin : ¬ (("path" : Str) = "begin") := by decide +kernel
theorem nx_path_end : ¬ (("path" : Str) = "end") := by decide +kernel
theorem nx_path_fields : ¬ (("path" : Str) = "fields") := by decide +kernel
theorem nx_path_limit : ¬ (("path" : Str) = "limit") := by decide +kernel
theorem nx_path_place : ¬ (("path" : Str) = "place") := by decide +kernel
theorem nx_path_reader : ¬ (("path" : Str) = "reader") := by decide +kernel
theorem nx_path_tags : ¬ (("path" : Str) = "tags") := by decide +kernel
theorem nx_place_begin : ¬ (("place" : Str) = "begin") := by decide +kernel
theorem nx_place_end : ¬ (("place" : Str) = "end") := by decide +kernel
theorem nx_place_fields : ¬ (("place" : Str) = "fields") := by decide +kernel
theorem nx_place_limit : ¬ (("place" : Str) = "limit") := by decide +kernel
theorem nx_place_path : ¬ (("place" : Str) = "path") := by decide +kernel
theorem nx_place_reader : ¬ (("place" : Str) = "reader") := by decide +kernel
theorem nx_place_tags : ¬ (("place" : Str) = "tags") := by decide +kernel
theorem nx_read_begin : ¬ (("read" : Str) = "begin") := by decide +kernel
theorem nx_read_end : ¬ (("read" : Str) = "end") := by decide +kernel
theorem nx_read_fields : ¬ (("read" : Str) = "fields") := by decide +kernel
theorem nx_read_limit : ¬ (("read" : Str) = "limit") := by decide +kernel
theorem nx_read_path : ¬ (("read" : Str) = "path") := by decide +kernel
theorem nx_read_place : ¬ (("read" : Str) = "place") := by decide +kernel
theorem nx_read_reader : ¬ (("read" : Str) = "reader") := by decide +kernel
theorem nx_read_tags : ¬ (("read" : Str) = "tags") := by decide +kernel
theorem nx_read_kind_all_bytes : ¬ (("read_kind" : Str) = "all_bytes") := by decide +kernel
theorem nx_read_kind_by_grammar : ¬ (("read_kind" : Str) = "by_grammar") := by decide +kernel
theorem nx_read_kind_found : ¬ (("read_kind" : Str) = "found") := by decide +kernel
theorem nx_read_kind_known : ¬ (("read_kind" : Str) = "known") := by decide +kernel
theorem nx_read_room_all_bytes : ¬ (("read_room" : Str) = "all_bytes") := by decide +kernel
theorem nx_read_room_by_grammar : ¬ (("read_room" : Str) = "by_grammar") := by decide +kernel
theorem nx_read_room_found : ¬ (("read_room" : Str) = "found") := by decide +kernel
theorem nx_read_room_known : ¬ (("read_room" : Str) = "known") := by decide +kernel
theorem nx_reader_begin : ¬ (("reader" : Str) = "begin") := by decide +kernel
theorem nx_reader_end : ¬ (("reader" : Str) = "end") := by decide +kernel
theorem nx_reader_fields : ¬ (("reader" : Str) = "fields") := by decide +kernel
theorem nx_reader_limit : ¬ (("reader" : Str) = "limit") := by decide +kernel
theorem nx_reader_path : ¬ (("reader" : Str) = "path") := by decide +kernel
theorem nx_reader_place : ¬ (("reader" : Str) = "place") := by decide +kernel
theorem nx_reader_tags : ¬ (("reader" : Str) = "tags") := by decide +kernel
theorem nx_room_begin : ¬ (("room" : Str) = "begin") := by decide +kernel
theorem nx_room_end : ¬ (("room" : Str) = "end") := by decide +kernel
theorem nx_room_fields : ¬ (("room" : Str) = "fields") := by decide +kernel
theorem nx_room_limit : ¬ (("room" : Str) = "limit") := by decide +kernel
theorem nx_room_path : ¬ (("room" : Str) = "path") := by decide +kernel
theorem nx_room_place : ¬ (("room" : Str) = "place") := by decide +kernel
theorem nx_room_reader : ¬ (("room" : Str) = "reader") := by decide +kernel
theorem nx_room_tags : ¬ (("room" : Str) = "tags") := by decide +kernel
theorem nx_stop_all_bytes : ¬ (("stop" : Str) = "all_bytes") := by decide +kernel
theorem nx_stop_by_grammar : ¬ (("stop" : Str) = "by_grammar") := by decide +kernel
theorem nx_stop_found : ¬ (("stop" : Str) = "found") := by decide +kernel
theorem nx_stop_known : ¬ (("stop" : Str) = "known") := by decide +kernel
theorem nx_tags_begin : ¬ (("tags" : Str) = "begin") := by decide +kernel
theorem nx_tags_end : ¬ (("tags" : Str) = "end") := by decide +kernel
theorem nx_tags_fields : ¬ (("tags" : Str) = "fields") := by decide +kernel
theorem nx_tags_limit : ¬ (("tags" : Str) = "limit") := by decide +kernel
theorem nx_tags_path : ¬ (("tags" : Str) = "path") := by decide +kernel
theorem nx_tags_place : ¬ (("tags" : Str) = "place") := by decide +kernel
theorem nx_tags_reader : ¬ (("tags" : Str) = "reader") := by decide +kernel
theorem nx_take_begin : ¬ (("take" : Str) = "begin") := by decide +kernel
theorem nx_take_end : ¬ (("take" : Str) = "end") := by decide +kernel
theorem nx_take_fields : ¬ (("take" : Str) = "fields") := by decide +kernel
theorem nx_take_limit : ¬ (("take" : Str) = "limit") := by decide +kernel
theorem nx_take_path : ¬ (("take" : Str) = "path") := by decide +kernel
theorem nx_take_place : ¬ (("take" : Str) = "place") := by decide +kernel
theorem nx_take_reader : ¬ (("take" : Str) = "reader") := by decide +kernel
theorem nx_take_tags : ¬ (("take" : Str) = "tags") := by decide +kernel
theorem nx_tell_all_bytes : ¬ (("tell" : Str) = "all_bytes") := by decide +kernel
theorem nx_tell_by_grammar : ¬ (("tell" : Str) = "by_grammar") := by decide +kernel
theorem nx_tell_found : ¬ (("tell" : Str) = "found") := by decide +kernel
theorem nx_tell_known : ¬ (("tell" : Str) = "known") := by decide +kernel
theorem fl_R_by_grammar {r : Rdr} : flook (rdF r) "by_grammar" = some (grDat r.G) :=  if_pos rfl
theorem fl_R_known {r : Rdr} : flook (rdF r) "known" = some (.obj r.kn) := (if_neg nx_known_by_grammar).trans <| if_pos rfl
theorem fl_R_all_bytes {r : Rdr} : flook (rdF r) "all_bytes" = some (bytesD r.bs) := (if_neg nx_all_bytes_by_grammar).trans <| (if_neg nx_all_bytes_known).trans <| if_pos rfl
theorem fl_R_found {r : Rdr} : flook (rdF r) "found" = some (.obj r.L) := (if_neg nx_found_by_grammar).trans <| (if_neg nx_found_known).trans <| (if_neg nx_found_all_bytes).trans <| if_pos rfl
theorem fl_T_reader {r : Rdr} {g : Thg} {p : Int} : flook (thF r g p) "reader" = some (.obj r.R) :=  if_pos rfl
theorem fl_T_begin {r : Rdr} {g : Thg} {p : Int} : flook (thF r g p) "begin" = some (.int g.b) := (if_neg nx_begin_reader).trans <| if_pos rfl
theorem fl_T_place {r : Rdr} {g : Thg} {p : Int} : flook (thF r g p) "place" = some (.int p) := (if_neg nx_place_reader).trans <| (if_neg nx_place_begin).trans <| if_pos rfl
theorem fl_T_limit {r : Rdr} {g : Thg} {p : Int} : flook (thF r g p) "limit" = some (.int g.E) := (if_neg nx_limit_reader).trans <| (if_neg nx_limit_begin).trans <| (if_neg nx_limit_place).trans <| if_pos rfl
theorem fl_T_end {r : Rdr} {g : Thg} {p : Int} : flook (thF r g p) "end" = some (.int g.E) := (if_neg nx_end_reader).trans <| (if_neg nx_end_begin).trans <| (if_neg nx_end_place).trans <| (if_neg nx_end_limit).trans <| if_pos rfl
theorem fl_T_path {r : Rdr} {g : Thg} {p : Int} : flook (thF r g p) "path" = some (.tup g.path) := (if_neg nx_path_reader).trans <| (if_neg nx_path_begin).trans <| (if_neg nx_path_place).trans <| (if_neg nx_path_limit).trans <| (if_neg nx_path_end).trans <| if_pos rfl
theorem fl_T_tags {r : Rdr} {g : Thg} {p : Int} : flook (thF r g p) "tags" = some (.obj g.τ) := (if_neg nx_tags_reader).trans <| (if_neg nx_tags_begin).trans <| (if_neg nx_tags_place).trans <| (if_neg nx_tags_limit).trans <| (if_neg nx_tags_end).trans <| (if_neg nx_tags_path).trans <| if_pos rfl
theorem fl_T_fields {r : Rdr} {g : Thg} {p : Int} : flook (thF r g p) "fields" = some (.obj g.φ) := (if_neg nx_fields_reader).trans <| (if_neg nx_fields_begin).trans <| (if_neg nx_fields_place).trans <| (if_neg nx_fields_limit).trans <| (if_neg nx_fields_end).trans <| (if_neg nx_fields_path).trans <| (if_neg nx_fields_tags).trans <| if_pos rfl
theorem fl_M_place {p l e : Int} : flook (rmF p l e) "place" = some (.int p) :=  if_pos rfl
theorem fl_M_limit {p l e : Int} : flook (rmF p l e) "limit" = some (.int l) := (if_neg nx_limit_place).trans <| if_pos rfl
theorem fl_M_end {p l e : Int} : flook (rmF p l e) "end" = some (.int e) := (if_neg nx_end_place).trans <| (if_neg nx_end_limit).trans <| if_pos rfl
theorem fl_R_tell {r : Rdr} : flook (rdF r) "tell" = none := (if_neg nx_tell_by_grammar).trans <| (if_neg nx_tell_known).trans <| (if_neg nx_tell_all_bytes).trans <| (if_neg nx_tell_found).trans <| rfl
theorem fl_R_stop {r : Rdr} : flook (rdF r) "stop" = none := (if_neg nx_stop_by_grammar).trans <| (if_neg nx_stop_known).trans <| (if_neg nx_stop_all_bytes).trans <| (if_neg nx_stop_found).trans <| rfl
theorem fl_R_read_kind {r : Rdr} : flook (rdF r) "read_kind" = none := (if_neg nx_read_kind_by_grammar).trans <| (if_neg nx_read_kind_known).trans <| (if_neg nx_read_kind_all_bytes).trans <| (if_neg nx_read_kind_found).trans <| rfl
theorem fl_R_read_room {r : Rdr} : flook (rdF r) "read_room" = none := (if_neg nx_read_room_by_grammar).trans <| (if_neg nx_read_room_known).trans <| (if_neg nx_read_room_all_bytes).trans <| (if_neg nx_read_room_found).trans <| rfl
theorem fl_T_read {r : Rdr} {g : Thg} {p : Int} : flook (thF r g p) "read" = none := (if_neg nx_read_reader).trans <| (if_neg nx_read_begin).trans <| (if_neg nx_read_place).trans <| (if_neg nx_read_limit).trans <| (if_neg nx_read_end).trans <| (if_neg nx_read_path).trans <| (if_neg nx_read_tags).trans <| (if_neg nx_read_fields).trans <| rfl
theorem fl_T_room {r : Rdr} {g : Thg} {p : Int} : flook (thF r g p) "room" = none := (if_neg nx_room_reader).trans <| (if_neg nx_room_begin).trans <| (if_neg nx_room_place).trans <| (if_neg nx_room_limit).trans <| (if_neg nx_room_end).trans <| (if_neg nx_room_path).trans <| (if_neg nx_room_tags).trans <| (if_neg nx_room_fields).trans <| rfl
theorem fl_T_lacks {r : Rdr} {g : Thg} {p : Int} : flook (thF r g p) "lacks" = none := (if_neg nx_lacks_reader).trans <| (if_neg nx_lacks_begin).trans <| (if_neg nx_lacks_place).trans <| (if_neg nx_lacks_limit).trans <| (if_neg nx_lacks_end).trans <| (if_neg nx_lacks_path).trans <| (if_neg nx_lacks_tags).trans <| (if_neg nx_lacks_fields).trans <| rfl
theorem fl_T_fails {r : Rdr} {g : Thg} {p : Int} : flook (thF r g p) "fails" = none := (if_neg nx_fails_reader).trans <| (if_neg nx_fails_begin).trans <| (if_neg nx_fails_place).trans <| (if_neg nx_fails_limit).trans <| (if_neg nx_fails_end).trans <| (if_neg nx_fails_path).trans <| (if_neg nx_fails_tags).trans <| (if_neg nx_fails_fields).trans <| rfl
theorem fl_T_take {r : Rdr} {g : Thg} {p : Int} : flook (thF r g p) "take" = none := (if_neg nx_take_reader).trans <| (if_neg nx_take_begin).trans <| (if_neg nx_take_place).trans <| (if_neg nx_take_limit).trans <| (if_neg nx_take_end).trans <| (if_neg nx_take_path).trans <| (if_neg nx_take_tags).trans <| (if_neg nx_take_fields).trans <| rfl
theorem fl_T_bytes_there {r : Rdr} {g : Thg} {p : Int} : flook (thF r g p) "bytes_there" = none := (if_neg nx_bytes_there_reader).trans <| (if_neg nx_bytes_there_begin).trans <| (if_neg nx_bytes_there_place).trans <| (if_neg nx_bytes_there_limit).trans <| (if_neg nx_bytes_there_end).trans <| (if_neg nx_bytes_there_path).trans <| (if_neg nx_bytes_there_tags).trans <| (if_neg nx_bytes_there_fields).trans <| rfl
theorem fl_T_is_short {r : Rdr} {g : Thg} {p : Int} : flook (thF r g p) "is_short" = none := (if_neg nx_is_short_reader).trans <| (if_neg nx_is_short_begin).trans <| (if_neg nx_is_short_place).trans <| (if_neg nx_is_short_limit).trans <| (if_neg nx_is_short_end).trans <| (if_neg nx_is_short_path).trans <| (if_neg nx_is_short_tags).trans <| (if_neg nx_is_short_fields).trans <| rfl
theorem fp_T_place {r : Rdr} {g : Thg} {p q : Int} : fput "place" (.int q) (thF r g p) = thF r g q := (if_neg nx_reader_place).trans (congrArg (_ :: ·) ((if_neg nx_begin_place).trans (congrArg (_ :: ·) (if_pos rfl))))
theorem fp_T_limit {r : Rdr} {g : Thg} {p : Int} : fput "limit" (.int g.E) (thF r g p) = thF r g p := (if_neg nx_reader_limit).trans (congrArg (_ :: ·) ((if_neg nx_begin_limit).trans (congrArg (_ :: ·) ((if_neg nx_place_limit).trans (congrArg (_ :: ·) (if_pos rfl))))))
theorem fn_R_0 {x0 : Dat} : fput "by_grammar" x0 [] = [(("by_grammar" : Str), x0)] := rfl
theorem fn_R_1 {x0 x1 : Dat} : fput "known" x1 [(("by_grammar" : Str), x0)] = [(("by_grammar" : Str), x0), (("known" : Str), x1)] := (if_neg nx_by_grammar_known).trans (congrArg (_ :: ·) (rfl))
theorem fn_R_2 {x0 x1 x2 : Dat} : fput "all_bytes" x2 [(("by_grammar" : Str), x0), (("known" : Str), x1)] = [(("by_grammar" : Str), x0), (("known" : Str), x1), (("all_bytes" : Str), x2)] := (if_neg nx_by_grammar_all_bytes).trans (congrArg (_ :: ·) ((if_neg nx_known_all_bytes).trans (congrArg (_ :: ·) (rfl))))
theorem fn_R_3 {x0 x1 x2 x3 : Dat} : fput "found" x3 [(("by_grammar" : Str), x0), (("known" : Str), x1), (("all_bytes" : Str), x2)] = [(("by_grammar" : Str), x0), (("known" : Str), x1), (("all_bytes" : Str), x2), (("found" : Str), x3)] := (if_neg nx_by_grammar_found).trans (congrArg (_ :: ·) ((if_neg nx_known_found).trans (congrArg (_ :: ·) ((if_neg nx_all_bytes_found).trans (congrArg (_ :: ·) (rfl))))))
theorem fn_T_0 {x0 : Dat} : fput "reader" x0 [] = [(("reader" : Str), x0)] := rfl
theorem fn_T_1 {x0 x1 : Dat} : fput "begin" x1 [(("reader" : Str), x0)] = [(("reader" : Str), x0), (("begin" : Str), x1)] := (if_neg nx_reader_begin).trans (congrArg (_ :: ·) (rfl))
theorem fn_T_2 {x0 x1 x2 : Dat} : fput "place" x2 [(("reader" : Str), x0), (("begin" : Str), x1)] = [(("reader" : Str), x0), (("begin" : Str), x1), (("place" : Str), x2)] := (if_neg nx_reader_place).trans (congrArg (_ :: ·) ((if_neg nx_begin_place).trans (congrArg (_ :: ·) (rfl))))
theorem fn_T_3 {x0 x1 x2 x3 : Dat} : fput "limit" x3 [(("reader" : Str), x0), (("begin" : Str), x1), (("place" : Str), x2)] = [(("reader" : Str), x0), (("begin" : Str), x1), (("place" : Str), x2), (("limit" : Str), x3)] := (if_neg nx_reader_limit).trans (congrArg (_ :: ·) ((if_neg nx_begin_limit).trans (congrArg (_ :: ·) ((if_neg nx_place_limit).trans (congrArg (_ :: ·) (rfl))))))
theorem fn_T_4 {x0 x1 x2 x3 x4 : Dat} : fput "end" x4 [(("reader" : Str), x0), (("begin" : Str), x1), (("place" : Str), x2), (("limit" : Str), x3)] = [(("reader" : Str), x0), (("begin" : Str), x1), (("place" : Str), x2), (("limit" : Str), x3), (("end" : Str), x4)] := (if_neg nx_reader_end).trans (congrArg (_ :: ·) ((if_neg nx_begin_end).trans (congrArg (_ :: ·) ((if_neg nx_place_end).trans (congrArg (_ :: ·) ((if_neg nx_limit_end).trans (congrArg (_ :: ·) (rfl))))))))
theorem fn_T_5 {x0 x1 x2 x3 x4 x5 : Dat} : fput "path" x5 [(("reader" : Str), x0), (("begin" : Str), x1), (("place" : Str), x2), (("limit" : Str), x3), (("end" : Str), x4)] = [(("reader" : Str), x0), (("begin" : Str), x1), (("place" : Str), x2), (("limit" : Str), x3), (("end" : Str), x4), (("path" : Str), x5)] := (if_neg nx_reader_path).trans (congrArg (_ :: ·) ((if_neg nx_begin_path).trans (congrArg (_ :: ·) ((if_neg nx_place_path).trans (congrArg (_ :: ·) ((if_neg nx_limit_path).trans (congrArg (_ :: ·) ((if_neg nx_end_path).trans (congrArg (_ :: ·) (rfl))))))))))
theorem fn_T_6 {x0 x1 x2 x3 x4 x5 x6 : Dat} : fput "tags" x6 [(("reader" : Str), x0), (("begin" : Str), x1), (("place" : Str), x2), (("limit" : Str), x3), (("end" : Str), x4), (("path" : Str), x5)] = [(("reader" : Str), x0), (("begin" : Str), x1), (("place" : Str), x2), (("limit" : Str), x3), (("end" : Str), x4), (("path" : Str), x5), (("tags" : Str), x6)] := (if_neg nx_reader_tags).trans (congrArg (_ :: ·) ((if_neg nx_begin_tags).trans (congrArg (_ :: ·) ((if_neg nx_place_tags).trans (congrArg (_ :: ·) ((if_neg nx_limit_tags).trans (congrArg (_ :: ·) ((if_neg nx_end_tags).trans (congrArg (_ :: ·) ((if_neg nx_path_tags).trans (congrArg (_ :: ·) (rfl))))))))))))
theorem fn_T_7 {x0 x1 x2 x3 x4 x5 x6 x7 : Dat} : fput "fields" x7 [(("reader" : Str), x0), (("begin" : Str), x1), (("place" : Str), x2), (("limit" : Str), x3), (("end" : Str), x4), (("path" : Str), x5), (("tags" : Str), x6)] = [(("reader" : Str), x0), (("begin" : Str), x1), (("place" : Str), x2), (("limit" : Str), x3), (("end" : Str), x4), (("path" : Str), x5), (("tags" : Str), x6), (("fields" : Str), x7)] := (if_neg nx_reader_fields).trans (congrArg (_ :: ·) ((if_neg nx_begin_fields).trans (congrArg (_ :: ·) ((if_neg nx_place_fields).trans (congrArg (_ :: ·) ((if_neg nx_limit_fields).trans (congrArg (_ :: ·) ((if_neg nx_end_fields).trans (congrArg (_ :: ·) ((if_neg nx_path_fields).trans (congrArg (_ :: ·) ((if_neg nx_tags_fields).trans (congrArg (_ :: ·) (rfl))))))))))))))
theorem fn_M_0 {x0 : Dat} : fput "place" x0 [] = [(("place" : Str), x0)] := rfl
theorem fn_M_1 {x0 x1 : Dat} : fput "limit" x1 [(("place" : Str), x0)] = [(("place" : Str), x0), (("limit" : Str), x1)] := (if_neg nx_place_limit).trans (congrArg (_ :: ·) (rfl))
theorem fn_M_2 {x0 x1 x2 : Dat} : fput "end" x2 [(("place" : Str), x0), (("limit" : Str), x1)] = [(("place" : Str), x0), (("limit" : Str), x1), (("end" : Str), x2)] := (if_neg nx_place_end).trans (congrArg (_ :: ·) ((if_neg nx_limit_end).trans (congrArg (_ :: ·) (rfl))))
end Lb
/-! text LbY -/
/-! Walks: the small methods. -/
namespace Lb
open PySem L2
section
variable {ι : Type} {K : PySem.W.Frag} {W : Wd ι} {i : ι} {Γ : Ctx} {ta tb te tk tx : TE} {D : Ends} {tr : TS}
/-- x.append(e), x a list that changes with the index -/
theorem nx_appendG (h : Ev K W i ta Γ fun j o => ∃ a l, o = .obj a ∧ (∀ {H : Hp}, W.I j H → LstAt K a l H) ∧ Ev K W j te Γ fun k e => ∃ l' k', (∀ {H : Hp}, W.I k H → LstAt K a l' H) ∧ l'.length ≤ 1000000 ∧ (∀ {H H' : Hp}, W.I k H → Off [a] H H' → LstAt K a (l' ++ [e]) H' → W.I k' H') ∧ Nx K W k' Γ D.nx) :
    Nx K W i Γ (tDrop (tBM K "list" rAppend ta (tCons te tNil)) D) := fun H σ I E => h H σ I E _ fun x H1 j d o1 I1 a1 p1 => by
  obtain ⟨p, l, rfl, hl, p2⟩ := p1
  cases a1
  obtain ⟨vs1, e1, _⟩ := hl I1
  refine ⟨.inl ⟨rfl, vs1, SqL.of e1⟩, p2 H1 σ I1 (E.mono o1) _ fun v H2 k e o2 I2 a2 p3 => ?_⟩
  obtain ⟨l', k', hl', hz, hI, n⟩ := p3
  obtain ⟨vs, e2, al⟩ := hl' I2
  have f : Off [p] H2 (upd H2 p (.lst (vs ++ [v]))) := Off.put (by simp) e2 fun z => z
  exact ⟨p, vs, v, rfl, rfl, e2, by rw [al.len, sizeLine_eq]; omega, n _ σ (hI I2 f ⟨_, upd_same, (AtL.append al (.cons a2 .nil)).mono f⟩) ((E.mono (o1.trans o2)).mono f)⟩
end
section
variable {P : Program} {w : World} {K : PySem.W.Frag} {mg : Str → Option Value} {base : Heap} {cR cM cT aS aD : Addr}
def sprArgs (s : Spr) : List Dat := [.int s.b, .int s.e, .tup s.path, .str s.what, s.worth]
def spTell (K : PySem.W.Frag) (cR : Addr) : Sp := SpR K cR sprArgs (fun _ s _ _ => s.length ≤ 900000) fun _ a new d => new = [a]
theorem w_tell (T : Tp K mg w cR cM cT aS aD) : Ml P w K mg base 1 cR "tell" (spTell K cR) := by
  obtain ⟨f, fd, F, hm⟩ := T.m_Reader_tell
  refine ⟨⟨f, fd, ["self", "begin", "end", "path", "what", "worth"], ?_, hm, F.binds fun _ _ _ _ _ _ us hl => match us, hl with | [_, _, _, _, _, _], _ => rfl⟩, T.c_Reader.1⟩
  refine F.ok sc_Reader_tell (fun vs H Q E h => ?_) (fun cdv A outer sh H vs Q E hr h => ?_)
  · obtain ⟨a, r, s, al, _⟩ := h
    exact al.len
  obtain ⟨a, r, s, al, pre, ra, k⟩ := h
  try dsimp only at pre
  have hu := hu_of hr
  refine ⟨_, (pss_one (ps_expr (k_append K (k_fld K (pv 0)) (pe_tupF (pa_cons (pv 1) (pa_cons (pv 2) (pa_cons (pv 3) (pa_cons (pv 4) (pa_cons (pv 5) pa_nil))))))))), ?_⟩
  refine nx_go (W := .rdr K cR r H ra.1.trk ra.2.trk) (i := s) ?_ ⟨Off.refl, ra⟩ (Sls.start al _ rfl)
  refine nx_appendG (ev_fld (ev_var rfl ⟨r.R, cR, rdF r, _, rfl, fun I => I.2.1, T.c_Reader.1, T.a_Reader_found, fl_R_found, r.L, _, rfl, fun I => I.2.2, ?_⟩))
  refine ev_tup (ea_cons (ev_var rfl (ea_cons (ev_var rfl (ea_cons (ev_var rfl (ea_cons (ev_var rfl (ea_cons (ev_var rfl (ea_nil ⟨by show 5 ≤ 1000; decide, ?_⟩)))))))))))
  refine ⟨s.map Spr.dat, s ++ [a], fun I => I.2.2, by rw [List.length_map]; omega, fun I o la => ⟨I.1.trans o, I.2.1.off (by simpa using I.2.1.ne_lst I.2.2) o, by rw [List.map_append]; exact la⟩, fun H' σ I E => ?_⟩
  exact k .non H' .non [a] I.1 I.2 .non rfl
def spStop (K : PySem.W.Frag) (cR : Addr) : Sp := SpR K cR (α := Int × Int × List Dat × Str) (fun a => [.int a.1, .int a.2.1, .tup a.2.2.1, .str a.2.2.2]) (fun _ s _ _ => s.length ≤ 900000) fun _ a new d => new = stopS a.1 a.2.1 a.2.2.1 a.2.2.2
theorem w_stop (T : Tp K mg w cR cM cT aS aD) (Q_Reader_tell : Ml P w K mg base 1 cR "tell" (spTell K cR)) : Ml P w K mg base 2 cR "stop" (spStop K cR) := by
  obtain ⟨f, fd, F, hm⟩ := T.m_Reader_stop
  refine ⟨⟨f, fd, ["self", "place", "end", "path", "word"], ?_, hm, F.binds fun _ _ _ _ _ _ us hl => match us, hl with | [_, _, _, _, _], _ => rfl⟩, T.c_Reader.1⟩
  refine F.ok sc_Reader_stop (fun vs H Q E h => ?_) (fun cdv A outer sh H vs Q E hr h => ?_)
  · obtain ⟨⟨p, e, path, word⟩, r, s, al, _⟩ := h
    exact al.len
  obtain ⟨⟨p, e, path, word⟩, r, s, al, pre, ra, k⟩ := h
  try dsimp only at pre
  have hu := hu_of hr
  refine ⟨_, (pss_one (ps_if (pt_cmpR op_lt (pv 1) (pv 2) (nomark _)) (pss_one (ps_expr (k_meth (pv 0) Q_Reader_tell (hr.mono (by decide)) (pa_cons (pv 1) (pa_cons (pv 2) (pa_cons (pv 3) (pa_cons pe_str (pa_cons (pv 4) pa_nil)))))))) pss_nil)), ?_⟩
  refine nx_go (W := .rdr K cR r H ra.1.trk ra.2.trk) (i := s) ?_ ⟨Off.refl, ra⟩ (Sls.start al _ rfl)
  refine nx_if (et_test (ev_op (ev_var rfl (ev_var rfl (op_bl0 ⟨_, rfl, ifD (fun c => ?_) fun c => ?_⟩)))))
  · refine nx_drop (ev_meth (ev_var rfl ⟨r.R, rdF r, rfl, fun I => I.2.1, fl_R_tell, ?_⟩))
    refine (ea_cons (ev_var rfl (ea_cons (ev_var rfl (ea_cons (ev_var rfl (ea_cons (ev_str (ea_cons (ev_var rfl (ea_nil ?_)))))))))))
    refine call_R rdr_lens ⟨p, e, path, "unknown", .str word⟩ rfl (fun _ => pre) ?_
    rintro d _ rfl
    refine fun H' σ I E => k .non H' .non _ I.1 I.2 .non ?_
    show [_] = stopS p e path word
    unfold stopS
    rw [if_pos c]
  · refine fun H' σ I E => k .non H' .non [] I.1 (by rw [List.append_nil]; exact I.2) .non ?_
    show [] = stopS p e path word
    unfold stopS
    rw [if_neg c]
def spRoomI (K : PySem.W.Frag) (cM : Addr) : Sp := SpInit K cM (α := Int × Int × Int) (fun a => [.int a.1, .int a.2.1, .int a.2.2]) (fun _ _ => True) fun _ a _ l _ => l = rmF a.1 a.2.1 a.2.2
theorem w_room_init (T : Tp K mg w cR cM cT aS aD) : Mkl P w K mg base 1 "Room" cM (spRoomI K cM) := by
  obtain ⟨f, fd, F, hm⟩ := T.m_Room_init
  refine ⟨⟨f, fd, ["self", "place", "limit", "end"], ?_, hm, F.binds fun _ _ _ _ _ _ us hl => match us, hl with | [_, _, _, _], _ => rfl⟩, T.c_Room.2⟩
  refine F.ok sc_Room_init (fun vs H Q E h => ?_) (fun cdv A outer sh H vs Q E hr h => ?_)
  · obtain ⟨p, a, al, _⟩ := h
    exact al.len
  obtain ⟨p, a, al, pre, ra, k⟩ := h
  try dsimp only at pre
  have hu := hu_of hr
  refine ⟨_, (pss_cons (k_sfld K (pv 0) (pv 1))
      (pss_cons (k_sfld K (pv 0) (pv 2))
      (pss_one (k_sfld K (pv 0) (pv 3))))), ?_⟩
  have hA : ∀ x ∈ [p], H x ≠ none := by intro x hx; rw [List.mem_singleton.mp hx]; exact pre.trk
  have hC : (Wd.baseA [p] H hA).C p := pre.trk
  refine nx_go (W := (Wd.baseA [p] H hA).mine p (InsAt K p cM []) (ins_shp K p cM _) hC) (i := ()) ?_ ⟨⟨Off.refl, hA⟩, pre⟩ (Sls.start al _ rfl)
  have mt : Mt (Wd.baseA [p] H hA) p := Mt.baseA (by simp)
  refine sq_sfld (OwnAt.mine mt) T.c_Room.1 T.a_Room_place (by decide) (ev_var rfl (ev_var rfl ⟨rfl, ?_⟩))
  rw [fn_M_0]
  refine sq_sfld (OwnAt.mine mt) T.c_Room.1 T.a_Room_limit (by show 1 < 1000; decide) (ev_var rfl (ev_var rfl ⟨rfl, ?_⟩))
  rw [fn_M_1]
  refine nx_sfld (OwnAt.mine mt) T.c_Room.1 T.a_Room_end (by show 2 < 1000; decide) (ev_var rfl (ev_var rfl ⟨rfl, ?_⟩))
  rw [fn_M_2]
  exact fun H' σ I E => k H' _ I.1.1 I.2 rfl
/-- what a thing's __init__ leaves -/
def spThingI (K : PySem.W.Frag) (cM cT : Addr) : Sp := SpInit K cT (α := Rdr × Addr × Int × Int × List Dat) (fun a => [.obj a.1.R, .obj a.2.1, .tup a.2.2.2.2]) (fun a H => InsAt K a.2.1 cM (rmF a.2.2.1 a.2.2.2.1 a.2.2.2.1) H)
  fun x a H l H' => ∃ τ φ, τ ≠ φ ∧ H τ = none ∧ H φ = none ∧ l = thF a.1 ⟨x, τ, φ, a.2.2.1, a.2.2.2.1, a.2.2.2.2⟩ a.2.2.1 ∧ DctAt K τ [] H' ∧ DctAt K φ [] H'
theorem w_thing_init (T : Tp K mg w cR cM cT aS aD) : Mkl P w K mg base 1 "Thing" cT (spThingI K cM cT) := by
  obtain ⟨f, fd, F, hm⟩ := T.m_Thing_init
  refine ⟨⟨f, fd, ["self", "reader", "room", "path"], ?_, hm, F.binds fun _ _ _ _ _ _ us hl => match us, hl with | [_, _, _, _], _ => rfl⟩, T.c_Thing.2⟩
  refine F.ok sc_Thing_init (fun vs H Q E h => ?_) (fun cdv A outer sh H vs Q E hr h => ?_)
  · obtain ⟨x, ⟨r, rm, p0, E0', path⟩, al, _⟩ := h
    exact al.len
  obtain ⟨x, ⟨r, rm, p0, E0', path⟩, al, pre, ra, k⟩ := h
  try dsimp only at pre
  have hu := hu_of hr
  refine ⟨_, (pss_cons (k_sfld K (pv 0) (pv 1))
      (pss_cons (k_sfld K (pv 0) (k_fld K (pv 2)))
      (pss_cons (k_sfld K (pv 0) (k_fld K (pv 2)))
      (pss_cons (k_sfld K (pv 0) (k_fld K (pv 2)))
      (pss_cons (k_sfld K (pv 0) (k_fld K (pv 2)))
      (pss_cons (k_sfld K (pv 0) (pv 3))
      (pss_cons (k_sfld K (pv 0) pe_dnewK)
      (pss_one (k_sfld K (pv 0) pe_dnewK))))))))), ?_⟩
  have hA : ∀ y ∈ [x], H y ≠ none := by intro y hy; rw [List.mem_singleton.mp hy]; exact pre.trk
  have hC : (Wd.baseA [x] H hA).C x := pre.trk
  have nrm : rm ∉ [x] := by
    intro z
    rw [List.mem_singleton.mp z] at ra
    obtain ⟨_, _, e1, _⟩ := pre
    obtain ⟨_, _, e2, _⟩ := ra
    rw [e1] at e2; cases e2; exact T.ne_TM rfl
  have rm : ∀ {φ : Hp → Prop} {s : Shp x φ} {j : Unit} {H' : Hp}, ((Wd.baseA [x] H hA).mine x φ s hC).I j H' → InsAt K rm cM (rmF p0 E0' E0') H' := fun I => ra.off nrm I.1.1
  refine nx_go (W := (Wd.baseA [x] H hA).mine x (InsAt K x cT []) (ins_shp K x cT _) hC) (i := ()) ?_ ⟨⟨Off.refl, hA⟩, pre⟩ (Sls.start al _ rfl)
  have mt : Mt (Wd.baseA [x] H hA) x := Mt.baseA (by simp)
  refine sq_sfld (OwnAt.mine mt) T.c_Thing.1 T.a_Thing_reader (by decide) (ev_var rfl (ev_var rfl ⟨rfl, ?_⟩))
  rw [fn_T_0]
  refine sq_sfld (OwnAt.mine mt) T.c_Thing.1 T.a_Thing_begin (by show 1 < 1000; decide) (ev_fld (ev_var rfl ⟨_, cM, _, _, rfl, fun I => rm I, T.c_Room.1, T.a_Room_place, fl_M_place, ev_var rfl ⟨rfl, ?_⟩⟩))
  rw [fn_T_1]
  refine sq_sfld (OwnAt.mine mt) T.c_Thing.1 T.a_Thing_place (by show 2 < 1000; decide) (ev_fld (ev_var rfl ⟨_, cM, _, _, rfl, fun I => rm I, T.c_Room.1, T.a_Room_place, fl_M_place, ev_var rfl ⟨rfl, ?_⟩⟩))
  rw [fn_T_2]
  refine sq_sfld (OwnAt.mine mt) T.c_Thing.1 T.a_Thing_limit (by show 3 < 1000; decide) (ev_fld (ev_var rfl ⟨_, cM, _, _, rfl, fun I => rm I, T.c_Room.1, T.a_Room_limit, fl_M_limit, ev_var rfl ⟨rfl, ?_⟩⟩))
  rw [fn_T_3]
  refine sq_sfld (OwnAt.mine mt) T.c_Thing.1 T.a_Thing_end (by show 4 < 1000; decide) (ev_fld (ev_var rfl ⟨_, cM, _, _, rfl, fun I => rm I, T.c_Room.1, T.a_Room_end, fl_M_end, ev_var rfl ⟨rfl, ?_⟩⟩))
  rw [fn_T_4]
  refine sq_sfld (OwnAt.mine mt) T.c_Thing.1 T.a_Thing_path (by show 5 < 1000; decide) (ev_var rfl (ev_var rfl ⟨rfl, ?_⟩))
  rw [fn_T_5]
  refine sq_sfldD (OwnAt.mine mt) T.c_Thing.1 T.a_Thing_tags (by show 6 < 1000; decide) (ed_new fun τ nτ => ev_var rfl ⟨rfl, ?_⟩)
  rw [fn_T_6]
  refine nx_sfldD (OwnAt.mine mt).under T.c_Thing.1 T.a_Thing_fields (by show 7 < 1000; decide) (ed_new fun φ nφ => ev_var rfl ⟨rfl, ?_⟩)
  rw [fn_T_7]
  refine fun H' σ I E => k H' _ I.1.1.1.1 I.1.1.2 ⟨τ, φ, fun z => nφ (.inl z.symm), Classical.byContradiction nτ, Classical.byContradiction fun z => nφ (.inr z), rfl, I.1.2, I.2⟩
/-- a thing's room -/
def spRoom (K : PySem.W.Frag) (cR cM cT : Addr) : Sp := fun vs H Q _ => ∃ r g s, AtL K H vs [.obj g.t] ∧ TAt K cR cT r g s H ∧ ∀ x H', H x = none → Same H H' → InsAt K x cM (rmF s.place g.E g.E) H' → Q (.ref x) H'
theorem w_room (T : Tp K mg w cR cM cT aS aD) (M_Room : Mkl P w K mg base 1 "Room" cM (spRoomI K cM)) : Ml P w K mg base 3 cT "room" (spRoom K cR cM cT) := by
  obtain ⟨f, fd, F, hm⟩ := T.m_Thing_room
  refine ⟨⟨f, fd, ["self"], ?_, hm, F.binds fun _ _ _ _ _ _ us hl => match us, hl with | [_], _ => rfl⟩, T.c_Thing.1⟩
  refine F.ok sc_Thing_room (fun vs H Q E h => ?_) (fun cdv A outer sh H vs Q E hr h => ?_)
  · obtain ⟨r, g, s, al, _⟩ := h
    exact al.len
  obtain ⟨r, g, s, al, pre, k⟩ := h
  try dsimp only at pre
  have hu := hu_of hr
  refine ⟨_, (pss_one (ps_ret (k_make M_Room (hr.mono (by decide)) (pa_cons (k_fld K (pv 0)) (pa_cons (k_fld K (pv 0)) (pa_cons (k_fld K (pv 0)) pa_nil)))))), ?_⟩
  have th : ∀ {j : Unit} {H' : Hp}, (Wd.base H).I j H' → InsAt K g.t cT (thF r g s.place) H' := fun I => pre.th.off (A := []) (by simp) (Off.of_same I)
  refine nx_go (W := .base H) (i := ()) ?_ (fun b o e => e) (Sls.start al _ rfl)
  refine fun H1 σ I E => ?_
  refine ei_make (W := .base H) (i := ()) (Pi := fun _ l => l = rmF s.place g.E g.E) ?_ H1 σ I E _ (fun x H' _ l np o I' ia ps => by subst ps; exact k x H' (baseN np) I' ia)
  refine ea_cons (ev_fld (ev_var rfl ⟨_, cT, _, _, rfl, fun I => th I, T.c_Thing.1, T.a_Thing_place, fl_T_place, ?_⟩))
  refine ea_cons (ev_fld (ev_var rfl ⟨_, cT, _, _, rfl, fun I => th I, T.c_Thing.1, T.a_Thing_limit, fl_T_limit, ?_⟩))
  refine ea_cons (ev_fld (ev_var rfl ⟨_, cT, _, _, rfl, fun I => th I, T.c_Thing.1, T.a_Thing_end, fl_T_end, ?_⟩))
  exact ea_nil ⟨(s.place, g.E, g.E), rfl, fun _ => True.intro, fun _ _ _ _ z => z⟩
/-- the world of a thing's method -/
theorem thg_hs {r : Rdr} {g : Thg} : ∀ x ∈ [r.L, g.t, g.τ, g.φ], x ∈ [r.L, g.t, g.τ, g.φ] := fun _ h => h
abbrev Wd.tm (K : PySem.W.Frag) (cR cT : Addr) (r : Rdr) (g : Thg) (H0 : Hp) : Wd TSt := Wd.thg K cR cT r g [r.L, g.t, g.τ, g.φ] H0 (fun _ h => h) (fun _ h => .inl h)
section
variable {r : Rdr} {g : Thg} {W : Wd TSt} {i : TSt} {Γ : Ctx} {P : TSt → Dat → Prop}
/-- a thing's attributes -/
theorem ev_th (T : Tp K mg w cR cM cT aS aD) (ln : TLens K cR cT W r g) {k : Nat} {f : Str} {d : Dat} (hk : Γ[k]? = some (some (.obj g.t))) (hn : NoAttr K cT f) (hf : ∀ {p : Int}, flook (thF r g p) f = some d) (p : P i d) : Ev K W i (tFld K (tVar k) f) Γ P :=
  ev_fld (ev_var hk ⟨g.t, cT, _, d, rfl, fun I => (ln.get I).th, T.c_Thing.1, hn, hf, p⟩)
theorem ev_place (T : Tp K mg w cR cM cT aS aD) (ln : TLens K cR cT W r g) {k : Nat} (hk : Γ[k]? = some (some (.obj g.t))) (p : P i (.int i.place)) : Ev K W i (tFld K (tVar k) "place") Γ P :=
  ev_fld (ev_var hk ⟨g.t, cT, _, _, rfl, fun I => (ln.get I).th, T.c_Thing.1, T.a_Thing_place, fl_T_place, p⟩)
theorem ev_rd (T : Tp K mg w cR cM cT aS aD) (ln : TLens K cR cT W r g) {k : Nat} {f : Str} {d : Dat} (hk : Γ[k]? = some (some (.obj g.t))) (hn : NoAttr K cR f) (hf : flook (rdF r) f = some d) (p : P i d) : Ev K W i (tFld K (tFld K (tVar k) "reader") f) Γ P :=
  ev_fld (ev_th T ln hk T.a_Thing_reader (by exact fl_T_reader) ⟨r.R, cR, rdF r, d, rfl, fun I => (ln.get I).rd.1, T.c_Reader.1, hn, hf, p⟩)
end
def spIsShort (K : PySem.W.Frag) (cR cT : Addr) : Sp := SpT K cR cT (α := Int) (fun a => [.int a]) (fun _ _ _ _ => True) fun r g s a s' d => s' = s ∧ d = .bl (decide (s.place + a > g.E))
theorem w_is_short (T : Tp K mg w cR cM cT aS aD) : Ml P w K mg base 1 cT "is_short" (spIsShort K cR cT) := by
  obtain ⟨f, fd, F, hm⟩ := T.m_Thing_is_short
  refine ⟨⟨f, fd, ["self", "size"], ?_, hm, F.binds fun _ _ _ _ _ _ us hl => match us, hl with | [_, _], _ => rfl⟩, T.c_Thing.1⟩
  refine F.ok sc_Thing_is_short (fun vs H Q E h => ?_) (fun cdv A outer sh H vs Q E hr h => ?_)
  · obtain ⟨n, r, g, s, al, _⟩ := h
    exact al.len
  obtain ⟨n, r, g, s, al, pre, ra, k⟩ := h
  try dsimp only at pre
  have hu := hu_of hr
  refine ⟨_, (pss_one (ps_ret (pe_cmpR op_gt (pe_op op_add (k_fld K (pv 0)) (pv 1)) (k_fld K (pv 0)) (nomark _)))), ?_⟩
  have ln : TLens K cR cT (Wd.tm K cR cT r g H) r g := thg_lens
  refine nx_go (W := .tm K cR cT r g H) (i := s) ?_ ⟨Off.refl, ra⟩ (Sls.start al _ rfl)
  refine nx_ret (ev_op (ev_op (ev_place T ln rfl (ev_var rfl (op_int0 (ev_th T ln rfl T.a_Thing_limit (by exact fl_T_limit) (op_bl0 (rt_of fun H' v I z => ?_))))))))
  exact k v H' _ s I.1 I.2 z ⟨rfl, rfl⟩
theorem cut_eq {bs : List Int} {p n : Int} (hp : 0 ≤ p) (hn : 0 ≤ n) (h : p + n ≤ bs.length) : cutD (bs.map Dat.int) (some p) (some (p + n)) = (cutB bs p n).map Dat.int := by
  unfold cutD cutB HT.sIx
  rw [List.length_map]
  have e1 : ¬ p < 0 := by omega
  have e2 : ¬ p + n < 0 := by omega
  simp only [e1, e2, if_false]
  rw [← List.map_drop, ← List.map_take]
  have e3 : min p.toNat bs.length = p.toNat := by omega
  have e4 : min (p + n).toNat bs.length = (p + n).toNat := by omega
  have e5 : (p + n).toNat - p.toNat = n.toNat := by omega
  rw [e3, e4, e5]
def spBytesThere (K : PySem.W.Frag) (cR cT : Addr) : Sp := SpT K cR cT (α := Int) (fun a => [.int a]) (fun r g s a => 0 ≤ s.place ∧ 0 ≤ a ∧ s.place + a ≤ r.bs.length) fun r g s a s' d => s' = s ∧ d = bytesD (cutB r.bs s.place a)
theorem w_bytes_there (T : Tp K mg w cR cM cT aS aD) : Ml P w K mg base 1 cT "bytes_there" (spBytesThere K cR cT) := by
  obtain ⟨f, fd, F, hm⟩ := T.m_Thing_bytes_there
  refine ⟨⟨f, fd, ["self", "size"], ?_, hm, F.binds fun _ _ _ _ _ _ us hl => match us, hl with | [_, _], _ => rfl⟩, T.c_Thing.1⟩
  refine F.ok sc_Thing_bytes_there (fun vs H Q E h => ?_) (fun cdv A outer sh H vs Q E hr h => ?_)
  · obtain ⟨n, r, g, s, al, _⟩ := h
    exact al.len
  obtain ⟨n, r, g, s, al, pre, ra, k⟩ := h
  try dsimp only at pre
  have hu := hu_of hr
  refine ⟨_, (pss_one (ps_ret (pe_slice (k_slT K) (k_fld K (k_fld K (pv 0))) (po_some (k_fld K (pv 0))) (po_some (pe_op op_add (k_fld K (pv 0)) (pv 1)))))), ?_⟩
  have ln : TLens K cR cT (Wd.tm K cR cT r g H) r g := thg_lens
  refine nx_go (W := .tm K cR cT r g H) (i := s) ?_ ⟨Off.refl, ra⟩ (Sls.start al _ rfl)
  refine nx_ret (ev_slT (ev_rd T ln rfl T.a_Reader_all_bytes fl_R_all_bytes (eo_some (ev_place T ln rfl ⟨_, rfl, ?_⟩))))
  refine eo_some (ev_op (ev_place T ln rfl (ev_var rfl (op_int0 ⟨_, rfl, _, rfl, rt_of fun H' v I z => ?_⟩))))
  rw [cut_eq pre.1 pre.2.1 pre.2.2] at z
  exact k v H' _ s I.1 I.2 z ⟨rfl, rfl⟩
def spLacks (K : PySem.W.Frag) (cR cT : Addr) : Sp := SpT K cR cT (α := Str × Str) (fun a => [.str a.1, .str a.2]) (fun r g s a => s.sp.length ≤ 800000 ∧ g.path.length ≤ 1000) fun r g s a s' d => s' = { s with sp := s.sp ++ lackS s.place g.E g.path a.1 a.2 } ∧ d = .bl false
theorem w_lacks (T : Tp K mg w cR cM cT aS aD) (Q_Reader_tell : Ml P w K mg base 1 cR "tell" (spTell K cR)) : Ml P w K mg base 2 cT "lacks" (spLacks K cR cT) := by
  obtain ⟨f, fd, F, hm⟩ := T.m_Thing_lacks
  refine ⟨⟨f, fd, ["self", "name", "word"], ?_, hm, F.binds fun _ _ _ _ _ _ us hl => match us, hl with | [_, _, _], _ => rfl⟩, T.c_Thing.1⟩
  refine F.ok sc_Thing_lacks (fun vs H Q E h => ?_) (fun cdv A outer sh H vs Q E hr h => ?_)
  · obtain ⟨⟨name, word⟩, r, g, s, al, _⟩ := h
    exact al.len
  obtain ⟨⟨name, word⟩, r, g, s, al, pre, ra, k⟩ := h
  try dsimp only at pre
  have hu := hu_of hr
  refine ⟨_, (pss_cons (ps_expr (k_meth (k_fld K (pv 0)) Q_Reader_tell (hr.mono (by decide)) (pa_cons (k_fld K (pv 0)) (pa_cons (k_fld K (pv 0)) (pa_cons (pe_op (k_cat K) (k_fld K (pv 0)) (pe_tupF (pa_cons (pv 1) pa_nil))) (pa_cons pe_str (pa_cons (pv 2) pa_nil)))))))
      (pss_one (ps_ret pe_bl))), ?_⟩
  have ln : TLens K cR cT (Wd.tm K cR cT r g H) r g := thg_lens
  refine nx_go (W := .tm K cR cT r g H) (i := s) ?_ ⟨Off.refl, ra⟩ (Sls.start al _ rfl)
  refine sq_drop (ev_meth (ev_th T ln rfl T.a_Thing_reader (by exact fl_T_reader) ⟨r.R, rdF r, rfl, fun I => (ln.get I).rd.1, fl_R_tell, ?_⟩))
  refine ea_cons (ev_place T ln rfl (ea_cons (ev_th T ln rfl T.a_Thing_end (by exact fl_T_end) (ea_cons (ev_op (ev_th T ln rfl T.a_Thing_path (by exact fl_T_path) ?_))))))
  refine ev_tup (ea_cons (ev_var rfl (ea_nil ⟨by show 1 ≤ 1000; decide, op_cat (by show g.path.length + 1 ≤ _; omega) ?_⟩)))
  refine (ea_cons (ev_str (ea_cons (ev_var rfl (ea_nil ?_)))))
  refine call_R ln.rl ⟨s.place, g.E, g.path ++ [.str name], "lacking", .str word⟩ rfl (fun _ => by omega) ?_
  rintro d _ rfl
  exact nx_ret (ev_bl (rt_of fun H' v I z => k v H' _ _ I.1 I.2 z ⟨rfl, rfl⟩))
def spFails (K : PySem.W.Frag) (cR cT : Addr) : Sp := SpT K cR cT (α := Int × Str × Str) (fun a => [.int a.1, .str a.2.1, .str a.2.2]) (fun r g s a => s.sp.length ≤ 800000 ∧ g.path.length ≤ 1000) fun r g s a s' d => s' = { s with sp := s.sp ++ failS s.place a.1 g.E g.path a.2.1 a.2.2 } ∧ d = .bl false
theorem w_fails (T : Tp K mg w cR cM cT aS aD) (Q_Reader_tell : Ml P w K mg base 1 cR "tell" (spTell K cR)) (Q_Reader_stop : Ml P w K mg base 2 cR "stop" (spStop K cR)) : Ml P w K mg base 3 cT "fails" (spFails K cR cT) := by
  obtain ⟨f, fd, F, hm⟩ := T.m_Thing_fails
  refine ⟨⟨f, fd, ["self", "size", "name", "word"], ?_, hm, F.binds fun _ _ _ _ _ _ us hl => match us, hl with | [_, _, _, _], _ => rfl⟩, T.c_Thing.1⟩
  refine F.ok sc_Thing_fails (fun vs H Q E h => ?_) (fun cdv A outer sh H vs Q E hr h => ?_)
  · obtain ⟨⟨n, name, word⟩, r, g, s, al, _⟩ := h
    exact al.len
  obtain ⟨⟨n, name, word⟩, r, g, s, al, pre, ra, k⟩ := h
  try dsimp only at pre
  have hu := hu_of hr
  refine ⟨_, (pss_cons (ps_expr (k_meth (k_fld K (pv 0)) Q_Reader_tell (hr.mono (by decide)) (pa_cons (k_fld K (pv 0)) (pa_cons (pe_op op_add (k_fld K (pv 0)) (pv 1)) (pa_cons (pe_op (k_cat K) (k_fld K (pv 0)) (pe_tupF (pa_cons (pv 2) pa_nil))) (pa_cons pe_str (pa_cons (pv 3) pa_nil)))))))
      (pss_cons (ps_expr (k_meth (k_fld K (pv 0)) Q_Reader_stop (hr.mono (by decide)) (pa_cons (pe_op op_add (k_fld K (pv 0)) (pv 1)) (pa_cons (k_fld K (pv 0)) (pa_cons (k_fld K (pv 0)) (pa_cons pe_str pa_nil))))))
      (pss_one (ps_ret pe_bl)))), ?_⟩
  have ln : TLens K cR cT (Wd.tm K cR cT r g H) r g := thg_lens
  refine nx_go (W := .tm K cR cT r g H) (i := s) ?_ ⟨Off.refl, ra⟩ (Sls.start al _ rfl)
  refine sq_drop (ev_meth (ev_th T ln rfl T.a_Thing_reader (by exact fl_T_reader) ⟨r.R, rdF r, rfl, fun I => (ln.get I).rd.1, fl_R_tell, ?_⟩))
  refine ea_cons (ev_place T ln rfl (ea_cons (ev_op (ev_place T ln rfl (ev_var rfl (op_int0 (ea_cons (ev_op (ev_th T ln rfl T.a_Thing_path (by exact fl_T_path) ?_)))))))))
  refine ev_tup (ea_cons (ev_var rfl (ea_nil ⟨by show 1 ≤ 1000; decide, op_cat (by show g.path.length + 1 ≤ _; omega) ?_⟩)))
  refine (ea_cons (ev_str (ea_cons (ev_var rfl (ea_nil ?_)))))
  refine call_R ln.rl ⟨s.place, s.place + n, g.path ++ [.str name], "faulty", .str word⟩ rfl (fun _ => by omega) ?_
  rintro d _ rfl
  refine sq_drop (ev_meth (ev_th T ln rfl T.a_Thing_reader (by exact fl_T_reader) ⟨r.R, rdF r, rfl, fun I => (ln.get I).rd.1, fl_R_stop, ?_⟩))
  refine ea_cons (ev_op (ev_place T ln rfl (ev_var rfl (op_int0 (ea_cons (ev_th T ln rfl T.a_Thing_end (by exact fl_T_end) (ea_cons (ev_th T ln rfl T.a_Thing_path (by exact fl_T_path) (ea_cons (ev_str (ea_nil ?_)))))))))))
  refine call_R ln.rl (s.place + n, g.E, g.path, "behind") rfl (fun _ => by dsimp only; rw [List.length_append, List.length_singleton]; omega) ?_
  rintro d _ rfl
  refine nx_ret (ev_bl (rt_of fun H' v I z => k v H' _ _ I.1 I.2 z ⟨?_, rfl⟩))
  unfold failS
  dsimp only
  rw [List.append_assoc]
  rfl
def spTake (K : PySem.W.Frag) (cR cT : Addr) : Sp := SpT K cR cT (α := Int × Str × Str × Dat) (fun a => [.int a.1, .str a.2.1, .str a.2.2.1, a.2.2.2]) (fun r g s a => s.sp.length ≤ 800000 ∧ g.path.length ≤ 1000) fun r g s a s' d => s' = { s with sp := s.sp ++ [⟨s.place, s.place + a.1, g.path ++ [.str a.2.1], a.2.2.1, a.2.2.2⟩], place := s.place + a.1 } ∧ d = .bl true
theorem w_take (T : Tp K mg w cR cM cT aS aD) (Q_Reader_tell : Ml P w K mg base 1 cR "tell" (spTell K cR)) : Ml P w K mg base 2 cT "take" (spTake K cR cT) := by
  obtain ⟨f, fd, F, hm⟩ := T.m_Thing_take
  refine ⟨⟨f, fd, ["self", "size", "name", "what", "worth"], ?_, hm, F.binds fun _ _ _ _ _ _ us hl => match us, hl with | [_, _, _, _, _], _ => rfl⟩, T.c_Thing.1⟩
  refine F.ok sc_Thing_take (fun vs H Q E h => ?_) (fun cdv A outer sh H vs Q E hr h => ?_)
  · obtain ⟨⟨n, name, what, worth⟩, r, g, s, al, _⟩ := h
    exact al.len
  obtain ⟨⟨n, name, what, worth⟩, r, g, s, al, pre, ra, k⟩ := h
  try dsimp only at pre
  have hu := hu_of hr
  refine ⟨_, (pss_cons (ps_expr (k_meth (k_fld K (pv 0)) Q_Reader_tell (hr.mono (by decide)) (pa_cons (k_fld K (pv 0)) (pa_cons (pe_op op_add (k_fld K (pv 0)) (pv 1)) (pa_cons (pe_op (k_cat K) (k_fld K (pv 0)) (pe_tupF (pa_cons (pv 2) pa_nil))) (pa_cons (pv 3) (pa_cons (pv 4) pa_nil)))))))
      (pss_cons (k_sfldaug K (pv 0) (pv 1) in_add)
      (pss_one (ps_ret pe_bl)))), ?_⟩
  have ln : TLens K cR cT (Wd.tm K cR cT r g H) r g := thg_lens
  refine nx_go (W := .tm K cR cT r g H) (i := s) ?_ ⟨Off.refl, ra⟩ (Sls.start al _ rfl)
  refine sq_drop (ev_meth (ev_th T ln rfl T.a_Thing_reader (by exact fl_T_reader) ⟨r.R, rdF r, rfl, fun I => (ln.get I).rd.1, fl_R_tell, ?_⟩))
  refine ea_cons (ev_place T ln rfl (ea_cons (ev_op (ev_place T ln rfl (ev_var rfl (op_int0 (ea_cons (ev_op (ev_th T ln rfl T.a_Thing_path (by exact fl_T_path) ?_)))))))))
  refine ev_tup (ea_cons (ev_var rfl (ea_nil ⟨by show 1 ≤ 1000; decide, op_cat (by show g.path.length + 1 ≤ _; omega) ?_⟩)))
  refine (ea_cons (ev_var rfl (ea_cons (ev_var rfl (ea_nil ?_)))))
  refine call_R ln.rl ⟨s.place, s.place + n, g.path ++ [.str name], what, worth⟩ rfl (fun _ => by omega) ?_
  rintro d _ rfl
  refine sq_augG (ev_var rfl ⟨g.t, cT, _, _, rfl, fun I => (ln.get I).th, T.c_Thing.1, T.a_Thing_place, fl_T_place, ev_var rfl ⟨n, { s with sp := s.sp ++ [⟨s.place, s.place + n, g.path ++ [.str name], what, worth⟩], place := s.place + n }, rfl, fun I => (ln.get I).th, by show 8 < 1000; decide, ?_, ?_⟩⟩)
  · intro H1 H2 I o ia
    rw [fp_T_place] at ia
    exact ln.put I (off4 (by simp) o) ((ln.get I).setT o ia)
  · exact nx_ret (ev_bl (rt_of fun H' v I z => k v H' _ _ I.1 I.2 z ⟨rfl, rfl⟩))
end
end Lb
/-! text LbZ -/
/-! Walks: the readers of plain fields. -/
namespace Lb
open PySem L2
/-- ahead of a field's reading -/
structure FPre (N : Nat) (deep : List Str) (r : Rdr) (g : Thg) (s : TSt) (f : Fld) (seen : List Str) : Prop where
  ok : FldOk seen deep f
  tg : TagsOk seen s.tags
  p0 : 0 ≤ s.place
  pE : s.place ≤ g.E
  E : g.E ≤ r.bs.length
  len : r.bs.length ≤ 1000
  byt : ∀ y ∈ r.bs, 0 ≤ y ∧ y ≤ 255
  sp : s.sp.length ≤ N
  tl : s.tags.length ≤ 100
  fl : s.fl.length ≤ 100
  pl : g.path.length * 7000 ≤ N
  gr : GrOk r.G
/-- behind it -/
structure FPost (inn : Inner) (r : Rdr) (g : Thg) (s : TSt) (f : Fld) (s' : TSt) (d : Dat) : Prop where
  d : d = .bl (rdFld r.bs inn g.E g.path s.place s.tags f).2.2.2
  sp : s'.sp = s.sp ++ (rdFld r.bs inn g.E g.path s.place s.tags f).1
  place : s'.place = (rdFld r.bs inn g.E g.path s.place s.tags f).2.1
  tags : s'.tags = (rdFld r.bs inn g.E g.path s.place s.tags f).2.2.1
  fl : s'.fl.length ≤ s.fl.length + 2
section
variable {P : Program} {w : World} {K : PySem.W.Frag} {mg : Str → Option Value} {base : Heap} {cR cM cT aS aD : Addr}
section
variable {r : Rdr} {g : Thg} {W : Wd TSt} {i : TSt} {Γ : Ctx} {Pd : TSt → Dat → Prop} {k : Nat} {te ta tb tc td : TE}
theorem m_short (T : Tp K mg w cR cM cT aS aD) (ln : TLens K cR cT W r g) (hk : Γ[k]? = some (some (.obj g.t))) (h : Ev K W i te Γ fun j d => ∃ n : Int, d = .int n ∧ Pd j (.bl (decide (j.place + n > g.E)))) : Ev K W i (tMeth cT "is_short" (spIsShort K cR cT) [] E0 (tVar k) (tCons te tNil)) Γ Pd :=
  ev_meth (ev_var hk ⟨g.t, _, rfl, fun I => (ln.get I).th, fl_T_is_short, ea_cons (h.imp fun j d ⟨n, e, p⟩ => ea_nil (by
    subst e
    refine call_T ln n rfl True.intro ?_
    rintro d s' ⟨rfl, rfl⟩
    exact p))⟩)
theorem m_bytes (T : Tp K mg w cR cM cT aS aD) (ln : TLens K cR cT W r g) (hk : Γ[k]? = some (some (.obj g.t))) (h : Ev K W i te Γ fun j d => ∃ n : Int, d = .int n ∧ (0 ≤ j.place ∧ 0 ≤ n ∧ j.place + n ≤ r.bs.length) ∧ Pd j (bytesD (cutB r.bs j.place n))) : Ev K W i (tMeth cT "bytes_there" (spBytesThere K cR cT) [] E0 (tVar k) (tCons te tNil)) Γ Pd :=
  ev_meth (ev_var hk ⟨g.t, _, rfl, fun I => (ln.get I).th, fl_T_bytes_there, ea_cons (h.imp fun j d ⟨n, e, b, p⟩ => ea_nil (by
    subst e
    refine call_T ln n rfl b ?_
    rintro d s' ⟨rfl, rfl⟩
    exact p))⟩)
theorem m_lacks (T : Tp K mg w cR cM cT aS aD) (ln : TLens K cR cT W r g) (hk : Γ[k]? = some (some (.obj g.t))) {word : Str} (h : Ev K W i ta Γ fun j d => ∃ name : Str, d = .str name ∧ (j.sp.length ≤ 800000 ∧ g.path.length ≤ 1000) ∧ Pd { j with sp := j.sp ++ lackS j.place g.E g.path name word } (.bl false)) :
    Ev K W i (tMeth cT "lacks" (spLacks K cR cT) [] E0 (tVar k) (tCons ta (tCons (tC (.str word)) tNil))) Γ Pd :=
  ev_meth (ev_var hk ⟨g.t, _, rfl, fun I => (ln.get I).th, fl_T_lacks, ea_cons (h.imp fun j d ⟨n, e, b, p⟩ => ea_cons (ev_str (ea_nil (by
    subst e
    refine call_T ln (n, word) rfl b ?_
    rintro d s' ⟨rfl, rfl⟩
    exact p))))⟩)
theorem m_fails (T : Tp K mg w cR cM cT aS aD) (ln : TLens K cR cT W r g) (hk : Γ[k]? = some (some (.obj g.t))) {word : Str} (h : Ev K W i ta Γ fun j d => Ev K W j tb Γ fun l e => ∃ (n : Int) (name : Str), d = .int n ∧ e = .str name ∧ (l.sp.length ≤ 800000 ∧ g.path.length ≤ 1000) ∧ Pd { l with sp := l.sp ++ failS l.place n g.E g.path name word } (.bl false)) :
    Ev K W i (tMeth cT "fails" (spFails K cR cT) [] E0 (tVar k) (tCons ta (tCons tb (tCons (tC (.str word)) tNil)))) Γ Pd :=
  ev_meth (ev_var hk ⟨g.t, _, rfl, fun I => (ln.get I).th, fl_T_fails, ea_cons (h.imp fun j d h2 => ea_cons (h2.imp fun l e ⟨n, x, e1, e2, b, p⟩ => ea_cons (ev_str (ea_nil (by
    subst e1; subst e2
    refine call_T ln (n, x, word) rfl b ?_
    rintro d s' ⟨rfl, rfl⟩
    exact p)))))⟩)
theorem m_take (T : Tp K mg w cR cM cT aS aD) (ln : TLens K cR cT W r g) (hk : Γ[k]? = some (some (.obj g.t))) {what : Str} (h : Ev K W i ta Γ fun j d => Ev K W j tb Γ fun l e => Ev K W l tc Γ fun m f => ∃ (n : Int) (name : Str), d = .int n ∧ e = .str name ∧ (m.sp.length ≤ 800000 ∧ g.path.length ≤ 1000) ∧
      Pd { m with sp := m.sp ++ [⟨m.place, m.place + n, g.path ++ [.str name], what, f⟩], place := m.place + n } (.bl true)) :
    Ev K W i (tMeth cT "take" (spTake K cR cT) [] E0 (tVar k) (tCons ta (tCons tb (tCons (tC (.str what)) (tCons tc tNil))))) Γ Pd :=
  ev_meth (ev_var hk ⟨g.t, _, rfl, fun I => (ln.get I).th, fl_T_take, ea_cons (h.imp fun j d h2 => ea_cons (h2.imp fun l e h3 => ea_cons (ev_str (ea_cons (h3.imp fun m f ⟨n, x, e1, e2, b, p⟩ => ea_nil (by
    subst e1; subst e2
    refine call_T ln (n, x, what, f) rfl b ?_
    rintro d s' ⟨rfl, rfl⟩
    exact p))))))⟩)
/-- thing.tags[k] = v, thing.fields[k] = v as targets -/
theorem tg_tags (T : Tp K mg w cR cM cT aS aD) (ln : TLens K cR cT W r g) (hk : Γ[k]? = some (some (.obj g.t))) {e : Dat} {Pc : TSt → Ctx → Prop} (h : Ev K W i te Γ fun j y => ∃ name : Str, y = .str name ∧ j.tags.length ≤ 1000 ∧ Pc { j with tags := dput j.tags (.inr name) e } Γ) :
    Tg K W i (gSub (tFld K (tVar k) "tags") te rSetD) e Γ Pc :=
  tg_dputG (ev_th T ln hk T.a_Thing_tags (by exact fl_T_tags) (h.imp fun j y ⟨name, e1, hl, p⟩ => ⟨g.τ, j.tags, .inr name, { j with tags := dput j.tags (.inr name) e }, rfl, ln.mem _ (by simp), by rw [e1]; rfl, fun I => (ln.get I).tg, by omega, fun I o a => ln.put I (off4 (by simp) o) ((ln.get I).setG o a), p⟩))
theorem tg_flds (T : Tp K mg w cR cM cT aS aD) (ln : TLens K cR cT W r g) (hk : Γ[k]? = some (some (.obj g.t))) {e : Dat} {Pc : TSt → Ctx → Prop} (h : Ev K W i te Γ fun j y => ∃ name : Str, y = .str name ∧ j.fl.length ≤ 1000 ∧ Pc { j with fl := dput j.fl (.inr name) e } Γ) :
    Tg K W i (gSub (tFld K (tVar k) "fields") te rSetD) e Γ Pc :=
  tg_dputG (ev_th T ln hk T.a_Thing_fields (by exact fl_T_fields) (h.imp fun j y ⟨name, e1, hl, p⟩ => ⟨g.φ, j.fl, .inr name, { j with fl := dput j.fl (.inr name) e }, rfl, ln.mem _ (by simp), by rw [e1]; rfl, fun I => (ln.get I).fl, by omega, fun I o a => ln.put I (off4 (by simp) o) ((ln.get I).setF o a), p⟩))
theorem sq_flds (T : Tp K mg w cR cM cT aS aD) (ln : TLens K cR cT W r g) (hk : Γ[k]? = some (some (.obj g.t))) {D : Ends} {tr : TS} (h : Ev K W i ta Γ fun m e => Ev K W m te Γ fun j y => ∃ name : Str, y = .str name ∧ j.fl.length ≤ 1000 ∧ Nx K W { j with fl := dput j.fl (.inr name) e } Γ (tr D)) :
    Nx K W i Γ (tSeq (sDPut (tFld K (tVar k) "fields") te ta) tr D) :=
  sq_dputG (h.imp fun m e h2 => ev_th T ln hk T.a_Thing_fields (by exact fl_T_fields) (h2.imp fun j y ⟨name, e1, hl, p⟩ => ⟨g.φ, j.fl, .inr name, { j with fl := dput j.fl (.inr name) e }, rfl, by rw [e1]; rfl, fun I => (ln.get I).fl, by omega, fun I o a => ln.put I (off4 (by simp) o) ((ln.get I).setF o a), p⟩))
end
abbrev SpFld (K : PySem.W.Frag) (cR cT : Addr) (N : Nat) (deep : Rdr → List Str) (inn : Rdr → Inner) (word : Str) : Sp := SpT K cR cT (α := Fld × List Str) (fun a => [a.1.dat]) (fun r g s a => FPre N (deep r) r g s a.1 a.2 ∧ a.1.word = word) fun r g s a s' d => FPost (inn r) r g s a.1 s' d
variable {N : Nat} {deep : Rdr → List Str} {inn : Rdr → Inner}
theorem w_read_number (T : Tp K mg w cR cM cT aS aD) (hN : N ≤ 700000) (Q_Thing_is_short : Ml P w K mg base 1 cT "is_short" (spIsShort K cR cT)) (Q_Thing_lacks : Ml P w K mg base 2 cT "lacks" (spLacks K cR cT)) (Q_Thing_fails : Ml P w K mg base 3 cT "fails" (spFails K cR cT)) (Q_Thing_take : Ml P w K mg base 2 cT "take" (spTake K cR cT))
    (Q_Thing_bytes_there : Ml P w K mg base 1 cT "bytes_there" (spBytesThere K cR cT)) (G_number_in : ClK P w K mg base 1 "number_in" ["order"] (spNumberIn K)) : ∃ f fd, FnOk P w K mg base CX0 4 f fd ["thing", "field"] (SpFld K cR cT N deep inn "number") ∧ Fun K "read_number" "read_number" s_read_number f fd ∧ KDct K w aD "number" (.ref f) := by
  obtain ⟨f, fd, F, kd⟩ := T.f_number
  refine ⟨f, fd, ?_, F, kd⟩
  refine F.ok sc_read_number (fun vs H Q E h => ?_) (fun cdv A outer sh H vs Q E hr h => ?_)
  · obtain ⟨⟨f, seen⟩, r, g, s, al, _⟩ := h
    exact al.len
  obtain ⟨⟨f, seen⟩, r, g, s, al, pre, ra, k⟩ := h
  try dsimp only at pre
  have hu := hu_of hr
  refine ⟨_, (pss_cons (ps_asg (pv 1) (k_tup K rfl (pgs_cons (pg_name (i := 2) sc_read_number.nd rfl (Or.inl rfl)) (pgs_cons (pg_name (i := 3) sc_read_number.nd rfl (Or.inl rfl)) (pgs_cons (pg_name (i := 4) sc_read_number.nd rfl (Or.inl rfl)) (pgs_cons (pg_name (i := 5) sc_read_number.nd rfl (Or.inl rfl)) (pgs_cons (pg_name (i := 6) sc_read_number.nd rfl (Or.inl rfl)) (pgs_cons (pg_name (i := 7) sc_read_number.nd rfl (Or.inl rfl)) pgs_nil))))))))
      (pss_cons (ps_if (pt_val (k_meth (pv 0) Q_Thing_is_short (hr.mono (by decide)) (pa_cons (pv 4) pa_nil))) (pss_one (ps_ret (k_meth (pv 0) Q_Thing_lacks (hr.mono (by decide)) (pa_cons (pv 3) (pa_cons pe_str pa_nil))))) pss_nil)
      (pss_cons (ps_set (i := 8) sc_read_number.nd rfl (Or.inl rfl) (k_callK G_number_in (hr.mono (by decide)) (pa_cons (k_meth (pv 0) Q_Thing_bytes_there (hr.mono (by decide)) (pa_cons (pv 4) pa_nil)) pa_nil) (pk_cons (pv 5) pk_nil)))
      (pss_cons (ps_if (pt_not (pt_chain op_le op_le (pv 6) (pv 8) (pv 7))) (pss_one (ps_ret (k_meth (pv 0) Q_Thing_fails (hr.mono (by decide)) (pa_cons (pv 4) (pa_cons (pv 3) (pa_cons pe_str pa_nil)))))) pss_nil)
      (pss_cons (ps_asg2 (pv 8) (pg_sub (k_fld K (pv 0)) (pv 3) (set_dict hu)) (pg_sub (k_fld K (pv 0)) (pv 3) (set_dict hu)))
      (pss_one (ps_ret (k_meth (pv 0) Q_Thing_take (hr.mono (by decide)) (pa_cons (pv 4) (pa_cons (pv 3) (pa_cons pe_str (pa_cons (pv 8) pa_nil)))))))))))), ?_⟩
  obtain ⟨pr, hw⟩ := pre
  obtain ⟨nm, sz, o, l, m, rfl⟩ := f.inv.1 hw
  obtain ⟨_, hs, ho, hl0, hl1, hlm, hm⟩ := id pr.ok
  have ln : TLens K cR cT (Wd.tm K cR cT r g H) r g := thg_lens
  have b1 : s.sp.length ≤ 800000 ∧ g.path.length ≤ 1000 := ⟨by have := pr.sp; omega, by have := pr.pl; omega⟩
  refine nx_go (W := .tm K cR cT r g H) (i := s) ?_ ⟨Off.refl, ra⟩ (Sls.start al _ rfl)
  refine sq_asg (ev_var rfl (tg_tup (ds := [.str "number", .str nm, .int sz, .str o, .int l, .int m]) rfl ?_))
  refine tgs_cons (tg_name (tgs_cons (tg_name (tgs_cons (tg_name (tgs_cons (tg_name (tgs_cons (tg_name (tgs_cons (tg_name (tgs_nil ?_))))))))))))
  refine sq_when (et_B (m_short T ln rfl (ev_var rfl ⟨sz, rfl, _, rfl, ifD (fun c => ?_) fun c => ?_⟩)))
  · refine nx_ret (m_lacks T ln rfl (ev_var rfl ⟨nm, rfl, b1, rt_of fun H' v I z => k v H' _ _ I.1 I.2 z ?_⟩))
    have e : rdFld r.bs (inn r) g.E g.path s.place s.tags (.number nm sz o l m) = (lackS s.place g.E g.path nm "short", s.place, s.tags, false) := by simp only [rdFld]; rw [if_pos c]
    exact ⟨by rw [e], by rw [e], by rw [e], by rw [e], by show s.fl.length ≤ _; omega⟩
  refine sq_set (ev_callK (ea_cons (m_bytes T ln rfl (ev_var rfl ⟨sz, rfl, ⟨pr.p0, by omega, by have := pr.E; omega⟩, ea_nil (ea_cons (ev_var rfl (ea_nil ⟨_, _, rfl, rfl, ?_⟩)))⟩))))
  refine call_A (cutB r.bs s.place sz, o) rfl (fun _ => True.intro) ?_
  rintro _ rfl
  refine sq_when (et_not (et_test (ev_chain (ev_var rfl (ev_var rfl (op_bl0 ⟨_, rfl, ifD (fun c1 => ?_) fun c1 => ?_⟩))))))
  rotate_left 1
  · refine ⟨false, rfl, ifT rfl ?_⟩
    refine nx_ret (m_fails T ln rfl (ev_var rfl (ev_var rfl ⟨sz, nm, rfl, rfl, b1, rt_of fun H' v I z => k v H' _ _ I.1 I.2 z ?_⟩)))
    have e : rdFld r.bs (inn r) g.E g.path s.place s.tags (.number nm sz o l m) = (failS s.place sz g.E g.path nm "range", s.place, s.tags, false) := by
      simp only [rdFld]; rw [if_neg c, if_neg fun z => c1 z.1]
    exact ⟨by rw [e], by rw [e], by rw [e], by rw [e], by show s.fl.length ≤ _; omega⟩
  refine ev_var rfl (op_bl0 ⟨_, rfl, ifN (fun c2 => ?_) fun c2 => ?_⟩)
  · refine nx_ret (m_fails T ln rfl (ev_var rfl (ev_var rfl ⟨sz, nm, rfl, rfl, b1, rt_of fun H' v I z => k v H' _ _ I.1 I.2 z ?_⟩)))
    have e : rdFld r.bs (inn r) g.E g.path s.place s.tags (.number nm sz o l m) = (failS s.place sz g.E g.path nm "range", s.place, s.tags, false) := by
      simp only [rdFld]; rw [if_neg c, if_neg fun z => c2 z.2]
    exact ⟨by rw [e], by rw [e], by rw [e], by rw [e], by show s.fl.length ≤ _; omega⟩
  refine sq_asg2 (ev_var rfl (tg_tags T ln rfl (ev_var rfl ⟨nm, rfl, by have := pr.tl; omega, tg_flds T ln rfl (ev_var rfl ⟨nm, rfl, by show s.fl.length ≤ _; have := pr.fl; omega, ?_⟩)⟩)))
  refine nx_ret (m_take T ln rfl (ev_var rfl (ev_var rfl (ev_var rfl ⟨sz, nm, rfl, rfl, b1, rt_of fun H' v I z => k v H' _ _ I.1 I.2 z ?_⟩))))
  have e : rdFld r.bs (inn r) g.E g.path s.place s.tags (.number nm sz o l m) = ([⟨s.place, s.place + sz, g.path ++ [.str nm], "number", .int (numOf o (cutB r.bs s.place sz))⟩], s.place + sz, dput s.tags (.inr nm) (.int (numOf o (cutB r.bs s.place sz))), true) := by
    simp only [rdFld]; rw [if_neg c, if_pos ⟨c1, c2⟩]
  exact ⟨by rw [e], by rw [e], by rw [e], by rw [e], Nat.le_trans (dput_len _ _ _) (Nat.le_succ _)⟩
theorem w_read_bits (T : Tp K mg w cR cM cT aS aD) (hN : N ≤ 700000) (Q_Thing_is_short : Ml P w K mg base 1 cT "is_short" (spIsShort K cR cT)) (Q_Thing_lacks : Ml P w K mg base 2 cT "lacks" (spLacks K cR cT)) (Q_Thing_take : Ml P w K mg base 2 cT "take" (spTake K cR cT))
    (Q_Thing_bytes_there : Ml P w K mg base 1 cT "bytes_there" (spBytesThere K cR cT)) (G_parts_of : Cl P w K mg base 1 "parts_of" (spPartsOf K)) : ∃ f fd, FnOk P w K mg base CX0 4 f fd ["thing", "field"] (SpFld K cR cT N deep inn "bits") ∧ Fun K "read_bits" "read_bits" s_read_bits f fd ∧ KDct K w aD "bits" (.ref f) := by
  obtain ⟨f, fd, F, kd⟩ := T.f_bits
  refine ⟨f, fd, ?_, F, kd⟩
  refine F.ok sc_read_bits (fun vs H Q E h => ?_) (fun cdv A outer sh H vs Q E hr h => ?_)
  · obtain ⟨⟨f, seen⟩, r, g, s, al, _⟩ := h
    exact al.len
  obtain ⟨⟨f, seen⟩, r, g, s, al, pre, ra, k⟩ := h
  try dsimp only at pre
  have hu := hu_of hr
  refine ⟨_, (pss_cons (ps_set (i := 2) sc_read_bits.nd rfl (Or.inl rfl) (pe_ix (k_ixT K) (pe_ix (k_ixT K) (pe_ix (k_ixT K) (pv 1) pe_int (fun _ _ => rfl)) pe_int (fun _ _ => rfl)) pe_int (fun _ _ => rfl)))
      (pss_cons (ps_if (pt_val (k_meth (pv 0) Q_Thing_is_short (hr.mono (by decide)) (pa_cons pe_int pa_nil))) (pss_one (ps_ret (k_meth (pv 0) Q_Thing_lacks (hr.mono (by decide)) (pa_cons (pv 2) (pa_cons pe_str pa_nil))))) pss_nil)
      (pss_cons (ps_set (i := 3) sc_read_bits.nd rfl (Or.inl rfl) (k_call G_parts_of (hr.mono (by decide)) (pa_cons (pe_ix (k_ixT K) (k_meth (pv 0) Q_Thing_bytes_there (hr.mono (by decide)) (pa_cons pe_int pa_nil)) pe_int (fun _ _ => rfl)) (pa_cons (pe_ix (k_ixT K) (pv 1) pe_int (fun _ _ => rfl)) pa_nil))))
      (pss_cons (ps_for PassesOwn.never rfl (k_zipS K (by rfl) T.n_zip (pe_ix (k_ixT K) (pv 1) pe_int (fun _ _ => rfl)) (pv 3)) (k_tup K rfl (pgs_cons (k_tup K rfl (pgs_cons (pg_name (i := 4) sc_read_bits.nd rfl (Or.inl rfl)) (pgs_cons (pg_name (i := 5) sc_read_bits.nd rfl (Or.inl rfl)) pgs_nil))) (pgs_cons (pg_name (i := 6) sc_read_bits.nd rfl (Or.inl rfl)) pgs_nil))) (pss_one (ps_asg2 (pv 6) (pg_sub (k_fld K (pv 0)) (pv 4) (set_dict hu)) (pg_sub (k_fld K (pv 0)) (pv 4) (set_dict hu)))))
      (pss_one (ps_ret (k_meth (pv 0) Q_Thing_take (hr.mono (by decide)) (pa_cons pe_int (pa_cons (pv 2) (pa_cons pe_str (pa_cons (pv 3) pa_nil))))))))))), ?_⟩
  obtain ⟨pr, hw⟩ := pre
  obtain ⟨n1, v1, n2, v2, rfl⟩ := f.inv.2.1 hw
  obtain ⟨_, _, hv1, hv2, hv3⟩ := id pr.ok
  have ln : TLens K cR cT (Wd.tm K cR cT r g H) r g := thg_lens
  have b1 : s.sp.length ≤ 800000 ∧ g.path.length ≤ 1000 := ⟨by have := pr.sp; omega, by have := pr.pl; omega⟩
  refine nx_go (W := .tm K cR cT r g H) (i := s) ?_ ⟨Off.refl, ra⟩ (Sls.start al _ rfl)
  refine sq_set (ev_op (ev_ix2 (ds := [.str "bits", .tup [.tup [.str n1, .int v1], .tup [.str n2, .int v2]]]) (es := [.tup [.str n1, .int v1], .tup [.str n2, .int v2]]) rfl rfl rfl (ev_int (op_ixT rfl ?_))))
  refine sq_when (et_B (m_short T ln rfl (ev_int ⟨1, rfl, _, rfl, ifD (fun c => ?_) fun c => ?_⟩)))
  · refine nx_ret (m_lacks T ln rfl (ev_var rfl ⟨n1, rfl, b1, rt_of fun H' v I z => k v H' _ _ I.1 I.2 z ?_⟩))
    have e : rdFld r.bs (inn r) g.E g.path s.place s.tags (.bits n1 v1 n2 v2) = (lackS s.place g.E g.path n1 "short", s.place, s.tags, false) := by simp only [rdFld]; rw [if_pos c]
    exact ⟨by rw [e], by rw [e], by rw [e], by rw [e], by show s.fl.length ≤ _; omega⟩
  have hcl : (cutB r.bs s.place 1).length = 1 := cut_len pr.p0 (by decide) (by have := pr.E; omega)
  obtain ⟨y, hy⟩ : ∃ y, cutB r.bs s.place 1 = [y] := List.length_eq_one_iff.mp hcl
  refine sq_set (ev_call (ea_cons (ev_op (m_bytes T ln rfl (ev_int ⟨1, rfl, ⟨pr.p0, by decide, by have := pr.E; omega⟩, ev_int (op_ixT (f := .int y) (by rw [hy]; rfl) ?_)⟩)))))
  refine ea_cons (ev_ix (ds := [.str "bits", .tup [.tup [.str n1, .int v1], .tup [.str n2, .int v2]]]) rfl rfl (ea_nil ?_))
  refine call_A (y, n1, v1, n2, v2) rfl (fun _ => ⟨hv1, hv2, hv3⟩) ?_
  rintro _ rfl
  have e : rdFld r.bs (inn r) g.E g.path s.place s.tags (.bits n1 v1 n2 v2) = ([⟨s.place, s.place + 1, g.path ++ [.str n1], "bits", .tup [.int (bitA y v1), .int (bitB y v1 v2)]⟩], s.place + 1, dput (dput s.tags (.inr n1) (.int (bitA y v1))) (.inr n2) (.int (bitB y v1 v2)), true) := by
    simp only [rdFld]; rw [if_neg c, hy]; rfl
  refine sq_forZ (κ := Unit) (Wf := fun _ => .tm K cR cT r g H) (k0 := ()) (ev_ix (ds := [.str "bits", .tup [.tup [.str n1, .int v1], .tup [.str n2, .int v2]]]) rfl rfl (ev_var rfl ⟨_, _, rfl, rfl, rfl, fun a b => ⟨fun m _ j Γ => (∃ x y' z, Γ = [some (.obj g.t), some (Fld.bits n1 v1 n2 v2).dat, some (.str n1), some (.tup [.int (bitA y v1), .int (bitB y v1 v2)]), x, y', z]) ∧ j.sp = s.sp ∧ j.place = s.place ∧
    j.tags = ([((.inr n1 : Key), Dat.int (bitA y v1)), (.inr n2, .int (bitB y v1 v2))].take m).foldl (fun a q => dput a q.1 q.2) s.tags ∧ j.tags.length ≤ s.tags.length + m ∧ j.fl.length ≤ s.fl.length + m, ?_, ?_, ?_⟩⟩))
  · exact ⟨⟨none, none, none, rfl⟩, rfl, rfl, rfl, Nat.le_refl _, Nat.le_refl _⟩
  · rintro m _ j Γ x y' hx hy' ⟨⟨p1, p2, p3, rfl⟩, g1, g2, g3, g4, g5⟩
    obtain ⟨nn, vv, uu, rfl, rfl, ht, hm2⟩ : ∃ (nn : Str) (vv uu : Int), x = .tup [.str nn, .int vv] ∧ y' = .int uu ∧ [((.inr n1 : Key), Dat.int (bitA y v1)), (.inr n2, .int (bitB y v1 v2))].take (m + 1) = [((.inr n1 : Key), Dat.int (bitA y v1)), (.inr n2, .int (bitB y v1 v2))].take m ++ [(.inr nn, .int uu)] ∧ m < 2 := by
      match m, hx, hy' with
      | 0, hx, hy' => cases hx; cases hy'; exact ⟨n1, v1, _, rfl, rfl, rfl, by decide⟩
      | 1, hx, hy' => cases hx; cases hy'; exact ⟨n2, v2, _, rfl, rfl, rfl, by decide⟩
      | m + 2, hx, hy' => cases hx
    refine tgs_cons (tg_tup rfl (tgs_cons (tg_name (tgs_cons (tg_name (tgs_nil (tgs_cons (tg_name (tgs_nil ?_)))))))))
    refine nx_asg2 (ev_var rfl (tg_tags T ln.keep.keep rfl (ev_var rfl ⟨nn, rfl, by have := pr.tl; omega, tg_flds T ln.keep.keep rfl (ev_var rfl ⟨nn, rfl, by show j.fl.length ≤ _; have := pr.fl; omega, ?_⟩)⟩)))
    refine fun H' σ I E => Lp.of () I E ⟨⟨_, _, _, rfl⟩, g1, g2, ?_, ?_, ?_⟩
    · dsimp only; rw [ht, List.foldl_append, ← g3]; rfl
    · have := dput_len j.tags (.inr nn) (.int uu); dsimp only; omega
    · have := dput_len j.fl (.inr nn) (.int uu); dsimp only; omega
  · rintro _ j Γ ⟨⟨p1, p2, p3, rfl⟩, g1, g2, g3, g4, g5⟩
    refine nx_ret (m_take T ln rfl (ev_int (ev_var rfl (ev_var rfl ⟨1, n1, rfl, rfl, by rw [g1]; exact b1, rt_of fun H' v I z => k v H' _ _ I.1 I.2 z ?_⟩))))
    exact ⟨by rw [e], by rw [e]; dsimp only; rw [g1, g2], by rw [e]; dsimp only; rw [g2], by rw [e]; dsimp only; rw [g3]; rfl, g5⟩
theorem w_read_bytes (T : Tp K mg w cR cM cT aS aD) (hN : N ≤ 700000) (Q_Thing_is_short : Ml P w K mg base 1 cT "is_short" (spIsShort K cR cT)) (Q_Thing_lacks : Ml P w K mg base 2 cT "lacks" (spLacks K cR cT)) (Q_Thing_fails : Ml P w K mg base 3 cT "fails" (spFails K cR cT)) (Q_Thing_take : Ml P w K mg base 2 cT "take" (spTake K cR cT))
    (Q_Thing_bytes_there : Ml P w K mg base 1 cT "bytes_there" (spBytesThere K cR cT)) (G_length_by : Cl P w K mg base 1 "length_by" (spLengthBy K)) : ∃ f fd, FnOk P w K mg base CX0 4 f fd ["thing", "field"] (SpFld K cR cT N deep inn "bytes") ∧ Fun K "read_bytes" "read_bytes" s_read_bytes f fd ∧ KDct K w aD "bytes" (.ref f) := by
  obtain ⟨f, fd, F, kd⟩ := T.f_bytes
  refine ⟨f, fd, ?_, F, kd⟩
  refine F.ok sc_read_bytes (fun vs H Q E h => ?_) (fun cdv A outer sh H vs Q E hr h => ?_)
  · obtain ⟨⟨f, seen⟩, r, g, s, al, _⟩ := h
    exact al.len
  obtain ⟨⟨f, seen⟩, r, g, s, al, pre, ra, k⟩ := h
  try dsimp only at pre
  have hu := hu_of hr
  refine ⟨_, (pss_cons (ps_set (i := 2) sc_read_bytes.nd rfl (Or.inl rfl) (k_call G_length_by (hr.mono (by decide)) (pa_cons (pe_ix (k_ixT K) (pv 1) pe_int (fun _ _ => rfl)) (pa_cons (k_fld K (pv 0)) (pa_cons (pe_op op_sub (k_fld K (pv 0)) (k_fld K (pv 0))) pa_nil)))))
      (pss_cons (ps_if (PW.pt (pw_and (pt_cmpR op_lt (pv 2) pe_int (nomark _)) (pw_and1 (pt_cmpR op_ne (pe_ix (k_ixT K) (pe_ix (k_ixT K) (pv 1) pe_int (fun _ _ => rfl)) pe_int (fun _ _ => rfl)) pe_str (nomark _))))) (pss_one (ps_ret (k_meth (pv 0) Q_Thing_fails (hr.mono (by decide)) (pa_cons pe_int (pa_cons (pe_ix (k_ixT K) (pv 1) pe_int (fun _ _ => rfl)) (pa_cons pe_str pa_nil)))))) pss_nil)
      (pss_cons (ps_if (PW.pt (pw_or (pt_cmpR op_lt (pv 2) pe_int (nomark _)) (pw_or1 (pt_val (k_meth (pv 0) Q_Thing_is_short (hr.mono (by decide)) (pa_cons (pv 2) pa_nil)))))) (pss_one (ps_ret (k_meth (pv 0) Q_Thing_lacks (hr.mono (by decide)) (pa_cons (pe_ix (k_ixT K) (pv 1) pe_int (fun _ _ => rfl)) (pa_cons pe_str pa_nil))))) pss_nil)
      (pss_cons (ps_dput hu (k_fld K (pv 0)) (pe_ix (k_ixT K) (pv 1) pe_int (fun _ _ => rfl)) (k_meth (pv 0) Q_Thing_bytes_there (hr.mono (by decide)) (pa_cons (pv 2) pa_nil)) rfl)
      (pss_one (ps_ret (k_meth (pv 0) Q_Thing_take (hr.mono (by decide)) (pa_cons (pv 2) (pa_cons (pe_ix (k_ixT K) (pv 1) pe_int (fun _ _ => rfl)) (pa_cons pe_str (pa_cons (k_meth (pv 0) Q_Thing_bytes_there (hr.mono (by decide)) (pa_cons (pv 2) pa_nil)) pa_nil))))))))))), ?_⟩
  obtain ⟨pr, hw⟩ := pre
  obtain ⟨n, l, rfl⟩ := f.inv.2.2.1 hw
  obtain ⟨_, hl⟩ := id pr.ok
  have ln : TLens K cR cT (Wd.tm K cR cT r g H) r g := thg_lens
  have b1 : s.sp.length ≤ 800000 ∧ g.path.length ≤ 1000 := ⟨by have := pr.sp; omega, by have := pr.pl; omega⟩
  refine nx_go (W := .tm K cR cT r g H) (i := s) ?_ ⟨Off.refl, ra⟩ (Sls.start al _ rfl)
  refine sq_set (ev_call (ea_cons (ev_ix (ds := [.str "bytes", .str n, l.dat]) rfl rfl (ea_cons (ev_th T ln rfl T.a_Thing_tags (by exact fl_T_tags) (ea_cons (ev_op (ev_th T ln rfl T.a_Thing_limit (by exact fl_T_limit) (ev_place T ln rfl (op_int0 (ea_nil ?_)))))))))))
  refine call_A (l, g.τ, g.E - s.place, seen, s.tags) rfl (fun I => ⟨(ln.get I).tg, hl, fun x hx => let ⟨v, h, _⟩ := pr.tg x hx; ⟨v, h⟩⟩) ?_
  rintro _ rfl
  dsimp only
  have hw0 : atI [Dat.str "bytes", .str n, l.dat] 2 = some (.tup (.str l.word :: l.tl)) := by rw [← l.dat_eq]; rfl
  have E1 := pr.E
  have E2 := pr.p0
  have fin1 : lenBy l s.tags (g.E - s.place) < 0 → l.isRest = false → rdFld r.bs (inn r) g.E g.path s.place s.tags (.bytes n l) = (failS s.place 0 g.E g.path n "length", s.place, s.tags, false) := fun c1 c2 => by
    simp only [rdFld]; rw [if_pos ⟨c1, c2⟩]
  have fin2 : ¬ (lenBy l s.tags (g.E - s.place) < 0 ∧ l.isRest = false) → (lenBy l s.tags (g.E - s.place) < 0 ∨ s.place + lenBy l s.tags (g.E - s.place) > g.E) → rdFld r.bs (inn r) g.E g.path s.place s.tags (.bytes n l) = (lackS s.place g.E g.path n "short", s.place, s.tags, false) := fun c1 c2 => by
    simp only [rdFld]; rw [if_neg c1, if_pos c2]
  have fin3 : ¬ (lenBy l s.tags (g.E - s.place) < 0 ∧ l.isRest = false) → ¬ (lenBy l s.tags (g.E - s.place) < 0 ∨ s.place + lenBy l s.tags (g.E - s.place) > g.E) → rdFld r.bs (inn r) g.E g.path s.place s.tags (.bytes n l) = ([⟨s.place, s.place + lenBy l s.tags (g.E - s.place), g.path ++ [.str n], "bytes", bytesD (cutB r.bs s.place (lenBy l s.tags (g.E - s.place)))⟩], s.place + lenBy l s.tags (g.E - s.place), s.tags, true) := fun c1 c2 => by
    simp only [rdFld]; rw [if_neg c1, if_neg c2]
  generalize hsz : lenBy l s.tags (g.E - s.place) = sz at fin1 fin2 fin3
  refine sq_when (EvT.imp (Pb := fun j b => j = s ∧ (b = true ↔ sz < 0 ∧ l.isRest = false)) ?_ ?_)
  · refine et_and (et_test (ev_op (ev_var rfl (ev_int (op_bl0 ⟨_, rfl, ifD (fun c1 => ?_) fun c1 => ?_⟩)))))
    · refine et_test (ev_op (ev_op (ev_ix (ds := [.str "bytes", .str n, l.dat]) rfl hw0 (ev_int (op_ixT atI0 (ev_str (op_neS ⟨_, rfl, rfl, ?_⟩)))))))
      rw [word_rest]
      cases l.isRest <;> simp [c1]
    · exact ⟨rfl, by simp [c1]⟩
  rintro j b ⟨rfl, hb0⟩
  refine ifB (fun e0 => ?_) fun e0 => ?_
  · refine nx_ret (m_fails T ln rfl (ev_int (ev_ix (ds := [.str "bytes", .str n, l.dat]) rfl rfl ⟨0, n, rfl, rfl, b1, rt_of fun H' v I z => k v H' _ _ I.1 I.2 z ?_⟩)))
    have e := fin1 (hb0.mp e0).1 (hb0.mp e0).2
    exact ⟨by rw [e], by rw [e], by rw [e], by rw [e], by show j.fl.length ≤ _; omega⟩
  have c1 : ¬ (sz < 0 ∧ l.isRest = false) := fun z => by rw [hb0.mpr z] at e0; cases e0
  refine sq_when (EvT.imp (Pb := fun i b => i = j ∧ (b = true ↔ sz < 0 ∨ j.place + sz > g.E)) ?_ ?_)
  · refine et_or (et_test (ev_op (ev_var rfl (ev_int (op_bl0 ⟨_, rfl, ifD (fun c2 => ?_) fun c2 => ?_⟩)))))
    · exact ⟨rfl, by simp [c2]⟩
    · exact et_B (m_short T ln rfl (ev_var rfl ⟨sz, rfl, _, rfl, rfl, by simp [c2]⟩))
  rintro i b ⟨rfl, hb1⟩
  refine ifB (fun e1 => ?_) fun e1 => ?_
  · refine nx_ret (m_lacks T ln rfl (ev_ix (ds := [.str "bytes", .str n, l.dat]) rfl rfl ⟨n, rfl, b1, rt_of fun H' v I z => k v H' _ _ I.1 I.2 z ?_⟩))
    have e := fin2 c1 (hb1.mp e1)
    exact ⟨by rw [e], by rw [e], by rw [e], by rw [e], by show i.fl.length ≤ _; omega⟩
  have c2 : ¬ (sz < 0 ∨ i.place + sz > g.E) := fun z => by rw [hb1.mpr z] at e1; cases e1
  have hb : 0 ≤ i.place ∧ 0 ≤ sz ∧ i.place + sz ≤ r.bs.length := ⟨E2, by omega, by omega⟩
  refine sq_flds T ln rfl (m_bytes T ln rfl (ev_var rfl ⟨sz, rfl, hb, ev_ix (ds := [.str "bytes", .str n, l.dat]) rfl rfl ⟨n, rfl, by have := pr.fl; omega, ?_⟩⟩))
  refine nx_ret (m_take T ln rfl (ev_var rfl (ev_ix (ds := [.str "bytes", .str n, l.dat]) rfl rfl (m_bytes T ln rfl (ev_var rfl ⟨sz, rfl, hb, sz, n, rfl, rfl, b1, rt_of fun H' v I z => k v H' _ _ I.1 I.2 z ?_⟩)))))
  have e := fin3 c1 c2
  exact ⟨by rw [e], by rw [e], by rw [e], by rw [e], Nat.le_trans (dput_len _ _ _) (Nat.le_succ _)⟩
theorem w_read_text (T : Tp K mg w cR cM cT aS aD) (hN : N ≤ 700000) (Q_Thing_lacks : Ml P w K mg base 2 cT "lacks" (spLacks K cR cT)) (Q_Thing_take : Ml P w K mg base 2 cT "take" (spTake K cR cT))
    (Q_Thing_bytes_there : Ml P w K mg base 1 cT "bytes_there" (spBytesThere K cR cT)) : ∃ f fd, FnOk P w K mg base CX0 4 f fd ["thing", "field"] (SpFld K cR cT N deep inn "text") ∧ Fun K "read_text" "read_text" s_read_text f fd ∧ KDct K w aD "text" (.ref f) := by
  obtain ⟨f, fd, F, kd⟩ := T.f_text
  refine ⟨f, fd, ?_, F, kd⟩
  refine F.ok sc_read_text (fun vs H Q E h => ?_) (fun cdv A outer sh H vs Q E hr h => ?_)
  · obtain ⟨⟨f, seen⟩, r, g, s, al, _⟩ := h
    exact al.len
  obtain ⟨⟨f, seen⟩, r, g, s, al, pre, ra, k⟩ := h
  try dsimp only at pre
  have hu := hu_of hr
  refine ⟨_, (pss_cons (ps_set (i := 2) sc_read_text.nd rfl (Or.inl rfl) (k_meth (pv 0) Q_Thing_bytes_there (hr.mono (by decide)) (pa_cons (pe_callB (k_max rfl) (by rfl) T.n_max (by decide +kernel) (pa_cons pe_int (pa_cons (pe_op op_sub (k_fld K (pv 0)) (k_fld K (pv 0))) pa_nil))) pa_nil)))
      (pss_cons (ps_if (pt_cmpR (k_nin K) (pe_ix (k_ixT K) (pv 1) pe_int (fun _ _ => rfl)) (pv 2) (by rfl)) (pss_one (ps_ret (k_meth (pv 0) Q_Thing_lacks (hr.mono (by decide)) (pa_cons (pe_ix (k_ixT K) (pv 1) pe_int (fun _ _ => rfl)) (pa_cons pe_str pa_nil))))) pss_nil)
      (pss_cons (ps_set (i := 3) sc_read_text.nd rfl (Or.inl rfl) (k_index K (pv 2) (pe_ix (k_ixT K) (pv 1) pe_int (fun _ _ => rfl))))
      (pss_cons (ps_dput hu (k_fld K (pv 0)) (pe_ix (k_ixT K) (pv 1) pe_int (fun _ _ => rfl)) (k_meth (pv 0) Q_Thing_bytes_there (hr.mono (by decide)) (pa_cons (pv 3) pa_nil)) rfl)
      (pss_one (ps_ret (k_meth (pv 0) Q_Thing_take (hr.mono (by decide)) (pa_cons (pe_op op_add (pv 3) pe_int) (pa_cons (pe_ix (k_ixT K) (pv 1) pe_int (fun _ _ => rfl)) (pa_cons pe_str (pa_cons (k_meth (pv 0) Q_Thing_bytes_there (hr.mono (by decide)) (pa_cons (pv 3) pa_nil)) pa_nil))))))))))), ?_⟩
  obtain ⟨pr, hw⟩ := pre
  obtain ⟨n, m, rfl⟩ := f.inv.2.2.2.1 hw
  obtain ⟨_, hm0, hm1⟩ := id pr.ok
  have ln : TLens K cR cT (Wd.tm K cR cT r g H) r g := thg_lens
  have b1 : s.sp.length ≤ 800000 ∧ g.path.length ≤ 1000 := ⟨by have := pr.sp; omega, by have := pr.pl; omega⟩
  have E1 := pr.E
  have E2 := pr.p0
  have E3 := pr.pE
  refine nx_go (W := .tm K cR cT r g H) (i := s) ?_ ⟨Off.refl, ra⟩ (Sls.start al _ rfl)
  refine sq_set (m_bytes T ln rfl (ev_max2 (ev_int (ev_op (ev_th T ln rfl T.a_Thing_limit (by exact fl_T_limit) (ev_place T ln rfl (op_int0 ⟨_, _, rfl, rfl, g.E - s.place, ?_, ⟨E2, by omega, by omega⟩, ?_⟩)))))))
  · congr 1
    split <;> omega
  have hany : ((cutB r.bs s.place (g.E - s.place)).map Dat.int).any (fun e => e.eqf (.int m)) = decide (m ∈ cutB r.bs s.place (g.E - s.place)) := by
    rw [Bool.eq_iff_iff, decide_eq_true_iff, List.any_map, List.any_eq_true]
    constructor
    · rintro ⟨x, hx, he⟩
      have : x = m := by simpa [Dat.eqf] using he
      rw [← this]; exact hx
    · intro hx
      exact ⟨m, hx, by simp [Dat.eqf]⟩
  refine sq_when (et_test (ev_op (ev_ix (ds := [.str "text", .str n, .int m]) rfl rfl (ev_var rfl (op_ninT rfl (by simp [Dat.flat]) ⟨_, rfl, ?_⟩)))))
  rw [hany]
  refine ifN (fun c => ?_) fun c => ?_
  · refine nx_ret (m_lacks T ln rfl (ev_ix (ds := [.str "text", .str n, .int m]) rfl rfl ⟨n, rfl, b1, rt_of fun H' v I z => k v H' _ _ I.1 I.2 z ?_⟩))
    have e : rdFld r.bs (inn r) g.E g.path s.place s.tags (.text n m) = (lackS s.place g.E g.path n "mark", s.place, s.tags, false) := by simp only [rdFld]; rw [if_neg c]
    exact ⟨by rw [e], by rw [e], by rw [e], by rw [e], by show s.fl.length ≤ _; omega⟩
  have hlt : (cutB r.bs s.place (g.E - s.place)).idxOf m < (cutB r.bs s.place (g.E - s.place)).length := List.idxOf_lt_length_iff.mpr c
  have hcl : (cutB r.bs s.place (g.E - s.place)).length = (g.E - s.place).toNat := cut_len E2 (by omega) (by omega)
  have hix : (cutB r.bs s.place (g.E - s.place))[(cutB r.bs s.place (g.E - s.place)).idxOf m]? = some m := by
    rw [List.getElem?_eq_getElem hlt]
    exact congrArg some (List.getElem_idxOf hlt)
  refine sq_set (ev_index (xs := cutB r.bs s.place (g.E - s.place)) (ev_var rfl ⟨rfl, ev_ix (ds := [.str "text", .str n, .int m]) rfl rfl ⟨m, _, rfl, hix, fun l hl z => absurd (idx_first z) (by omega), ?_⟩⟩))
  have e : rdFld r.bs (inn r) g.E g.path s.place s.tags (.text n m) = ([⟨s.place, s.place + ((((cutB r.bs s.place (g.E - s.place)).idxOf m : Nat) : Int) + 1), g.path ++ [.str n], "text", bytesD (cutB r.bs s.place (((cutB r.bs s.place (g.E - s.place)).idxOf m : Nat) : Int))⟩], s.place + ((((cutB r.bs s.place (g.E - s.place)).idxOf m : Nat) : Int) + 1), s.tags, true) := by
    simp only [rdFld]; rw [if_pos c]
  have hb : 0 ≤ s.place ∧ 0 ≤ (((cutB r.bs s.place (g.E - s.place)).idxOf m : Nat) : Int) ∧ s.place + (((cutB r.bs s.place (g.E - s.place)).idxOf m : Nat) : Int) ≤ r.bs.length := ⟨E2, by omega, by omega⟩
  refine sq_flds T ln rfl (m_bytes T ln rfl (ev_var rfl ⟨_, rfl, hb, ev_ix (ds := [.str "text", .str n, .int m]) rfl rfl ⟨n, rfl, by have := pr.fl; omega, ?_⟩⟩))
  refine nx_ret (m_take T ln rfl (ev_op (ev_var rfl (ev_int (op_int0 (ev_ix (ds := [.str "text", .str n, .int m]) rfl rfl (m_bytes T ln rfl (ev_var rfl ⟨_, rfl, hb, _, n, rfl, rfl, b1, rt_of fun H' v I z => k v H' _ _ I.1 I.2 z ?_⟩))))))))
  exact ⟨by rw [e], by rw [e], by rw [e], by rw [e], Nat.le_trans (dput_len _ _ _) (Nat.le_succ _)⟩
end
end Lb
/-! text LbJ -/
/-! Walk: reckoned. -/
namespace Lb
open PySem L2
section
variable {K : PySem.W.Frag} {W : Wd Unit} {Γ : Ctx} {Pl : Unit → List Dat → Prop}
/-- a comprehension of two loops that takes nothing -/
theorem el_lc2 {tl tl1 te : TE} {tt1 : TT} {k k1 : Nat} {vs vs1 : List Nat} (hk : k ∈ vs) (hk1 : k1 ∈ vs1) (hv : ∀ v ∈ vs1, v ∈ vs)
    (h : Ev K W () tl Γ fun _ d => ∃ ds : List Dat, d = .tup ds ∧ (∀ (m : Nat) (d : Dat), ds[m]? = some d → ∀ a p np, EvL K ((W.keep K (.ref a) (.tup ds)).own p (LstAt K p []) (lst_shp K p []) np) () tl1 ((wipeC Γ vs).set k (some d)) fun _ es =>
      ∀ q nq e, e ∈ es → EvT K (((W.keep K (.ref a) (.tup ds)).own p (LstAt K p []) (lst_shp K p []) np).own q (LstAt K q es) (lst_shp K q es) nq) () tt1 ((wipeC ((wipeC Γ vs).set k (some d)) vs1).set k1 (some e)) fun _ b => b = false) ∧ Pl () []) :
    EvL K W () (tLc2 (iTup K tl) (gName k) tYes (iList K tl1) (gName k1) tt1 te vs vs1) Γ Pl := fun H σ I E Q q =>
  h H σ I E _ fun v H0 _ d0 o0 I0 a0 p0 => by
    obtain ⟨ds, rfl, hs, hp⟩ := p0
    obtain ⟨a, xs, rfl, sq, al⟩ := id a0.tup_inv
    refine ⟨a, rfl, ⟨xs, sq.sqT⟩, fun p pn => ?_⟩
    have np : ¬ W.C p := W.nc I0 pn
    let W1 := (W.keep K (.ref a) (.tup ds)).own p (LstAt K p []) (lst_shp K p []) np
    have WK : Wk K W1 (Itt K a) ds.length fun i d => ds[i]? = some d := (wk_tup (W := W.keep K (.ref a) (.tup ds)) fun x => x.2).own
    have I00 : W1.I () (upd H0 p (.lst [])) := ⟨⟨W.new I0 pn, a0.mono (Off.new (A := []) pn)⟩, [], upd_same, .nil⟩
    let St : Nat → Hp → Prop := fun m H' => Off W.A H0 H' ∧ W1.I () H'
    refine ⟨fun m r H' => m + r = ds.length ∧ St m H', ⟨ds.length, Nat.zero_add _, Off.new pn, I00⟩, fun m r H' w => ?_⟩
    obtain ⟨e, o, I'⟩ := w
    by_cases hm : m = ds.length
    · subst hm
      exact .inl ⟨WK.stop (j := ()) I', q p H' () [] np (o0.trans o) I'.1.1 I'.2 hp⟩
    · have hlt : m < ds.length := by omega
      refine .inr ⟨WK.go (j := ()) I' hlt, St (m + 1), fun H2 w' => ⟨r - 1, by omega, by omega, w'⟩, fun x H2 y => ?_⟩
      obtain ⟨e1, d, hd1, ax⟩ := WK.yld (j := ()) I' hlt y
      subst e1
      refine ⟨by rw [wipe_set hk, wipe_wipe fun _ z => z], ?_⟩
      refine (ifT rfl ?_ : if true = true then _ else St (m + 1) H2)
      have E2 := (((E.mono (o0.trans o)).wipe vs).set k ax)
      refine hs m d hd1 a p np H2 _ I' E2 _ fun b H3 _ es nb o3 I3 l3 p3 => ?_
      obtain ⟨ws, g1, g2⟩ := id l3
      refine ⟨b, rfl, ⟨ws, SqL.of g1⟩, ?_⟩
      let W2 := W1.own b (LstAt K b es) (lst_shp K b es) nb
      have WK2 : Wk K W2 (Itl K b) es.length fun i d => es[i]? = some d := wk_lst fun x => x.2
      refine ⟨fun j s H' => j + s = es.length ∧ Off W.A H2 H' ∧ W2.I () H', ⟨es.length, Nat.zero_add _, o3, I3, l3⟩, fun j s H4 w => ?_⟩
      obtain ⟨e4, o4, I4⟩ := w
      by_cases hj : j = es.length
      · subst hj
        exact .inl ⟨WK2.stop (j := ()) I4, o.trans o4, I4.1⟩
      · have hlt2 : j < es.length := by omega
        refine .inr ⟨WK2.go (j := ()) I4 hlt2, fun H' => Off W.A H2 H' ∧ W2.I () H', fun H5 w' => ⟨s - 1, by omega, by omega, w'⟩, fun x5 H5 y5 => ?_⟩
        obtain ⟨e5, d5, hd5, ax5⟩ := WK2.yld (j := ()) I4 hlt2 y5
        subst e5
        refine ⟨by rw [wipe_set hk1, wipe_wipe fun _ z => z], ?_⟩
        have E5 := (((E2.mono o4).wipe vs1).set k1 ax5)
        refine p3 b nb d5 (List.mem_of_getElem? hd5) H5 _ I4 E5 _ fun bb H6 _ o6 I6 p6 => ?_
        subst p6
        refine (ifF rfl ?_ : if false = true then _ else (Off W.A H2 H6 ∧ W2.I () H6))
        exact ⟨o4.trans o6, I6⟩
end
section
variable {P : Program} {w : World} {K : PySem.W.Frag} {mg : Str → Option Value} {base : Heap} {cR cM cT aS aD : Addr}
theorem atI_last {xs : List Dat} {y : Dat} : atI (xs ++ [y]) (-1) = some y := by
  unfold atI ixN
  rw [List.length_append, List.length_singleton, if_neg (by decide), if_pos (by omega)]
  have e : ((-1 : Int) + ((xs.length + 1 : Nat) : Int)).toNat = xs.length := by omega
  rw [e]
  simp
theorem fine_names : ∀ {xs : List Str}, (∀ x ∈ xs, NmOk x) → Dat.fineL 0 (xs.map Dat.str) = true
  | [], _ => rfl
  | x :: xs, h => by
    have h1 : PyData.strOk x = true := h x List.mem_cons_self
    have h2 := fine_names (xs := xs) fun y hy => h y (List.mem_cons_of_mem _ hy)
    rw [List.map_cons, Dat.fineL, h2]
    simp [Dat.fine, h1]
theorem KN.nm {x : Str} (h : x = "all" ∨ x = "low" ∨ x = "mid") : NmOk x := by
  rcases h with rfl | rfl | rfl
  · show PyData.strOk _ = true; decide +kernel
  · show PyData.strOk _ = true; decide +kernel
  · show PyData.strOk _ = true; decide +kernel
def spReckoned (K : PySem.W.Frag) : Sp := SpAD K (α := Addr × Gr) (fun a => [.obj a.1]) (fun a H => DctAt K a.1 (tblOf a.2) H ∧ GrOk a.2) fun _ _ => True
theorem w_reckoned (T : Tp K mg w cR cM cT aS aD) (G_kinds_in : Cl P w K mg base 1 "kinds_in" (spKindsIn K)) (G_tags_of : Cl P w K mg base 2 "tags_of" (spTagsOf K)) (G_goes_on : Cl P w K mg base 2 "goes_on" (spGoesOn K)) (G_least_field : Cl P w K mg base 2 "least_field" (spLeastField K)) : Cl P w K mg base 3 "reckoned" (spReckoned K) := by
  refine Cl.of (ps := ["table"]) T.d_reckoned (fun f fd F => ?_) fun _ _ _ _ _ _ us hl => match us, hl with | [_], _ => rfl
  refine F.ok sc_reckoned (fun vs H Q E h => ?_) (fun cdv A outer sh H vs Q E hr h => ?_)
  · obtain ⟨⟨tb, G⟩, al, _⟩ := h
    exact al.len
  obtain ⟨⟨tb, G⟩, al, pre, k⟩ := h
  try dsimp only at pre
  have hu := hu_of hr
  refine ⟨_, (pss_cons (ps_set (i := 1) sc_reckoned.nd rfl (Or.inr rfl) pe_dnewK)
      (pss_cons (ps_set (i := 2) sc_reckoned.nd rfl (Or.inl rfl) (pe_callTy (call_list_dK rfl) (by rfl) T.n_list (by decide +kernel) (pa_cons (pv 0) pa_nil)))
      (pss_cons (ps_while PassesOwn.never (pt_cmpR (k_neD K hr.units) (pv 2) (pe_lst pa_nil) (nomark _)) (pss_cons (ps_set (i := 3) sc_reckoned.nd rfl (Or.inl rfl) (pe_ix (k_ixL K) (pv 2) (pe_un un_neg pe_int) (fun _ _ => rfl)))
      (pss_cons (ps_setLc2 (i := 4) (g := (gName 6)) (g1 := (gName 7)) (vs1 := [7]) rfl sc_reckoned.nd rfl rfl (sw_true rfl rfl rfl (by decide +kernel)) (k_forT K (pe_dget hu (pv 0) (pv 3) (fun _ _ => rfl))) (blkOk_by (own := [("field", 6), ("inner", 7)]) (N := ["table", "known", "waiting", "kind", "lacking", "tags", "field", "inner"]) (sc := defScope s_reckoned) (by decide +kernel)) (by decide) (fun _ _ _ _ _ => (pg_name (i := 6) sc_reckoned.nd rfl (Or.inl rfl))) (fun _ _ _ _ _ => pts_nil) (fun _ _ _ _ _ => (k_forL K (k_call G_kinds_in (hr.mono (by decide)) (pa_cons (pv 6) pa_nil)))) (fun _ _ _ _ _ => (pg_name (i := 7) sc_reckoned.nd rfl (Or.inl rfl))) (fun _ _ _ _ _ => (pts_one (pt_cmp (pc_dnotin hu (pv 7) (pv 1))))) (fun _ _ _ _ _ => (pv 7)))
      (pss_cons (ps_expr (k_extend K (pv 2) (pv 4)))
      (pss_one (ps_if (pt_cmpR (k_eqD K hr.units) (pv 4) (pe_lst pa_nil) (nomark _)) (pss_cons (ps_expr (k_pop K (pv 2)))
      (pss_cons (ps_set (i := 5) sc_reckoned.nd rfl (Or.inr rfl) (k_call G_tags_of (hr.mono (by decide)) (pa_cons (pe_dget hu (pv 0) (pv 3) (fun _ _ => rfl)) pa_nil)))
      (pss_one (ps_dput hu (pv 1) (pv 3) (pe_tupF (pa_cons (pe_callB (k_any K rfl) (by rfl) T.n_any (by decide +kernel) (pa_cons (pe_lc (g := (gName 6)) rfl sc_reckoned.nd (k_forT K (pe_dget hu (pv 0) (pv 3) (fun _ _ => rfl))) (blkOk_by (own := [("field", 6)]) (N := ["table", "known", "waiting", "kind", "lacking", "tags", "field", "inner"]) (sc := defScope s_reckoned) (by decide +kernel)) (fun _ _ _ _ _ => (pg_name (i := 6) sc_reckoned.nd rfl (Or.inl rfl))) (fun _ _ _ _ _ => pts_nil) (fun _ _ _ _ _ => (k_call G_goes_on (hr.mono (by decide)) (pa_cons (pv 1) (pa_cons (pv 6) pa_nil))))) pa_nil)) (pa_cons (pe_callB (k_sum K rfl) (by rfl) T.n_sum (by decide +kernel) (pa_cons (pe_lc (g := (gName 6)) rfl sc_reckoned.nd (k_forT K (pe_dget hu (pv 0) (pv 3) (fun _ _ => rfl))) (blkOk_by (own := [("field", 6)]) (N := ["table", "known", "waiting", "kind", "lacking", "tags", "field", "inner"]) (sc := defScope s_reckoned) (by decide +kernel)) (fun _ _ _ _ _ => (pg_name (i := 6) sc_reckoned.nd rfl (Or.inl rfl))) (fun _ _ _ _ _ => pts_nil) (fun _ _ _ _ _ => (k_call G_least_field (hr.mono (by decide)) (pa_cons (pv 1) (pa_cons (pv 6) (pa_cons (pv 5) pa_nil)))))) pa_nil)) pa_nil))) rfl)))) pss_nil))))))
      (pss_one (ps_ret (pv 1)))))), ?_⟩
  obtain ⟨htb, ok⟩ := pre
  refine nx_go (W := .base H) (i := ()) ?_ (fun b o e => e) (Sls.start al _ rfl)
  refine sq_setD (ed_new fun pk nk => ?_)
  refine sq_setL (el_keys (ev_var rfl ⟨tb, tblOf G, rfl, fun I => baseD htb I.1, fun pw nw => ?_⟩))
  have e0 : (tblOf G).map (fun q => kdat q.1) = (namesOf G).map Dat.str := by unfold tblOf namesOf; rw [List.map_map, List.map_map]; rfl
  rw [e0]
  have hlen := ok.len
  have hnl : (namesOf G).length = G.length := List.length_map ..
  refine sq_while (κ := List (Key × Dat) × List Dat) (Wf := fun κ => ((Wd.base H).own pk (DctAt K pk κ.1) (dct_shp K pk _) nk).own pw (LstAt K pw κ.2) (lst_shp K pw _) nw)
    (fun m κ _ Γ => m ≤ G.length ∧ κ.2 = ((namesOf G).take m).map Dat.str ∧ KnOk ((namesOf G).drop m) κ.1 ∧ κ.1.length + m ≤ G.length ∧ ∃ a b c d e, Γ = [some (.obj tb), some (.obj pk), some (.obj pw), a, b, c, d, e]) G.length ([], (namesOf G).map Dat.str) ?_ ?_
  · refine ⟨Nat.le_refl _, by rw [List.take_of_length_le (by omega)], ⟨by simp, by rw [List.drop_of_length_le (by omega)]; simp⟩, by simp, none, none, none, none, none, rfl⟩
  rintro m ⟨kl, ws⟩ _ Γ ⟨hm, hws, hkn, hkl, a, b, c, d, e, rfl⟩
  dsimp only at hws hkn hkl
  subst hws
  refine et_test (ev_neNil (ev_var rfl ⟨pw, _, 0, rfl, fun I => I.2, fine_names fun x hx => KN.nm (ok.names x (List.mem_of_mem_take hx)), by decide, _, rfl, ?_⟩))
  match m, hm, hkn, hkl with
  | 0, hm, hkn, hkl =>
    refine ifF (by simp) ?_
    refine nx_ret (ev_var rfl (rt_L fun H' I => ?_))
    exact k pk H' kl (baseN nk) I.1.1 I.1.2 True.intro
  | m + 1, hm, hkn, hkl =>
    have hmG : m < G.length := by omega
    obtain ⟨q, hq⟩ : ∃ q, G[m]? = some q := ⟨_, List.getElem?_eq_getElem hmG⟩
    have hnm : (namesOf G)[m]? = some q.1 := by unfold namesOf; rw [List.getElem?_map, hq]; rfl
    have hlk := tbl_look ok.nodup hq
    have hdrop : (namesOf G).drop m = q.1 :: (namesOf G).drop (m + 1) := by
      have hmn : m < (namesOf G).length := by omega
      rw [List.drop_eq_getElem_cons hmn]
      rw [List.getElem?_eq_getElem hmn] at hnm
      rw [Option.some.inj hnm]
    have hdeep := ok.deep m q hq
    have hfl : q.2.length ≤ 10 := hdeep.elim (fun z => z.1) fun z => z.1
    have hfk : ∀ f ∈ q.2, ∃ sn dp, FldOk sn dp f ∧ (∀ x ∈ sn, x ∈ q.2.flatMap decl) ∧ ∀ x ∈ kindsOf f, x ∈ (namesOf G).drop (m + 1) := by
      intro f hf
      rcases hdeep with z | z
      · obtain ⟨sn, h1, h2⟩ := z.2.mem f hf
        exact ⟨sn, _, h1, by simpa using h2, h1.kinds⟩
      · obtain ⟨sn, h1, h2⟩ := z.2.mem f hf
        exact ⟨sn, _, h1, by simpa using h2, fun x hx => absurd (h1.kinds x hx) (by simp)⟩
    have e2 : ((namesOf G).take (m + 1)).map Dat.str = ((namesOf G).take m).map Dat.str ++ [.str q.1] := by rw [take_snoc hnm, List.map_append]; rfl
    rw [e2]
    refine ifT (by simp) ?_
    refine sq_set (ev_op (ev_var rfl (ev_neg (n := 0) (ev_int ⟨1, rfl, op_ixL (fun I => I.2) atI_last ?_⟩))))
    refine sq_setL (el_lc2 (by decide) (by decide) (by decide) (ev_dget (ev_var rfl (ev_var rfl ⟨tb, tblOf G, q.1, _, rfl, fun I => baseD htb I.1.1, rfl, hlk, _, rfl, ?_, ?_⟩))))
    · rintro i d hd a p np
      obtain ⟨f, hf, rfl⟩ := get_map hd
      obtain ⟨sn, dp, h1, h2, h3⟩ := hfk f (List.mem_of_getElem? hf)
      refine el_call (ea_cons (ev_var rfl (ea_nil (call_AL f rfl (fun _ => ⟨sn, dp, h1⟩) ?_))))
      rintro _ rfl q' nq' e' he'
      obtain ⟨kd, hkd, rfl⟩ := List.mem_map.mp he'
      obtain ⟨dd, hdd, _⟩ := hkn.look (h3 kd hkd)
      refine et_dnin (ev_var rfl (ev_var rfl ⟨pk, kl, .inr kd, rfl, fun I => I.1.1.1.1.2, rfl, ?_⟩))
      rw [hdd]; rfl
    rintro pl nl
    refine sq_extend OwnAt.here.under (ev_var rfl ⟨rfl, ev_var rfl ⟨pl, [], rfl, fun I => I.2, by simp; omega, ?_⟩⟩)
    rw [List.append_nil]
    refine nx_if (et_test (ev_eqNil (ev_var rfl ⟨pl, [], 0, rfl, fun I => I.2, rfl, by decide, _, rfl, ifT rfl ?_⟩)))
    refine sq_pop OwnAt.here.under (ev_var rfl ⟨rfl, ?_⟩)
    refine sq_setD (ed_call (ea_cons (ev_dget (ev_var rfl (ev_var rfl ⟨tb, tblOf G, q.1, _, rfl, fun I => baseD htb I.1.1.1, rfl, hlk, ea_nil (call_AD q.2 rfl (fun _ => ⟨fun f hf => let ⟨sn, dp, z, _⟩ := hfk f hf; ⟨sn, dp, z⟩, hfl⟩) ?_)⟩)))))
    rintro tl ⟨htg, _⟩ pt nt
    refine nx_dput OwnAt.here.under.under.under ?_
    refine ev_tup (ea_cons (ev_any (el_lcT (ev_dget (ev_var rfl (ev_var rfl ⟨tb, tblOf G, q.1, _, rfl, fun I => baseD htb I.1.1.1.1, rfl, hlk, _, rfl, fun a1 => ?_⟩))))))
    refine lc_name (k := 6) (wk_tup fun x => x.2) (by rw [List.length_map]; omega) (fun m _ acc => ∃ bs : List Bool, acc = bs.map Dat.bl) ⟨[], rfl⟩ (by decide) ?_ ?_
    · rintro i _ acc d p np hi hd ⟨bs, rfl⟩
      obtain ⟨f, hf, rfl⟩ := get_map hd
      obtain ⟨sn, dp, h1, h2, h3⟩ := hfk f (List.mem_of_getElem? hf)
      refine lct_yes (ev_call (ea_cons (ev_var rfl (ea_cons (ev_var rfl (ea_nil (call_A (pk, f, kl) rfl (fun I => ⟨I.1.1.1.1.1.2, ⟨sn, dp, h1⟩, hkn.1, fun x hx => hkn.2 x (h3 x hx)⟩) ?_)))))))
      rintro _ ⟨b', rfl⟩
      exact ⟨bs ++ [b'], by simp⟩
    rintro _ acc ⟨bs, rfl⟩
    refine ⟨bs, rfl, ea_cons (ev_sum (el_lcT (ev_dget (ev_var rfl (ev_var rfl ⟨tb, tblOf G, q.1, _, rfl, fun I => baseD htb I.1.1.1.1, rfl, hlk, _, rfl, fun a2 => ?_⟩)))))⟩
    refine lc_name (k := 6) (wk_tup fun x => x.2) (by rw [List.length_map]; omega) (fun m _ acc => ∃ ns : List Int, acc = ns.map Dat.int) ⟨[], rfl⟩ (by decide) ?_ ?_
    · rintro i _ acc d p np hi hd ⟨ns, rfl⟩
      obtain ⟨f, hf, rfl⟩ := get_map hd
      obtain ⟨sn, dp, h1, h2, h3⟩ := hfk f (List.mem_of_getElem? hf)
      refine lct_yes (ev_call (ea_cons (ev_var rfl (ea_cons (ev_var rfl (ea_cons (ev_var rfl (ea_nil (call_A (pk, f, pt, sn, dp, kl, tl) rfl (fun I => ⟨I.1.1.1.1.1.2, I.1.1.2, h1, ⟨hkn.1, fun x hx => hkn.2 x (h3 x hx)⟩, htg.1, fun x hx => htg.2 x (h2 x hx)⟩) ?_)))))))))
      rintro _ ⟨n', rfl⟩
      exact ⟨ns ++ [n'], by simp⟩
    rintro _ acc ⟨ns, rfl⟩
    refine ⟨ns, rfl, ea_nil ⟨by show 2 ≤ 1000; decide, ?_⟩⟩
    refine ev_var rfl (ev_var rfl ⟨.inr q.1, rfl, rfl, by dsimp only; omega, ?_⟩)
    refine nx_forget (nx_forget ?_)
    refine fun H' σ I E => ⟨m, Nat.lt_succ_self m, Lp.of (dput kl (.inr q.1) _, ((namesOf G).take m).map Dat.str) I E ?_⟩
    refine ⟨by omega, rfl, ⟨dput_mem hkn.1 ⟨_, _, rfl⟩, fun x hx => dput_has ?_⟩, ?_, _, _, _, _, _, rfl⟩
    · rw [hdrop] at hx
      rcases List.mem_cons.mp hx with z | z
      · exact .inr (by rw [z])
      · exact .inl (hkn.2 x z)
    · have := dput_len kl (.inr q.1) (.tup [.bl (bs.any id), .int ns.sum])
      dsimp only
      omega
end
end Lb
/-! text LbQ -/
/-! Walks: a thing's read, a reader's read_kind. -/
namespace Lb
open PySem L2
theorem fun_one {K : PySem.W.Frag} {x q x' q' : Str} {st st' : Stmt} {f : Addr} {fd fd' : FuncData} (F : Fun K x q st f fd) (F' : Fun K x' q' st' f fd') : x = x' := by
  obtain ⟨_, _, _, _, _, _, _, _, _, rfl, l, _⟩ := F.ex
  obtain ⟨_, _, _, _, _, _, _, _, _, rfl, l', _⟩ := F'.ex
  rw [l] at l'
  have h := congrArg Obj.data (Option.some.inj l')
  injection h with h
  have h2 := congrArg FuncData.name h
  exact h2
section
variable {P : Program} {w : World} {K : PySem.W.Frag} {mg : Str → Option Value} {base : Heap} {cR cM cT aS aD : Addr}
/-- a level of reading -/
structure Lvl where
  deep : Rdr → List Str
  inn : Rdr → Inner
  kp : Rdr → Str → Prop
  N : Nat
  Nk : Nat
  A : Nat
  Lp : Nat
structure LvlOk (V : Lvl) : Prop where
  fs : ∀ r k, V.kp r k → GrOk r.G ∧ k ∈ namesOf r.G ∧ (fieldsOf r.G k ≠ [] ∧ (fieldsOf r.G k).length ≤ 10) ∧ FsOk (V.deep r) [] (fieldsOf r.G k)
  ig : ∀ r k, V.kp r k → (∀ y ∈ r.bs, 0 ≤ y ∧ y ≤ 255) → InGood r.bs r.bs 0 (V.deep r) (V.inn r) (V.inn r)
  len : ∀ r k, V.kp r k → (∀ y ∈ r.bs, 0 ≤ y ∧ y ≤ 255) → r.bs.length ≤ 1000 → ∀ (seen : List Str) (f : Fld) (E : Int) (path : List Dat) (p : Int) (t : Tags), FldOk seen (V.deep r) f → 0 ≤ p → p ≤ E → E ≤ r.bs.length → (rdFld r.bs (V.inn r) E path p t f).1.length ≤ V.A
  n1 : V.Nk + 10 * V.A ≤ V.N
  n2 : V.Lp * 7000 ≤ V.N
/-- a thing's read, by a table of readers -/
def SpRd (K : PySem.W.Frag) (cR cT : Addr) (V : Lvl) : Sp := SpT K cR cT (α := Fld × List Str × Str) (fun a => [a.1.dat]) (fun r g s a => FPre V.N (V.deep r) r g s a.1 a.2.1 ∧ V.kp r a.2.2) fun r g s a s' d => FPost (V.inn r) r g s a.1 s' d
structure Tbl (P : Program) (w : World) (K : PySem.W.Frag) (mg : Str → Option Value) (base : Heap) (cR cT aD : Addr) (V : Lvl) (k : Nat) (tbl : List (Str × Addr)) : Prop where
  cal : ∀ e ∈ tbl, Cal P w K mg base k e.2 (SpFld K cR cT V.N V.deep V.inn e.1)
  nd : (tbl.map (·.2)).Nodup
  kd : ∀ e ∈ tbl, KDct K w aD e.1 (.ref e.2)
  all : ∀ r f seen kd, V.kp r kd → FldOk seen (V.deep r) f → ∃ e ∈ tbl, e.1 = f.word
def tblS (K : PySem.W.Frag) (cR cT : Addr) (V : Lvl) : List (Str × Addr) → Addr → Option Sp
  | [], _ => none
  | e :: r, a => if e.2 = a then some (SpFld K cR cT V.N V.deep V.inn e.1) else tblS K cR cT V r a
theorem tblS_mem {V : Lvl} : ∀ {tbl : List (Str × Addr)} {e : Str × Addr}, (tbl.map (·.2)).Nodup → e ∈ tbl → tblS K cR cT V tbl e.2 = some (SpFld K cR cT V.N V.deep V.inn e.1)
  | [], _, _, h => nomatch h
  | x :: r, e, nd, h => by
    have nd' := List.nodup_cons.mp (show (x.2 :: r.map (·.2)).Nodup from nd)
    unfold tblS
    rcases List.mem_cons.mp h with z | z
    · subst z; rw [if_pos rfl]
    · rw [if_neg (show ¬ x.2 = e.2 from fun q => nd'.1 (by rw [q]; exact List.mem_map.mpr ⟨e, z, rfl⟩))]
      exact tblS_mem nd'.2 z
theorem tblS_cal {V : Lvl} {k : Nat} : ∀ {tbl : List (Str × Addr)}, (∀ e ∈ tbl, Cal P w K mg base k e.2 (SpFld K cR cT V.N V.deep V.inn e.1)) → ∀ f sp, tblS K cR cT V tbl f = some sp → Cal P w K mg base k f sp
  | [], _, _, _, h => by cases h
  | x :: r, hc, f, sp, h => by
    unfold tblS at h
    by_cases c : x.2 = f
    · rw [if_pos c] at h
      cases h
      rw [← c]
      exact hc x List.mem_cons_self
    · rw [if_neg c] at h
      exact tblS_cal (fun e he => hc e (List.mem_cons_of_mem _ he)) f sp h
theorem w_thing_read (T : Tp K mg w cR cM cT aS aD) {V : Lvl} {kk : Nat} {tbl : List (Str × Addr)} (B : Tbl P w K mg base cR cT aD V kk tbl) : Ml P w K mg base (kk + 1) cT "read" (SpRd K cR cT V) := by
  have HS := tblS_cal (V := V) (P := P) (w := w) (mg := mg) (base := base) B.cal
  let S_read := tblS K cR cT V tbl
  obtain ⟨f, fd, F, hm⟩ := T.m_Thing_read
  refine ⟨⟨f, fd, ["self", "field"], ?_, hm, F.binds fun _ _ _ _ _ _ us hl => match us, hl with | [_, _], _ => rfl⟩, T.c_Thing.1⟩
  refine F.ok sc_Thing_read (fun vs H Q E h => ?_) (fun cdv A outer sh H vs Q E hr h => ?_)
  · obtain ⟨⟨f, seen, kd⟩, r, g, s, al, _⟩ := h
    exact al.len
  obtain ⟨⟨f, seen, kd⟩, r, g, s, al, pre, ra, k⟩ := h
  try dsimp only at pre
  have hu := hu_of hr
  refine ⟨_, (pss_one (ps_ret (k_callS S_read HS (hr.mono (by omega)) (k_wget K w (k_gref T.g_READERS) (pe_ix (k_ixT K) (pv 1) pe_int (fun _ _ => rfl))) (pa_cons (pv 0) (pa_cons (pv 1) pa_nil))))), ?_⟩
  obtain ⟨pr, hkp⟩ := pre
  have ln : TLens K cR cT (Wd.tm K cR cT r g H) r g := thg_lens
  obtain ⟨e, he, hw⟩ := B.all r f seen kd hkp pr.ok
  have hk : ([some (.obj g.t), some f.dat] : Ctx)[1]? = some (some (.tup (.str f.word :: f.tl))) := by rw [← f.dat_eq]; rfl
  refine nx_go (W := .tm K cR cT r g H) (i := s) ?_ ⟨Off.refl, ra⟩ (Sls.start al _ rfl)
  refine nx_ret (fun H1 σ I E Q' q => ?_)
  have hix := ev_ix (K := K) (W := Wd.tm K cR cT r g H) (i := s) (n := 0) (P := fun j d => j = s ∧ d = .str f.word) hk atI0 ⟨rfl, rfl⟩
  refine hix H1 σ I E _ fun v H2 j d o2 I2 a2 p2 => ?_
  obtain ⟨rfl, rfl⟩ := p2
  cases a2
  refine ⟨aD, f.word, .ref e.2, rfl, rfl, hw ▸ B.kd e he, e.2, _, rfl, tblS_mem B.nd he, ?_⟩
  have E2 := E.mono o2
  obtain ⟨v0, h0, a0⟩ := E2.at_ 0 (.obj g.t) rfl
  obtain ⟨v1, h1, a1⟩ := E2.at_ 1 f.dat rfl
  refine ⟨v0, h0, v1, h1, ⟨(f, seen), r, g, j, .cons a0 (.cons a1 .nil), ⟨pr, hw.symm⟩, ln.get I2, fun v H' d s' o ta at' ps => ?_⟩⟩
  refine q v H' s' d (o2.trans o) (ln.put I2 o ta) at' ?_
  exact rt_of fun H'' v' I' z => k v' H'' _ _ I'.1 I'.2 z ps
theorem raw_make {C : Addr} {sp : Sp} {t : TA} {k : Nat} {D : Ends} {tr : TS} {σ : L2.St} {H : Hp} (h : t σ H fun vs H1 => ∀ x dx, H1 x = none → H1 dx = none → dx ≠ x → sp (.ref x :: (vs ++ [])) (upd (upd H1 dx (.own x)) x (.ins C dx [])) (fun v H2 => v = .non ∧ tr D (σ.set k (some (.ref x))) H2) E0) :
    tSeq (tAsg (tMake C sp [] E0 t) (gName k)) tr D σ H := h
theorem ne_sum (f : Fld) : ¬ f.word = "sum" := by
  cases f with
  | number => show ¬ ("number" : Str) = "sum"; decide +kernel
  | bits => show ¬ ("bits" : Str) = "sum"; decide +kernel
  | bytes => show ¬ ("bytes" : Str) = "sum"; decide +kernel
  | text => show ¬ ("text" : Str) = "sum"; decide +kernel
  | choice => show ¬ ("choice" : Str) = "sum"; decide +kernel
  | row => show ¬ ("row" : Str) = "sum"; decide +kernel
  | carried => show ¬ ("carried" : Str) = "sum"; decide +kernel
/-- the promise of read_kind -/
structure KArg where
  kind : Str
  rm : Addr
  p : Int
  E : Int
  path : List Dat
structure KPre (K : PySem.W.Frag) (cM : Addr) (V : Lvl) (r : Rdr) (s : List Spr) (a : KArg) (H : Hp) : Prop where
  kp : V.kp r a.kind
  rm : InsAt K a.rm cM (rmF a.p a.E a.E) H
  p0 : 0 ≤ a.p
  pE : a.p ≤ a.E
  E : a.E ≤ r.bs.length
  len : r.bs.length ≤ 1000
  byt : ∀ y ∈ r.bs, 0 ≤ y ∧ y ≤ 255
  sp : s.length ≤ V.Nk
  pl : a.path.length ≤ V.Lp
def kRes (V : Lvl) (r : Rdr) (a : KArg) : List Spr × Int × Bool := rdFs r.bs (V.inn r) a.E a.path (fieldsOf r.G a.kind) a.p []
def SpKind (K : PySem.W.Frag) (cR cM : Addr) (V : Lvl) : Sp := SpR K cR (α := KArg) (fun a => [.str a.kind, .obj a.rm, .tup a.path]) (fun r s a H => KPre K cM V r s a H) fun r a new d => new = (kRes V r a).1 ∧ ∃ φ, d = .tup [.int (kRes V r a).2.1, .obj φ, .bl (kRes V r a).2.2]
theorem w_read_kind (T : Tp K mg w cR cM cT aS aD) {V : Lvl} {kk : Nat} (hkk : 2 ≤ kk) (ok : LvlOk V) (M_Thing : Mkl P w K mg base 1 "Thing" cT (spThingI K cM cT)) (G_fields_of : Cl P w K mg base 2 "fields_of" (spFieldsOf K)) (G_goes_on : Cl P w K mg base 2 "goes_on" (spGoesOn K)) (Q_Thing_read : Ml P w K mg base kk cT "read" (SpRd K cR cT V)) :
    Ml P w K mg base (kk + 1) cR "read_kind" (SpKind K cR cM V) := by
  obtain ⟨f, fd, F, hm⟩ := T.m_Reader_read_kind
  refine ⟨⟨f, fd, ["self", "kind", "room", "path"], ?_, hm, F.binds fun _ _ _ _ _ _ us hl => match us, hl with | [_, _, _, _], _ => rfl⟩, T.c_Reader.1⟩
  refine F.ok sc_Reader_read_kind (fun vs H Q E h => ?_) (fun cdv A outer sh H vs Q E hr h => ?_)
  · obtain ⟨a, r, s, al, _⟩ := h
    exact al.len
  obtain ⟨a, r, s, al, pre, ra, k⟩ := h
  try dsimp only at pre
  have hu := hu_of hr
  refine ⟨_, (pss_cons (ps_set (i := 4) sc_Reader_read_kind.nd rfl (Or.inl rfl) (k_make M_Thing (hr.mono (by omega)) (pa_cons (pv 0) (pa_cons (pv 2) (pa_cons (pv 3) pa_nil)))))
      (pss_cons (ps_set (i := 5) sc_Reader_read_kind.nd rfl (Or.inl rfl) (k_call G_fields_of (hr.mono (by omega)) (pa_cons (k_fld K (pv 0)) (pa_cons (pv 1) pa_nil))))
      (pss_cons (ps_for PassesOwn.never rfl (k_zipS K (by rfl) T.n_zip (pv 5) (pe_op (k_cat K) (pe_slice (k_slT K) (pv 5) (po_some pe_int) po_none) (pe_tupF (pa_cons pe_non pa_nil)))) (k_tup K rfl (pgs_cons (pg_name (i := 6) sc_Reader_read_kind.nd rfl (Or.inl rfl)) (pgs_cons (pg_name (i := 7) sc_Reader_read_kind.nd rfl (Or.inl rfl)) pgs_nil))) (pss_cons (k_sfld K (pv 4) (k_fld K (pv 2)))
      (pss_cons (ps_if (PW.pt (pw_and (pt_cmpR L2.op_notN (pv 7) pe_non (nomark _)) (pw_and (pt_cmpR op_eq (pe_ix (k_ixT K) (pv 7) pe_int (fun _ _ => rfl)) pe_str (nomark _)) (pw_and1 (pt_val (k_call G_goes_on (hr.mono (by omega)) (pa_cons (k_fld K (pv 0)) (pa_cons (pv 6) pa_nil)))))))) (pss_one ps_never) pss_nil)
      (pss_one (ps_if (pt_not (pt_val (k_meth (pv 4) Q_Thing_read (hr.mono (by omega)) (pa_cons (pv 6) pa_nil)))) (pss_one (ps_ret (pe_tupF (pa_cons (k_fld K (pv 2)) (pa_cons (k_fld K (pv 4)) (pa_cons pe_bl pa_nil)))))) pss_nil)))))
      (pss_one (ps_ret (pe_tupF (pa_cons (k_fld K (pv 4)) (pa_cons (k_fld K (pv 4)) (pa_cons pe_bl pa_nil))))))))), ?_⟩
  obtain ⟨hG, hkn, hfl, hfs⟩ := ok.fs r a.kind pre.kp
  have hig := ok.ig r a.kind pre.kp pre.byt
  have hlen := ok.len r a.kind pre.kp pre.byt pre.len
  have hn1 := ok.n1
  have hn2 := ok.n2
  have hsp := pre.sp
  have hpl := pre.pl
  generalize hfse : fieldsOf r.G a.kind = fs at hfl hfs
  have hRes : kRes V r a = rdFs r.bs (V.inn r) a.E a.path fs a.p [] := by unfold kRes; rw [hfse]
  refine nx_go (W := .rdr K cR r H ra.1.trk ra.2.trk) (i := s) ?_ ⟨Off.refl, ra⟩ (Sls.start al _ rfl)
  refine fun H1 σ1 I1 E1 => ?_
  -- thing = Thing(self, room, path)
  have hargs : EvA K (Wd.rdr K cR r H ra.1.trk ra.2.trk) s (tCons (tVar 0) (tCons (tVar 2) (tCons (tVar 3) tNil))) _ fun j ds => j = s ∧ ds = [.obj r.R, .obj a.rm, .tup a.path] :=
    ea_cons (ev_var (Γ := List.map some (.obj r.R :: [.str a.kind, .obj a.rm, .tup a.path]) ++ List.replicate 4 none) rfl (ea_cons (ev_var rfl (ea_cons (ev_var rfl (ea_nil ⟨rfl, rfl⟩))))))
  refine raw_make ?_
  refine hargs H1 σ1 I1 E1 _ fun vs2 H2 j ds o2 I2 al2 pd2 => ?_
  obtain ⟨rfl, rfl⟩ := pd2
  intro x dx nx ndx ne
  rw [List.append_nil]
  have nx' : (upd H2 dx (.own x)) x = none := by rw [upd_ne (Ne.symm ne)]; exact nx
  have oa : ∀ {B : List Addr}, Off B H2 (upd (upd H2 dx (.own x)) x (.ins cT dx [])) := fun {B} => (Off.new ndx).trans (Off.new nx')
  have nR : r.R ≠ x := fun z => I2.2.1.trk (by rw [z]; exact nx)
  have nL : r.L ≠ x := fun z => I2.2.2.trk (by rw [z]; exact nx)
  have hrm2 : InsAt K a.rm cM (rmF a.p a.E a.E) H2 := pre.rm.off (by simpa using pre.rm.ne_lst ra.2) I2.1
  have WR : (Wd.rdr K cR r H ra.1.trk ra.2.trk).I j (upd (upd H2 dx (.own x)) x (.ins cT dx [])) := (Wd.rdr K cR r H ra.1.trk ra.2.trk).new ((Wd.rdr K cR r H ra.1.trk ra.2.trk).new I2 ndx) nx'
  refine ⟨x, (r, a.rm, a.p, a.E, a.path), .cons (.obj x) (al2.mono (oa (B := []))), ⟨dx, [], upd_same, .nil⟩, hrm2.off (A := []) (by simp) oa, fun H3 l o3 ia ps => ⟨rfl, ?_⟩⟩
  obtain ⟨τ, φ, nτφ, nτ, nφ, rfl, dτ, dφ⟩ := ps
  have x0 : H x = none := Classical.byContradiction fun z => (Wd.rdr K cR r H ra.1.trk ra.2.trk).nc I2 nx z
  have τ0 : H τ = none := Classical.byContradiction fun z => (Wd.rdr K cR r H ra.1.trk ra.2.trk).nc WR nτ z
  have φ0 : H φ = none := Classical.byContradiction fun z => (Wd.rdr K cR r H ra.1.trk ra.2.trk).nc WR nφ z
  have o03 : Off [r.L] H H3 := (WR.1).late x0 (o3.mono fun y hy => by rw [List.mem_singleton.mp hy]; exact List.mem_cons_self)
  let g : Thg := ⟨x, τ, φ, a.p, a.E, a.path⟩
  have ta : TAt K cR cT r g ⟨j, a.p, [], []⟩ H3 := { rd := WR.2.off (by simpa using nR) (by simpa using nL) o3, th := ia, tg := dτ, fl := dφ, ne := nτφ, nc := Ne.symm nR }
  have hs : ∀ y ∈ [r.L], y ∈ [r.L, g.t, g.τ, g.φ] := fun y hy => by rw [List.mem_singleton.mp hy]; exact List.mem_cons_self
  have hn : ∀ y ∈ [r.L, g.t, g.τ, g.φ], y ∈ [r.L] ∨ H y = none := fun y hy => by
    simp only [List.mem_cons, List.not_mem_nil, or_false] at hy
    rcases hy with rfl | rfl | rfl | rfl
    · exact .inl (by simp)
    · exact .inr x0
    · exact .inr τ0
    · exact .inr φ0
  have ln : TLens K cR cT (Wd.thg K cR cT r g [r.L] H hs hn) r g := thg_lens
  have hroom : ∀ {i : TSt} {H' : Hp}, (Wd.thg K cR cT r g [r.L] H hs hn).I i H' → InsAt K a.rm cM (rmF a.p a.E a.E) H' := fun I => pre.rm.off (by simpa using pre.rm.ne_lst ra.2) I.1
  refine nx_go (W := Wd.thg K cR cT r g [r.L] H hs hn) (i := ⟨j, a.p, [], []⟩) (Γ := [some (.obj r.R), some (.str a.kind), some (.obj a.rm), some (.tup a.path), some (.obj x), none, none, none]) ?_ ⟨o03, ta⟩ ((E1.mono (o2.trans ((oa (B := [r.L])).late nx (o3.mono fun y hy => by rw [List.mem_singleton.mp hy]; exact List.mem_cons_self)))).set 4 (.obj x))
  -- fields
  refine sq_set (ev_call (ea_cons (ev_fld (ev_var rfl ⟨r.R, cR, _, _, rfl, fun I => (ln.get I).rd.1, T.c_Reader.1, T.a_Reader_by_grammar, fl_R_by_grammar, ea_cons (ev_var rfl (ea_nil (call_A (r.G, a.kind) rfl (fun _ => ⟨hG, hkn⟩) ?_)))⟩))))
  rintro _ rfl
  dsimp only
  rw [hfse]
  have hcut : cutD (fs.map Fld.dat) (some 1) none = (fs.map Fld.dat).drop 1 := by
    unfold cutD HT.sIx
    rw [List.length_map]
    have e1 : ¬ (1 : Int) < 0 := by decide
    simp only [e1, if_false]
    have hl : 1 ≤ fs.length := by
      cases fs with
      | nil => exact absurd rfl hfl.1
      | cons _ _ => rw [List.length_cons]; omega
    have e2 : min (1 : Int).toNat fs.length = 1 := by
      show min 1 fs.length = 1
      omega
    rw [e2, List.take_of_length_le]
    rw [List.length_drop, List.length_map]
    omega
  refine sq_forZ (κ := Unit) (Wf := fun _ => Wd.thg K cR cT r g [r.L] H hs hn) (k0 := ()) (ev_var rfl (ev_op (ev_slT (ev_var rfl (eo_some (ev_int ⟨1, rfl, eo_none ⟨_, rfl, ?_⟩⟩))))))
  rw [hcut]
  refine ev_tup (ea_cons (ev_non (ea_nil ⟨by show 1 ≤ 1000; decide, op_cat (by rw [List.length_drop, List.length_map, List.length_singleton]; omega) ⟨_, _, rfl, rfl, ?_, fun b1 b2 => ?_⟩⟩)))
  · rw [List.length_append, List.length_drop, List.length_map, List.length_singleton]
    cases fs with
    | nil => exact absurd rfl hfl.1
    | cons _ _ => rw [List.length_cons]; omega
  refine ⟨fun m _ i Γ => ∃ seen, FsOk (V.deep r) seen (fs.drop m) ∧ TagsOk seen i.tags ∧ a.p ≤ i.place ∧ i.place ≤ a.E ∧ i.sp ++ (rdFs r.bs (V.inn r) a.E a.path (fs.drop m) i.place i.tags).1 = j ++ (kRes V r a).1 ∧ (rdFs r.bs (V.inn r) a.E a.path (fs.drop m) i.place i.tags).2 = (kRes V r a).2 ∧
    i.sp.length ≤ j.length + V.A * m ∧ i.tags.length ≤ 2 * m ∧ i.fl.length ≤ 2 * m ∧ ∃ x6 x7, Γ = [some (.obj r.R), some (.str a.kind), some (.obj a.rm), some (.tup a.path), some (.obj x), some (.tup (fs.map Fld.dat)), x6, x7], ?_, ?_, ?_⟩
  · exact ⟨[], hfs, tags0, Int.le_refl _, pre.pE, by rw [hRes]; rfl, by rw [hRes]; rfl, by show j.length ≤ _; omega, Nat.le_refl _, Nat.le_refl _, none, none, rfl⟩
  · rintro m _ i Γ d y hd hy ⟨seen, f1, f2, p1, p2, e1, e2, l1, l2, l3, x6, x7, rfl⟩
    obtain ⟨f, hf, rfl⟩ := get_map hd
    have hm : m < fs.length := (List.getElem?_eq_some_iff.mp hf).1
    have hdrop : fs.drop m = f :: fs.drop (m + 1) := by
      rw [List.drop_eq_getElem_cons hm]
      rw [List.getElem?_eq_getElem hm] at hf
      rw [Option.some.inj hf]
    rw [hdrop] at f1 e1 e2
    have lk := ln.keep (v := .ref b1) (d := .tup (fs.map Fld.dat))
    have lkk := lk.keep (v := .ref b2) (d := .tup ((fs.map Fld.dat).drop 1 ++ [.non]))
    have hA : V.A * m ≤ 10 * V.A := by rw [Nat.mul_comm]; exact Nat.mul_le_mul_right _ (by omega)
    have pr : FPre V.N (V.deep r) r g i f seen := ⟨f1.1, f2, by have := pre.p0; omega, p2, pre.E, pre.len, pre.byt, by omega, by omega, by omega, by show a.path.length * 7000 ≤ _; omega, hG⟩
    have gf := good_field (bs' := r.bs) (x := 0) (path := a.path) Sim.refl pre.byt hig f1.1 f2 pr.p0 p2 pre.E
    have gl := hlen seen f a.E a.path i.place i.tags f1.1 pr.p0 p2 pre.E
    have gt := fld_tags (bs := r.bs) (inn := V.inn r) (E := a.E) (p := i.place) (path := a.path) (t := i.tags) (f := f)
    have hyc : y = .non ∨ ∃ (w : Str) (tl : List Dat), y = .tup (.str w :: tl) ∧ w ≠ "sum" := by
      have hy' := List.mem_of_getElem? hy
      rcases List.mem_append.mp hy' with z | z
      · obtain ⟨f', _, rfl⟩ := List.mem_map.mp (List.mem_of_mem_drop z)
        exact .inr ⟨f'.word, f'.tl, f'.dat_eq, ne_sum f'⟩
      · exact .inl (List.mem_singleton.mp z)
    refine tgs_cons (tg_name (tgs_cons (tg_name (tgs_nil ?_))))
    refine sq_sfldG (ev_fld (ev_var rfl ⟨a.rm, cM, _, _, rfl, fun I => hroom I.1.1, T.c_Room.1, T.a_Room_limit, fl_M_limit, ev_var rfl ⟨x, cT, thF r g i.place, i, rfl, fun I => (lkk.get I).th, T.c_Thing.1, T.a_Thing_limit, by show 8 < 1000; decide, fun {H' H''} I o ia => ?_, ?_⟩⟩))
    · have ia' : InsAt K g.t cT (thF r g i.place) H'' := by
        have := ia
        rw [show fput "limit" (.int a.E) (thF r g i.place) = thF r g i.place from fp_T_limit] at this
        exact this
      exact lkk.put I (off4 (x := g.t) (by simp) o) ((lkk.get I).setT o ia')
    refine sq_when (EvT.imp (Pb := fun i' b => i' = i ∧ b = false) ?_ ?_)
    · rcases hyc with rfl | ⟨w', tl, rfl, hne⟩
      · exact et_and (et_test (ev_op (ev_var rfl (ev_non (op_notN ⟨_, rfl, ifF rfl ⟨rfl, rfl⟩⟩)))))
      · refine et_and (et_test (ev_op (ev_var rfl (ev_non (op_notN ⟨_, rfl, ifT rfl ?_⟩)))))
        exact et_and (et_test (ev_op (ev_op (ev_var rfl (ev_int (op_ixT atI0 (ev_str (op_eqS ⟨_, rfl, ifD (fun z => absurd z hne) fun _ => ⟨rfl, rfl⟩⟩))))))))
    rintro i' b ⟨hii, rfl⟩
    subst hii
    refine ifF rfl ?_
    refine nx_if (et_not (et_B (ev_meth (ev_var rfl ⟨x, _, rfl, fun I => (lkk.get I).th, fl_T_read, ea_cons (ev_var rfl (ea_nil (call_T lkk (f, seen, a.kind) rfl ⟨pr, pre.kp⟩ ?_)))⟩))))
    rintro d s' po
    refine ⟨_, po.d, ?_⟩
    have po1 := po.sp
    have po2 := po.place
    have po3 := po.tags
    have po4 := po.fl
    unfold rdFs at e1 e2
    dsimp only at e1 e2
    have po1' : s'.sp = i'.sp ++ (rdFld r.bs (V.inn r) a.E a.path i'.place i'.tags f).1 := po1
    have po2' : s'.place = (rdFld r.bs (V.inn r) a.E a.path i'.place i'.tags f).2.1 := po2
    have po3' : s'.tags = (rdFld r.bs (V.inn r) a.E a.path i'.place i'.tags f).2.2.1 := po3
    show if (!(rdFld r.bs (V.inn r) a.E a.path i'.place i'.tags f).2.2.2) = true then _ else _
    cases z : (rdFld r.bs (V.inn r) a.E a.path i'.place i'.tags f).2.2.2 with
    | false =>
      rw [z, if_neg (by simp)] at e1 e2
      refine ifT rfl ?_
      refine nx_ret (ev_tup (ea_cons (ev_fld (ev_var rfl ⟨a.rm, cM, _, _, rfl, fun I => hroom I.1.1, T.c_Room.1, T.a_Room_end, fl_M_end, ea_cons (ev_th T lkk rfl T.a_Thing_fields (by exact fl_T_fields) (ea_cons (ev_bl (ea_nil ⟨by show 3 ≤ 1000; decide, rt_of fun H' v I zz => ?_⟩))))⟩))))
      have hr1 := (lkk.get I).rd
      rw [po1', e1] at hr1
      refine k v H' _ _ I.1.1.1 hr1 zz ⟨rfl, φ, ?_⟩
      rw [← e2]
    | true =>
      rw [z, if_pos rfl] at e1 e2
      refine ifF rfl ?_
      have gt' := gf.tile
      rw [z, if_pos rfl] at gt'
      refine fun H' σ I E => Lp.of () I E ⟨seen ++ decl f, f1.2, ?_, ?_, ?_, ?_, ?_, ?_, ?_, ?_, some f.dat, some y, rfl⟩
      · rw [po3']; exact gf.tags z
      · rw [po2']; have := gt'.le; omega
      · rw [po2']; exact gf.hi z
      · rw [po1', po2', po3', List.append_assoc]; exact e1
      · rw [po2', po3']; exact e2
      · rw [po1', List.length_append, Nat.mul_succ]; omega
      · rw [po3']; omega
      · omega
  · rintro _ i Γ ⟨seen, f1, f2, p1, p2, e1, e2, l1, l2, l3, x6, x7, rfl⟩
    rw [List.length_map, List.drop_length] at e1 e2
    have e1' : i.sp = j ++ (kRes V r a).1 := by rw [← e1]; exact (List.append_nil _).symm
    refine nx_ret (ev_tup (ea_cons (ev_place T ln rfl (ea_cons (ev_th T ln rfl T.a_Thing_fields (by exact fl_T_fields) (ea_cons (ev_bl (ea_nil ⟨by show 3 ≤ 1000; decide, rt_of fun H' v I zz => ?_⟩))))))))
    have hr1 := (ln.get I).rd
    rw [e1'] at hr1
    refine k v H' _ _ I.1 hr1 zz ⟨rfl, φ, ?_⟩
    rw [← e2]
    rfl
end
end Lb
/-! text LbN -/
/-! Walks: rooms, and the readers of deep fields. -/
namespace Lb
open PySem L2
/-! ### the two levels -/
def V1 : Lvl := ⟨fun _ => [], fun _ => inn0, fun r k => GrOk r.G ∧ k ∈ deepOf r.G, 700000, 600000, 10, 100⟩
def V0 : Lvl := ⟨fun r => deepOf r.G, fun r => inn1 r.G r.bs, fun r k => GrOk r.G ∧ k = "all", 400000, 100000, 20022, 50⟩
theorem v1_ok : LvlOk V1 where
  fs := fun r k h => by
    obtain ⟨hG, hk⟩ := h
    obtain ⟨⟨⟨m, rs, e⟩, h2, h3⟩, h4⟩ := hG.deepOk.2.2.1 k hk
    exact ⟨hG, h4, ⟨by rw [e]; simp, h3⟩, h2⟩
  ig := fun r k h hb => in0_good
  len := fun r k h hb hl seen f E path p t ok h0 hp hE => Nat.le_trans (fld_len (B := 0) (deep := []) (fun k hk => nomatch hk) ok h0 hp hE hl) (by show 2 + 0 * 1001 ≤ 10; decide)
  n1 := by show 600000 + 10 * 10 ≤ 700000; decide
  n2 := by show 100 * 7000 ≤ 700000; decide
/-- a deeper kind's spreads are few -/
theorem in1_len {G : Gr} (hG : GrOk G) {bs : List Int} (hb : ∀ y ∈ bs, 0 ≤ y ∧ y ≤ 255) (hl : bs.length ≤ 1000) : ∀ k ∈ deepOf G, ∀ (E p : Int) (path : List Dat), 0 ≤ p → p ≤ E → E ≤ bs.length → (inn1 G bs k p E path).1.length ≤ 20 ∧ (inn1 G bs k p E path).2.1 ≤ E ∧ ((inn1 G bs k p E path).2.2 = true → p + 1 ≤ (inn1 G bs k p E path).2.1) := fun k hk E p path h0 hp hE => by
  have hd := hG.deepOk.2.2.1
  obtain ⟨g, g2⟩ := in1_good (deep := deepOf G) (x := 0) (fun k hk => (hd k hk).1) Sim.refl hb k p E path hk h0 hp hE
  refine ⟨?_, g.hi, g2⟩
  obtain ⟨⟨⟨m, rs, e⟩, h2, h3⟩, h4⟩ := hd k hk
  have := fs_len (bs := bs) (inn := inn0) (E := E) (path := path) (deep := []) (A := 2) (fun seen f p t ok tg h0 hp => ⟨Nat.le_trans (fld_len (B := 0) (deep := []) (fun k hk => nomatch hk) ok h0 hp hE hl) (by decide), fun z => by
    have gf := good_field (bs' := bs) (x := 0) (path := path) Sim.refl hb in0_good ok tg h0 hp hE
    have gt := gf.tile
    rw [z, if_pos rfl] at gt
    exact ⟨gt.le, gf.hi z, gf.tags z⟩⟩) h2 (tags0 (t := [])) h0 hp
  show (rdFs bs inn0 E path (fieldsOf G k) p []).1.length ≤ 20
  omega
theorem v0_ok : LvlOk V0 where
  fs := fun r k h => by
    obtain ⟨hG, rfl⟩ := h
    have := hG.deepOk
    exact ⟨hG, this.2.2.2, this.2.1, this.1⟩
  ig := fun r k h hb => in1_good (fun k hk => (h.1.deepOk.2.2.1 k hk).1) Sim.refl hb
  len := fun r k h hb hl seen f E path p t ok h0 hp hE => fld_len (B := 20) (in1_len h.1 hb hl) ok h0 hp hE hl
  n1 := by show 100000 + 10 * 20022 ≤ 400000; decide
  n2 := by show 50 * 7000 ≤ 400000; decide
section
variable {ι : Type} {K : PySem.W.Frag} {W : Wd ι} {i : ι} {Γ : Ctx} {Pd : ι → Dat → Prop} {ta tb te t1 t2 t3 : TE}
/-- o.m(e1, a new instance, e3) -/
theorem ev_methR {C C2 : Addr} {m : Str} {sp : Sp} (h : Ev K W i ta Γ fun j d => ∃ a l, d = .obj a ∧ (∀ {H : Hp}, W.I j H → InsAt K a C l H) ∧ flook l m = none ∧ Ev K W j t1 Γ fun k d1 => EvI K W k t2 Γ C2 fun n l2 => ∀ x np, Ev K (W.own x (InsAt K x C2 l2) (ins_shp K x C2 l2) np) n t3 Γ fun o d3 => CallOk K (W.own x (InsAt K x C2 l2) (ins_shp K x C2 l2) np) o sp [.obj a, d1, .obj x, d3] Pd) :
    Ev K W i (tMeth C m sp [] E0 ta (tCons t1 (tCons t2 (tCons t3 tNil)))) Γ Pd := fun H σ I E Q q => h H σ I E _ fun v H1 j d o1 I1 a1 p1 => by
  obtain ⟨a, l, rfl, hl, hm, p⟩ := p1
  cases a1
  obtain ⟨dx, fs, e1, r⟩ := hl I1
  refine ⟨a, dx, fs, rfl, e1, ?_, ?_⟩
  · rcases r.look m with ⟨z, _⟩ | ⟨_, _, _, z, _⟩
    · exact z
    · rw [hm] at z; cases z
  · refine p H1 σ I1 (E.mono o1) _ fun y H2 k d1 o2 I2 a2 p2 => ?_
    refine p2 H2 σ I2 (E.mono (o1.trans o2)) _ fun x H3 n l2 np o3 I3 ia p3 => ?_
    refine p3 x np H3 σ ⟨I3, ia⟩ (E.mono (o1.trans (o2.trans o3))) _ fun z H4 o d3 o4 I4 a4 p4 => ?_
    show sp (.ref a :: ([y, .ref x, z] ++ [])) H4 Q E0
    rw [List.append_nil]
    refine p4 H4 [.ref a, y, .ref x, z] I4 (.cons (.obj a) (.cons ((a2.mono o3).mono o4) (.cons (.obj x) (.cons a4 .nil)))) Q fun v H5 k' d o5 I5 a5 p5 => ?_
    exact q v H5 k' d (o1.trans (o2.trans (o3.trans (o4.trans o5)))) I5.1 a5 p5
theorem et_ifx {c t u : TT} {Pb : ι → Bool → Prop} (h : EvT K W i c Γ fun j b => if b = true then EvT K W j t Γ Pb else EvT K W j u Γ Pb) : EvT K W i (tIfT c t u) Γ Pb := fun H σ I E Q q => h H σ I E _ fun b H1 j o1 I1 p1 => by
  cases b with
  | true => exact p1 H1 σ I1 (E.mono o1) Q fun b H2 k o2 I2 p2 => q b H2 k (o1.trans o2) I2 p2
  | false => exact p1 H1 σ I1 (E.mono o1) Q fun b H2 k o2 I2 p2 => q b H2 k (o1.trans o2) I2 p2
/-- dict(a tuple of pairs) -/
theorem ed_dictT {P' : ι → List (Key × Dat) → Prop} (h : Ev K W i ta Γ fun j d => ∃ kvs : List (Key × Dat), d = .tup (kvs.map fun q => .tup [kdat q.1, q.2]) ∧ P' j (dmerge [] kvs)) : EvD K W i (tCB (rDictT K) (tCons ta tNil)) Γ P' := fun H σ I E Q q =>
  h H σ I E _ fun v H1 j d o1 I1 a1 p1 => by
    obtain ⟨kvs, rfl, p⟩ := p1
    obtain ⟨a, xs, rfl, hs, al⟩ := a1.tup_inv
    have key : ∀ {H : Hp} {kvs : List (Key × Dat)} {xs : List V}, AtL K H xs (kvs.map fun q => .tup [kdat q.1, q.2]) → ∃ (ps : List Addr) (vs : List (Key × V)), xs = ps.map V.ref ∧ Paired (fun p kv => SqT K H p [kV kv.1, kv.2]) ps vs ∧ DR K H vs kvs := by
      intro H kvs
      induction kvs with
      | nil => intro xs h; cases h; exact ⟨[], [], rfl, .nil, .nil⟩
      | cons q r ih =>
        intro xs h
        cases h with
        | cons h t =>
          obtain ⟨ps, vs, rfl, g1, g2⟩ := ih t
          obtain ⟨b, ys, rfl, hb, lb⟩ := h.tup_inv
          obtain ⟨y1, y2, rfl, l1, l2⟩ := lb.two
          have e : y1 = kV q.1 := by
            cases hq : q.1 with
            | inl n => rw [hq] at l1; exact l1.int_inv
            | inr s => rw [hq] at l1; exact l1.str_inv
          subst e
          exact ⟨b :: ps, (q.1, y2) :: vs, rfl, .cons hb.sqT g1, .cons ⟨rfl, l2⟩ g2⟩
    obtain ⟨ps, vs, rfl, g1, g2⟩ := key al
    exact ⟨a, ps, vs, rfl, hs, g1, fun r hr => q r _ j _ (W.nc I1 hr) (o1.trans (Off.new hr)) (W.new I1 hr) ⟨_, upd_same, (DR.merge g2 .nil).mono (Off.new (A := []) hr)⟩ p⟩
end
section
variable {P : Program} {w : World} {K : PySem.W.Frag} {mg : Str → Option Value} {base : Heap} {cR cM cT aS aD : Addr}
structure RArg where
  kind : Str
  p : Int
  E : Int
  path : List Dat
structure RPre (V : Lvl) (r : Rdr) (s : List Spr) (a : RArg) : Prop where
  kp : V.kp r a.kind
  p0 : 0 ≤ a.p
  pE : a.p ≤ a.E
  E : a.E ≤ r.bs.length
  len : r.bs.length ≤ 1000
  byt : ∀ y ∈ r.bs, 0 ≤ y ∧ y ≤ 255
  sp : s.length ≤ V.Nk
  pl : a.path.length ≤ V.Lp
def rRes (V : Lvl) (r : Rdr) (a : RArg) : List Spr :=
  let q := rdFs r.bs (V.inn r) a.E a.path (fieldsOf r.G a.kind) a.p []
  if q.2.2 = true then q.1 ++ stopS q.2.1 a.E a.path "left" else q.1
def SpRm (K : PySem.W.Frag) (cR : Addr) (V : Lvl) : Sp := SpR K cR (α := RArg) (fun a => [.str a.kind, .int a.p, .int a.E, .tup a.path]) (fun r s a _ => RPre V r s a) fun r a new d => new = rRes V r a ∧ ∃ φ, d = .obj φ
theorem w_read_room (T : Tp K mg w cR cM cT aS aD) {V : Lvl} {kk : Nat} (hkk : 2 ≤ kk) (ok : LvlOk V) (M_Room : Mkl P w K mg base 1 "Room" cM (spRoomI K cM)) (Q_Reader_read_kind : Ml P w K mg base kk cR "read_kind" (SpKind K cR cM V)) (Q_Reader_stop : Ml P w K mg base 2 cR "stop" (spStop K cR)) (hN : V.N ≤ 700000) :
    Ml P w K mg base (kk + 1) cR "read_room" (SpRm K cR V) := by
  obtain ⟨f, fd, F, hm⟩ := T.m_Reader_read_room
  refine ⟨⟨f, fd, ["self", "kind", "place", "end", "path"], ?_, hm, F.binds fun _ _ _ _ _ _ us hl => match us, hl with | [_, _, _, _, _], _ => rfl⟩, T.c_Reader.1⟩
  refine F.ok sc_Reader_read_room (fun vs H Q E h => ?_) (fun cdv A outer sh H vs Q E hr h => ?_)
  · obtain ⟨a, r, s, al, _⟩ := h
    exact al.len
  obtain ⟨a, r, s, al, pre, ra, k⟩ := h
  try dsimp only at pre
  have hu := hu_of hr
  refine ⟨_, (pss_cons (ps_asg (k_meth (pv 0) Q_Reader_read_kind (hr.mono (by omega)) (pa_cons (pv 1) (pa_cons (k_make M_Room (hr.mono (by omega)) (pa_cons (pv 2) (pa_cons (pv 3) (pa_cons (pv 3) pa_nil)))) (pa_cons (pv 4) pa_nil)))) (k_tup K rfl (pgs_cons (pg_name (i := 5) sc_Reader_read_room.nd rfl (Or.inl rfl)) (pgs_cons (pg_name (i := 6) sc_Reader_read_room.nd rfl (Or.inl rfl)) (pgs_cons (pg_name (i := 7) sc_Reader_read_room.nd rfl (Or.inl rfl)) pgs_nil)))))
      (pss_cons (ps_if (pt_val (pv 7)) (pss_one (ps_expr (k_meth (pv 0) Q_Reader_stop (hr.mono (by omega)) (pa_cons (pv 5) (pa_cons (pv 3) (pa_cons (pv 4) (pa_cons pe_str pa_nil))))))) pss_nil)
      (pss_one (ps_ret (pv 6))))), ?_⟩
  have hlen : (rdFs r.bs (V.inn r) a.E a.path (fieldsOf r.G a.kind) a.p []).1.length ≤ V.A * 10 := by
    obtain ⟨hG, hkn, hfl, hfs⟩ := ok.fs r a.kind pre.kp
    have := fs_len (A := V.A) (path := a.path) (fun seen f p t ok' tg h0 hp => ⟨ok.len r a.kind pre.kp pre.byt pre.len seen f a.E a.path p t ok' h0 hp pre.E, fun z => by
      have gf := good_field (bs' := r.bs) (x := 0) (path := a.path) Sim.refl pre.byt (ok.ig r a.kind pre.kp pre.byt) ok' tg h0 hp pre.E
      have gt := gf.tile
      rw [z, if_pos rfl] at gt
      exact ⟨gt.le, gf.hi z, gf.tags z⟩⟩) hfs (tags0 (t := [])) pre.p0 pre.pE
    exact Nat.le_trans this (Nat.mul_le_mul_left _ hfl.2)
  have hn1 := ok.n1
  have hsp := pre.sp
  refine nx_go (W := .rdr K cR r H ra.1.trk ra.2.trk) (i := s) ?_ ⟨Off.refl, ra⟩ (Sls.start al _ rfl)
  refine sq_asg (ev_methR (ev_var rfl ⟨r.R, rdF r, rfl, fun I => I.2.1, fl_R_read_kind, ev_var rfl (ei_make (ea_cons (ev_var rfl (ea_cons (ev_var rfl (ea_cons (ev_var rfl (ea_nil ⟨(a.p, a.E, a.E), rfl, fun _ => True.intro, fun _ l _ _ hl => ?_⟩))))))))⟩))
  subst hl
  intro x np
  refine ev_var rfl (call_R rdr_lens.own ⟨a.kind, x, a.p, a.E, a.path⟩ rfl (fun I => ⟨pre.kp, I.2, pre.p0, pre.pE, pre.E, pre.len, pre.byt, pre.sp, pre.pl⟩) ?_)
  rintro d new ⟨rfl, φ, rfl⟩
  refine tg_tup rfl (tgs_cons (tg_name (tgs_cons (tg_name (tgs_cons (tg_name (tgs_nil ?_)))))))
  have eR : rRes V r a = if (kRes V r ⟨a.kind, x, a.p, a.E, a.path⟩).2.2 = true then (kRes V r ⟨a.kind, x, a.p, a.E, a.path⟩).1 ++ stopS (kRes V r ⟨a.kind, x, a.p, a.E, a.path⟩).2.1 a.E a.path "left" else (kRes V r ⟨a.kind, x, a.p, a.E, a.path⟩).1 := rfl
  have hlen' : (kRes V r ⟨a.kind, x, a.p, a.E, a.path⟩).1.length ≤ V.A * 10 := hlen
  generalize kRes V r ⟨a.kind, x, a.p, a.E, a.path⟩ = q at eR hlen'
  refine sq_when (et_B (ev_var rfl ⟨_, rfl, ifB (fun c => ?_) fun c => ?_⟩))
  · refine sq_drop (ev_meth (ev_var rfl ⟨r.R, rdF r, rfl, fun I => I.2.1, fl_R_stop, ?_⟩))
    refine (ea_cons (ev_var rfl (ea_cons (ev_var rfl (ea_cons (ev_var rfl (ea_cons (ev_str (ea_nil ?_)))))))))
    refine call_R rdr_lens (q.2.1, a.E, a.path, "left") rfl (fun _ => by rw [List.length_append]; omega) ?_
    rintro d _ rfl
    refine nx_ret (ev_var rfl (rt_of fun H' v I z => k v H' _ (q.1 ++ stopS q.2.1 a.E a.path "left") I.1 (by rw [← List.append_assoc]; exact I.2) z ⟨?_, φ, rfl⟩))
    rw [eR, if_pos c]
  · refine nx_ret (ev_var rfl (rt_of fun H' v I z => k v H' _ _ I.1 I.2 z ⟨?_, φ, rfl⟩))
    rw [eR, c]
    rfl
end
end Lb
/-! text LbO -/
/-! Walks: the readers of deep fields. -/
namespace Lb
open PySem L2
section
variable {P : Program} {w : World} {K : PySem.W.Frag} {mg : Str → Option Value} {base : Heap} {cR cM cT aS aD : Addr}
section
variable {r : Rdr} {g : Thg} {W : Wd TSt} {i : TSt} {Γ : Ctx} {k : Nat}
theorem ei_room (T : Tp K mg w cR cM cT aS aD) (ln : TLens K cR cT W r g) (hk : Γ[k]? = some (some (.obj g.t))) {Pi : TSt → List (Str × Dat) → Prop} (p : Pi i (rmF i.place g.E g.E)) : EvI K W i (tMeth cT "room" (spRoom K cR cM cT) [] E0 (tVar k) tNil) Γ cM Pi := fun H σ I E Q q => by
  obtain ⟨v, h1, h2⟩ := E.at_ k _ hk
  cases h2
  obtain ⟨dx, fs, e1, r'⟩ := (ln.get I).th
  refine ⟨_, h1, g.t, dx, fs, rfl, e1, ?_, ?_⟩
  · rcases r'.look "room" with ⟨z, _⟩ | ⟨_, _, _, z, _⟩
    · exact z
    · rw [fl_T_room] at z; cases z
  · exact ⟨r, g, i, .cons (.obj _) .nil, ln.get I, fun x H' nx s ia => q x H' i _ (W.nc I nx) (Off.of_same s) (W.same I s) ia p⟩
theorem tg_place (T : Tp K mg w cR cM cT aS aD) (ln : TLens K cR cT W r g) (hk : Γ[k]? = some (some (.obj g.t))) {q : Int} {Pc : TSt → Ctx → Prop} (h : Pc { i with place := q } Γ) : Tg K W i (gFld K (tVar k) "place") (.int q) Γ Pc :=
  tg_fldG (ev_var hk ⟨g.t, cT, thF r g i.place, { i with place := q }, rfl, ln.mem _ (by simp), fun I => (ln.get I).th, T.c_Thing.1, T.a_Thing_place, by show 8 < 1000; decide, fun I o ia => by
    rw [fp_T_place] at ia
    exact ln.put I (off4 (by simp) o) ((ln.get I).setT o ia), h⟩)
theorem ev_tag (T : Tp K mg w cR cM cT aS aD) (ln : TLens K cR cT W r g) (hk : Γ[k]? = some (some (.obj g.t))) {seen : List Str} (tg : TagsOk seen i.tags) {te : TE} {Pd : TSt → Dat → Prop} (h : Ev K W i te Γ fun j d => j = i ∧ ∃ x, d = .str x ∧ x ∈ seen ∧ Pd j (.int (tagv j.tags x))) : Ev K W i (tDGet (tFld K (tVar k) "tags") te) Γ Pd :=
  ev_dget (ev_th T ln hk T.a_Thing_tags (by exact fl_T_tags) (h.imp fun j d ⟨e, x, e1, hx, p⟩ => by
    subst e
    exact ⟨g.τ, j.tags, x, _, rfl, fun I => (ln.get I).tg, e1, (tg.tagv hx).1, p⟩))
end
theorem dmerge_look : ∀ {kvs l : List (Key × Dat)} {k : Key}, (kvs.map (·.1)).Nodup → dlook (dmerge l kvs) k = match dlook kvs k with | some d => some d | none => dlook l k
  | [], l, k, _ => rfl
  | q :: r, l, k, nd => by
    have nd' := List.nodup_cons.mp (show (q.1 :: r.map (·.1)).Nodup from nd)
    show dlook (dmerge (dput l q.1 q.2) r) k = _
    rw [dmerge_look nd'.2, dlook_put]
    show _ = match (if q.1 = k then some q.2 else dlook r k) with | some d => some d | none => dlook l k
    by_cases e : q.1 = k
    · rw [if_pos e, if_pos e.symm]
      have : dlook r k = none := dlook_none fun x hx z => nd'.1 (by rw [e, ← z]; exact List.mem_map.mpr ⟨x, hx, rfl⟩)
      rw [this]
    · rw [if_neg e, if_neg fun z => e z.symm]
theorem kinds_look : ∀ {ks : List (Int × Str)} {v : Int}, dlook (ks.map fun q => ((.inl q.1 : Key), Dat.str q.2)) (.inl v) = (ks.lookup v).map Dat.str
  | [], v => rfl
  | (a, b) :: r, v => by
    show (if (Sum.inl a : Key) = .inl v then some (Dat.str b) else dlook _ _) = _
    unfold List.lookup
    by_cases e : a = v
    · rw [if_pos (by rw [e])]
      have : (v == a) = true := by simp [e]
      rw [this]
      rfl
    · rw [if_neg fun z => e (Sum.inl.inj z)]
      have : (v == a) = false := by simp; exact fun z => e z.symm
      rw [this]
      exact kinds_look
theorem w_read_choice (T : Tp K mg w cR cM cT aS aD) (Q_Reader_tell : Ml P w K mg base 1 cR "tell" (spTell K cR)) (Q_Thing_is_short : Ml P w K mg base 1 cT "is_short" (spIsShort K cR cT)) (Q_Thing_lacks : Ml P w K mg base 2 cT "lacks" (spLacks K cR cT)) (Q_Thing_room : Ml P w K mg base 3 cT "room" (spRoom K cR cM cT)) (Q_Reader_read_kind : Ml P w K mg base 6 cR "read_kind" (SpKind K cR cM V1)) :
    ∃ f fd, FnOk P w K mg base CX0 8 f fd ["thing", "field"] (SpFld K cR cT V0.N V0.deep V0.inn "choice") ∧ Fun K "read_choice" "read_choice" s_read_choice f fd ∧ KDct K w aD "choice" (.ref f) := by
  obtain ⟨f, fd, F, kd⟩ := T.f_choice
  refine ⟨f, fd, ?_, F, kd⟩
  refine F.ok sc_read_choice (fun vs H Q E h => ?_) (fun cdv A outer sh H vs Q E hr h => ?_)
  · obtain ⟨⟨f, seen⟩, r, g, s, al, _⟩ := h
    exact al.len
  obtain ⟨⟨f, seen⟩, r, g, s, al, pre, ra, k⟩ := h
  try dsimp only at pre
  have hu := hu_of hr
  refine ⟨_, (pss_cons (ps_set (i := 2) sc_read_choice.nd rfl (Or.inl rfl) (pe_callTy (k_dictT K rfl) (by rfl) T.n_dict (by decide +kernel) (pa_cons (pe_ix (k_ixT K) (pv 1) pe_int (fun _ _ => rfl)) pa_nil)))
      (pss_cons (ps_if (pt_cmp (pc_dnotin hu (pe_dget hu (k_fld K (pv 0)) (pe_ix (k_ixT K) (pv 1) pe_int (fun _ _ => rfl)) (fun _ _ => rfl)) (pv 2))) (pss_cons (ps_expr (k_meth (k_fld K (pv 0)) Q_Reader_tell (hr.mono (by decide)) (pa_cons (k_fld K (pv 0)) (pa_cons (k_fld K (pv 0)) (pa_cons (pe_op (k_cat K) (k_fld K (pv 0)) (pe_tupF (pa_cons (pe_ix (k_ixT K) (pv 1) pe_int (fun _ _ => rfl)) pa_nil))) (pa_cons pe_str (pa_cons pe_str pa_nil)))))))
      (pss_one (ps_ret pe_bl))) pss_nil)
      (pss_cons (ps_if (pt_val (k_meth (pv 0) Q_Thing_is_short (hr.mono (by decide)) (pa_cons pe_int pa_nil))) (pss_one (ps_ret (k_meth (pv 0) Q_Thing_lacks (hr.mono (by decide)) (pa_cons (pe_ix (k_ixT K) (pv 1) pe_int (fun _ _ => rfl)) (pa_cons pe_str pa_nil))))) pss_nil)
      (pss_cons (ps_set (i := 3) sc_read_choice.nd rfl (Or.inl rfl) (pe_dget hu (pv 2) (pe_dget hu (k_fld K (pv 0)) (pe_ix (k_ixT K) (pv 1) pe_int (fun _ _ => rfl)) (fun _ _ => rfl)) (fun _ _ => rfl)))
      (pss_cons (ps_asg (k_meth (k_fld K (pv 0)) Q_Reader_read_kind (hr.mono (by decide)) (pa_cons (pv 3) (pa_cons (k_meth0 (pv 0) Q_Thing_room (hr.mono (by decide))) (pa_cons (pe_op (k_cat K) (k_fld K (pv 0)) (pe_tupF (pa_cons (pe_ix (k_ixT K) (pv 1) pe_int (fun _ _ => rfl)) pa_nil))) pa_nil)))) (k_tup K rfl (pgs_cons (k_gfld K (pv 0)) (pgs_cons (pg_name (i := 4) sc_read_choice.nd rfl (Or.inl rfl)) (pgs_cons (pg_name (i := 5) sc_read_choice.nd rfl (Or.inl rfl)) pgs_nil)))))
      (pss_cons (ps_dput hu (k_fld K (pv 0)) (pe_ix (k_ixT K) (pv 1) pe_int (fun _ _ => rfl)) (pe_tupF (pa_cons (pv 3) (pa_cons (pv 4) pa_nil))) rfl)
      (pss_one (ps_ret (pv 5))))))))), ?_⟩
  obtain ⟨pr, hw⟩ := pre
  obtain ⟨n, t, ks, rfl⟩ := f.inv.2.2.2.2.1 hw
  obtain ⟨_, htag, hks, hnd, hkl, hkd⟩ := id pr.ok
  have ln : TLens K cR cT (Wd.tm K cR cT r g H) r g := thg_lens
  have b0 : s.sp.length ≤ 400000 := pr.sp
  have b2 : g.path.length * 7000 ≤ 400000 := pr.pl
  have b1 : s.sp.length ≤ 800000 ∧ g.path.length ≤ 1000 := ⟨by omega, by omega⟩
  have E1 := pr.E
  have E2 := pr.p0
  have E3 := pr.pE
  refine nx_go (W := .tm K cR cT r g H) (i := s) ?_ ⟨Off.refl, ra⟩ (Sls.start al _ rfl)
  refine sq_setD (ed_dictT (ev_ix (ds := [.str "choice", .str n, .str t, .tup (ks.map fun q => .tup [.int q.1, .str q.2])]) rfl rfl ⟨ks.map fun q => ((.inl q.1 : Key), Dat.str q.2), by rw [List.map_map]; rfl, fun pd npd => ?_⟩))
  have hlk : dlook (dmerge [] (ks.map fun q => ((.inl q.1 : Key), Dat.str q.2))) (.inl (tagv s.tags t)) = (ks.lookup (tagv s.tags t)).map Dat.str := by
    rw [dmerge_look, kinds_look]
    · cases ks.lookup (tagv s.tags t) <;> rfl
    · rw [List.map_map]
      have : (ks.map ((fun q : Key × Dat => q.1) ∘ fun q : Int × Str => ((.inl q.1 : Key), Dat.str q.2))) = (ks.map (·.1)).map Sum.inl := by rw [List.map_map]; rfl
      rw [this]
      exact List.Pairwise.map _ (fun a b hab z => hab (Sum.inl.inj z)) hnd
  have ln2 : TLens K cR cT ((Wd.tm K cR cT r g H).own pd (DctAt K pd (dmerge [] (ks.map fun q => ((.inl q.1 : Key), Dat.str q.2)))) (dct_shp K pd _) npd) r g := ln.own
  refine sq_when (et_dnin (ev_tag T ln2 rfl pr.tg (ev_ix (ds := [.str "choice", .str n, .str t, .tup (ks.map fun q => .tup [.int q.1, .str q.2])]) rfl rfl ⟨rfl, t, rfl, htag, ev_var rfl ⟨pd, _, .inl (tagv s.tags t), rfl, fun I => I.2, rfl, ?_⟩⟩)))
  rw [hlk]
  cases hl : ks.lookup (tagv s.tags t) with
  | none =>
    refine ifT rfl ?_
    refine sq_drop (ev_meth (ev_th T ln2 rfl T.a_Thing_reader (by exact fl_T_reader) ⟨r.R, rdF r, rfl, fun I => (ln2.get I).rd.1, fl_R_tell, ?_⟩))
    refine ea_cons (ev_place T ln2 rfl (ea_cons (ev_th T ln2 rfl T.a_Thing_end (by exact fl_T_end) (ea_cons (ev_op (ev_th T ln2 rfl T.a_Thing_path (by exact fl_T_path) ?_))))))
    refine ev_tup (ea_cons (ev_ix (ds := [.str "choice", .str n, .str t, .tup (ks.map fun q => .tup [.int q.1, .str q.2])]) rfl rfl (ea_nil ⟨by show 1 ≤ 1000; decide, op_cat (by show g.path.length + 1 ≤ _; omega) ?_⟩)))
    refine (ea_cons (ev_str (ea_cons (ev_str (ea_nil ?_)))))
    refine call_R ln2.rl ⟨s.place, g.E, g.path ++ [.str n], "unknown", .str "choice"⟩ rfl (fun _ => by omega) ?_
    rintro d _ rfl
    refine nx_ret (ev_bl (rt_of fun H' v I z => k v H' _ _ I.1.1 I.1.2 z ?_))
    have e : rdFld r.bs (V0.inn r) g.E g.path s.place s.tags (.choice n t ks) = ([⟨s.place, g.E, g.path ++ [.str n], "unknown", .str "choice"⟩], s.place, s.tags, false) := by simp only [rdFld]; rw [hl]
    exact ⟨by rw [e], by rw [e], by rw [e], by rw [e], by show s.fl.length ≤ _; omega⟩
  | some kd =>
    refine ifF rfl ?_
    have hdeep : kd ∈ deepOf r.G := hkd _ (lookup_mem hl)
    refine sq_when (et_B (m_short T ln2 rfl (ev_int ⟨0, rfl, _, rfl, ifD (fun c => absurd c (by omega)) fun _ => ?_⟩)))
    refine sq_set (ev_dgetI (ev_var rfl (ev_tag T ln2 rfl pr.tg (ev_ix (ds := [.str "choice", .str n, .str t, .tup (ks.map fun q => .tup [.int q.1, .str q.2])]) rfl rfl ⟨rfl, t, rfl, htag, pd, _, _, .str kd, rfl, fun I => I.2, rfl, by rw [hlk, hl]; rfl, ?_⟩))))
    refine sq_asg (ev_methR (ev_th T ln2 rfl T.a_Thing_reader (by exact fl_T_reader) ⟨r.R, rdF r, rfl, fun I => (ln2.get I).rd.1, fl_R_read_kind, ev_var rfl (ei_room T ln2 rfl fun x np => ?_)⟩))
    refine ev_op (ev_th T ln2.own rfl T.a_Thing_path (by exact fl_T_path) ?_)
    refine ev_tup (ea_cons (ev_ix (ds := [.str "choice", .str n, .str t, .tup (ks.map fun q => .tup [.int q.1, .str q.2])]) rfl rfl (ea_nil ⟨by show 1 ≤ 1000; decide, op_cat (by show g.path.length + 1 ≤ _; omega) ?_⟩)))
    refine call_R ln2.own.rl ⟨kd, x, s.place, g.E, g.path ++ [.str n]⟩ rfl (fun I => ⟨⟨pr.gr, hdeep⟩, I.2, E2, E3, E1, pr.len, pr.byt, by show s.sp.length ≤ 600000; omega, by show (g.path ++ [Dat.str n]).length ≤ 100; rw [List.length_append, List.length_singleton]; omega⟩) ?_
    rintro d new ⟨rfl, φ, rfl⟩
    refine tg_tup rfl (tgs_cons (tg_place T ln2 rfl (tgs_cons (tg_name (tgs_cons (tg_name (tgs_nil ?_)))))))
    refine sq_flds T ln2 rfl (ev_tup (ea_cons (ev_var rfl (ea_cons (ev_var rfl (ea_nil ⟨by show 2 ≤ 1000; decide, ev_ix (ds := [.str "choice", .str n, .str t, .tup (ks.map fun q => .tup [.int q.1, .str q.2])]) rfl rfl ⟨n, rfl, by show s.fl.length ≤ _; have := pr.fl; omega, ?_⟩⟩))))))
    refine nx_ret (ev_var rfl (rt_of fun H' v I z => k v H' _ _ I.1.1 I.1.2 z ?_))
    have e : rdFld r.bs (V0.inn r) g.E g.path s.place s.tags (.choice n t ks) = ((kRes V1 r ⟨kd, x, s.place, g.E, g.path ++ [.str n]⟩).1, (kRes V1 r ⟨kd, x, s.place, g.E, g.path ++ [.str n]⟩).2.1, s.tags, (kRes V1 r ⟨kd, x, s.place, g.E, g.path ++ [.str n]⟩).2.2) := by simp only [rdFld]; rw [hl]; rfl
    exact ⟨by rw [e], by rw [e], by rw [e], by rw [e], Nat.le_trans (dput_len _ _ _) (Nat.le_succ _)⟩
theorem w_read_carried (T : Tp K mg w cR cM cT aS aD) (Q_Thing_is_short : Ml P w K mg base 1 cT "is_short" (spIsShort K cR cT)) (Q_Thing_lacks : Ml P w K mg base 2 cT "lacks" (spLacks K cR cT)) (Q_Thing_fails : Ml P w K mg base 3 cT "fails" (spFails K cR cT)) (G_length_by : Cl P w K mg base 1 "length_by" (spLengthBy K)) (Q_Reader_read_room : Ml P w K mg base 7 cR "read_room" (SpRm K cR V1)) :
    ∃ f fd, FnOk P w K mg base CX0 8 f fd ["thing", "field"] (SpFld K cR cT V0.N V0.deep V0.inn "carried") ∧ Fun K "read_carried" "read_carried" s_read_carried f fd ∧ KDct K w aD "carried" (.ref f) := by
  obtain ⟨f, fd, F, kd⟩ := T.f_carried
  refine ⟨f, fd, ?_, F, kd⟩
  refine F.ok sc_read_carried (fun vs H Q E h => ?_) (fun cdv A outer sh H vs Q E hr h => ?_)
  · obtain ⟨⟨f, seen⟩, r, g, s, al, _⟩ := h
    exact al.len
  obtain ⟨⟨f, seen⟩, r, g, s, al, pre, ra, k⟩ := h
  try dsimp only at pre
  have hu := hu_of hr
  refine ⟨_, (pss_cons (ps_set (i := 2) sc_read_carried.nd rfl (Or.inl rfl) (k_call G_length_by (hr.mono (by decide)) (pa_cons (pe_ix (k_ixT K) (pv 1) pe_int (fun _ _ => rfl)) (pa_cons (k_fld K (pv 0)) (pa_cons (pe_op op_sub (k_fld K (pv 0)) (k_fld K (pv 0))) pa_nil)))))
      (pss_cons (ps_if (PW.pt (pw_and (pt_cmpR op_lt (pv 2) pe_int (nomark _)) (pw_and1 (pt_cmpR op_ne (pe_ix (k_ixT K) (pe_ix (k_ixT K) (pv 1) pe_int (fun _ _ => rfl)) pe_int (fun _ _ => rfl)) pe_str (nomark _))))) (pss_one (ps_ret (k_meth (pv 0) Q_Thing_fails (hr.mono (by decide)) (pa_cons pe_int (pa_cons (pe_ix (k_ixT K) (pv 1) pe_int (fun _ _ => rfl)) (pa_cons pe_str pa_nil)))))) pss_nil)
      (pss_cons (ps_if (PW.pt (pw_or (pt_cmpR op_lt (pv 2) pe_int (nomark _)) (pw_or1 (pt_val (k_meth (pv 0) Q_Thing_is_short (hr.mono (by decide)) (pa_cons (pv 2) pa_nil)))))) (pss_one (ps_ret (k_meth (pv 0) Q_Thing_lacks (hr.mono (by decide)) (pa_cons (pe_ix (k_ixT K) (pv 1) pe_int (fun _ _ => rfl)) (pa_cons pe_str pa_nil))))) pss_nil)
      (pss_cons (ps_set (i := 3) sc_read_carried.nd rfl (Or.inl rfl) (k_meth (k_fld K (pv 0)) Q_Reader_read_room (hr.mono (by decide)) (pa_cons (pe_ix (k_ixT K) (pv 1) pe_int (fun _ _ => rfl)) (pa_cons (k_fld K (pv 0)) (pa_cons (pe_op op_add (k_fld K (pv 0)) (pv 2)) (pa_cons (pe_op (k_cat K) (k_fld K (pv 0)) (pe_tupF (pa_cons (pe_ix (k_ixT K) (pv 1) pe_int (fun _ _ => rfl)) pa_nil))) pa_nil))))))
      (pss_cons (ps_dput hu (k_fld K (pv 0)) (pe_ix (k_ixT K) (pv 1) pe_int (fun _ _ => rfl)) (pe_tupF (pa_cons (pe_ix (k_ixT K) (pv 1) pe_int (fun _ _ => rfl)) (pa_cons (pv 3) pa_nil))) rfl)
      (pss_cons (k_sfldaug K (pv 0) (pv 2) in_add)
      (pss_one (ps_ret pe_bl)))))))), ?_⟩
  obtain ⟨pr, hw⟩ := pre
  obtain ⟨n, l, kd, rfl⟩ := f.inv.2.2.2.2.2.2 hw
  obtain ⟨_, hl, hdeep⟩ := id pr.ok
  have hdeep : kd ∈ deepOf r.G := hdeep
  have ln : TLens K cR cT (Wd.tm K cR cT r g H) r g := thg_lens
  have b0 : s.sp.length ≤ 400000 := pr.sp
  have b2 : g.path.length * 7000 ≤ 400000 := pr.pl
  have b1 : s.sp.length ≤ 800000 ∧ g.path.length ≤ 1000 := ⟨by omega, by omega⟩
  refine nx_go (W := .tm K cR cT r g H) (i := s) ?_ ⟨Off.refl, ra⟩ (Sls.start al _ rfl)
  refine sq_set (ev_call (ea_cons (ev_ix (ds := [.str "carried", .str n, l.dat, .str kd]) rfl rfl (ea_cons (ev_th T ln rfl T.a_Thing_tags (by exact fl_T_tags) (ea_cons (ev_op (ev_th T ln rfl T.a_Thing_limit (by exact fl_T_limit) (ev_place T ln rfl (op_int0 (ea_nil ?_)))))))))))
  refine call_A (l, g.τ, g.E - s.place, seen, s.tags) rfl (fun I => ⟨(ln.get I).tg, hl, fun x hx => let ⟨v, h, _⟩ := pr.tg x hx; ⟨v, h⟩⟩) ?_
  rintro _ rfl
  dsimp only
  have hw0 : atI [Dat.str "carried", .str n, l.dat, .str kd] 2 = some (.tup (.str l.word :: l.tl)) := by rw [← l.dat_eq]; rfl
  have E1 := pr.E
  have E2 := pr.p0
  have fin1 : lenBy l s.tags (g.E - s.place) < 0 → l.isRest = false → rdFld r.bs (V0.inn r) g.E g.path s.place s.tags (.carried n l kd) = (failS s.place 0 g.E g.path n "length", s.place, s.tags, false) := fun c1 c2 => by
    simp only [rdFld]; rw [if_pos ⟨c1, c2⟩]
  have fin2 : ¬ (lenBy l s.tags (g.E - s.place) < 0 ∧ l.isRest = false) → (lenBy l s.tags (g.E - s.place) < 0 ∨ s.place + lenBy l s.tags (g.E - s.place) > g.E) → rdFld r.bs (V0.inn r) g.E g.path s.place s.tags (.carried n l kd) = (lackS s.place g.E g.path n "short", s.place, s.tags, false) := fun c1 c2 => by
    simp only [rdFld]; rw [if_neg c1, if_pos c2]
  have fin3 : ¬ (lenBy l s.tags (g.E - s.place) < 0 ∧ l.isRest = false) → ¬ (lenBy l s.tags (g.E - s.place) < 0 ∨ s.place + lenBy l s.tags (g.E - s.place) > g.E) → rdFld r.bs (V0.inn r) g.E g.path s.place s.tags (.carried n l kd) = (rRes V1 r ⟨kd, s.place, s.place + lenBy l s.tags (g.E - s.place), g.path ++ [.str n]⟩, s.place + lenBy l s.tags (g.E - s.place), s.tags, true) := fun c1 c2 => by
    simp only [rdFld]; rw [if_neg c1, if_neg c2]; rfl
  generalize hsz : lenBy l s.tags (g.E - s.place) = sz at fin1 fin2 fin3
  refine sq_when (EvT.imp (Pb := fun j b => j = s ∧ (b = true ↔ sz < 0 ∧ l.isRest = false)) ?_ ?_)
  · refine et_and (et_test (ev_op (ev_var rfl (ev_int (op_bl0 ⟨_, rfl, ifD (fun c1 => ?_) fun c1 => ?_⟩)))))
    · refine et_test (ev_op (ev_op (ev_ix (ds := [.str "carried", .str n, l.dat, .str kd]) rfl hw0 (ev_int (op_ixT atI0 (ev_str (op_neS ⟨_, rfl, rfl, ?_⟩)))))))
      rw [word_rest]
      cases l.isRest <;> simp [c1]
    · exact ⟨rfl, by simp [c1]⟩
  rintro j b ⟨rfl, hb0⟩
  refine ifB (fun e0 => ?_) fun e0 => ?_
  · refine nx_ret (m_fails T ln rfl (ev_int (ev_ix (ds := [.str "carried", .str n, l.dat, .str kd]) rfl rfl ⟨0, n, rfl, rfl, b1, rt_of fun H' v I z => k v H' _ _ I.1 I.2 z ?_⟩)))
    have e := fin1 (hb0.mp e0).1 (hb0.mp e0).2
    exact ⟨by rw [e], by rw [e], by rw [e], by rw [e], by show j.fl.length ≤ _; omega⟩
  have c1 : ¬ (sz < 0 ∧ l.isRest = false) := fun z => by rw [hb0.mpr z] at e0; cases e0
  refine sq_when (EvT.imp (Pb := fun i b => i = j ∧ (b = true ↔ sz < 0 ∨ j.place + sz > g.E)) ?_ ?_)
  · refine et_or (et_test (ev_op (ev_var rfl (ev_int (op_bl0 ⟨_, rfl, ifD (fun c2 => ?_) fun c2 => ?_⟩)))))
    · exact ⟨rfl, by simp [c2]⟩
    · exact et_B (m_short T ln rfl (ev_var rfl ⟨sz, rfl, _, rfl, rfl, by simp [c2]⟩))
  rintro i b ⟨rfl, hb1⟩
  refine ifB (fun e1 => ?_) fun e1 => ?_
  · refine nx_ret (m_lacks T ln rfl (ev_ix (ds := [.str "carried", .str n, l.dat, .str kd]) rfl rfl ⟨n, rfl, b1, rt_of fun H' v I z => k v H' _ _ I.1 I.2 z ?_⟩))
    have e := fin2 c1 (hb1.mp e1)
    exact ⟨by rw [e], by rw [e], by rw [e], by rw [e], by show i.fl.length ≤ _; omega⟩
  have c2 : ¬ (sz < 0 ∨ i.place + sz > g.E) := fun z => by rw [hb1.mpr z] at e1; cases e1
  refine sq_set (ev_meth (ev_th T ln rfl T.a_Thing_reader (by exact fl_T_reader) ⟨r.R, rdF r, rfl, fun I => (ln.get I).rd.1, fl_R_read_room, ?_⟩))
  refine ea_cons (ev_ix (ds := [.str "carried", .str n, l.dat, .str kd]) rfl rfl (ea_cons (ev_place T ln rfl (ea_cons (ev_op (ev_place T ln rfl (ev_var rfl (op_int0 (ea_cons (ev_op (ev_th T ln rfl T.a_Thing_path (by exact fl_T_path) ?_)))))))))))
  refine ev_tup (ea_cons (ev_ix (ds := [.str "carried", .str n, l.dat, .str kd]) rfl rfl (ea_nil ⟨by show 1 ≤ 1000; decide, op_cat (by show g.path.length + 1 ≤ _; omega) (ea_nil ?_)⟩)))
  refine call_R ln.rl ⟨kd, i.place, i.place + sz, g.path ++ [.str n]⟩ rfl (fun I => ⟨⟨pr.gr, hdeep⟩, E2, by show i.place ≤ i.place + sz; omega, by show i.place + sz ≤ _; omega, pr.len, pr.byt, by show i.sp.length ≤ 600000; omega, by show (g.path ++ [Dat.str n]).length ≤ 100; rw [List.length_append, List.length_singleton]; omega⟩) ?_
  rintro d new ⟨rfl, φ, rfl⟩
  refine sq_flds T ln rfl (ev_tup (ea_cons (ev_ix (ds := [.str "carried", .str n, l.dat, .str kd]) rfl rfl (ea_cons (ev_var rfl (ea_nil ⟨by show 2 ≤ 1000; decide, ev_ix (ds := [.str "carried", .str n, l.dat, .str kd]) rfl rfl ⟨n, rfl, by show i.fl.length ≤ _; have := pr.fl; omega, ?_⟩⟩))))))
  refine sq_augG (ev_var rfl ⟨g.t, cT, _, _, rfl, fun I => (ln.get I).th, T.c_Thing.1, T.a_Thing_place, fl_T_place, ev_var rfl ⟨sz, ⟨i.sp ++ rRes V1 r ⟨kd, i.place, i.place + sz, g.path ++ [.str n]⟩, i.place + sz, i.tags, dput i.fl (.inr n) (.tup [.str kd, .obj φ])⟩, rfl, fun I => (ln.get I).th, by show 8 < 1000; decide, ?_, ?_⟩⟩)
  · intro H1 H2 I o ia
    rw [fp_T_place] at ia
    exact ln.put I (off4 (by simp) o) ((ln.get I).setT o ia)
  refine nx_ret (ev_bl (rt_of fun H' v I z => k v H' _ _ I.1 I.2 z ?_))
  have e := fin3 c1 c2
  exact ⟨by rw [e], by rw [e], by rw [e], by rw [e], Nat.le_trans (dput_len _ _ _) (Nat.le_succ _)⟩
def manyOf (t : Tags) : Option Str → Int
  | none => 0
  | some x => tagv t x
theorem w_read_row (T : Tp K mg w cR cM cT aS aD) (Q_Thing_is_short : Ml P w K mg base 1 cT "is_short" (spIsShort K cR cT)) (Q_Thing_lacks : Ml P w K mg base 2 cT "lacks" (spLacks K cR cT)) (Q_Thing_room : Ml P w K mg base 3 cT "room" (spRoom K cR cM cT)) (Q_Reader_read_kind : Ml P w K mg base 6 cR "read_kind" (SpKind K cR cM V1)) :
    ∃ f fd, FnOk P w K mg base CX0 8 f fd ["thing", "field"] (SpFld K cR cT V0.N V0.deep V0.inn "row") ∧ Fun K "read_row" "read_row" s_read_row f fd ∧ KDct K w aD "row" (.ref f) := by
  obtain ⟨f, fd, F, kd⟩ := T.f_row
  refine ⟨f, fd, ?_, F, kd⟩
  refine F.ok sc_read_row (fun vs H Q E h => ?_) (fun cdv A outer sh H vs Q E hr h => ?_)
  · obtain ⟨⟨f, seen⟩, r, g, s, al, _⟩ := h
    exact al.len
  obtain ⟨⟨f, seen⟩, r, g, s, al, pre, ra, k⟩ := h
  try dsimp only at pre
  have hu := hu_of hr
  refine ⟨_, (pss_cons (ps_set (i := 2) sc_read_row.nd rfl (Or.inl rfl) (pe_lst pa_nil))
      (pss_cons (ps_dput hu (k_fld K (pv 0)) (pe_ix (k_ixT K) (pv 1) pe_int (fun _ _ => rfl)) (pv 2) rfl)
      (pss_cons (ps_set (i := 3) sc_read_row.nd rfl (Or.inl rfl) (pe_cmpR (k_eqD K hr.units) (pe_ix (k_ixT K) (pv 1) pe_int (fun _ _ => rfl)) (pe_tupF (pa_cons pe_str pa_nil)) (nomark _)))
      (pss_cons (ps_set (i := 4) sc_read_row.nd rfl (Or.inl rfl) (pe_ifExp (pt_val (pv 3)) pe_int (pe_dget hu (k_fld K (pv 0)) (pe_ix (k_ixT K) (pe_ix (k_ixT K) (pv 1) pe_int (fun _ _ => rfl)) pe_int (fun _ _ => rfl)) (fun _ _ => rfl))))
      (pss_cons (ps_if (pt_val (k_meth (pv 0) Q_Thing_is_short (hr.mono (by decide)) (pa_cons pe_int pa_nil))) (pss_one (ps_ret (k_meth (pv 0) Q_Thing_lacks (hr.mono (by decide)) (pa_cons (pe_ix (k_ixT K) (pv 1) pe_int (fun _ _ => rfl)) (pa_cons pe_str pa_nil))))) pss_nil)
      (pss_cons (ps_while PassesOwn.never (pt_ifx (pt_val (pv 3)) (pt_cmpR op_lt (k_fld K (pv 0)) (k_fld K (pv 0)) (nomark _)) (pt_cmpR op_lt (pe_callB (k_len K) (by rfl) T.n_len (by decide +kernel) (pa_cons (pv 2) pa_nil)) (pv 4) (nomark _))) (pss_cons (ps_set (i := 5) sc_read_row.nd rfl (Or.inl rfl) (pe_op (k_cat K) (k_fld K (pv 0)) (pe_tupF (pa_cons (pe_ix (k_ixT K) (pv 1) pe_int (fun _ _ => rfl)) (pa_cons (pe_callB (k_len K) (by rfl) T.n_len (by decide +kernel) (pa_cons (pv 2) pa_nil)) pa_nil)))))
      (pss_cons (ps_asg (k_meth (k_fld K (pv 0)) Q_Reader_read_kind (hr.mono (by decide)) (pa_cons (pe_ix (k_ixT K) (pv 1) pe_int (fun _ _ => rfl)) (pa_cons (k_meth0 (pv 0) Q_Thing_room (hr.mono (by decide))) (pa_cons (pv 5) pa_nil)))) (k_tup K rfl (pgs_cons (k_gfld K (pv 0)) (pgs_cons (pg_name (i := 6) sc_read_row.nd rfl (Or.inl rfl)) (pgs_cons (pg_name (i := 7) sc_read_row.nd rfl (Or.inl rfl)) pgs_nil)))))
      (pss_cons (ps_expr (k_append K (pv 2) (pv 6)))
      (pss_one (ps_if (pt_not (pt_val (pv 7))) (pss_one (ps_ret pe_bl)) pss_nil))))))
      (pss_one (ps_ret pe_bl)))))))), ?_⟩
  obtain ⟨pr, hw⟩ := pre
  obtain ⟨n, kd, t, rfl⟩ := f.inv.2.2.2.2.2.1 hw
  obtain ⟨_, hdeep, htag⟩ := id pr.ok
  have hdeep : kd ∈ deepOf r.G := hdeep
  have ln : TLens K cR cT (Wd.tm K cR cT r g H) r g := thg_lens
  have b0 : s.sp.length ≤ 400000 := pr.sp
  have b2 : g.path.length * 7000 ≤ 400000 := pr.pl
  have b1 : s.sp.length ≤ 800000 ∧ g.path.length ≤ 1000 := ⟨by omega, by omega⟩
  have E1 := pr.E
  have E2 := pr.p0
  have E3 := pr.pE
  have hil := in1_len pr.gr pr.byt pr.len kd hdeep
  refine nx_go (W := .tm K cR cT r g H) (i := s) ?_ ⟨Off.refl, ra⟩ (Sls.start al _ rfl)
  refine sq_setL (el_lst (ea_nil ⟨by decide, fun pf nf => ?_⟩))
  have lno : ∀ {ds : List Dat}, TLens K cR cT ((Wd.tm K cR cT r g H).own pf (LstAt K pf ds) (lst_shp K pf _) nf) r g := ln.own
  refine sq_flds T lno rfl (ev_var rfl (ev_ix (ds := [.str "row", .str n, .str kd, rowEnd t]) rfl rfl ⟨n, rfl, by show s.fl.length ≤ _; have := pr.fl; omega, ?_⟩))
  refine sq_set (ev_op (ev_ix (ds := [.str "row", .str n, .str kd, rowEnd t]) rfl rfl (ev_tup (ea_cons (ev_str (ea_nil ⟨by show 1 ≤ 1000; decide, ?_⟩))))))
  have hfine : (rowEnd t).fine 1 = true := by
    cases t with
    | none => decide +kernel
    | some x =>
      have : PyData.strOk x = true := (htag x rfl).2
      simp [Dat.fine, rowEnd, Dat.fineL, this]
      decide +kernel
  have heq : PyData.eqv (rowEnd t).py (Dat.tup [.str "rest"]).py = t.isNone := by cases t <;> rfl
  refine op_eqD (n := 1) (m := 1) hfine (by decide +kernel) (by decide) (by decide) ?_
  rw [heq]
  let s1 : TSt := { s with fl := dput s.fl (.inr n) (.obj pf) }
  refine sq_set (Ev.imp (P := fun j d => j = s1 ∧ d = .int (manyOf s.tags t)) ?_ ?_)
  · refine ev_ifx (et_B (ev_var rfl ⟨_, rfl, ?_⟩))
    cases t with
    | none => exact ifT rfl (ev_int ⟨rfl, rfl⟩)
    | some x =>
      refine ifF rfl ?_
      refine ev_tag (i := s1) T lno rfl (show TagsOk seen s1.tags from pr.tg) ?_
      exact ev_ix2 (ds := [.str "row", .str n, .str kd, rowEnd (some x)]) (es := [.str "of", .str x]) rfl rfl rfl ⟨rfl, x, rfl, (htag x rfl).1, rfl, rfl⟩
  rintro j d ⟨hj, rfl⟩
  subst hj
  refine sq_when (et_B (m_short T lno rfl (ev_int ⟨0, rfl, _, rfl, ifD (fun c => absurd c (by show ¬ s.place + 0 > g.E; omega)) fun _ => ?_⟩)))
  have hR : rdFld r.bs (V0.inn r) g.E g.path s.place s.tags (.row n kd t) = ((rowGo (V0.inn r) kd n t.isNone g.E g.path (rowFuel s.tags g.E s.place t) 0 s.place).1, (rowGo (V0.inn r) kd n t.isNone g.E g.path (rowFuel s.tags g.E s.place t) 0 s.place).2.1, s.tags, (rowGo (V0.inn r) kd n t.isNone g.E g.path (rowFuel s.tags g.E s.place t) 0 s.place).2.2) := by simp only [rdFld]
  generalize hRR : rowGo (V0.inn r) kd n t.isNone g.E g.path (rowFuel s.tags g.E s.place t) 0 s.place = R at hR
  have fin : ∀ {i : TSt} {b : Bool}, i.tags = s.tags → i.fl = s1.fl → i.sp = s.sp ++ R.1 → i.place = R.2.1 → b = R.2.2 → FPost (V0.inn r) r g s (.row n kd t) i (.bl b) := fun h1 h2 h3 h4 h5 => by
    refine ⟨by rw [hR, h5], by rw [hR, h3], by rw [hR, h4], by rw [hR, h1], ?_⟩
    rw [h2]
    exact Nat.le_trans (dput_len _ _ _) (Nat.le_succ _)
  refine sq_while (κ := List Dat) (Wf := fun ds => (Wd.tm K cR cT r g H).own pf (LstAt K pf ds) (lst_shp K pf _) nf) (fun m acc i Γ => i.tags = s.tags ∧ i.fl = s1.fl ∧ s.place ≤ i.place ∧ i.place ≤ g.E ∧ i.sp ++ (rowGo (V0.inn r) kd n t.isNone g.E g.path m acc.length i.place).1 = s.sp ++ R.1 ∧ (rowGo (V0.inn r) kd n t.isNone g.E g.path m acc.length i.place).2 = R.2 ∧
    (t = none → (g.E - i.place).toNat + 1 ≤ m) ∧ (∀ x, t = some x → ((acc.length : Nat) : Int) + m = tagv s.tags x) ∧ i.sp.length + 20 * ((g.E - i.place).toNat + 1) ≤ s.sp.length + 20020 ∧ ((acc.length : Nat) : Int) ≤ i.place - s.place ∧ ∃ x5 x6 x7, Γ = [some (.obj g.t), some (Fld.row n kd t).dat, some (.obj pf), some (.bl t.isNone), some (.int (manyOf s.tags t)), x5, x6, x7]) (rowFuel s.tags g.E s.place t) [] ?_ ?_
  · have hlen := pr.len
    refine ⟨rfl, rfl, Int.le_refl _, E3, by rw [← hRR]; rfl, by rw [← hRR]; rfl, fun z => ?_, fun x z => ?_, ?_, ?_, none, none, none, rfl⟩
    · subst z; exact Nat.le_refl _
    · subst z
      have := (pr.tg.tagv (htag x rfl).1).2.1
      show ((0 : Nat) : Int) + (((tagv s.tags x).toNat : Nat) : Int) = _
      omega
    · show s.sp.length + _ ≤ _
      have : (g.E - s.place).toNat ≤ 1000 := by omega
      show s.sp.length + 20 * ((g.E - s.place).toNat + 1) ≤ _
      omega
    · show ((0 : Nat) : Int) ≤ s.place - s.place; omega
  rintro m acc i Γ ⟨h1, h2, h3, h4, h5, h6, h7, h8, h9, h10, x5, x6, x7, rfl⟩
  have hlen := pr.len
  refine EvT.imp (Pb := fun j b => j = i ∧ (b = true → (∃ m', m = m' + 1) ∧ ¬ (t.isNone = true ∧ ¬ i.place < g.E)) ∧ (b = false → rowGo (V0.inn r) kd n t.isNone g.E g.path m acc.length i.place = ([], i.place, true))) ?_ ?_
  · refine et_ifx (et_B (ev_var rfl ⟨_, rfl, ?_⟩))
    cases ht : t with
    | none =>
      refine ifT rfl (et_test (ev_op (ev_place T lno rfl (ev_th T lno rfl T.a_Thing_limit (by exact fl_T_limit) (op_bl0 ⟨_, rfl, rfl, fun z => ⟨?_, fun q => ?_⟩, fun z => ?_⟩)))))
      · have := h7 ht
        exact ⟨m - 1, by omega⟩
      · exact q.2 (of_decide_eq_true z)
      · have z' := of_decide_eq_false z
        cases m with
        | zero => rfl
        | succ m' =>
          unfold rowGo
          rw [if_pos ⟨rfl, z'⟩]
    | some x =>
      subst ht
      refine ifF rfl (et_test (ev_op (ev_lenL (ev_var rfl ⟨pf, acc, rfl, fun I => I.2, ev_var rfl (op_bl0 ⟨_, rfl, rfl, fun z => ⟨?_, fun q => ?_⟩, fun z => ?_⟩)⟩))))
      · have z' := of_decide_eq_true z
        have := h8 x rfl
        have e : manyOf s.tags (some x) = tagv s.tags x := rfl
        exact ⟨m - 1, by omega⟩
      · cases q.1
      · have z' := of_decide_eq_false z
        have := h8 x rfl
        have e : manyOf s.tags (some x) = tagv s.tags x := rfl
        have hm : m = 0 := by omega
        subst hm
        rfl
  rintro j b ⟨hj, hb1, hb0⟩
  subst hj
  refine ifB (fun hb => ?_) fun hb => ?_
  rotate_left 1
  · have e := hb0 hb
    rw [e] at h5 h6
    refine nx_ret (ev_bl (rt_of fun H' v I z => k v H' _ _ I.1.1 I.1.2 z (fin h1 h2 ?_ ?_ ?_)))
    · rw [← h5]; exact (List.append_nil _).symm
    · rw [← h6]
    · rw [← h6]
  obtain ⟨⟨m', rfl⟩, hc⟩ := hb1 hb
  unfold rowGo at h5 h6
  rw [if_neg hc] at h5 h6
  dsimp only at h5 h6
  refine sq_set (ev_op (ev_th T lno rfl T.a_Thing_path (by exact fl_T_path) ?_))
  refine ev_tup (ea_cons (ev_ix (ds := [.str "row", .str n, .str kd, rowEnd t]) rfl rfl (ea_cons (ev_lenL (ev_var rfl ⟨pf, acc, rfl, fun I => I.2, ea_nil ⟨by show 2 ≤ 1000; decide, op_cat (by show g.path.length + 2 ≤ _; omega) ?_⟩⟩)))))
  refine sq_asg (ev_methR (ev_th T lno rfl T.a_Thing_reader (by exact fl_T_reader) ⟨r.R, rdF r, rfl, fun I => (TLens.get lno I).rd.1, fl_R_read_kind, ev_ix (ds := [.str "row", .str n, .str kd, rowEnd t]) rfl rfl (ei_room T lno rfl fun x np => ev_var rfl ?_)⟩))
  have hq := hil g.E j.place (g.path ++ [.str n, .int (acc.length : Nat)]) (by omega) h4 E1
  refine call_R (TLens.own lno).rl ⟨kd, x, j.place, g.E, g.path ++ [.str n, .int (acc.length : Nat)]⟩ rfl (fun I => ⟨⟨pr.gr, hdeep⟩, I.2, by show 0 ≤ j.place; omega, h4, E1, pr.len, pr.byt, by show j.sp.length ≤ 600000; omega, by show (g.path ++ [Dat.str n, .int (acc.length : Nat)]).length ≤ 100; rw [List.length_append]; show g.path.length + 2 ≤ 100; omega⟩) ?_
  rintro d new ⟨rfl, φ, rfl⟩
  have ek : kRes V1 r ⟨kd, x, j.place, g.E, g.path ++ [.str n, .int (acc.length : Nat)]⟩ = V0.inn r kd j.place g.E (g.path ++ [.str n, .int (acc.length : Nat)]) := rfl
  rw [ek]
  have hq' : (V0.inn r kd j.place g.E (g.path ++ [.str n, .int (acc.length : Nat)])).1.length ≤ 20 ∧ (V0.inn r kd j.place g.E (g.path ++ [.str n, .int (acc.length : Nat)])).2.1 ≤ g.E ∧ ((V0.inn r kd j.place g.E (g.path ++ [.str n, .int (acc.length : Nat)])).2.2 = true → j.place + 1 ≤ (V0.inn r kd j.place g.E (g.path ++ [.str n, .int (acc.length : Nat)])).2.1) := hq
  generalize V0.inn r kd j.place g.E (g.path ++ [.str n, .int (acc.length : Nat)]) = q at h5 h6 hq'
  obtain ⟨q1, q2, q3⟩ := q
  dsimp only at h5 h6 hq' ⊢
  refine tg_tup rfl (tgs_cons (tg_place T lno rfl (tgs_cons (tg_name (tgs_cons (tg_name (tgs_nil ?_)))))))
  refine sq_append OwnAt.here (ev_var rfl ⟨rfl, rfl, by omega, ev_var rfl ?_⟩)
  refine nx_if (et_not (et_B (ev_var rfl ⟨q3, rfl, ?_⟩)))
  cases q3 with
  | false =>
    refine ifT rfl ?_
    rw [if_neg (by simp)] at h5 h6
    refine nx_ret (ev_bl (rt_of fun H' v I z => k v H' _ _ I.1.1 I.1.2 z (fin h1 h2 h5 ?_ ?_)))
    · rw [← h6]
    · rw [← h6]
  | true =>
    refine ifF rfl ?_
    rw [if_pos rfl] at h5 h6
    have h11 := hq'.2.2 rfl
    refine fun H' σ I E => ⟨m', Nat.lt_succ_self m', Lp.of _ I E ⟨h1, h2, ?_, hq'.2.1, ?_, ?_, fun z => ?_, fun x' z => ?_, ?_, ?_, _, _, _, rfl⟩⟩
    · show s.place ≤ q2; omega
    · show (j.sp ++ q1) ++ _ = _
      rw [List.length_append, List.length_singleton, List.append_assoc]
      exact h5
    · rw [List.length_append, List.length_singleton]
      exact h6
    · have := h7 z
      show (g.E - q2).toNat + 1 ≤ m'
      omega
    · have := h8 x' z
      rw [List.length_append, List.length_singleton]
      omega
    · show (j.sp ++ q1).length + 20 * ((g.E - q2).toNat + 1) ≤ _
      rw [List.length_append]
      omega
    · rw [List.length_append, List.length_singleton]
      show _ ≤ q2 - s.place
      omega
end
end Lb
/-! text LbE2 -/
/-! Walks: the Reader, reading, spreads_of. -/
namespace Lb
open PySem L2
section
variable {ι : Type} {K : PySem.W.Frag} {W : Wd ι} {i : ι} {Γ : Ctx} {te : TE} {Pd : ι → List (Key × Dat) → Prop} {Pl : ι → List Dat → Prop}
theorem ed_call1D {sp : Sp} (h : EvD K W i te Γ fun j l => ∀ p np, CallD K (W.own p (DctAt K p l) (dct_shp K p l) np) j sp [.obj p] Pd) : EvD K W i (tCall sp [] E0 (tCons te tNil)) Γ Pd := fun H σ I E Q q =>
  h H σ I E _ fun p H1 j l np o1 I1 a1 p1 => by
    show sp ([.ref p] ++ []) H1 Q E0
    rw [List.append_nil]
    exact p1 p np H1 [.ref p] ⟨I1, a1⟩ (.cons (.obj p) .nil) Q fun q' H2 k l2 nq o2 I2 a2 p2 => q q' H2 k l2 (fun z => nq (.inr z)) (o1.trans o2) I2.1 a2 p2
theorem el_callN {sp : Sp} {tr : TA} (h : EvA K W i tr Γ fun j ds => CallL K W j sp (ds ++ [.non]) Pl) : EvL K W i (tCall sp [.non] E0 tr) Γ Pl := fun H σ I E Q q =>
  h H σ I E _ fun vs H1 j ds o1 I1 a1 p1 => p1 H1 (vs ++ [.non]) I1 (a1.append (.cons .non .nil)) Q fun v H2 k d np o2 I2 a2 p2 => q v H2 k d np (o1.trans o2) I2 a2 p2
end
section
variable {P : Program} {w : World} {K : PySem.W.Frag} {mg : Str → Option Value} {base : Heap} {cR cM cT aS aD : Addr}
theorem raw_ret {te : TE} {D : Ends} {σ : L2.St} {H : Hp} (h : te σ H D.rt) : tRet te D σ H := h
theorem raw_opc {sp : Sp} {t : TA} {n : Int} {Q : VK} {σ : L2.St} {H : Hp} (h : t σ H fun vs H1 => sp (vs ++ []) H1 (fun x H2 => rIxT K x (.int n) H2 Q) E0) : tOp (rIxT K) (tCall sp [] E0 t) (tC (.int n)) σ H Q := h
def spReaderI (K : PySem.W.Frag) (cR : Addr) : Sp := SpInit K cR (α := Gr × List Int) (fun a => [grDat a.1, bytesD a.2]) (fun a _ => GrOk a.1) fun x a H l H' => ∃ L kn, H L = none ∧ l = rdF ⟨x, L, kn, a.1, a.2⟩ ∧ LstAt K L [] H'
theorem w_reader_init (T : Tp K mg w cR cM cT aS aD) (G_reckoned : Cl P w K mg base 3 "reckoned" (spReckoned K)) (G_kind_table : Cl P w K mg base 1 "kind_table" (spKindTable K)) : Mkl P w K mg base 4 "Reader" cR (spReaderI K cR) := by
  obtain ⟨f, fd, F, hm⟩ := T.m_Reader_init
  refine ⟨⟨f, fd, ["self", "grammar", "some"], ?_, hm, F.binds fun _ _ _ _ _ _ us hl => match us, hl with | [_, _, _], _ => rfl⟩, T.c_Reader.2⟩
  refine F.ok sc_Reader_init (fun vs H Q E h => ?_) (fun cdv A outer sh H vs Q E hr h => ?_)
  · obtain ⟨x, ⟨G, bs⟩, al, _⟩ := h
    exact al.len
  obtain ⟨x, ⟨G, bs⟩, al, pre, ra, k⟩ := h
  try dsimp only at pre
  have hu := hu_of hr
  refine ⟨_, (pss_cons (k_sfld K (pv 0) (pv 1))
      (pss_cons (k_sfld K (pv 0) (k_call G_reckoned (hr.mono (by decide)) (pa_cons (k_call G_kind_table (hr.mono (by decide)) (pa_cons (pv 1) pa_nil)) pa_nil)))
      (pss_cons (k_sfld K (pv 0) (pv 2))
      (pss_one (k_sfld K (pv 0) (pe_lst pa_nil)))))), ?_⟩
  have hA : ∀ y ∈ [x], H y ≠ none := by intro y hy; rw [List.mem_singleton.mp hy]; exact pre.trk
  have hC : (Wd.baseA [x] H hA).C x := pre.trk
  refine nx_go (W := (Wd.baseA [x] H hA).mine x (InsAt K x cR []) (ins_shp K x cR _) hC) (i := ()) ?_ ⟨⟨Off.refl, hA⟩, pre⟩ (Sls.start al _ rfl)
  have mt : Mt (Wd.baseA [x] H hA) x := Mt.baseA (by simp)
  refine sq_sfld (OwnAt.mine mt) T.c_Reader.1 T.a_Reader_by_grammar (by decide) (ev_var rfl (ev_var rfl ⟨rfl, ?_⟩))
  rw [fn_R_0]
  refine sq_sfldD (OwnAt.mine mt) T.c_Reader.1 T.a_Reader_known (by show 1 < 1000; decide) (ed_call1D (ed_call (ea_cons (ev_var rfl (ea_nil (call_AD G rfl (fun _ => ra) ?_))))))
  rintro l rfl pt npt
  refine call_AD (pt, G) rfl (fun I => ⟨I.2, ra⟩) ?_
  intro l _ kn nkn
  refine ev_var rfl ⟨rfl, ?_⟩
  rw [fn_R_1]
  refine sq_sfld (OwnAt.mine mt).under T.c_Reader.1 T.a_Reader_all_bytes (by show 2 < 1000; decide) (ev_var rfl (ev_var rfl ⟨rfl, ?_⟩))
  rw [fn_R_2]
  refine nx_sfldL (OwnAt.mine mt).under T.c_Reader.1 T.a_Reader_found (by show 3 < 1000; decide) (el_lst (ea_nil ⟨by decide, fun L nL => ev_var rfl ⟨rfl, ?_⟩⟩))
  rw [fn_R_3]
  exact fun H' σ I E => k H' _ I.1.1.1.1 I.1.1.2 ⟨L, kn, Classical.byContradiction fun z => nL (.inr z), rfl, I.2⟩
theorem GrOk.first {G : Gr} (h : GrOk G) : ∃ fs r, G = (("all" : Str), fs) :: r := by
  obtain ⟨fs, fl, ⟨rfl, _⟩ | ⟨fm, rfl, _⟩⟩ := h
  · exact ⟨_, _, rfl⟩
  · exact ⟨_, _, rfl⟩
structure SpsPre (G : Gr) (bs : List Int) : Prop where
  gr : GrOk G
  len : bs.length ≤ 1000
  byt : ∀ y ∈ bs, 0 ≤ y ∧ y ≤ 255
def spReading (K : PySem.W.Frag) : Sp := fun vs H Q _ => ∃ G bs, AtL K H vs [grDat G, bytesD bs, .non] ∧ SpsPre G bs ∧ ∀ v H' L φ, H L = none → Same H H' → LstAt K L ((rdAll G bs).map Spr.dat) H' → At K H' v (.tup [.obj L, .obj φ]) → Q v H'
theorem w_reading (T : Tp K mg w cR cM cT aS aD) (M_Reader : Mkl P w K mg base 4 "Reader" cR (spReaderI K cR)) (Q_Reader_read_room : Ml P w K mg base 11 cR "read_room" (SpRm K cR V0)) : Cl P w K mg base 12 "reading" (spReading K) := by
  refine Cl.of (ps := ["grammar", "some", "kind"]) T.d_reading (fun f fd F => ?_) fun _ _ _ _ _ _ us hl => match us, hl with | [_, _, _], _ => rfl
  refine F.ok sc_reading (fun vs H Q E h => ?_) (fun cdv A outer sh H vs Q E hr h => ?_)
  · obtain ⟨G, bs, al, _⟩ := h
    exact al.len
  obtain ⟨G, bs, al, pre, k⟩ := h
  try dsimp only at pre
  have hu := hu_of hr
  refine ⟨_, (pss_cons (ps_set (i := 3) sc_reading.nd rfl (Or.inl rfl) (k_make M_Reader (hr.mono (by decide)) (pa_cons (pv 0) (pa_cons (pv 1) pa_nil))))
      (pss_cons (ps_set (i := 4) sc_reading.nd rfl (Or.inl rfl) (k_meth (pv 3) Q_Reader_read_room (hr.mono (by decide)) (pa_cons (pe_ifExp (pt_cmpR L2.op_isN (pv 2) pe_non (nomark _)) (pe_ix (k_ixT K) (pe_ix (k_ixT K) (pv 0) pe_int (fun _ _ => rfl)) pe_int (fun _ _ => rfl)) (pv 2)) (pa_cons pe_int (pa_cons (pe_callB (k_len K) (by rfl) T.n_len (by decide +kernel) (pa_cons (pv 1) pa_nil)) (pa_cons (pe_tupF pa_nil) pa_nil))))))
      (pss_one (ps_ret (pe_tupF (pa_cons (k_fld K (pv 3)) (pa_cons (pv 4) pa_nil))))))), ?_⟩
  obtain ⟨fs, rr, hG⟩ := pre.gr.first
  refine nx_go (W := .base H) (i := ()) ?_ (fun b o e => e) (Sls.start al _ rfl)
  refine fun H1 σ1 I1 E1 => ?_
  refine raw_make ?_
  have hargs : EvA K (Wd.base H) () (tCons (tVar 0) (tCons (tVar 1) tNil)) _ fun j ds => ds = [grDat G, bytesD bs] :=
    (ea_cons (ev_var (Γ := List.map some [grDat G, bytesD bs, .non] ++ List.replicate 2 none) rfl (ea_cons (ev_var rfl (ea_nil rfl)))))
  refine hargs H1 σ1 I1 E1 _ fun vs2 H2 j ds o2 I2 al2 pd2 => ?_
  subst pd2
  intro x dx nx ndx ne
  rw [List.append_nil]
  have nx' : (upd H2 dx (.own x)) x = none := by rw [upd_ne (Ne.symm ne)]; exact nx
  have oa : ∀ {B : List Addr}, Off B H2 (upd (upd H2 dx (.own x)) x (.ins cR dx [])) := fun {B} => (Off.new ndx).trans (Off.new nx')
  refine ⟨x, (G, bs), .cons (.obj x) (al2.mono (oa (B := []))), ⟨dx, [], upd_same, .nil⟩, pre.gr, fun H3 l o3 ia ps => ⟨rfl, ?_⟩⟩
  obtain ⟨L, kn, nL, rfl, la⟩ := ps
  have o03 : Off [] H H3 := (Off.of_same (A := []) I2).trans (oa.late nx (o3.mono fun y hy => by rw [List.mem_singleton.mp hy]; exact List.mem_cons_self))
  have L0 : H L = none := by
    cases e : H L with
    | none => rfl
    | some o =>
      have := (show Off [] H _ from (Off.of_same (A := []) I2).trans oa) L o e (fun z => nomatch z)
      rw [this] at nL; cases nL
  let r : Rdr := ⟨x, L, kn, G, bs⟩
  have ra : RAt K cR r [] H3 := ⟨ia, la⟩
  have E3 : Sls K H3 (σ1.set 3 (some (.ref x))) [some (grDat G), some (bytesD bs), some .non, some (.obj x), none] := ((E1.mono (o2.trans (oa.late nx (o3.mono fun y hy => by rw [List.mem_singleton.mp hy]; exact List.mem_cons_self)))).set 3 (.obj x))
  refine nx_go (W := .rdr K cR r H3 ra.1.trk ra.2.trk) (i := []) (Γ := [some (grDat G), some (bytesD bs), some .non, some (.obj x), none]) ?_ ⟨Off.refl, ra⟩ E3
  refine sq_set (ev_meth (ev_var rfl ⟨r.R, rdF r, rfl, fun I => I.2.1, fl_R_read_room, ?_⟩))
  refine ea_cons (ev_ifx (et_test (ev_op (ev_var rfl (ev_non (op_isN ⟨_, rfl, ifT rfl ?_⟩))))))
  have h0 : atI (G.map kdDat) 0 = some (kdDat (("all" : Str), fs)) := by rw [hG]; exact atI0
  refine ev_ix2 (ds := G.map kdDat) (es := [.str "all", .tup (fs.map Fld.dat)]) rfl h0 rfl ?_
  refine ea_cons (ev_int (ea_cons (ev_lenT (ev_var rfl ⟨_, rfl, ea_cons (ev_tup (ea_nil ⟨by decide, ea_nil ?_⟩))⟩))))
  refine call_R rdr_lens ⟨"all", 0, ((bs.map Dat.int).length : Int), []⟩ rfl (fun I => ⟨⟨pre.gr, rfl⟩, Int.le_refl 0, by show (0 : Int) ≤ ((bs.map Dat.int).length : Int); omega, by show (((bs.map Dat.int).length : Nat) : Int) ≤ bs.length; rw [List.length_map]; exact Int.le_refl _, pre.len, pre.byt, by show 0 ≤ 100000; decide, by show 0 ≤ 50; decide⟩) ?_
  rintro d new ⟨rfl, φ, rfl⟩
  have eR : rRes V0 r ⟨"all", 0, ((bs.map Dat.int).length : Int), []⟩ = rdAll G bs := by unfold rRes; rw [List.length_map]; rfl
  rw [eR]
  refine nx_ret (ev_tup (ea_cons (ev_fld (ev_var rfl ⟨r.R, cR, _, _, rfl, fun I => I.2.1, T.c_Reader.1, T.a_Reader_found, fl_R_found, ea_cons (ev_var rfl (ea_nil ⟨by show 2 ≤ 1000; decide, rt_of fun H' v I z => ?_⟩))⟩))))
  refine k v H' L φ L0 (Off.same (o03.late L0 I.1)) ?_ z
  have := I.2.2
  rw [List.nil_append] at this
  exact this
def spSpreads (K : PySem.W.Frag) : Sp := SpAL K (α := Gr × List Int) (fun a => [grDat a.1, bytesD a.2, .non]) (fun a _ => SpsPre a.1 a.2) fun a l => l = (rdAll a.1 a.2).map Spr.dat
theorem w_spreads_of (T : Tp K mg w cR cM cT aS aD) (G_reading : Cl P w K mg base 12 "reading" (spReading K)) : ClN P w K mg base 13 "spreads_of" (spSpreads K) := by
  obtain ⟨f, fd, F, m⟩ := T.d_spreads_of
  obtain ⟨ds, hv, hb⟩ := F.binds0 (ps := ["grammar", "some", "kind"]) 2 (by simp) rfl (fun D doc pm an cdv ct us ks hu hk => by
    match us, ks, hu, hk with
    | [a, b], [c], _, _ => exact ⟨_, _, _, _, _, _, rfl, rfl, rfl⟩)
  refine ⟨f, fd, ["grammar", "some", "kind"], ds, ?_, m, F.kp, hb, hv⟩
  refine F.ok sc_spreads_of (fun vs H Q E h => ?_) (fun cdv A outer sh H vs Q E hr h => ?_)
  · obtain ⟨⟨G, bs⟩, al, _⟩ := h
    exact al.len
  obtain ⟨⟨G, bs⟩, al, pre, k⟩ := h
  try dsimp only at pre
  have hu := hu_of hr
  refine ⟨_, (pss_one (ps_ret (pe_ix (k_ixT K) (k_call G_reading (hr.mono (by decide)) (pa_cons (pv 0) (pa_cons (pv 1) (pa_cons (pv 2) pa_nil)))) pe_int (fun _ _ => rfl)))), ?_⟩
  refine nx_go (W := .base H) (i := ()) ?_ (fun b o e => e) (Sls.start al _ rfl)
  refine fun H1 σ I E => raw_ret (raw_opc ?_)
  have hargs : EvA K (Wd.base H) () (tCons (tVar 0) (tCons (tVar 1) (tCons (tVar 2) tNil))) _ fun j ds => ds = [grDat G, bytesD bs, .non] :=
    (ea_cons (ev_var (Γ := List.map some [grDat G, bytesD bs, .non] ++ List.replicate 0 none) rfl (ea_cons (ev_var rfl (ea_cons (ev_var rfl (ea_nil rfl)))))))
  refine hargs H1 σ I E _ fun vs2 H2 j ds o2 I2 al2 pd2 => ?_
  subst pd2
  rw [List.append_nil]
  refine ⟨G, bs, al2, pre, fun v H3 L φ nL sm la at' => ?_⟩
  obtain ⟨a, xs, rfl, hs, l2⟩ := at'.tup_inv
  obtain ⟨y1, y2, rfl, z1, z2⟩ := l2.two
  cases z1
  refine ⟨a, [.ref L, y2], 0, .ref L, rfl, rfl, hs.sqT, rfl, ?_⟩
  have I2' : Same H H2 := I2
  have L0 : H L = none := by
    cases e : H L with
    | none => rfl
    | some o => rw [I2' L o e] at nL; cases nL
  exact k L H3 _ L0 (fun b o e => sm b o (I2' b o e)) la rfl
end
end Lb
/-! text LbE3 -/
/-! The reader as a whole. -/
namespace Lb
open PySem L2
section
variable {P : Program} {w : World} {K : PySem.W.Frag} {mg : Str → Option Value} {base : Heap} {cR cM cT aS aD : Addr}
theorem fun_ne {x q x' q' : Str} {st st' : Stmt} {f f' : Addr} {fd fd' : FuncData} (F : Fun K x q st f fd) (F' : Fun K x' q' st' f' fd') (h : decide (x = x') = false) : f ≠ f' := fun z => of_decide_eq_false h (fun_one F (z ▸ F'))
theorem Cl.mono {k l : Nat} {x : Str} {sp : Sp} (c : Cl P w K mg base k x sp) (h : k ≤ l) : Cl P w K mg base l x sp := by
  obtain ⟨f, fd, ps, F, m, kp, b⟩ := c.ex
  exact ⟨f, fd, ps, F.mono h, m, kp, b⟩
theorem fld_cal {k l : Nat} {V : Lvl} {x q word : Str} {st : Stmt} (h : ∃ f fd, FnOk P w K mg base CX0 k f fd ["thing", "field"] (SpFld K cR cT V.N V.deep V.inn word) ∧ Fun K x q st f fd ∧ KDct K w aD word (.ref f)) (hb : ∀ (kV doc pm : Value) (an : Option Addr) (cdv ct : Value) (us : List Value), us.length = ["thing", "field"].length → bindArgs (PySem.W.fnOf x q (defArgs st) (defBody st) (defScope st) .none kV doc pm an cdv ct) ⟨us, []⟩ = pure ((["thing", "field"] : List Str).zip us)) (hk : k ≤ l) :
    ∃ f fd, Cal P w K mg base l f (SpFld K cR cT V.N V.deep V.inn word) ∧ Fun K x q st f fd ∧ KDct K w aD word (.ref f) := by
  obtain ⟨f, fd, F, Fn, kd⟩ := h
  exact ⟨f, fd, ⟨⟨fd, _, F.mono hk, Fn.kp, Fn.binds hb⟩⟩, Fn, kd⟩
theorem w_spreads (T : Tp K mg w cR cM cT aS aD) : ClN P w K mg base 13 "spreads_of" (spSpreads K) := by
  have tell := w_tell (P := P) (base := base) T
  have stop := w_stop T tell
  have roomI := w_room_init (P := P) (base := base) T
  have thingI := w_thing_init (P := P) (base := base) T
  have room := w_room T roomI
  have short := w_is_short (P := P) (base := base) T
  have bytesT := w_bytes_there (P := P) (base := base) T
  have lacks := w_lacks T tell
  have fails := w_fails T tell stop
  have take := w_take T tell
  have isWord := w_is_word (P := P) (base := base) T
  have numIn := w_number_in (P := P) (base := base) T
  have kindsIn := w_kinds_in (P := P) (base := base) T
  have kindT := w_kind_table (P := P) (base := base) T
  have fieldsO := w_fields_of T kindT isWord
  have tagsIn := w_tags_in (P := P) (base := base) T
  have tagsOf := w_tags_of T tagsIn
  have goes := w_goes_on T kindsIn
  have leastL := w_least_length (P := P) (base := base) T
  have leastF := w_least_field T kindsIn leastL
  have lenByW := w_length_by (P := P) (base := base) T
  have parts := w_parts_of (P := P) (base := base) T
  have reck := w_reckoned T kindsIn tagsOf goes leastF
  have hb1 : ∀ {x q : Str} {st : Stmt}, True := fun {_ _ _} => True.intro
  -- the plain level
  obtain ⟨f1, d1, c1, F1, k1⟩ := fld_cal (V := V1) (l := 4) (w_read_number T (by decide) short lacks fails take bytesT numIn) (fun _ _ _ _ _ _ us hl => match us, hl with | [_, _], _ => rfl) (Nat.le_refl _)
  obtain ⟨f2, d2, c2, F2, k2⟩ := fld_cal (V := V1) (l := 4) (w_read_bits T (by decide) short lacks take bytesT parts) (fun _ _ _ _ _ _ us hl => match us, hl with | [_, _], _ => rfl) (Nat.le_refl _)
  obtain ⟨f3, d3, c3, F3, k3⟩ := fld_cal (V := V1) (l := 4) (w_read_bytes T (by decide) short lacks fails take bytesT lenByW) (fun _ _ _ _ _ _ us hl => match us, hl with | [_, _], _ => rfl) (Nat.le_refl _)
  obtain ⟨f4, d4, c4, F4, k4⟩ := fld_cal (V := V1) (l := 4) (w_read_text T (by decide) lacks take bytesT) (fun _ _ _ _ _ _ us hl => match us, hl with | [_, _], _ => rfl) (Nat.le_refl _)
  have n12 : f1 ≠ f2 := fun_ne F1 F2 (by decide +kernel)
  have n13 : f1 ≠ f3 := fun_ne F1 F3 (by decide +kernel)
  have n14 : f1 ≠ f4 := fun_ne F1 F4 (by decide +kernel)
  have n23 : f2 ≠ f3 := fun_ne F2 F3 (by decide +kernel)
  have n24 : f2 ≠ f4 := fun_ne F2 F4 (by decide +kernel)
  have n34 : f3 ≠ f4 := fun_ne F3 F4 (by decide +kernel)
  have B1 : Tbl P w K mg base cR cT aD V1 4 [("number", f1), ("bits", f2), ("bytes", f3), ("text", f4)] := {
    cal := fun e he => by
      simp only [List.mem_cons, List.not_mem_nil, or_false] at he
      rcases he with rfl | rfl | rfl | rfl
      · exact c1
      · exact c2
      · exact c3
      · exact c4
    nd := by simp [n12, n13, n14, n23, n24, n34]
    kd := fun e he => by
      simp only [List.mem_cons, List.not_mem_nil, or_false] at he
      rcases he with rfl | rfl | rfl | rfl
      · exact k1
      · exact k2
      · exact k3
      · exact k4
    all := fun r f seen kd _ ok => by
      cases f with
      | number => exact ⟨("number", f1), by simp, rfl⟩
      | bits => exact ⟨("bits", f2), by simp, rfl⟩
      | bytes => exact ⟨("bytes", f3), by simp, rfl⟩
      | text => exact ⟨("text", f4), by simp, rfl⟩
      | choice n t ks =>
        exfalso
        obtain ⟨_, _, hks, _, _, hd⟩ := ok
        cases ks with
        | nil => exact hks rfl
        | cons q r => exact absurd (hd q List.mem_cons_self) (by show ¬ q.2 ∈ []; simp)
      | row n k t => exact absurd ok.2.1 (by show ¬ k ∈ []; simp)
      | carried n l k => exact absurd ok.2.2 (by show ¬ k ∈ []; simp) }
  have read1 := w_thing_read T B1
  have kind1 := w_read_kind T (by decide) v1_ok thingI fieldsO goes read1
  have rm1 := w_read_room T (by decide) v1_ok roomI kind1 stop (by decide)
  -- the whole
  obtain ⟨g1, e1, cc1, G1, l1⟩ := fld_cal (V := V0) (l := 8) (w_read_number T (by decide) short lacks fails take bytesT numIn) (fun _ _ _ _ _ _ us hl => match us, hl with | [_, _], _ => rfl) (by decide)
  obtain ⟨g2, e2, cc2, G2, l2⟩ := fld_cal (V := V0) (l := 8) (w_read_bits T (by decide) short lacks take bytesT parts) (fun _ _ _ _ _ _ us hl => match us, hl with | [_, _], _ => rfl) (by decide)
  obtain ⟨g3, e3, cc3, G3, l3⟩ := fld_cal (V := V0) (l := 8) (w_read_bytes T (by decide) short lacks fails take bytesT lenByW) (fun _ _ _ _ _ _ us hl => match us, hl with | [_, _], _ => rfl) (by decide)
  obtain ⟨g4, e4, cc4, G4, l4⟩ := fld_cal (V := V0) (l := 8) (w_read_text T (by decide) lacks take bytesT) (fun _ _ _ _ _ _ us hl => match us, hl with | [_, _], _ => rfl) (by decide)
  obtain ⟨g5, e5, cc5, G5, l5⟩ := fld_cal (V := V0) (l := 8) (w_read_choice T tell short lacks room kind1) (fun _ _ _ _ _ _ us hl => match us, hl with | [_, _], _ => rfl) (by decide)
  obtain ⟨g6, e6, cc6, G6, l6⟩ := fld_cal (V := V0) (l := 8) (w_read_row T short lacks room kind1) (fun _ _ _ _ _ _ us hl => match us, hl with | [_, _], _ => rfl) (by decide)
  obtain ⟨g7, e7, cc7, G7, l7⟩ := fld_cal (V := V0) (l := 8) (w_read_carried T short lacks fails lenByW rm1) (fun _ _ _ _ _ _ us hl => match us, hl with | [_, _], _ => rfl) (by decide)
  have nd : ([g1, g2, g3, g4, g5, g6, g7] : List Addr).Nodup := by
    simp only [List.nodup_cons, List.mem_cons, List.not_mem_nil, or_false, not_or, not_false_eq_true, List.nodup_nil, and_true]
    exact ⟨⟨fun_ne G1 G2 (by decide +kernel), fun_ne G1 G3 (by decide +kernel), fun_ne G1 G4 (by decide +kernel), fun_ne G1 G5 (by decide +kernel), fun_ne G1 G6 (by decide +kernel), fun_ne G1 G7 (by decide +kernel)⟩, ⟨fun_ne G2 G3 (by decide +kernel), fun_ne G2 G4 (by decide +kernel), fun_ne G2 G5 (by decide +kernel), fun_ne G2 G6 (by decide +kernel), fun_ne G2 G7 (by decide +kernel)⟩,
      ⟨fun_ne G3 G4 (by decide +kernel), fun_ne G3 G5 (by decide +kernel), fun_ne G3 G6 (by decide +kernel), fun_ne G3 G7 (by decide +kernel)⟩, ⟨fun_ne G4 G5 (by decide +kernel), fun_ne G4 G6 (by decide +kernel), fun_ne G4 G7 (by decide +kernel)⟩, ⟨fun_ne G5 G6 (by decide +kernel), fun_ne G5 G7 (by decide +kernel)⟩, fun_ne G6 G7 (by decide +kernel)⟩
  have B0 : Tbl P w K mg base cR cT aD V0 8 [("number", g1), ("bits", g2), ("bytes", g3), ("text", g4), ("choice", g5), ("row", g6), ("carried", g7)] := {
    cal := fun e he => by
      simp only [List.mem_cons, List.not_mem_nil, or_false] at he
      rcases he with rfl | rfl | rfl | rfl | rfl | rfl | rfl
      · exact cc1
      · exact cc2
      · exact cc3
      · exact cc4
      · exact cc5
      · exact cc6
      · exact cc7
    nd := nd
    kd := fun e he => by
      simp only [List.mem_cons, List.not_mem_nil, or_false] at he
      rcases he with rfl | rfl | rfl | rfl | rfl | rfl | rfl
      · exact l1
      · exact l2
      · exact l3
      · exact l4
      · exact l5
      · exact l6
      · exact l7
    all := fun r f seen kd _ ok => by
      cases f with
      | number => exact ⟨("number", g1), by simp, rfl⟩
      | bits => exact ⟨("bits", g2), by simp, rfl⟩
      | bytes => exact ⟨("bytes", g3), by simp, rfl⟩
      | text => exact ⟨("text", g4), by simp, rfl⟩
      | choice => exact ⟨("choice", g5), by simp, rfl⟩
      | row => exact ⟨("row", g6), by simp, rfl⟩
      | carried => exact ⟨("carried", g7), by simp, rfl⟩ }
  have read0 := w_thing_read T B0
  have kind0 := w_read_kind T (by decide) v0_ok thingI fieldsO goes read0
  have rm0 := w_read_room T (by decide) v0_ok roomI kind0 stop (by decide)
  exact w_spreads_of T (w_reading T (w_reader_init T reck kindT) rm0)
end
end Lb
/-! text LbL8 -/
/-! Walks: the bytes that the law makes. -/
namespace Lb
open PySem L2
/-- the world of a def that uses a pool and a dict of tags -/
def Wd.mk2 (K : PySem.W.Frag) (p τ : Addr) (H0 : Hp) (h1 : H0 p ≠ none) (h2 : H0 τ ≠ none) : Wd Tags where
  A := [p, τ]
  C := fun q => H0 q ≠ none
  I := fun t H => Off [p, τ] H0 H ∧ PoolAt K p H ∧ DctAt K τ t H
  clm := fun {i H q} g m z => by
    by_cases hq : q = p
    · rw [hq] at z; exact (pool_shp K p).trk g.2.1 z
    · by_cases hq2 : q = τ
      · rw [hq2] at z; exact (dct_shp K τ _).trk g.2.2 z
      · cases e : H0 q with
        | none => exact m e
        | some o => rw [g.1.at_ e (by simp [hq, hq2])] at z; cases z
  off := fun {i B H H'} g m o => ⟨fun b u e x => o b u (g.1 b u e x) fun z => absurd (show H0 b ≠ none by rw [e]; exact fun q => nomatch q) (m b z), (pool_shp K p).off g.2.1 (fun z => m _ z h1) o, g.2.2.off (fun z => m _ z h2) o⟩
  trk := fun {a} g => by
    rcases List.mem_cons.mp g with e | e
    · rw [e]; exact h1
    · rw [List.mem_singleton.mp e]; exact h2
theorem pool_ne {K : PySem.W.Frag} {p τ : Addr} {t : Tags} {H : Hp} (a : PoolAt K p H) (b : DctAt K τ t H) : p ≠ τ := by
  obtain ⟨_, _, l, _⟩ := a
  exact l.ne_dct b
theorem mk2_stays {K : PySem.W.Frag} {p τ : Addr} {H0 : Hp} {h1 : H0 p ≠ none} {h2 : H0 τ ≠ none} : Stays (Wd.mk2 K p τ H0 h1 h2) p (PoolAt K p) :=
  ⟨fun I => I.2.1, fun I o f => ⟨I.1.trans (o.mono fun x hx => by rw [List.mem_singleton.mp hx]; exact List.mem_cons_self), f, I.2.2.off (by simpa using (pool_ne I.2.1 I.2.2).symm) o⟩, List.mem_cons_self⟩
theorem mk2_put {K : PySem.W.Frag} {p τ : Addr} {H0 H H' : Hp} {h1 : H0 p ≠ none} {h2 : H0 τ ≠ none} {t t' : Tags} (I : (Wd.mk2 K p τ H0 h1 h2).I t H) (o : Off [τ] H H') (d : DctAt K τ t' H') : (Wd.mk2 K p τ H0 h1 h2).I t' H' :=
  ⟨I.1.trans (o.mono fun x hx => by rw [List.mem_singleton.mp hx]; simp), (pool_shp K p).off I.2.1 (by simpa using pool_ne I.2.1 I.2.2) o, d⟩
theorem MTags.mono {s s' : List Str} {t : Tags} (h : MTags s t) (g : ∀ x ∈ s', x ∈ s) : MTags s' t := fun x hx => h x (g x hx)
theorem MTags.put {s : List Str} {t : Tags} {n : Str} {v : Int} (h : MTags s t) (h0 : 0 ≤ v) (h1 : v ≤ 19) : MTags (s ++ [n]) (dput t (.inr n) (.int v)) := by
  intro x hx
  rw [dlook_put]
  by_cases e : x = n
  · rw [if_pos (by rw [e])]; exact ⟨v, rfl, h0, h1⟩
  · rw [if_neg fun z => e (Sum.inr.inj z)]
    exact h x ((List.mem_append.mp hx).resolve_right fun z => e (List.mem_singleton.mp z))
section
variable {P : Program} {w : World} {K : PySem.W.Frag} {mg : Str → Option Value} {base : Heap} {cR cM cT aS aD : Addr}
def spMade (K : PySem.W.Frag) (kp : Gr → Str → Prop) (N : Nat) : Sp := SpPl K (α := Gr × Str) (fun a => [grDat a.1, .str a.2]) (fun _ a _ => GrOk a.1 ∧ kp a.1 a.2) fun _ d => BytesD N d
theorem bits_bound {w : Int} (h1 : 1 ≤ w) (h2 : w ≤ 7) : (0 < (1 : Int) * 2 ^ w.toNat ∧ (1 : Int) * 2 ^ w.toNat ≤ 128) ∧ (0 < (1 : Int) * 2 ^ (8 - w).toNat ∧ (1 : Int) * 2 ^ (8 - w).toNat ≤ 128) ∧ ∀ y x : Int, 0 ≤ y → y < 1 * 2 ^ (8 - w).toNat → 0 ≤ x → x < 1 * 2 ^ w.toNat → 0 ≤ y * (1 * 2 ^ w.toNat) + x ∧ y * (1 * 2 ^ w.toNat) + x ≤ 255 := by
  have h : w = 1 ∨ w = 2 ∨ w = 3 ∨ w = 4 ∨ w = 5 ∨ w = 6 ∨ w = 7 := by omega
  rcases h with rfl | rfl | rfl | rfl | rfl | rfl | rfl
  all_goals (refine ⟨⟨by decide, by decide⟩, ⟨by decide, by decide⟩, fun y x y0 y1 x0 x1 => ?_⟩)
  · change y < 128 at y1; change x < 2 at x1; change 0 ≤ y * 2 + x ∧ y * 2 + x ≤ 255; omega
  · change y < 64 at y1; change x < 4 at x1; change 0 ≤ y * 4 + x ∧ y * 4 + x ≤ 255; omega
  · change y < 32 at y1; change x < 8 at x1; change 0 ≤ y * 8 + x ∧ y * 8 + x ≤ 255; omega
  · change y < 16 at y1; change x < 16 at x1; change 0 ≤ y * 16 + x ∧ y * 16 + x ≤ 255; omega
  · change y < 8 at y1; change x < 32 at x1; change 0 ≤ y * 32 + x ∧ y * 32 + x ≤ 255; omega
  · change y < 4 at y1; change x < 64 at x1; change 0 ≤ y * 64 + x ∧ y * 64 + x ≤ 255; omega
  · change y < 2 at y1; change x < 128 at x1; change 0 ≤ y * 128 + x ∧ y * 128 + x ≤ 255; omega
def spMF (K : PySem.W.Frag) (deep : Gr → List Str) (N : Nat) : Sp := fun vs H Q _ => ∃ p τ G f seen t ahead, AtL K H vs [.obj p, grDat G, Fld.dat f, .obj τ, ahead] ∧ PoolAt K p H ∧ DctAt K τ t H ∧ (GrOk G ∧ FldOk seen (deep G) f ∧ MTags seen t ∧ t.length ≤ 100) ∧
  ∀ v H' d t', Off [p, τ] H H' → PoolAt K p H' → DctAt K τ t' H' → At K H' v d → BytesD N d → MTags (seen ++ decl f) t' → t'.length ≤ t.length + 1 → Q v H'
theorem w_made_field (T : Tp K mg w cR cM cT aS aD) {kk N M : Nat} {deep : Gr → List Str} (hkk : 2 ≤ kk) (hM : M ≤ 1000) (hN : 100 ≤ N) (hN2 : N ≤ 100000) (hMN : 20 * M ≤ N ∨ ∀ G, deep G = []) (hMN1 : M ≤ N) (G_law_take : Cl P w K mg base 1 "_law_take" (spPTake K)) (G_law_bytes : Cl P w K mg base 1 "_law_bytes" (spBytes K)) (G_law_garbage : Cl P w K mg base 2 "_law_garbage" (spGarbage K)) (G_law_many : Cl P w K mg base 1 "_law_many" (spMany K))
    (G_law_made : Cl P w K mg base kk "_law_made" (spMade K (fun G k => k ∈ deep G) M)) : Cl P w K mg base (kk + 1) "_law_made_field" (spMF K deep N) := by
  refine Cl.of (ps := ["_law_pool_here", "_law_grammar_here", "_law_field", "_law_tags_here", "_law_ahead"]) T.d_law_made_field (fun f fd F => ?_) fun _ _ _ _ _ _ us hl => match us, hl with | [_, _, _, _, _], _ => rfl
  refine F.ok sc_law_made_field (fun vs H Q E h => ?_) (fun cdv A outer sh H vs Q E hr h => ?_)
  · obtain ⟨p, τ, G, f, seen, t, ahead, al, _⟩ := h
    exact al.len
  obtain ⟨p, τ, G, f, seen, t, ahead, al, pa, da, pre, k⟩ := h
  try dsimp only at pre
  have hu := hu_of hr
  refine ⟨_, (pss_cons (ps_set (i := 5) sc_law_made_field.nd rfl (Or.inl rfl) (pe_ix (k_ixT K) (pv 2) pe_int (fun _ _ => rfl)))
      (pss_cons (ps_if (pt_cmpR op_eq (pv 5) pe_str (nomark _)) (pss_cons (ps_set (i := 6) sc_law_made_field.nd rfl (Or.inl rfl) (pe_op op_add (pe_ix (k_ixT K) (pv 2) pe_int (fun _ _ => rfl)) (k_call G_law_take (hr.mono (by omega)) (pa_cons (pv 0) (pa_cons (pe_callB (k_min rfl) (by rfl) T.n_min (by decide +kernel) (pa_cons pe_int (pa_cons (pe_op op_add (pe_op op_sub (pe_ix (k_ixT K) (pv 2) pe_int (fun _ _ => rfl)) (pe_ix (k_ixT K) (pv 2) pe_int (fun _ _ => rfl))) pe_int) pa_nil))) pa_nil)))))
      (pss_cons (ps_dput hu (pv 3) (pe_ix (k_ixT K) (pv 2) pe_int (fun _ _ => rfl)) (pv 6) rfl)
      (pss_one (ps_ret (k_call G_law_bytes (hr.mono (by omega)) (pa_cons (pv 6) (pa_cons (pe_ix (k_ixT K) (pv 2) pe_int (fun _ _ => rfl)) (pa_cons (pe_ix (k_ixT K) (pv 2) pe_int (fun _ _ => rfl)) pa_nil)))))))) pss_nil)
      (pss_cons (ps_if (pt_cmpR op_eq (pv 5) pe_str (nomark _)) (pss_cons (ps_asg (pe_ix (k_ixT K) (pe_ix (k_ixT K) (pv 2) pe_int (fun _ _ => rfl)) pe_int (fun _ _ => rfl)) (k_tup K rfl (pgs_cons (pg_name (i := 7) sc_law_made_field.nd rfl (Or.inl rfl)) (pgs_cons (pg_name (i := 8) sc_law_made_field.nd rfl (Or.inl rfl)) pgs_nil))))
      (pss_cons (ps_dput hu (pv 3) (pv 7) (k_call G_law_take (hr.mono (by omega)) (pa_cons (pv 0) (pa_cons (pe_callB (k_min rfl) (by rfl) T.n_min (by decide +kernel) (pa_cons pe_int (pa_cons (pe_op op_shl pe_int (pv 8)) pa_nil))) pa_nil))) rfl)
      (pss_one (ps_ret (pe_tupF (pa_cons (pe_op op_add (pe_op op_mul (k_call G_law_take (hr.mono (by omega)) (pa_cons (pv 0) (pa_cons (pe_op op_shl pe_int (pe_op op_sub pe_int (pv 8))) pa_nil))) (pe_op op_shl pe_int (pv 8))) (pe_dget hu (pv 3) (pv 7) (fun _ _ => rfl))) pa_nil)))))) pss_nil)
      (pss_cons (ps_if (pt_cmpR op_eq (pv 5) pe_str (nomark _)) (pss_one (ps_ret (k_call G_law_garbage (hr.mono (by omega)) (pa_cons (pv 0) (pa_cons (pe_callB (k_max rfl) (by rfl) T.n_max (by decide +kernel) (pa_cons pe_int (pa_cons (k_call G_law_many (hr.mono (by omega)) (pa_cons (pe_ix (k_ixT K) (pv 2) pe_int (fun _ _ => rfl)) (pa_cons (pv 3) (pa_cons (k_call G_law_take (hr.mono (by omega)) (pa_cons (pv 0) (pa_cons pe_int pa_nil))) pa_nil)))) pa_nil))) pa_nil))))) pss_nil)
      (pss_cons (ps_if (pt_cmpR op_eq (pv 5) pe_str (nomark _)) (pss_one (ps_ret (pe_op (k_cat K) (pe_callTy (k_tupOf K) (by rfl) T.n_tuple (by decide +kernel) (pa_cons (pe_lc (g := (gName 15)) rfl sc_law_made_field.nd (k_forT K (k_call G_law_garbage (hr.mono (by omega)) (pa_cons (pv 0) (pa_cons pe_int pa_nil)))) (blkOk_by (own := [("_law_byte", 15)]) (N := ["_law_pool_here", "_law_grammar_here", "_law_field", "_law_tags_here", "_law_ahead", "_law_word", "_law_worth", "_law_name", "_law_width", "_law_size", "_law_kinds", "_law_many_here", "_law_found", "_law_turn", "_law_deeper", "_law_byte"]) (sc := defScope s_law_made_field) (by decide +kernel)) (fun _ _ _ _ _ => (pg_name (i := 15) sc_law_made_field.nd rfl (Or.inl rfl))) (fun _ _ _ _ _ => (pts_one (pt_cmpR (k_neD K hr.units) (pv 15) (pe_ix (k_ixT K) (pv 2) pe_int (fun _ _ => rfl)) (nomark _)))) (fun _ _ _ _ _ => (pv 15))) pa_nil)) (pe_tupF (pa_cons (pe_ix (k_ixT K) (pv 2) pe_int (fun _ _ => rfl)) pa_nil))))) pss_nil)
      (pss_cons (ps_if (pt_cmpR op_eq (pv 5) pe_str (nomark _)) (pss_cons ps_never
      (pss_one (ps_ret (k_call G_law_bytes (hr.mono (by omega)) (pa_cons (pv 6) (pa_cons (pv 9) (pa_cons pe_str pa_nil))))))) pss_nil)
      (pss_cons (ps_if (pt_cmpR op_eq (pv 5) pe_str (nomark _)) (pss_cons (ps_set (i := 10) sc_law_made_field.nd rfl (Or.inl rfl) (pe_callTy (k_dictT K rfl) (by rfl) T.n_dict (by decide +kernel) (pa_cons (pe_ix (k_ixT K) (pv 2) pe_int (fun _ _ => rfl)) pa_nil)))
      (pss_one (ps_ret (pe_ifExp (pt_cmp (pc_din hu (pe_dget hu (pv 3) (pe_ix (k_ixT K) (pv 2) pe_int (fun _ _ => rfl)) (fun _ _ => rfl)) (pv 10))) (k_call G_law_made (hr.mono (by omega)) (pa_cons (pv 0) (pa_cons (pv 1) (pa_cons (pe_dget hu (pv 10) (pe_dget hu (pv 3) (pe_ix (k_ixT K) (pv 2) pe_int (fun _ _ => rfl)) (fun _ _ => rfl)) (fun _ _ => rfl)) pa_nil)))) (pe_tupF pa_nil))))) pss_nil)
      (pss_cons (ps_if (pt_cmpR op_eq (pv 5) pe_str (nomark _)) (pss_cons (ps_set (i := 11) sc_law_made_field.nd rfl (Or.inl rfl) (pe_ifExp (pt_cmpR (k_eqD K hr.units) (pe_ix (k_ixT K) (pv 2) pe_int (fun _ _ => rfl)) (pe_tupF (pa_cons pe_str pa_nil)) (nomark _)) (k_call G_law_take (hr.mono (by omega)) (pa_cons (pv 0) (pa_cons pe_int pa_nil))) (pe_dget hu (pv 3) (pe_ix (k_ixT K) (pe_ix (k_ixT K) (pv 2) pe_int (fun _ _ => rfl)) pe_int (fun _ _ => rfl)) (fun _ _ => rfl))))
      (pss_cons (ps_set (i := 12) sc_law_made_field.nd rfl (Or.inl rfl) (pe_tupF pa_nil))
      (pss_cons (ps_for PassesOwn.never rfl (pi_range1 (by rfl) T.n_range (pa_cons (pv 11) pa_nil)) (pg_name (i := 13) sc_law_made_field.nd rfl (Or.inl rfl)) (pss_one (ps_set (i := 12) sc_law_made_field.nd rfl (Or.inl rfl) (pe_op (k_cat K) (pv 12) (k_call G_law_made (hr.mono (by omega)) (pa_cons (pv 0) (pa_cons (pv 1) (pa_cons (pe_ix (k_ixT K) (pv 2) pe_int (fun _ _ => rfl)) pa_nil))))))))
      (pss_one (ps_ret (pv 12)))))) pss_nil)
      (pss_cons (ps_set (i := 14) sc_law_made_field.nd rfl (Or.inl rfl) (k_call G_law_made (hr.mono (by omega)) (pa_cons (pv 0) (pa_cons (pv 1) (pa_cons (pe_ix (k_ixT K) (pv 2) pe_int (fun _ _ => rfl)) pa_nil)))))
      (pss_cons (ps_set (i := 11) sc_law_made_field.nd rfl (Or.inl rfl) (pe_callB (k_max rfl) (by rfl) T.n_max (by decide +kernel) (pa_cons pe_int (pa_cons (k_call G_law_many (hr.mono (by omega)) (pa_cons (pe_ix (k_ixT K) (pv 2) pe_int (fun _ _ => rfl)) (pa_cons (pv 3) (pa_cons (pe_callB (k_len K) (by rfl) T.n_len (by decide +kernel) (pa_cons (pv 14) pa_nil)) pa_nil)))) pa_nil))))
      (pss_one (ps_ret (pe_slice (k_slT K) (pe_op (k_cat K) (pv 14) (pe_op (k_rep K) (pe_tupF (pa_cons pe_int pa_nil)) (pv 11))) po_none (po_some (pv 11))))))))))))))), ?_⟩
  obtain ⟨hG, ok, tg, htl⟩ := pre
  have h1 : H p ≠ none := (pool_shp K p).trk pa
  have h2 : H τ ≠ none := (dct_shp K τ _).trk da
  have st : Stays (Wd.mk2 K p τ H h1 h2) p (PoolAt K p) := mk2_stays
  refine nx_go (W := Wd.mk2 K p τ H h1 h2) (i := t) ?_ ⟨Off.refl, pa, da⟩ (Sls.start al _ rfl)
  have fin : ∀ {H' : Hp} {v : V} {d : Dat} {t' : Tags}, (Wd.mk2 K p τ H h1 h2).I t' H' → At K H' v d → BytesD N d → MTags (seen ++ decl f) t' → t'.length ≤ t.length + 1 → Q v H' := fun I a b c e => k _ _ _ _ I.1 I.2.1 I.2.2 a b c e
  have keep : (decl f = []) → MTags (seen ++ decl f) t := fun e => by rw [e, List.append_nil]; exact tg
  have hk : ([some (.obj p), some (grDat G), some f.dat, some (.obj τ), some ahead, none, none, none, none, none, none, none, none, none, none, none] : Ctx)[2]? = some (some (.tup (.str f.word :: f.tl))) := by rw [← f.dat_eq]; rfl
  have hbd : ∀ {n : Nat} {d : Dat}, n ≤ N → BytesD n d → BytesD N d := fun h ⟨xs, a, b, c⟩ => ⟨xs, a, b, by omega⟩
  refine sq_set (ev_op (ev_var (by exact hk) (ev_int (op_ixT atI0 ?_))))
  refine sq_when (et_test (ev_op (ev_var rfl (ev_str (op_eqS ⟨_, rfl, ifD (fun e => ?_) fun e1 => ?_⟩)))))
  · obtain ⟨n, sz, o, l, m, rfl⟩ := f.inv.1 e
    obtain ⟨_, hsz, _, hl0, hl1, hlm, hm⟩ := ok
    refine sq_set (ev_op (ev_ix (ds := [.str "number", .str n, .int sz, .str o, .int l, .int m]) rfl rfl ?_))
    refine ev_take st rfl (ev_min2 (ev_int (ev_op (ev_op (ev_ix (ds := [.str "number", .str n, .int sz, .str o, .int l, .int m]) rfl rfl ?_)))))
    refine ev_ix (ds := [.str "number", .str n, .int sz, .str o, .int l, .int m]) rfl rfl (op_int0 ?_)
    refine ev_int (op_int0 ⟨_, _, rfl, rfl, _, rfl, ⟨by split <;> omega, by split <;> omega⟩, fun x x0 x1 => op_int0 ?_⟩)
    have hx : x < 10 := by
      split at x1
      · omega
      · omega
    refine sq_dputG (ev_var rfl (ev_var rfl (ev_ix (ds := [.str "number", .str n, .int sz, .str o, .int l, .int m]) rfl rfl ⟨τ, t, .inr n, _, rfl, rfl, fun I => I.2.2, by omega, fun I o d => mk2_put I o d, ?_⟩)))
    refine nx_ret (ev_call (ea_cons (ev_var rfl (ea_cons (ev_ix (ds := [.str "number", .str n, .int sz, .str o, .int l, .int m]) rfl rfl ?_)))))
    refine ea_cons (ev_ix (ds := [.str "number", .str n, .int sz, .str o, .int l, .int m]) rfl rfl (ea_nil ?_))
    refine call_A (l + x, sz, o) rfl (fun _ => hsz) ?_
    intro d hd
    exact rt_of fun H' v I z => fin I z (hbd (by omega) hd) (tg.put (by omega) (by omega)) (dput_len _ _ _)
  refine sq_when (et_test (ev_op (ev_var rfl (ev_str (op_eqS ⟨_, rfl, ifD (fun e => ?_) fun e2 => ?_⟩)))))
  · obtain ⟨n1, v1, n2, w2, rfl⟩ := f.inv.2.1 e
    obtain ⟨_, _, hv1, hv2, hw⟩ := ok
    have hw1 : 1 ≤ w2 ∧ w2 ≤ 7 := by omega
    refine sq_asg (ev_ix2 (ds := [.str "bits", .tup [.tup [.str n1, .int v1], .tup [.str n2, .int w2]]]) (es := [.tup [.str n1, .int v1], .tup [.str n2, .int w2]]) rfl rfl rfl ?_)
    refine tg_tup (ds := [.str n2, .int w2]) rfl (tgs_cons (tg_name (tgs_cons (tg_name (tgs_nil ?_)))))
    obtain ⟨q1, q2, q3⟩ := bits_bound hw1.1 hw1.2
    refine sq_dputG (ev_take st rfl (ev_min2 (ev_int (ev_op (ev_int (ev_var rfl ?_))))))
    refine op_int1 ⟨by omega, by omega, by decide⟩ ⟨4, 1 * 2 ^ w2.toNat, rfl, rfl, _, rfl, ⟨by split <;> omega, by split <;> omega⟩, fun x x0 x1 => ?_⟩
    have hx4 : x < 4 := by split at x1 <;> omega
    have hx2 : x < 1 * 2 ^ w2.toNat := by split at x1 <;> omega
    refine ev_var rfl (ev_var rfl ⟨τ, t, .inr n2, _, rfl, rfl, fun I => I.2.2, by omega, fun I o d => mk2_put I o d, ?_⟩)
    refine nx_ret (ev_tup (ea_cons (ev_op (ev_op (ev_take st rfl ?_)))))
    refine ev_op (ev_int (ev_op (ev_int (ev_var rfl (op_int0 ?_)))))
    refine op_int1 ⟨by omega, by omega, by decide⟩ ⟨1 * 2 ^ (8 - w2).toNat, rfl, ⟨by omega, by omega⟩, fun y y0 y1 => ?_⟩
    refine ev_op (ev_int (ev_var rfl (op_int1 ⟨by omega, by omega, by decide⟩ ?_)))
    refine op_int1 (.inr ⟨by omega, by omega⟩) ?_
    refine ev_dget (ev_var rfl (ev_var rfl ⟨τ, _, n2, .int x, rfl, fun I => I.2.2, rfl, by rw [dlook_put, if_pos rfl], ?_⟩))
    refine op_int0 (ea_nil ⟨by show 1 ≤ 1000; decide, ?_⟩)
    obtain ⟨z1, z2⟩ := q3 y x y0 y1 x0 hx2
    exact rt_of fun H' v I z => fin I z ⟨[y * (1 * 2 ^ w2.toNat) + x], rfl, fun u hu => by rw [List.mem_singleton.mp hu]; exact ⟨z1, z2⟩, by show 1 ≤ N; omega⟩ (tg.put x0 (by omega)) (dput_len _ _ _)
  have many : ∀ {W' : Wd Tags} {i : Tags} (l : Ln) (left : Int) (Pd : Tags → Dat → Prop), LnOk seen l → (∀ {H' : Hp}, W'.I i H' → DctAt K τ t H') → (∀ n : Int, (n ≤ 100 ∨ n ≤ left) → Pd i (.int n)) → CallOk K W' i (spMany K) [l.dat, .obj τ, .int left] Pd := fun l left Pd hl hd hp =>
    call_A (l, τ, left, seen, t) rfl (fun I => ⟨hd I, hl, tg⟩) (by rintro _ ⟨n, rfl, hn⟩; exact hp n hn)
  refine sq_when (et_test (ev_op (ev_var rfl (ev_str (op_eqS ⟨_, rfl, ifD (fun e => ?_) fun e3 => ?_⟩)))))
  · obtain ⟨n, l, rfl⟩ := f.inv.2.2.1 e
    refine nx_ret (ev_call (ea_cons (ev_var rfl (ea_cons (ev_max2 (ev_int (ev_call ?_)))))))
    refine ea_cons (ev_ix (ds := [.str "bytes", .str n, l.dat]) rfl rfl (ea_cons (ev_var rfl (ea_cons (ev_takeC st rfl (by decide) fun x x0 x1 => ea_nil ?_)))))
    refine many l x _ ok.2 (fun I => I.2.2) fun c hc => ⟨0, c, rfl, rfl, ea_nil ?_⟩
    refine call_Pl st (if c > 0 then c else 0) rfl (fun _ => ⟨by split <;> omega, by split <;> omega⟩) ?_
    intro d hd
    exact rt_of fun H' v I z => fin I z (hbd (by split <;> omega) hd) (keep rfl) (Nat.le_succ _)
  refine sq_when (et_test (ev_op (ev_var rfl (ev_str (op_eqS ⟨_, rfl, ifD (fun e => ?_) fun e4 => ?_⟩)))))
  · obtain ⟨n, m, rfl⟩ := f.inv.2.2.2.1 e
    obtain ⟨_, hm0, hm1⟩ := ok
    refine nx_ret (ev_op (ev_tupOf (el_lcT (ev_call (ea_cons (ev_var rfl (ea_cons (ev_int (ea_nil ?_)))))))))
    refine call_Pl st 3 rfl (fun _ => ⟨by decide, by decide⟩) ?_
    rintro _ ⟨xs, rfl, hx1, hx2⟩
    have hx2' : xs.length ≤ 3 := hx2
    refine ⟨_, rfl, fun b => ?_⟩
    refine lc_name (k := 15) (wk_tup fun x => x.2) (by rw [List.length_map]; omega) (fun c j acc => j = t ∧ ∃ ys : List Int, acc = ys.map Dat.int ∧ (∀ y ∈ ys, 0 ≤ y ∧ y ≤ 255) ∧ ys.length ≤ c) ⟨rfl, [], rfl, by simp, Nat.le_refl _⟩ (by decide) ?_ ?_
    · rintro c j acc d pp np hc hcd ⟨hj, ys, rfl, hy1, hy2⟩
      obtain ⟨y, hy, rfl⟩ := get_map hcd
      refine et_test (ev_op (ev_var rfl (ev_ix (ds := [.str "text", .str n, .int m]) rfl rfl (op_neD (n := 0) (m := 0) rfl rfl (by decide) (by decide) ⟨_, rfl, ifB (fun _ => ?_) fun _ => ?_⟩))))
      · refine ev_var rfl ⟨hj, ys ++ [y], by simp, ?_, by simp; omega⟩
        intro u hu
        rcases List.mem_append.mp hu with e | e
        · exact hy1 u e
        · rw [List.mem_singleton.mp e]; exact hx1 y (List.mem_of_getElem? hy)
      · exact ⟨hj, ys, rfl, hy1, by omega⟩
    rintro j acc ⟨hj, ys, rfl, hy1, hy2⟩
    subst hj
    rw [List.length_map] at hy2
    refine ev_tup (ea_cons (ev_ix (ds := [.str "text", .str n, .int m]) rfl rfl (ea_nil ⟨by show 1 ≤ 1000; decide, op_cat (by rw [List.length_map, List.length_singleton]; omega) ?_⟩)))
    refine rt_of fun H' v I z => fin I z ⟨ys ++ [m], by rw [bytesD, List.map_append]; rfl, ?_, by rw [List.length_append, List.length_singleton]; omega⟩ (keep rfl) (Nat.le_succ _)
    intro u hu
    rcases List.mem_append.mp hu with e | e
    · exact hy1 u e
    · rw [List.mem_singleton.mp e]; exact ⟨hm0, hm1⟩
  refine sq_when (et_test (ev_op (ev_var rfl (ev_str (op_eqS ⟨_, rfl, ifD (fun e => absurd e (ne_sum f)) fun e5 => ?_⟩)))))
  refine sq_when (et_test (ev_op (ev_var rfl (ev_str (op_eqS ⟨_, rfl, ifD (fun e => ?_) fun e6 => ?_⟩)))))
  · obtain ⟨n, tg', ks, rfl⟩ := f.inv.2.2.2.2.1 e
    obtain ⟨_, htag, hks, hnd, hkl, hkd⟩ := id ok
    obtain ⟨v, hv, v0, v1⟩ := tg tg' htag
    refine sq_setD (ed_dictT (ev_ix (ds := [.str "choice", .str n, .str tg', .tup (ks.map fun q => .tup [.int q.1, .str q.2])]) rfl rfl ⟨ks.map fun q => ((.inl q.1 : Key), Dat.str q.2), by rw [List.map_map]; rfl, fun pd npd => ?_⟩))
    have hlk : dlook (dmerge [] (ks.map fun q => ((.inl q.1 : Key), Dat.str q.2))) (.inl v) = (ks.lookup v).map Dat.str := by
      rw [dmerge_look, kinds_look]
      · cases ks.lookup v <;> rfl
      · rw [List.map_map]
        have : (ks.map ((fun q : Key × Dat => q.1) ∘ fun q : Int × Str => ((.inl q.1 : Key), Dat.str q.2))) = (ks.map (·.1)).map Sum.inl := by rw [List.map_map]; rfl
        rw [this]
        exact List.Pairwise.map _ (fun a b hab z => hab (Sum.inl.inj z)) hnd
    have sto := st.own (s := dct_shp K pd (dmerge [] (ks.map fun q => ((.inl q.1 : Key), Dat.str q.2)))) (np := npd)
    refine nx_ret (ev_ifx (et_din (ev_dget (ev_var rfl ?_))))
    refine ev_ix (ds := [.str "choice", .str n, .str tg', .tup (ks.map fun q => .tup [.int q.1, .str q.2])]) rfl rfl ⟨τ, t, tg', _, rfl, fun I => I.1.2.2, rfl, hv, ?_⟩
    refine ev_var rfl ⟨pd, _, .inl v, rfl, fun I => I.2, rfl, ?_⟩
    rw [hlk]
    cases hl : ks.lookup v with
    | none => exact ifF rfl (ev_tup (ea_nil ⟨by decide, rt_of fun H' v I z => fin I.1 z ⟨[], rfl, by simp, by show 0 ≤ N; omega⟩ (keep rfl) (Nat.le_succ _)⟩))
    | some kd =>
      refine ifT rfl (ev_call (ea_cons (ev_var rfl (ea_cons (ev_var rfl ?_)))))
      refine ea_cons (ev_dgetI (ev_var rfl (ev_dget (ev_var rfl ?_))))
      refine ev_ix (ds := [.str "choice", .str n, .str tg', .tup (ks.map fun q => .tup [.int q.1, .str q.2])]) rfl rfl ⟨τ, t, tg', _, rfl, fun I => I.1.2.2, rfl, hv, pd, _, v, .str kd, rfl, fun I => I.2, rfl, by rw [hlk, hl]; rfl, ea_nil ?_⟩
      refine call_Pl sto (G, kd) rfl (fun _ => ⟨hG, hkd _ (lookup_mem hl)⟩) ?_
      intro d hd
      exact rt_of fun H' v I z => fin I.1 z (hbd hMN1 hd) (keep rfl) (Nat.le_succ _)
  refine sq_when (et_test (ev_op (ev_var rfl (ev_str (op_eqS ⟨_, rfl, ifD (fun e => ?_) fun e7 => ?_⟩)))))
  · obtain ⟨n, kd, tg', rfl⟩ := f.inv.2.2.2.2.2.1 e
    obtain ⟨_, hkd, htag⟩ := id ok
    have hM20 : 20 * M ≤ N := hMN.resolve_right fun z => by rw [z G] at hkd; cases hkd
    have hfine : (rowEnd tg').fine 1 = true := by
      cases tg' with
      | none => decide +kernel
      | some x =>
        have : PyData.strOk x = true := (htag x rfl).2
        simp [Dat.fine, rowEnd, Dat.fineL, this]
        decide +kernel
    have heq : PyData.eqv (rowEnd tg').py (Dat.tup [.str "rest"]).py = tg'.isNone := by cases tg' <;> rfl
    refine sq_set (Ev.imp (P := fun j d => j = t ∧ ∃ c : Int, d = .int c ∧ 0 ≤ c ∧ c ≤ 19) ?_ ?_)
    · refine ev_ifx (et_test (ev_op (ev_ix (ds := [.str "row", .str n, .str kd, rowEnd tg']) rfl rfl ?_)))
      refine ev_tup (ea_cons (ev_str (ea_nil ⟨by show 1 ≤ 1000; decide, ?_⟩)))
      refine op_eqD (n := 1) (m := 1) hfine (by decide +kernel) (by decide) (by decide) ⟨_, rfl, ?_⟩
      rw [heq]
      cases tg' with
      | none => exact ifT rfl (ev_takeC st rfl (by decide) fun x x0 x1 => ⟨rfl, x, rfl, x0, by omega⟩)
      | some x =>
        obtain ⟨v, hv, v0, v1⟩ := tg x (htag x rfl).1
        refine ifF rfl (ev_dget (ev_var rfl ?_))
        exact ev_ix2 (ds := [.str "row", .str n, .str kd, rowEnd (some x)]) (es := [.str "of", .str x]) rfl rfl rfl ⟨τ, t, x, _, rfl, fun I => I.2.2, rfl, hv, rfl, v, rfl, v0, v1⟩
    rintro j d ⟨hj, c, rfl, c0, c1⟩
    subst hj
    refine sq_set (ev_tup (ea_nil ⟨by decide, ?_⟩))
    refine sq_forR (ea_cons (ev_var rfl (ea_nil ⟨c, rfl, ⟨by omega, by omega⟩, ?_⟩)))
    have hc : c.toNat ≤ 19 := by omega
    generalize c.toNat = cn at hc
    refine sq_loop (κ := Unit) (Wf := fun _ => Wd.mk2 K p τ H h1 h2) (fun m _ i Γ => i = j ∧ ∃ (xs : List Int) (x13 : Option Dat), (∀ y ∈ xs, 0 ≤ y ∧ y ≤ 255) ∧ xs.length ≤ m * M ∧ Γ = [some (.obj p), some (grDat G), some (Fld.row n kd tg').dat, some (.obj τ), some ahead, some (.str (Fld.row n kd tg').word), none, none, none, none, none, some (.int c), some (bytesD xs), x13, none, none]) () (fun _ => wk_rng) ?_ ?_ ?_
    · exact ⟨rfl, [], none, by simp, by simp, rfl⟩
    · rintro m _ i Γ d hm rfl ⟨hi, xs, x13, h3, h4, rfl⟩
      subst hi
      refine tg_name (nx_set (ev_op (ev_var rfl (ev_call (ea_cons (ev_var rfl (ea_cons (ev_var rfl (ea_cons ?_)))))))))
      refine ev_ix (ds := [.str "row", .str n, .str kd, rowEnd tg']) rfl rfl (ea_nil ?_)
      refine call_Pl st (G, kd) rfl (fun _ => ⟨hG, hkd⟩) ?_
      rintro _ ⟨ys, rfl, hy1, hy2⟩
      have hmM : m * M ≤ 19 * M := Nat.mul_le_mul_right _ (by omega)
      refine op_cat (by rw [List.length_map, List.length_map]; omega) ?_
      have ebd : bytesD (xs ++ ys) = .tup (xs.map Dat.int ++ ys.map Dat.int) := by rw [bytesD, List.map_append]
      refine fun H' σ I E => Lp.of () I E ⟨rfl, xs ++ ys, some (.int ((0 : Int) + (m : Nat))), ?_, ?_, by rw [ebd]; rfl⟩
      · intro u hu
        rcases List.mem_append.mp hu with e | e
        · exact h3 u e
        · exact hy1 u e
      · rw [List.length_append, Nat.succ_mul]; omega
    · rintro _ i Γ ⟨hi, xs, x13, h3, h4, rfl⟩
      subst hi
      have hmM : cn * M ≤ 19 * M := Nat.mul_le_mul_right _ hc
      exact nx_ret (ev_var rfl (rt_of fun H' v I z => fin I z ⟨xs, rfl, h3, by omega⟩ (keep rfl) (Nat.le_succ _)))
  obtain ⟨n, l, kd, rfl⟩ : ∃ n l kd, f = .carried n l kd := by
    cases f with
    | number => exact absurd rfl e1
    | bits => exact absurd rfl e2
    | bytes => exact absurd rfl e3
    | text => exact absurd rfl e4
    | choice => exact absurd rfl e6
    | row => exact absurd rfl e7
    | carried n l kd => exact ⟨_, _, _, rfl⟩
  obtain ⟨_, hl, hkd⟩ := id ok
  refine sq_set (ev_call (ea_cons (ev_var rfl (ea_cons (ev_var rfl ?_)))))
  refine ea_cons (ev_ix (ds := [.str "carried", .str n, l.dat, .str kd]) rfl rfl (ea_nil ?_))
  refine call_Pl st (G, kd) rfl (fun _ => ⟨hG, hkd⟩) ?_
  rintro _ ⟨xs, rfl, hx1, hx2⟩
  refine sq_set (ev_max2 (ev_int (ev_call ?_)))
  refine ea_cons (ev_ix (ds := [.str "carried", .str n, l.dat, .str kd]) rfl rfl (ea_cons (ev_var rfl ?_)))
  refine ea_cons (ev_lenT (ev_var rfl ⟨_, rfl, ea_nil ?_⟩))
  rw [List.length_map]
  refine many l xs.length _ hl (fun I => I.2.2) fun c hc => ⟨0, c, rfl, rfl, ?_⟩
  have hm : ∃ m : Int, (if c > 0 then c else 0) = m ∧ 0 ≤ m ∧ m ≤ 1000 ∧ m ≤ N := ⟨_, rfl, by split <;> omega, by split <;> omega, by split <;> omega⟩
  obtain ⟨m, hm, m0, m1, m2⟩ := hm
  rw [hm]
  refine nx_ret (ev_slT (ev_op (ev_var rfl (ev_op (ev_tup ?_)))))
  refine ea_cons (ev_int (ea_nil ⟨by show 1 ≤ 1000; decide, ev_var rfl (op_rep m0 (by omega) (by simp) (by decide) ?_)⟩))
  have er : (List.replicate m.toNat [Dat.int 0]).flatten = (List.replicate m.toNat (0 : Int)).map Dat.int := by
    induction m.toNat with
    | zero => rfl
    | succ a ih => rw [List.replicate_succ, List.flatten_cons, ih, List.replicate_succ]; rfl
  rw [er]
  refine op_cat (by rw [List.length_map, List.length_map, List.length_replicate]; omega) ?_
  refine eo_none (eo_some (ev_var rfl ⟨m, rfl, _, rfl, ?_⟩))
  have ec : cutD (xs.map Dat.int ++ (List.replicate m.toNat (0 : Int)).map Dat.int) none (some m) = ((xs ++ List.replicate m.toNat 0).take m.toNat).map Dat.int := by
    rw [← List.map_append]
    unfold cutD HT.sIx
    have e1 : ¬ m < 0 := by omega
    simp only [e1, if_false, List.drop_zero, Nat.sub_zero]
    rw [← List.map_take, List.length_map]
    have e2 : min m.toNat (xs ++ List.replicate m.toNat (0 : Int)).length = m.toNat := by rw [List.length_append, List.length_replicate]; omega
    rw [e2]
  rw [ec]
  refine rt_of fun H' v I z => fin I z ⟨_, rfl, fun u hu => ?_, by rw [List.length_take]; omega⟩ (keep rfl) (Nat.le_succ _)
  rcases List.mem_append.mp (List.mem_of_mem_take hu) with e | e
  · exact hx1 u e
  · rw [(List.mem_replicate.mp e).2]; exact ⟨by decide, by decide⟩
end
end Lb
/-! text LbL9 -/
/-! Walk: _law_made. -/
namespace Lb
open PySem L2
def Wd.mk3 (K : PySem.W.Frag) (p τ : Addr) (H0 : Hp) (h1 : H0 p ≠ none) (h2 : H0 τ = none) : Wd Tags where
  A := [p, τ]
  C := fun q => q = τ ∨ H0 q ≠ none
  I := fun t H => Off [p] H0 H ∧ PoolAt K p H ∧ DctAt K τ t H
  clm := fun {i H q} g m z => by
    by_cases hq2 : q = τ
    · rw [hq2] at z; exact (dct_shp K τ _).trk g.2.2 z
    · by_cases hq : q = p
      · rw [hq] at z; exact (pool_shp K p).trk g.2.1 z
      · cases e : H0 q with
        | none => exact (m.resolve_left hq2) e
        | some o => rw [g.1.at_ e (by simp [hq])] at z; cases z
  off := fun {i B H H'} g m o => ⟨fun b u e x => o b u (g.1 b u e x) fun z => absurd (.inr (show H0 b ≠ none by rw [e]; exact fun q => nomatch q)) (m b z), (pool_shp K p).off g.2.1 (fun z => m _ z (.inr h1)) o, g.2.2.off (fun z => m _ z (.inl rfl)) o⟩
  trk := fun {a} g => by
    rcases List.mem_cons.mp g with e | e
    · rw [e]; exact .inr h1
    · rw [List.mem_singleton.mp e]; exact .inl rfl
section
variable {P : Program} {w : World} {K : PySem.W.Frag} {mg : Str → Option Value} {base : Heap} {cR cM cT aS aD : Addr}
theorem raw_dnew {k : Nat} {D : Ends} {tr : TS} {σ : L2.St} {H : Hp} (h : ∀ τ, H τ = none → tr D (σ.set k (some (.ref τ))) (upd H τ (.dK []))) : tSeq (tAsg tDNewK (gName k)) tr D σ H := h
theorem call_MF {deep : Gr → List Str} {N : Nat} {p τ : Addr} {H0 : Hp} {h1 : H0 p ≠ none} {h2 : H0 τ = none} {v : V} {d0 : Dat} {t : Tags} {G : Gr} {f : Fld} {seen : List Str} {ahead : Dat} {P' : Tags → Dat → Prop} (pre : GrOk G ∧ FldOk seen (deep G) f ∧ MTags seen t ∧ t.length ≤ 100)
    (q : ∀ d t', BytesD N d → MTags (seen ++ decl f) t' → t'.length ≤ t.length + 1 → P' t' d) : CallOk K ((Wd.mk3 K p τ H0 h1 h2).keep K v d0) t (spMF K deep N) [.obj p, grDat G, f.dat, .obj τ, ahead] P' := fun H vs I al Q k =>
  ⟨p, τ, G, f, seen, t, ahead, al, I.1.2.1, I.1.2.2, pre, fun v H' d t' o pa da at' bd mt tl => k v H' t' d o ⟨⟨(fun b u e m => o b u (I.1.1 b u e m) fun z => by
    rcases List.mem_cons.mp z with c | c
    · exact m (by rw [c]; exact List.mem_cons_self)
    · rw [List.mem_singleton.mp c, h2] at e; cases e), pa, da⟩, I.2.mono o⟩ at' (q d t' bd mt tl)⟩
theorem w_made (T : Tp K mg w cR cM cT aS aD) {kk N : Nat} {deep : Gr → List Str} {kp : Gr → Str → Prop} (hN : N ≤ 100000) (hkp : ∀ G k, GrOk G → kp G k → k ∈ namesOf G ∧ FsOk (deep G) [] (fieldsOf G k) ∧ (fieldsOf G k).length ≤ 10) (G_law_made_field : Cl P w K mg base kk "_law_made_field" (spMF K deep N)) : Cl P w K mg base (kk + 1) "_law_made" (spMade K kp (10 * N)) := by
  refine Cl.of (ps := ["_law_pool_here", "_law_grammar_here", "_law_sort"]) T.d_law_made (fun f fd F => ?_) fun _ _ _ _ _ _ us hl => match us, hl with | [_, _, _], _ => rfl
  refine F.ok sc_law_made (fun vs H Q E h => ?_) (fun cdv A outer sh H vs Q E hr h => ?_)
  · obtain ⟨p, ⟨G, kd⟩, al, _⟩ := h
    exact al.len
  obtain ⟨p, ⟨G, kd⟩, al, pa, pre, k⟩ := h
  try dsimp only at pre
  have hu := hu_of hr
  refine ⟨_, (pss_cons (ps_set (i := 3) sc_law_made.nd rfl (Or.inl rfl) pe_dnewK)
      (pss_cons (ps_set (i := 4) sc_law_made.nd rfl (Or.inl rfl) (pe_tupF pa_nil))
      (pss_cons (ps_for PassesOwn.never rfl (k_forT K (pe_dget hu (pe_callTy (k_dictT K rfl) (by rfl) T.n_dict (by decide +kernel) (pa_cons (pv 1) pa_nil)) (pv 2) (fun _ _ => rfl))) (pg_name (i := 5) sc_law_made.nd rfl (Or.inl rfl)) (pss_one (ps_set (i := 4) sc_law_made.nd rfl (Or.inl rfl) (pe_op (k_cat K) (pv 4) (k_call G_law_made_field (hr.mono (by omega)) (pa_cons (pv 0) (pa_cons (pv 1) (pa_cons (pv 5) (pa_cons (pv 3) (pa_cons (pv 4) pa_nil))))))))))
      (pss_one (ps_ret (pv 4)))))), ?_⟩
  obtain ⟨hG, hk⟩ := pre
  obtain ⟨hkn, hfs, hfl⟩ := hkp G kd hG hk
  have hp : H p ≠ none := (pool_shp K p).trk pa
  refine nx_go (W := Wd.pw K p H hp) (i := ()) ?_ ⟨Off.refl, pa⟩ (Sls.start al _ rfl)
  refine fun H1 σ1 I1 E1 => raw_dnew fun τ hτ => ?_
  have τ0 : H τ = none := Classical.byContradiction fun z => (Wd.pw K p H hp).nc I1 hτ z
  have hpτ : p ≠ τ := fun z => hp (by rw [z]; exact τ0)
  have o1 : Off [p] H (upd H1 τ (.dK [])) := I1.1.trans (Off.new hτ)
  refine nx_go (W := Wd.mk3 K p τ H hp τ0) (i := []) (Γ := [some (.obj p), some (grDat G), some (.str kd), some (.obj τ), none, none]) ?_ ⟨o1, (pool_shp K p).off I1.2 (A := []) (by simp) (Off.new hτ), ⟨[], upd_same, .nil⟩⟩ ((E1.mono (Off.new (A := []) hτ)).set 3 (.obj τ))
  refine sq_set (ev_tup (ea_nil ⟨by decide, ?_⟩))
  obtain ⟨q, hq, rfl⟩ := List.mem_map.mp hkn
  obtain ⟨mi, hq'⟩ := List.mem_iff_getElem?.mp hq
  have hlk : dlook (dmerge [] (tblOf G)) (.inr q.1) = some (.tup (q.2.map Fld.dat)) := by
    rw [dmerge_look, tbl_look hG.nodup hq']
    have e : (tblOf G).map (·.1) = (namesOf G).map Sum.inr := by unfold tblOf namesOf; rw [List.map_map, List.map_map]; rfl
    rw [e]
    exact List.Pairwise.map _ (fun a b hab z => hab (Sum.inr.inj z)) hG.nodup
  rw [hG.fields hq'] at hfs hfl
  refine sq_forT (ev_dgetN (ed_dictT (ev_var rfl ⟨tblOf G, ?_, ev_var rfl ⟨q.1, _, rfl, hlk, q.2.map Fld.dat, rfl, fun b => ?_⟩⟩)))
  · show grDat G = _
    unfold grDat tblOf
    rw [List.map_map]
    rfl
  refine sq_loop (κ := Unit) (Wf := fun _ => (Wd.mk3 K p τ H hp τ0).keep K (.ref b) (.tup (q.2.map Fld.dat))) (fun m _ t Γ => (∃ seen, FsOk (deep G) seen (q.2.drop m) ∧ MTags seen t) ∧ t.length ≤ m ∧ ∃ (xs : List Int) (x5 : Option Dat), (∀ y ∈ xs, 0 ≤ y ∧ y ≤ 255) ∧ xs.length ≤ m * N ∧ Γ = [some (.obj p), some (grDat G), some (.str q.1), some (.obj τ), some (bytesD xs), x5]) () (fun _ => wk_tup fun x => x.2) ?_ ?_ ?_
  · exact ⟨⟨[], hfs, fun x hx => by cases hx⟩, Nat.le_refl _, [], none, by simp, by simp, rfl⟩
  · rintro m _ t Γ d hm hd ⟨⟨seen, f1, f2⟩, htl, xs, x5, h3, h4, rfl⟩
    obtain ⟨f, hf, rfl⟩ := get_map hd
    rw [List.length_map] at hm
    have hdrop : q.2.drop m = f :: q.2.drop (m + 1) := by
      rw [List.drop_eq_getElem_cons hm]
      rw [List.getElem?_eq_getElem hm] at hf
      rw [Option.some.inj hf]
    rw [hdrop] at f1
    refine tg_name (nx_set (ev_op (ev_var rfl (ev_call (ea_cons (ev_var rfl (ea_cons (ev_var rfl (ea_cons (ev_var rfl (ea_cons (ev_var rfl (ea_cons (ev_var rfl (ea_nil ?_)))))))))))))))
    refine call_MF ⟨hG, f1.1, f2, by omega⟩ ?_
    rintro _ t' ⟨ys, rfl, hy1, hy2⟩ mt tl
    have hmN : (m + 1) * N ≤ 10 * N := Nat.mul_le_mul_right _ (by omega)
    rw [Nat.succ_mul] at hmN
    refine op_cat (by rw [List.length_map, List.length_map]; omega) ?_
    have ebd : bytesD (xs ++ ys) = .tup (xs.map Dat.int ++ ys.map Dat.int) := by rw [bytesD, List.map_append]
    refine fun H' σ I E => Lp.of () I E ⟨⟨seen ++ decl f, f1.2, mt⟩, by omega, xs ++ ys, some f.dat, ?_, ?_, by rw [ebd]; rfl⟩
    · intro u hu
      rcases List.mem_append.mp hu with e | e
      · exact h3 u e
      · exact hy1 u e
    · rw [List.length_append, Nat.succ_mul]; omega
  · rintro _ t Γ ⟨_, _, xs, x5, h3, h4, rfl⟩
    rw [List.length_map] at h4
    have : q.2.length * N ≤ 10 * N := Nat.mul_le_mul_right _ hfl
    exact nx_ret (ev_var rfl (rt_of fun H' v I z => k v H' _ I.1.1 I.1.2.1 z ⟨xs, rfl, h3, by omega⟩))
/-- all together: a kind's bytes, the whole's bytes -/
theorem w_madeAll (T : Tp K mg w cR cM cT aS aD) : Cl P w K mg base 7 "_law_made" (spMade K (fun _ k => k = "all") 200000) := by
  have take := w_take' (P := P) (base := base) T
  have bts := w_bytes (P := P) (base := base) T
  have grb := w_garbage T take
  have mny := w_many (P := P) (base := base) T
  have no' : Cl P w K mg base 2 "_law_made" (spMade K (fun G k => k ∈ (fun _ => ([] : List Str)) G) 0) := by
    refine Cl.of (ps := ["_law_pool_here", "_law_grammar_here", "_law_sort"]) T.d_law_made (fun f fd F => ?_) fun _ _ _ _ _ _ us hl => match us, hl with | [_, _, _], _ => rfl
    refine F.ok sc_law_made (fun vs H Q E h => ?_) fun cdv A outer s H vs Q E hr h => ?_
    · obtain ⟨p, a, al, _⟩ := h
      exact al.len
    · obtain ⟨p, a, al, pa, pre, _⟩ := h
      exact absurd pre.2 (by simp)
  have mf1 := w_made_field (deep := fun _ => []) (N := 100) (M := 0) T (by decide) (by decide) (by decide) (by decide) (.inr fun _ => rfl) (by decide) take bts grb mny no'
  have md1 := w_made (kp := fun G k => k ∈ deepOf G) T (by decide) (fun G k hG hk => by
    obtain ⟨⟨_, h2, h3⟩, h4⟩ := hG.deepOk.2.2.1 k hk
    exact ⟨h4, h2, h3⟩) mf1
  have mf0 := w_made_field (deep := deepOf) (N := 20000) (M := 1000) T (by decide) (by decide) (by decide) (by decide) (.inl (by decide)) (by decide) take bts grb mny md1
  have md0 := w_made (kp := fun _ k => k = "all") T (by decide) (fun G k hG hk => by
    subst hk
    have := hG.deepOk
    exact ⟨this.2.2.2, this.1, this.2.1.2⟩) mf0
  exact md0.mono (by decide)
end
end Lb
/-! text LbK1 -/
/-! Walks: the law's pool, spoilt and turned bytes. -/
namespace Lb
open PySem L2
/-- a list that is only read -/
def LstR (K : PySem.W.Frag) (p : Addr) (ds : List Dat) (H : Hp) : Prop := ∃ vs, SqL K H p vs ∧ AtL K H vs ds
theorem LstR.same {K : PySem.W.Frag} {p : Addr} {ds : List Dat} {H H' : Hp} (h : LstR K p ds H) (s : Same H H') : LstR K p ds H' := let ⟨vs, a, b⟩ := h; ⟨vs, s.seq a, b.mono (A := []) (Off.of_same s)⟩
section
variable {ι : Type} {K : PySem.W.Frag} {W : Wd ι} {i : ι} {Γ : Ctx} {P : ι → Dat → Prop} {ta tb : TE}
theorem ev_lenR (h : Ev K W i ta Γ fun j d => ∃ a ds, d = .obj a ∧ (∀ {H : Hp}, W.I j H → LstR K a ds H) ∧ P j (.int (ds.length : Int))) : Ev K W i (tCB (rLen K) (tCons ta tNil)) Γ P := fun H σ I E Q q =>
  h H σ I E _ fun v H1 j d o1 I1 a1 p1 => by
    obtain ⟨a, ds, rfl, hl, p⟩ := p1
    cases a1
    obtain ⟨vs, e, al⟩ := hl I1
    exact ⟨a, vs, rfl, .inl e, q _ H1 j _ o1 I1 (.int _) (by rw [al.len]; exact p)⟩
theorem op_ixR {a : Addr} {ds : List Dat} {j : Int} {f : Dat} (hl : ∀ {H : Hp}, W.I i H → LstR K a ds H) (h : atI ds j = some f) (p : P i f) : Op K W i (rIxL K) (.obj a) (.int j) P := fun H x y I ax ay Q q => by
  cases ax; cases ay
  obtain ⟨vs, e, al⟩ := hl I
  have hlen := al.len
  unfold atI at h
  rw [← hlen] at h
  cases e1 : ixN vs.length j with
  | none => rw [e1] at h; cases h
  | some k =>
    rw [e1] at h
    obtain ⟨v, h1, h2⟩ := al.get (show ds[k]? = some f from h)
    refine ⟨a, vs, j, v, rfl, rfl, e, ?_, q v H i f Off.refl I h2 p⟩
    unfold atI
    rw [e1]
    exact h1
theorem ev_neNilR (h : Ev K W i ta Γ fun j d => ∃ a ds n, d = .obj a ∧ (∀ {H : Hp}, W.I j H → LstR K a ds H) ∧ Dat.fineL n ds = true ∧ n ≤ 60 ∧ P j (.bl (!ds.isEmpty))) : Ev K W i (tOp (rNeD K) ta (tLst tNil)) Γ P := fun H σ I E Q q =>
  h H σ I E _ fun v H1 j d o1 I1 a1 p1 => by
    obtain ⟨a, ds, n, rfl, hl, hf, hn, p⟩ := p1
    cases a1
    refine ⟨Nat.zero_le _, fun r hr => ?_⟩
    have I2 := W.new (o := .lst []) I1 hr
    obtain ⟨vs, e, al⟩ := hl I2
    refine ⟨.list (Dat.pyL ds), .list [], .lst e (al.dp hf), .lst (SqL.of upd_same) .nil, ?_, rfl, q _ _ j _ (o1.trans (Off.new hr)) I2 (.bl _) ?_⟩
    · obtain ⟨z1, z2⟩ := Dat.layL hf
      unfold SeqAt.shaped
      have c1 : (PyData.list (Dat.pyL ds)).canLay0 = true := by simpa [PyData.canLay0] using z1
      rw [c1, Bool.true_and, decide_eq_true_iff]
      have c2 : (PyData.list (Dat.pyL ds)).depth = PyData.depthAll (Dat.pyL ds) + 1 := rfl
      omega
    · have e2 : PyData.eqv (.list (Dat.pyL ds)) (.list []) = ds.isEmpty := by cases ds <;> rfl
      rw [e2]
      exact p
end
section
variable {P : Program} {w : World} {K : PySem.W.Frag} {mg : Str → Option Value} {base : Heap} {cR cM cT aS aD : Addr}
def spPool (K : PySem.W.Frag) : Sp := SpAL K (α := (Addr × List Int) × Int) (fun a => [.obj a.1.1, .int a.2]) (fun a H => LstR K a.1.1 (a.1.2.map Dat.int) H ∧ a.1.2.length ≤ 1000 ∧ 0 ≤ a.2 ∧ a.2 ≤ 1000) fun _ l => ∃ x y : Int, l = [.int x, .int y] ∧ 0 ≤ y ∧ y < 2147483647
theorem fineL_ints : ∀ {xs : List Int}, Dat.fineL 0 (xs.map Dat.int) = true
  | [] => rfl
  | x :: xs => by rw [List.map_cons, Dat.fineL, fineL_ints]; rfl
theorem w_pool (T : Tp K mg w cR cM cT aS aD) : Cl P w K mg base 1 "_law_pool" (spPool K) := by
  refine Cl.of (ps := ["_law_script", "_law_k"]) T.d_law_pool (fun f fd F => ?_) fun _ _ _ _ _ _ us hl => match us, hl with | [_, _], _ => rfl
  refine F.ok sc_law_pool (fun vs H Q E h => ?_) (fun cdv A outer sh H vs Q E hr h => ?_)
  · obtain ⟨⟨⟨q, ns⟩, kk⟩, al, _⟩ := h
    exact al.len
  obtain ⟨⟨⟨q, ns⟩, kk⟩, al, pre, k⟩ := h
  try dsimp only at pre
  have hu := hu_of hr
  refine ⟨_, (pss_cons (ps_set (i := 2) sc_law_pool.nd rfl (Or.inl rfl) pe_int)
      (pss_cons (ps_if (pt_cmpR (k_neD K hr.units) (pv 0) (pe_lst pa_nil) (nomark _)) (pss_one (ps_set (i := 2) sc_law_pool.nd rfl (Or.inl rfl) (pe_ix (k_ixL K) (pv 0) (pe_op op_mod (pv 1) (pe_callB (k_len K) (by rfl) T.n_len (by decide +kernel) (pa_cons (pv 0) pa_nil))) (fun _ _ => rfl)))) pss_nil)
      (pss_cons (ps_if (pt_cmpR op_ge (pv 1) (pe_callB (k_len K) (by rfl) T.n_len (by decide +kernel) (pa_cons (pv 0) pa_nil)) (nomark _)) (pss_one (ps_set (i := 2) sc_law_pool.nd rfl (Or.inl rfl) (pe_ix (k_ixL K) (pe_lst (pa_cons (pe_op op_mod (pv 2) pe_int) (pa_cons (pe_op op_fdivW (pv 2) (pe_op op_pow pe_int pe_int)) pa_nil))) (pe_callTy k_intB (by rfl) T.n_int (by decide +kernel) (pa_cons (pe_cmpR op_ge (pv 2) (pe_op op_pow pe_int pe_int) (nomark _)) pa_nil)) (fun _ _ => rfl)))) pss_nil)
      (pss_cons (ps_set (i := 3) sc_law_pool.nd rfl (Or.inl rfl) (pe_op op_mod (pe_op op_mul (pe_op op_add (pe_op op_add (pe_op op_mod (pv 2) pe_int) (pe_op op_mul pe_int (pv 1))) pe_int) pe_int) pe_int))
      (pss_one (ps_ret (pe_lst (pa_cons (pe_op op_mul (pv 2) (pe_callTy k_intB (by rfl) T.n_int (by decide +kernel) (pa_cons (pe_cmpR op_ge (pv 2) (pe_op op_pow pe_int pe_int) (nomark _)) pa_nil))) (pa_cons (pv 3) pa_nil))))))))), ?_⟩
  obtain ⟨hq, hl, k0, k1⟩ := pre
  have hq' : ∀ {j : Unit} {H' : Hp}, (Wd.base H).I j H' → LstR K q (ns.map Dat.int) H' := fun I => hq.same I
  refine nx_go (W := .base H) (i := ()) ?_ (fun b o e => e) (Sls.start al _ rfl)
  refine sq_set (ev_int ?_)
  refine sq_tail (A := Unit) (fun _ => Wd.base H) (fun _ _ Γ' => ∃ (c : Int) (x : Option Dat), Γ' = [some (.obj q), some (.int kk), some (.int c), x]) ?_ fun tail => ?_
  · rintro _ _ Γ ⟨c, x, rfl⟩
    refine sq_tail (A := Unit) (fun _ => Wd.base H) (fun _ _ Γ' => ∃ (c : Int) (x : Option Dat), Γ' = [some (.obj q), some (.int kk), some (.int c), x]) ?_ fun tail => ?_
    · rintro _ _ Γ ⟨c, x, rfl⟩
      refine sq_set (ev_op (ev_op (ev_op (ev_op (ev_op (ev_var rfl ?_))))))
      refine ev_int (op_int1 (by decide) (ev_op (ev_int (ev_var rfl (op_int1 (.inl ⟨by decide, by decide⟩) (op_int0 ?_))))))
      refine ev_int (op_int0 (ev_int (op_int1 (.inr ⟨by decide, by decide⟩) (ev_int (op_int1 (by decide) ?_)))))
      refine nx_retL (el_lst (ea_cons (ev_op (ev_var rfl (ev_intB (ev_op (ev_var rfl (ev_op (ev_int ?_))))))))) 
      refine ev_int (op_int1 ⟨by decide, by decide, by decide⟩ (op_bl0 ⟨_, rfl, op_int1 (.inr ?_) ?_⟩))
      · split <;> exact ⟨by decide, by decide⟩
      refine ea_cons (ev_var rfl (ea_nil ⟨by show 2 ≤ 1000; decide, fun p H' np I' la => k p H' _ (Classical.byContradiction np) I' la ⟨_, _, rfl, Int.emod_nonneg _ (by decide), Int.emod_lt_of_pos _ (by decide)⟩⟩))
    refine sq_when (et_test (ev_op (ev_var rfl (ev_lenR (ev_var rfl ⟨q, _, rfl, fun I => hq' I, op_bl0 ⟨_, rfl, ifB (fun _ => ?_) fun _ => tail () () _ ⟨c, x, rfl⟩⟩⟩)))))
    refine nx_set (ev_ixN (el_lst (ea_cons (ev_op (ev_var rfl (ev_int (op_int1 (by decide) ?_)))))))
    refine ea_cons (ev_op (ev_var rfl (ev_op (ev_int (ev_int (op_int1 ⟨by decide, by decide, by decide⟩ (op_int1 ⟨by decide, by decide +kernel⟩ ?_)))))))
    refine ea_nil ⟨by show 2 ≤ 1000; decide, ?_⟩
    refine ev_intB (ev_op (ev_var rfl (ev_op (ev_int (ev_int (op_int1 ⟨by decide, by decide, by decide⟩ (op_bl0 ⟨_, rfl, ?_⟩)))))))
    cases decide (c ≥ (10 : Int) ^ (36 : Int).toNat) with
    | true => exact ⟨1, _, rfl, rfl, tail () () _ ⟨_, x, rfl⟩⟩
    | false => exact ⟨0, _, rfl, rfl, tail () () _ ⟨_, x, rfl⟩⟩
  refine sq_when (et_test (ev_neNilR (ev_var rfl ⟨q, _, 0, rfl, fun I => hq' I, fineL_ints, by decide, _, rfl, ifB (fun e => ?_) fun _ => tail () () _ ⟨0, none, rfl⟩⟩)))
  have hne : 0 < ns.length := by
    cases ns with
    | nil => cases e
    | cons _ _ => simp
  refine nx_set (ev_op (ev_var rfl (ev_op (ev_var rfl (ev_lenR (ev_var rfl ⟨q, _, rfl, fun I => hq' I, op_int1 (by rw [List.length_map]; omega) ?_⟩))))))
  rw [List.length_map]
  have z0 : 0 ≤ kk % ns.length := Int.emod_nonneg _ (by omega)
  have z1 : kk % ns.length < ns.length := Int.emod_lt_of_pos _ (by omega)
  have hlt : (kk % ns.length).toNat < ns.length := by omega
  refine op_ixR (f := .int ns[(kk % ns.length).toNat]) (fun I => hq' I) (atI_nat z0 (by rw [List.getElem?_map, List.getElem?_eq_getElem hlt]; rfl)) ?_
  exact tail () () _ ⟨_, none, rfl⟩
end
end Lb
/-! text LbK2 -/
/-! Walks: turned and spoilt bytes. -/
namespace Lb
open PySem L2
theorem cut_to {ds : List Dat} {n : Int} (h0 : 0 ≤ n) : cutD ds none (some n) = ds.take n.toNat := by
  unfold cutD HT.sIx
  have e1 : ¬ n < 0 := by omega
  simp only [e1, if_false, List.drop_zero, Nat.sub_zero]
  by_cases h : n.toNat ≤ ds.length
  · rw [Nat.min_eq_left h]
  · rw [Nat.min_eq_right (by omega), List.take_of_length_le (Nat.le_refl _), List.take_of_length_le (by omega)]
theorem cut_from {ds : List Dat} {n : Int} (h0 : 0 ≤ n) : cutD ds (some n) none = ds.drop n.toNat := by
  unfold cutD HT.sIx
  have e1 : ¬ n < 0 := by omega
  simp only [e1, if_false]
  by_cases h : n.toNat ≤ ds.length
  · rw [Nat.min_eq_left h, List.take_of_length_le (by rw [List.length_drop]; exact Nat.le_refl _)]
  · rw [Nat.min_eq_right (by omega), List.drop_of_length_le (Nat.le_refl _), List.drop_of_length_le (by omega)]
    simp
def turnB (xs : List Int) (n : Nat) : List Int := xs.take n ++ [((xs[n]?).getD 0 + 1) % 256] ++ xs.drop (n + 1)
section
variable {P : Program} {w : World} {K : PySem.W.Frag} {mg : Str → Option Value} {base : Heap} {cR cM cT aS aD : Addr}
def spTurned (K : PySem.W.Frag) : Sp := SpA K (α := List Int × Int) (fun a => [bytesD a.1, .int a.2]) (fun a _ => 0 ≤ a.2 ∧ a.2 < a.1.length ∧ a.1.length ≤ 1000) fun a d => d = bytesD (turnB a.1 a.2.toNat)
theorem w_turned (T : Tp K mg w cR cM cT aS aD) : Cl P w K mg base 1 "_law_turned" (spTurned K) := by
  refine Cl.of (ps := ["_law_some", "_law_at"]) T.d_law_turned (fun f fd F => ?_) fun _ _ _ _ _ _ us hl => match us, hl with | [_, _], _ => rfl
  refine F.ok sc_law_turned (fun vs H Q E h => ?_) (fun cdv A outer sh H vs Q E hr h => ?_)
  · obtain ⟨⟨xs, n⟩, al, _⟩ := h
    exact al.len
  obtain ⟨⟨xs, n⟩, al, pre, k⟩ := h
  try dsimp only at pre
  have hu := hu_of hr
  refine ⟨_, (pss_one (ps_ret (pe_op (k_cat K) (pe_op (k_cat K) (pe_slice (k_slT K) (pv 0) po_none (po_some (pv 1))) (pe_tupF (pa_cons (pe_op op_mod (pe_op op_add (pe_ix (k_ixT K) (pv 0) (pv 1) (fun _ _ => rfl)) pe_int) pe_int) pa_nil))) (pe_slice (k_slT K) (pv 0) (po_some (pe_op op_add (pv 1) pe_int)) po_none)))), ?_⟩
  obtain ⟨h0, h1, h2⟩ := pre
  have hlt : n.toNat < xs.length := by omega
  refine nx_go (W := .base H) (i := ()) ?_ (fun b o e => e) (Sls.start al _ rfl)
  refine nx_ret (ev_op (ev_op (ev_slT (ev_var rfl (eo_none (eo_some (ev_var rfl ⟨n, rfl, _, rfl, ?_⟩)))))))
  rw [cut_to h0]
  refine ev_tup (ea_cons (ev_op (ev_op (ev_op (ev_var rfl (ev_var rfl ?_))))))
  refine op_ixT (f := .int xs[n.toNat]) (atI_nat h0 (by rw [List.getElem?_map, List.getElem?_eq_getElem hlt]; rfl)) ?_
  refine ev_int (op_int0 (ev_int (op_int1 (by decide) (ea_nil ⟨by show 1 ≤ 1000; decide, ?_⟩))))
  refine op_cat (by rw [List.length_take, List.length_map, List.length_singleton]; omega) ?_
  refine ev_slT (ev_var rfl (eo_some (ev_op (ev_var rfl (ev_int (op_int0 ⟨_, rfl, eo_none ⟨_, rfl, ?_⟩⟩))))))
  rw [cut_from (by omega)]
  refine op_cat (by simp; omega) ?_
  refine rt_of fun H' v I z => k v H' _ I z ?_
  have e : (n + 1).toNat = n.toNat + 1 := by omega
  show Dat.tup _ = bytesD (turnB xs n.toNat)
  unfold bytesD turnB
  rw [e, List.getElem?_eq_getElem hlt, List.map_append, List.map_append, List.map_take, List.map_drop]
  rfl
def spSpoilt (K : PySem.W.Frag) : Sp := SpPl K (α := List Int) (fun xs => [bytesD xs]) (fun _ xs _ => xs.length ≤ 40 ∧ ∀ y ∈ xs, 0 ≤ y ∧ y ≤ 255) fun _ d => BytesD 50 d
theorem w_spoilt (T : Tp K mg w cR cM cT aS aD) (G_law_take : Cl P w K mg base 1 "_law_take" (spPTake K)) (G_law_garbage : Cl P w K mg base 2 "_law_garbage" (spGarbage K)) : Cl P w K mg base 3 "_law_spoilt" (spSpoilt K) := by
  refine Cl.of (ps := ["_law_pool_here", "_law_some"]) T.d_law_spoilt (fun f fd F => ?_) fun _ _ _ _ _ _ us hl => match us, hl with | [_, _], _ => rfl
  refine F.ok sc_law_spoilt (fun vs H Q E h => ?_) (fun cdv A outer sh H vs Q E hr h => ?_)
  · obtain ⟨p, xs, al, _⟩ := h
    exact al.len
  obtain ⟨p, xs, al, pa, pre, k⟩ := h
  try dsimp only at pre
  have hu := hu_of hr
  refine ⟨_, (pss_cons (ps_set (i := 2) sc_law_spoilt.nd rfl (Or.inl rfl) (k_call G_law_take (hr.mono (by decide)) (pa_cons (pv 0) (pa_cons pe_int pa_nil))))
      (pss_cons (ps_if (pt_cmpR op_eq (pv 2) pe_int (nomark _)) (pss_one (ps_ret (pe_slice (k_slT K) (pv 1) po_none (po_some (k_call G_law_take (hr.mono (by decide)) (pa_cons (pv 0) (pa_cons (pe_op op_add (pe_callB (k_len K) (by rfl) T.n_len (by decide +kernel) (pa_cons (pv 1) pa_nil)) pe_int) pa_nil))))))) pss_nil)
      (pss_cons (ps_if (pt_cmpR op_eq (pv 2) pe_int (nomark _)) (pss_one (ps_ret (pe_op (k_cat K) (pv 1) (k_call G_law_garbage (hr.mono (by decide)) (pa_cons (pv 0) (pa_cons (pe_op op_add pe_int (k_call G_law_take (hr.mono (by decide)) (pa_cons (pv 0) (pa_cons pe_int pa_nil)))) pa_nil)))))) pss_nil)
      (pss_cons (ps_set (i := 3) sc_law_spoilt.nd rfl (Or.inl rfl) (k_call G_law_take (hr.mono (by decide)) (pa_cons (pv 0) (pa_cons (pe_op op_add (pe_callB (k_len K) (by rfl) T.n_len (by decide +kernel) (pa_cons (pv 1) pa_nil)) pe_int) pa_nil))))
      (pss_one (ps_ret (pe_op (k_cat K) (pe_op (k_cat K) (pe_slice (k_slT K) (pv 1) po_none (po_some (pv 3))) (k_call G_law_garbage (hr.mono (by decide)) (pa_cons (pv 0) (pa_cons pe_int pa_nil)))) (pe_slice (k_slT K) (pv 1) (po_some (pe_op op_add (pv 3) (pe_callTy k_intB (by rfl) T.n_int (by decide +kernel) (pa_cons (pe_cmpR op_eq (pv 2) pe_int (nomark _)) pa_nil)))) po_none)))))))), ?_⟩
  obtain ⟨hl, hb⟩ := pre
  have hp : H p ≠ none := (pool_shp K p).trk pa
  have st : Stays (Wd.pw K p H hp) p (PoolAt K p) := pw_stays
  refine nx_go (W := Wd.pw K p H hp) (i := ()) ?_ ⟨Off.refl, pa⟩ (Sls.start al _ rfl)
  refine sq_set (ev_takeC st rfl (by decide) fun x x0 x1 => ?_)
  refine sq_when (et_test (ev_op (ev_var rfl (ev_int (op_eqI ⟨_, rfl, ifD (fun _ => ?_) fun _ => ?_⟩)))))
  · refine nx_ret (ev_slT (ev_var rfl (eo_none (eo_some (ev_take st rfl (ev_op (ev_lenT (ev_var rfl ⟨_, rfl, ev_int (op_int0 ?_)⟩))))))))
    refine ⟨_, rfl, ⟨by rw [List.length_map]; omega, by rw [List.length_map]; omega⟩, fun y y0 y1 => ⟨y, rfl, _, rfl, ?_⟩⟩
    rw [cut_to y0, ← List.map_take]
    exact rt_of fun H' v I z => k v H' _ I.1 I.2 z ⟨_, rfl, fun u hu => hb u (List.mem_of_mem_take hu), by rw [List.length_take]; omega⟩
  refine sq_when (et_test (ev_op (ev_var rfl (ev_int (op_eqI ⟨_, rfl, ifD (fun _ => ?_) fun _ => ?_⟩)))))
  · refine nx_ret (ev_op (ev_var rfl (ev_call (ea_cons (ev_var rfl (ea_cons (ev_op (ev_int (ev_takeC st rfl (by decide) fun y y0 y1 => op_int0 (ea_nil ?_))))))))))
    refine call_Pl st (1 + y) rfl (fun _ => ⟨by omega, by omega⟩) ?_
    rintro _ ⟨ys, rfl, hy1, hy2⟩
    refine op_cat (by rw [List.length_map, List.length_map]; omega) ?_
    rw [← List.map_append]
    refine rt_of fun H' v I z => k v H' _ I.1 I.2 z ⟨xs ++ ys, rfl, fun u hu => ?_, by rw [List.length_append]; omega⟩
    rcases List.mem_append.mp hu with e | e
    · exact hb u e
    · exact hy1 u e
  refine sq_set (ev_take st rfl (ev_op (ev_lenT (ev_var rfl ⟨_, rfl, ev_int (op_int0 ?_)⟩))))
  refine ⟨_, rfl, ⟨by rw [List.length_map]; omega, by rw [List.length_map]; omega⟩, fun y y0 y1 => ?_⟩
  refine nx_ret (ev_op (ev_op (ev_slT (ev_var rfl (eo_none (eo_some (ev_var rfl ⟨y, rfl, _, rfl, ?_⟩)))))))
  rw [cut_to y0]
  refine ev_call (ea_cons (ev_var rfl (ea_cons (ev_int (ea_nil ?_)))))
  refine call_Pl st 1 rfl (fun _ => ⟨by decide, by decide⟩) ?_
  rintro _ ⟨ys, rfl, hy1, hy2⟩
  have hy2' : ys.length ≤ 1 := hy2
  refine op_cat (by rw [List.length_take, List.length_map, List.length_map]; omega) ?_
  refine ev_slT (ev_var rfl (eo_some (ev_op (ev_var rfl (ev_intB (ev_op (ev_var rfl (ev_int (op_eqI ⟨_, rfl, ?_⟩)))))))))
  have hz : ∃ c : Int, (if decide (x = 2) = true then (1 : Int) else 0) = c ∧ 0 ≤ c := ⟨_, rfl, by split <;> decide⟩
  obtain ⟨c, hc, c0⟩ := hz
  rw [hc]
  refine op_int0 ⟨y + c, rfl, eo_none ⟨_, rfl, ?_⟩⟩
  rw [cut_from (by omega)]
  refine op_cat (by rw [List.length_append, List.length_take, List.length_drop, List.length_map, List.length_map]; omega) ?_
  rw [← List.map_take, ← List.map_drop, ← List.map_append, ← List.map_append]
  refine rt_of fun H' v I z => k v H' _ I.1 I.2 z ⟨_, rfl, fun u hu => ?_, by rw [List.length_append, List.length_append, List.length_take, List.length_drop]; omega⟩
  rcases List.mem_append.mp hu with e | e
  · rcases List.mem_append.mp e with e | e
    · exact hb u (List.mem_of_mem_take e)
    · exact hy1 u e
  · exact hb u (List.mem_of_mem_drop e)
end
end Lb
/-! text LbK3 -/
/-! Equality of data without truths and objects. -/
namespace Lb
open PySem L2
mutual
theorem eqv_eq : ∀ {d e : Dat}, d.pure = true → e.pure = true → PyData.eqv d.py e.py = true → d = e
  | .non, .non, _, _, _ => rfl
  | .int a, .int b, _, _, h => by simp only [Dat.py, PyData.eqv, beq_iff_eq] at h; rw [h]
  | .str a, .str b, _, _, h => by simp only [Dat.py, PyData.eqv, beq_iff_eq] at h; rw [h]
  | .tup a, .tup b, h1, h2, h => by
    simp only [Dat.py, PyData.eqv] at h
    simp only [Dat.pure] at h1 h2
    rw [eqvL_eq h1 h2 h]
  | .bl _, _, h, _, _ => by simp [Dat.pure] at h
  | .obj _, _, h, _, _ => by simp [Dat.pure] at h
  | _, .bl _, _, h, _ => by simp [Dat.pure] at h
  | _, .obj _, _, h, _ => by simp [Dat.pure] at h
  | .non, .int _, _, _, h => by simp [Dat.py, PyData.eqv] at h
  | .non, .str _, _, _, h => by simp [Dat.py, PyData.eqv] at h
  | .non, .tup _, _, _, h => by simp [Dat.py, PyData.eqv] at h
  | .int _, .non, _, _, h => by simp [Dat.py, PyData.eqv] at h
  | .int _, .str _, _, _, h => by simp [Dat.py, PyData.eqv] at h
  | .int _, .tup _, _, _, h => by simp [Dat.py, PyData.eqv] at h
  | .str _, .non, _, _, h => by simp [Dat.py, PyData.eqv] at h
  | .str _, .int _, _, _, h => by simp [Dat.py, PyData.eqv] at h
  | .str _, .tup _, _, _, h => by simp [Dat.py, PyData.eqv] at h
  | .tup _, .non, _, _, h => by simp [Dat.py, PyData.eqv] at h
  | .tup _, .int _, _, _, h => by simp [Dat.py, PyData.eqv] at h
  | .tup _, .str _, _, _, h => by simp [Dat.py, PyData.eqv] at h
theorem eqvL_eq : ∀ {a b : List Dat}, Dat.pureL a = true → Dat.pureL b = true → PyData.eqvAll (Dat.pyL a) (Dat.pyL b) = true → a = b
  | [], [], _, _, _ => rfl
  | [], _ :: _, _, _, h => by simp [Dat.pyL, PyData.eqvAll] at h
  | _ :: _, [], _, _, h => by simp [Dat.pyL, PyData.eqvAll] at h
  | x :: xs, y :: ys, h1, h2, h => by
    simp only [Dat.pyL, PyData.eqvAll, Bool.and_eq_true] at h
    simp only [Dat.pureL, Bool.and_eq_true] at h1 h2
    rw [eqv_eq h1.1 h2.1 h.1, eqvL_eq h1.2 h2.2 h.2]
end
mutual
theorem eqv_refl : ∀ {d : Dat}, d.pure = true → PyData.eqv d.py d.py = true
  | .non, _ => by simp [Dat.py, PyData.eqv]
  | .int a, _ => by simp [Dat.py, PyData.eqv]
  | .str a, _ => by simp [Dat.py, PyData.eqv]
  | .tup a, h => by
    simp only [Dat.pure] at h
    simp only [Dat.py, PyData.eqv]
    exact eqvL_refl h
  | .bl _, h => by simp [Dat.pure] at h
  | .obj _, h => by simp [Dat.pure] at h
theorem eqvL_refl : ∀ {a : List Dat}, Dat.pureL a = true → PyData.eqvAll (Dat.pyL a) (Dat.pyL a) = true
  | [], _ => by simp [Dat.pyL, PyData.eqvAll]
  | x :: xs, h => by
    simp only [Dat.pureL, Bool.and_eq_true] at h
    simp only [Dat.pyL, PyData.eqvAll, Bool.and_eq_true]
    exact ⟨eqv_refl h.1, eqvL_refl h.2⟩
end
end Lb
/-! text LbK4 -/
/-! Walk: own bytes. -/
namespace Lb
open PySem L2
theorem fine_bytes {xs : List Int} : (bytesD xs).fine 1 = true := by
  unfold bytesD
  simp only [Dat.fine]
  exact fineL_ints
theorem pure_ints : ∀ {xs : List Int}, Dat.pureL (xs.map Dat.int) = true
  | [] => rfl
  | x :: xs => by rw [List.map_cons, Dat.pureL, pure_ints]; rfl
theorem pure_bytes {xs : List Int} : (bytesD xs).pure = true := by
  unfold bytesD
  simp only [Dat.pure]
  exact pure_ints
section
variable {P : Program} {w : World} {K : PySem.W.Frag} {mg : Str → Option Value} {base : Heap} {cR cM cT aS aD : Addr}
def spOwnB (K : PySem.W.Frag) : Sp := SpA K (α := List Int × Addr × List Spr) (fun a => [bytesD a.1, .obj a.2.1]) (fun a H => LstAt K a.2.1 (a.2.2.map Spr.dat) H ∧ ∀ s ∈ a.2.2, OwnS a.1 s ∧ s.b ≤ s.e) fun _ d => d = .bl true
theorem w_own_bytes (T : Tp K mg w cR cM cT aS aD) : Cl P w K mg base 1 "_law_own_bytes" (spOwnB K) := by
  refine Cl.of (ps := ["_law_some", "_law_spreads"]) T.d_law_own_bytes (fun f fd F => ?_) fun _ _ _ _ _ _ us hl => match us, hl with | [_, _], _ => rfl
  refine F.ok sc_law_own_bytes (fun vs H Q E h => ?_) (fun cdv A outer sh H vs Q E hr h => ?_)
  · obtain ⟨⟨bs, q, sps⟩, al, _⟩ := h
    exact al.len
  obtain ⟨⟨bs, q, sps⟩, al, pre, k⟩ := h
  try dsimp only at pre
  have hu := hu_of hr
  refine ⟨_, (pss_cons (ps_for PassesOwn.never rfl (k_forL K (pv 1)) (k_tup K rfl (pgs_cons (pg_name (i := 2) sc_law_own_bytes.nd rfl (Or.inl rfl)) (pgs_cons (pg_name (i := 3) sc_law_own_bytes.nd rfl (Or.inl rfl)) (pgs_cons (pg_name (i := 4) sc_law_own_bytes.nd rfl (Or.inl rfl)) (pgs_cons (pg_name (i := 5) sc_law_own_bytes.nd rfl (Or.inl rfl)) (pgs_cons (pg_name (i := 6) sc_law_own_bytes.nd rfl (Or.inl rfl)) pgs_nil)))))) (pss_cons (ps_if (PW.pt (pw_and (pt_cmpR op_eq (pv 5) pe_str (nomark _)) (pw_and1 (pt_cmpR (k_neD K hr.units) (pv 6) (pe_slice (k_slT K) (pv 0) (po_some (pv 2)) (po_some (pv 3))) (nomark _))))) (pss_one (ps_ret pe_bl)) pss_nil)
      (pss_one (ps_if (PW.pt (pw_and (pt_cmpR op_eq (pv 5) pe_str (nomark _)) (pw_and1 (pt_cmpR (k_neD K hr.units) (pv 6) (pe_slice (k_slT K) (pv 0) (po_some (pv 2)) (po_some (pe_op op_sub (pv 3) pe_int))) (nomark _))))) (pss_one (ps_ret pe_bl)) pss_nil))))
      (pss_one (ps_ret pe_bl))), ?_⟩
  obtain ⟨hq, hown⟩ := pre
  have hq' : ∀ {j : Unit} {H' : Hp}, (Wd.base H).I j H' → LstAt K q (sps.map Spr.dat) H' := fun I => hq.off (A := []) (by simp) (Off.of_same I)
  refine nx_go (W := .base H) (i := ()) ?_ (fun b o e => e) (Sls.start al _ rfl)
  refine sq_forL (ev_var rfl ⟨q, _, rfl, fun I => hq' I, ?_⟩)
  refine sq_loop (κ := Unit) (Wf := fun _ => Wd.base H) (fun m _ _ Γ => ∃ x2 x3 x4 x5 x6, Γ = [some (bytesD bs), some (.obj q), x2, x3, x4, x5, x6]) () (fun _ => wk_lst fun I => hq' I) ?_ ?_ ?_
  · exact ⟨none, none, none, none, none, rfl⟩
  · rintro m _ _ Γ d hm hd ⟨x2, x3, x4, x5, x6, rfl⟩
    obtain ⟨s, hs, rfl⟩ := get_map hd
    obtain ⟨⟨o1, o2, o3, o4⟩, o5⟩ := hown s (List.mem_of_getElem? hs)
    refine tg_tup (ds := [.int s.b, .int s.e, .tup s.path, .str s.what, s.worth]) rfl (tgs_cons (tg_name (tgs_cons (tg_name (tgs_cons (tg_name (tgs_cons (tg_name (tgs_cons (tg_name (tgs_nil ?_)))))))))))
    refine sq_when (EvT.imp (Pb := fun _ b => b = false) ?_ ?_)
    · refine et_and (et_test (ev_op (ev_var rfl (ev_str (op_eqS ⟨_, rfl, ifD (fun e => ?_) fun e => rfl⟩)))))
      have hw := o3 e
      refine et_test (ev_op (ev_var rfl (ev_slT (ev_var rfl (eo_some (ev_var rfl ⟨s.b, rfl, eo_some (ev_var rfl ⟨s.e, rfl, _, rfl, ?_⟩)⟩))))))
      have ec : cutD (bs.map Dat.int) (some s.b) (some s.e) = (cutB bs s.b (s.e - s.b)).map Dat.int := by
        have := cut_eq (bs := bs) (p := s.b) (n := s.e - s.b) o1 (by omega) (by omega)
        have e2 : s.b + (s.e - s.b) = s.e := by omega
        rw [e2] at this
        exact this
      rw [ec, hw]
      refine op_neD (n := 1) (m := 1) fine_bytes fine_bytes (by decide) (by decide) ⟨_, rfl, ?_⟩
      show (!PyData.eqv (bytesD _).py (bytesD _).py) = false
      rw [eqv_refl pure_bytes]
      rfl
    rintro _ b rfl
    refine ifF rfl ?_
    refine nx_if (EvT.imp (Pb := fun _ b => b = false) ?_ ?_)
    · refine et_and (et_test (ev_op (ev_var rfl (ev_str (op_eqS ⟨_, rfl, ifD (fun e => ?_) fun e => rfl⟩)))))
      obtain ⟨hw, hw2⟩ := o4 e
      refine et_test (ev_op (ev_var rfl (ev_slT (ev_var rfl (eo_some (ev_var rfl ⟨s.b, rfl, eo_some (ev_op (ev_var rfl (ev_int (op_int0 ⟨_, rfl, _, rfl, ?_⟩))))⟩))))))
      have ec : cutD (bs.map Dat.int) (some s.b) (some (s.e - 1)) = (cutB bs s.b (s.e - 1 - s.b)).map Dat.int := by
        have := cut_eq (bs := bs) (p := s.b) (n := s.e - 1 - s.b) o1 (by omega) (by omega)
        have e2 : s.b + (s.e - 1 - s.b) = s.e - 1 := by omega
        rw [e2] at this
        exact this
      rw [ec, hw]
      refine op_neD (n := 1) (m := 1) fine_bytes fine_bytes (by decide) (by decide) ⟨_, rfl, ?_⟩
      show (!PyData.eqv (bytesD _).py (bytesD _).py) = false
      rw [eqv_refl pure_bytes]
      rfl
    rintro _ b rfl
    refine ifF rfl ?_
    exact fun H' σ I E => Lp.of () I E ⟨_, _, _, _, _, rfl⟩
  · rintro _ _ Γ ⟨x2, x3, x4, x5, x6, rfl⟩
    exact nx_ret (ev_bl (rt_of fun H' v I z => k v H' _ I z rfl))
end
end Lb
/-! text LbK5 -/
/-! Plain: the one spread that holds a byte. -/
namespace Lb
open PySem L2
def holdsX (x : Int) (s : Spr) : Prop := s.b ≤ x ∧ x < s.e
theorem Tile.mem : ∀ {sps : List Spr} {p q : Int}, Tile sps p q → ∀ s ∈ sps, p ≤ s.b ∧ s.b ≤ s.e ∧ s.e ≤ q
  | [], _, _, _, s, hs => nomatch hs
  | a :: r, p, q, h, s, hs => by
    rcases List.mem_cons.mp hs with e | e
    · subst e
      exact ⟨Int.le_of_eq h.1.symm, h.2.1, Tile.le h.2.2⟩
    · have := Tile.mem h.2.2 s e
      have h1 := h.1
      have h2 := h.2.1
      exact ⟨by omega, this.2⟩
theorem tile_own {x : Int} : ∀ {sps : List Spr} {p q : Int}, Tile sps p q → p ≤ x → x < q → ∃ a o b, sps = a ++ o :: b ∧ holdsX x o ∧ (∀ s ∈ a, ¬ holdsX x s) ∧ ∀ s ∈ b, ¬ holdsX x s
  | [], p, q, h, h1, h2 => by
    have : p = q := h
    omega
  | s :: r, p, q, h, h1, h2 => by
    by_cases c : x < s.e
    · refine ⟨[], s, r, rfl, ⟨by have := h.1; omega, c⟩, by simp, fun t ht z => ?_⟩
      have := (Tile.mem h.2.2 t ht).1
      have := z.1
      omega
    · obtain ⟨a, o, b, e, g1, g2, g3⟩ := tile_own (x := x) h.2.2 (by omega) h2
      refine ⟨s :: a, o, b, by rw [e]; rfl, g1, fun t ht z => ?_, g3⟩
      rcases List.mem_cons.mp ht with q | q
      · rw [q] at z; exact c z.2
      · exact g2 t q z
end Lb
/-! text LbK6 -/
/-! Plain: turned bytes. -/
namespace Lb
open PySem L2
theorem turn_get {xs : List Int} {n i : Nat} (h : n < xs.length) : (turnB xs n)[i]? = if i = n then some ((xs[n] + 1) % 256) else xs[i]? := by
  unfold turnB
  rw [List.getElem?_eq_getElem h]
  have e : xs.take n ++ [((some xs[n]).getD 0 + 1) % 256] ++ xs.drop (n + 1) = xs.set n ((xs[n] + 1) % 256) := by
    rw [List.set_eq_take_append_cons_drop, if_pos h]
    simp
  rw [e, List.getElem?_set]
  by_cases c : n = i
  · subst c
    rw [if_pos rfl, if_pos rfl, if_pos h]
  · rw [if_neg c, if_neg (Ne.symm c)]
theorem turn_len {xs : List Int} {n : Nat} (h : n < xs.length) : (turnB xs n).length = xs.length := by
  unfold turnB
  simp
  omega
theorem turn_sim {xs : List Int} {n : Nat} (h : n < xs.length) : Sim xs (turnB xs n) n := ⟨turn_len h, fun i hi => by rw [turn_get h, if_neg hi]⟩
theorem turn_cut {bs : List Int} {b n x : Int} (h0 : 0 ≤ b) (h1 : b ≤ x) (h2 : x < b + n) (h3 : b + n ≤ bs.length) : turnB (cutB bs b n) (x - b).toNat = cutB (turnB bs x.toNat) b n := by
  have hl : (cutB bs b n).length = n.toNat := cut_len h0 (by omega) h3
  have hx : x.toNat < bs.length := by omega
  have hk : (x - b).toNat < (cutB bs b n).length := by omega
  have gt : ∀ (ys : List Int) (i : Nat), (cutB ys b n)[i]? = if i < n.toNat then ys[b.toNat + i]? else none := fun ys i => by
    unfold cutB
    rw [List.getElem?_take, List.getElem?_drop]
  have ex : b.toNat + (x - b).toNat = x.toNat := by omega
  have gv : (cutB bs b n)[(x - b).toNat] = bs[x.toNat] := by
    have h5 := gt bs (x - b).toNat
    rw [if_pos (by omega), ex, List.getElem?_eq_getElem hk, List.getElem?_eq_getElem hx] at h5
    exact Option.some.inj h5
  apply List.ext_getElem?
  intro i
  rw [turn_get hk, gv, gt bs, gt (turnB bs x.toNat), turn_get hx]
  by_cases c : i = (x - b).toNat
  · rw [if_pos c, if_pos (by omega), if_pos (by omega)]
  · have e : ¬ b.toNat + i = x.toNat := by omega
    rw [if_neg c, if_neg e]
end Lb
/-! text LbK7 -/
/-! Plain: what a turned byte changes. -/
namespace Lb
open PySem L2
theorem fix_same {bs bs' : List Int} {x : Nat} (S : Sim bs bs' x) {s : Spr} (o : OwnS bs s) (hb : s.b ≤ s.e) (h : ¬ holdsX x s) : fixS bs' s = s := by
  unfold fixS
  split
  · rename_i e
    have hc : cutB bs' s.b (s.e - s.b) = cutB bs s.b (s.e - s.b) := cut_same S o.1 (by omega) (fun z => h ⟨z.1, by omega⟩)
    rw [hc, ← o.2.2.1 e]
  · rfl
theorem own_only {x : Nat} {a b : List Spr} {o : Spr} (h1 : ∀ s ∈ a, ¬ holdsX x s) (h2 : ∀ s ∈ b, ¬ holdsX x s) : ∀ s ∈ a ++ o :: b, holdsX x s → s = o := fun s hs h => by
  rcases List.mem_append.mp hs with e | e
  · exact absurd h (h1 s e)
  · rcases List.mem_cons.mp e with e | e
    · exact e
    · exact absurd h (h2 s e)
theorem clear_of {x : Nat} {a b : List Spr} {o : Spr} (h1 : ∀ s ∈ a, ¬ holdsX x s) (h2 : ∀ s ∈ b, ¬ holdsX x s) (h : ¬ badS o) : Clear x (a ++ o :: b) := fun s hs hb z => h (own_only h1 h2 s hs z ▸ hb)
theorem spr_inj {s t : Spr} (h : s.dat = t.dat) : s = t := by
  cases s; cases t
  simp [Spr.dat] at h
  obtain ⟨h1, h2, h3, h4, h5⟩ := h
  subst h1 h2 h3 h4 h5
  rfl
end Lb
/-! text LbK8 -/
/-! Plain: every spread is flat enough to be compared. -/
namespace Lb
open PySem L2
/-- a path's parts: names in order, ints -/
def PathOk (p : List Dat) : Prop := ∀ d ∈ p, (∃ n : Int, d = .int n) ∨ ∃ s : Str, d = .str s ∧ NmOk s
def WorthOk (d : Dat) : Prop := d.fine 2 = true ∧ d.pure = true
def SprOk (s : Spr) : Prop := PathOk s.path ∧ NmOk s.what ∧ WorthOk s.worth
theorem PathOk.fine : ∀ {p : List Dat}, PathOk p → Dat.fineL 1 p = true ∧ Dat.pureL p = true
  | [], _ => ⟨rfl, rfl⟩
  | d :: p, h => by
    obtain ⟨h1, h2⟩ := PathOk.fine (p := p) fun x hx => h x (List.mem_cons_of_mem _ hx)
    rcases h d List.mem_cons_self with ⟨n, rfl⟩ | ⟨s, rfl, hs⟩
    · rw [Dat.fineL, Dat.pureL, h1, h2]; exact ⟨rfl, rfl⟩
    · have : PyData.strOk s = true := hs
      rw [Dat.fineL, Dat.pureL, h1, h2]
      exact ⟨by simp [Dat.fine, this], rfl⟩
theorem fineL_intsN {n : Nat} : ∀ {xs : List Int}, Dat.fineL n (xs.map Dat.int) = true
  | [] => by cases n <;> rfl
  | x :: xs => by rw [List.map_cons, Dat.fineL, fineL_intsN]; cases n <;> rfl
theorem PathOk.app {p q : List Dat} (h : PathOk p) (g : PathOk q) : PathOk (p ++ q) := fun d hd => by
  rcases List.mem_append.mp hd with e | e
  · exact h d e
  · exact g d e
theorem PathOk.one {n : Str} (h : NmOk n) : PathOk [.str n] := fun d hd => by rw [List.mem_singleton.mp hd]; exact .inr ⟨n, rfl, h⟩
theorem WorthOk.int {n : Int} : WorthOk (.int n) := ⟨rfl, rfl⟩
theorem WorthOk.str {s : Str} (h : NmOk s) : WorthOk (.str s) := by
  have : PyData.strOk s = true := h
  exact ⟨by simp [Dat.fine, this], rfl⟩
theorem WorthOk.bytes {xs : List Int} : WorthOk (bytesD xs) := ⟨by unfold bytesD; simp only [Dat.fine]; exact fineL_intsN, pure_bytes⟩
theorem SprOk.dat {s : Spr} (h : SprOk s) : s.dat.fine 3 = true ∧ s.dat.pure = true := by
  obtain ⟨h1, h2, h3, h4⟩ := h
  obtain ⟨f1, f2⟩ := h1.fine
  have : PyData.strOk s.what = true := h2
  exact ⟨by simp [Spr.dat, Dat.fine, Dat.fineL, f1, this, h3], by simp [Spr.dat, Dat.pure, Dat.pureL, f2, h4]⟩
end Lb
/-! text LbK9 -/
/-! Plain: every spread of a reading may be compared. -/
namespace Lb
open PySem L2
theorem nmL {x : Str} (h : PyData.strOk x = true) : NmOk x := h
def InSpr (deep : List Str) (inn : Inner) : Prop := ∀ (k : Str) (p E : Int) (path : List Dat), k ∈ deep → PathOk path → ∀ s ∈ (inn k p E path).1, SprOk s
section
variable {bs : List Int} {inn : Inner} {E p : Int} {path : List Dat} {t : Tags} {deep seen : List Str} {f : Fld}
theorem stop_spr {q : Int} {word : Str} (hp : PathOk path) (hw : NmOk word) : ∀ s ∈ stopS q E path word, SprOk s := fun s hs => by
  unfold stopS at hs
  split at hs
  · rw [List.mem_singleton.mp hs]
    exact ⟨hp, (show NmOk "unknown" from nmL (by decide +kernel)), WorthOk.str hw⟩
  · cases hs
theorem lack_spr {name word : Str} (hp : PathOk path) (hn : NmOk name) (hw : NmOk word) : ∀ s ∈ lackS p E path name word, SprOk s := fun s hs => by
  rw [List.mem_singleton.mp hs]
  exact ⟨hp.app (.one hn), (show NmOk "lacking" from nmL (by decide +kernel)), WorthOk.str hw⟩
theorem fail_spr {n : Int} {name word : Str} (hp : PathOk path) (hn : NmOk name) (hw : NmOk word) : ∀ s ∈ failS p n E path name word, SprOk s := fun s hs => by
  rcases List.mem_cons.mp hs with e | e
  · rw [e]; exact ⟨hp.app (.one hn), (show NmOk "faulty" from nmL (by decide +kernel)), WorthOk.str hw⟩
  · exact stop_spr hp (nmL (by decide +kernel)) s e
theorem row_spr {k n : Str} {opn : Bool} (hi : InSpr deep inn) (hk : k ∈ deep) (hp : PathOk path) (hn : NmOk n) : ∀ (m i : Nat) (p : Int), ∀ s ∈ (rowGo inn k n opn E path m i p).1, SprOk s
  | 0, i, p, s, hs => by cases hs
  | m + 1, i, p, s, hs => by
    unfold rowGo at hs
    have hp2 : PathOk (path ++ [.str n, .int (i : Nat)]) := hp.app fun d hd => by
      rcases List.mem_cons.mp hd with e | e
      · rw [e]; exact .inr ⟨n, rfl, hn⟩
      · rw [List.mem_singleton.mp e]; exact .inl ⟨_, rfl⟩
    have h1 := hi k p E (path ++ [.str n, .int (i : Nat)]) hk hp2
    split at hs
    · cases hs
    · dsimp only at hs
      split at hs
      · rcases List.mem_append.mp hs with e | e
        · exact h1 s e
        · exact row_spr hi hk hp hn m (i + 1) _ s e
      · exact h1 s hs
theorem fld_spr (hi : InSpr deep inn) (ok : FldOk seen deep f) (hp : PathOk path) : ∀ s ∈ (rdFld bs inn E path p t f).1, SprOk s := by
  intro s hs
  cases f with
  | number n sz o l m =>
    simp only [rdFld] at hs
    split at hs
    · exact lack_spr hp ok.1 (nmL (by decide +kernel)) s hs
    · split at hs
      · rw [List.mem_singleton.mp hs]; exact ⟨hp.app (.one ok.1), (show NmOk "number" from nmL (by decide +kernel)), WorthOk.int⟩
      · exact fail_spr hp ok.1 (nmL (by decide +kernel)) s hs
  | bits a v b w =>
    simp only [rdFld] at hs
    split at hs
    · exact lack_spr hp ok.1 (nmL (by decide +kernel)) s hs
    · rw [List.mem_singleton.mp hs]; exact ⟨hp.app (.one ok.1), (show NmOk "bits" from nmL (by decide +kernel)), rfl, rfl⟩
  | bytes n l =>
    simp only [rdFld] at hs
    split at hs
    · exact fail_spr hp ok.1 (nmL (by decide +kernel)) s hs
    · split at hs
      · exact lack_spr hp ok.1 (nmL (by decide +kernel)) s hs
      · rw [List.mem_singleton.mp hs]; exact ⟨hp.app (.one ok.1), (show NmOk "bytes" from nmL (by decide +kernel)), WorthOk.bytes⟩
  | text n m =>
    simp only [rdFld] at hs
    split at hs
    · rw [List.mem_singleton.mp hs]; exact ⟨hp.app (.one ok.1), (show NmOk "text" from nmL (by decide +kernel)), WorthOk.bytes⟩
    · exact lack_spr hp ok.1 (nmL (by decide +kernel)) s hs
  | choice n tg ks =>
    simp only [rdFld] at hs
    cases e : ks.lookup (tagv t tg) with
    | none =>
      rw [e] at hs
      rw [List.mem_singleton.mp hs]; exact ⟨hp.app (.one ok.1), (show NmOk "unknown" from nmL (by decide +kernel)), WorthOk.str (nmL (by decide +kernel))⟩
    | some kd =>
      rw [e] at hs
      exact hi kd p E _ (ok.2.2.2.2.2 _ (lookup_mem e)) (hp.app (.one ok.1)) s hs
  | row n k tg =>
    simp only [rdFld] at hs
    exact row_spr hi ok.2.1 hp ok.1 _ _ _ s hs
  | carried n l k =>
    simp only [rdFld] at hs
    split at hs
    · exact fail_spr hp ok.1 (nmL (by decide +kernel)) s hs
    · split at hs
      · exact lack_spr hp ok.1 (nmL (by decide +kernel)) s hs
      · dsimp only at hs
        have h1 := hi k p (p + lenBy l t (E - p)) _ ok.2.2 (hp.app (.one ok.1))
        split at hs
        · rcases List.mem_append.mp hs with e | e
          · exact h1 s e
          · exact stop_spr (hp.app (.one ok.1)) (nmL (by decide +kernel)) s e
        · exact h1 s hs
theorem fs_spr (hi : InSpr deep inn) (hp : PathOk path) : ∀ {fs : List Fld} {seen : List Str} {p : Int} {t : Tags}, FsOk deep seen fs → ∀ s ∈ (rdFs bs inn E path fs p t).1, SprOk s
  | [], _, _, _, _, s, hs => by cases hs
  | f :: fs, seen, p, t, ok, s, hs => by
    unfold rdFs at hs
    dsimp only at hs
    have h1 := fld_spr (bs := bs) (E := E) (p := p) (t := t) hi ok.1 hp
    split at hs
    · rcases List.mem_append.mp hs with e | e
      · exact h1 s e
      · exact fs_spr hi hp ok.2 s e
    · exact h1 s hs
end
theorem rdAll_spr {G : Gr} (ok : GrOk G) {bs : List Int} : ∀ s ∈ rdAll G bs, SprOk s := by
  obtain ⟨h1, _, h2, _⟩ := ok.deepOk
  have h0 : InSpr [] inn0 := fun k p E path hk => by cases hk
  have hin : InSpr (deepOf G) (inn1 G bs) := fun k p E path hk hp => fs_spr h0 hp (h2 k hk).1.2.1
  have hp0 : PathOk [] := fun d hd => by cases hd
  intro s hs
  unfold rdAll at hs
  dsimp only at hs
  have h3 := fs_spr (bs := bs) (E := bs.length) (p := 0) (t := []) hin hp0 h1
  split at hs
  · rcases List.mem_append.mp hs with e | e
    · exact h3 s e
    · exact stop_spr hp0 (nmL (by decide +kernel)) s e
  · exact h3 s hs
end Lb
/-! text LbS1 -/
/-! Walk: byte right. -/
namespace Lb
open PySem L2
section
variable {ι : Type} {K : PySem.W.Frag} {W : Wd ι} {i : ι} {Γ : Ctx} {P : ι → Dat → Prop} {ta tb : TE}
theorem lst_dp {H : Hp} {a : Addr} {ds : List Dat} {n : Nat} (h : LstAt K a ds H) (hf : Dat.fineL n ds = true) : Dp K H (.ref a) (.list (Dat.pyL ds)) := by
  obtain ⟨vs, e, al⟩ := h
  exact .lst (SqL.of e) (al.dp hf)
theorem lst_shaped {ds : List Dat} {n : Nat} (hf : Dat.fineL n ds = true) (hn : n ≤ 60) : SeqAt.shaped (.list (Dat.pyL ds)) = true := by
  obtain ⟨z1, z2⟩ := Dat.layL hf
  unfold SeqAt.shaped
  have c1 : (PyData.list (Dat.pyL ds)).canLay0 = true := by simpa [PyData.canLay0] using z1
  rw [c1, Bool.true_and, decide_eq_true_iff]
  have c2 : (PyData.list (Dat.pyL ds)).depth = PyData.depthAll (Dat.pyL ds) + 1 := rfl
  omega
/-- two lists that stand -/
theorem ev_eqLL (h : Ev K W i ta Γ fun j d => Ev K W j tb Γ fun k e => ∃ a b ds es n, d = .obj a ∧ e = .obj b ∧ (∀ {H : Hp}, W.I k H → LstAt K a ds H) ∧ (∀ {H : Hp}, W.I k H → LstAt K b es H) ∧ Dat.fineL n ds = true ∧ Dat.fineL n es = true ∧ n ≤ 60 ∧ P k (.bl (PyData.eqvAll (Dat.pyL ds) (Dat.pyL es)))) : Ev K W i (tOp (rEqD K) ta tb) Γ P := fun H σ I E Q q =>
  h H σ I E _ fun v H1 j d o1 I1 a1 p1 => p1 H1 σ I1 (E.mono o1) _ fun y H2 k e o2 I2 a2 p2 => by
    obtain ⟨a, b, ds, es, n, rfl, rfl, h1, h2, f1, f2, hn, p⟩ := p2
    cases a1; cases a2
    exact ⟨_, _, lst_dp (h1 I2) f1, lst_dp (h2 I2) f2, lst_shaped f1 hn, lst_shaped f2 hn, q _ H2 k _ (o1.trans o2) I2 (.bl _) p⟩
/-- a list that stands against a new one -/
theorem ev_eqLN (h : Ev K W i ta Γ fun j d => EvL K W j tb Γ fun k es => ∃ a ds n, d = .obj a ∧ (∀ {H : Hp}, W.I k H → LstAt K a ds H) ∧ Dat.fineL n ds = true ∧ Dat.fineL n es = true ∧ n ≤ 60 ∧ P k (.bl (PyData.eqvAll (Dat.pyL ds) (Dat.pyL es)))) : Ev K W i (tOp (rEqD K) ta tb) Γ P := fun H σ I E Q q =>
  h H σ I E _ fun v H1 j d o1 I1 a1 p1 => p1 H1 σ I1 (E.mono o1) _ fun b H2 k es nb o2 I2 l2 p2 => by
    obtain ⟨a, ds, n, rfl, h1, f1, f2, hn, p⟩ := p2
    cases a1
    exact ⟨_, _, lst_dp (h1 I2) f1, lst_dp l2 f2, lst_shaped f1 hn, lst_shaped f2 hn, q _ H2 k _ (o1.trans o2) I2 (.bl _) p⟩
end
theorem sprs_fine : ∀ {sps : List Spr}, (∀ s ∈ sps, SprOk s) → Dat.fineL 3 (sps.map Spr.dat) = true ∧ Dat.pureL (sps.map Spr.dat) = true
  | [], _ => ⟨rfl, rfl⟩
  | s :: r, h => by
    obtain ⟨h1, h2⟩ := sprs_fine (sps := r) fun x hx => h x (List.mem_cons_of_mem _ hx)
    obtain ⟨g1, g2⟩ := (h s List.mem_cons_self).dat
    rw [List.map_cons, Dat.fineL, Dat.pureL, h1, h2, g1, g2]
    exact ⟨rfl, rfl⟩
theorem rdAll_len {G : Gr} (ok : GrOk G) {bs : List Int} (hb : ∀ y ∈ bs, 0 ≤ y ∧ y ≤ 255) (hl : bs.length ≤ 1000) : (rdAll G bs).length ≤ 300000 := by
  obtain ⟨h1, h2, h3, _⟩ := ok.deepOk
  have hig := in1_good (G := G) (deep := deepOf G) (x := 0) (fun k hk => (h3 k hk).1) Sim.refl hb
  have := fs_len (bs := bs) (inn := inn1 G bs) (E := bs.length) (path := []) (deep := deepOf G) (A := 20022) (fun seen f p t ok' tg h0 hp => ⟨fld_len (B := 20) (in1_len ok hb hl) ok' h0 hp (Int.le_refl _) hl, fun z => by
    have gf := good_field (bs' := bs) (x := 0) (path := []) Sim.refl hb hig ok' tg h0 hp (Int.le_refl _)
    have gt := gf.tile
    rw [z, if_pos rfl] at gt
    exact ⟨gt.le, gf.hi z, gf.tags z⟩⟩) h1 (tags0 (t := [])) (Int.le_refl 0) (by omega)
  unfold rdAll
  dsimp only
  have h4 : 20022 * (fieldsOf G "all").length ≤ 20022 * 10 := Nat.mul_le_mul_left _ h2.2
  split
  · rw [List.length_append]
    have := stop_len (E := bs.length) (path := []) (q := (rdFs bs (inn1 G bs) bs.length [] (fieldsOf G "all") 0 []).2.1) (word := "left")
    omega
  · omega
end Lb
/-! text LbS2 -/
/-! Walk: byte right. -/
namespace Lb
open PySem L2
theorem eqv_ne {d e : Dat} (hd : d.pure = true) (he : e.pure = true) (h : d ≠ e) : PyData.eqv d.py e.py = false := by
  cases z : PyData.eqv d.py e.py with
  | false => rfl
  | true => exact absurd (eqv_eq hd he z) h
def hxB (x : Int) (s : Spr) : Bool := decide (s.b ≤ x) && decide (x < s.e)
theorem hxB_iff {x : Int} {s : Spr} : hxB x s = true ↔ holdsX x s := by unfold hxB holdsX; simp
theorem hxB_own {x : Int} {a b : List Spr} {o : Spr} (ho : holdsX x o) (ha : ∀ s ∈ a, ¬ holdsX x s) (hb : ∀ s ∈ b, ¬ holdsX x s) : (a ++ o :: b).filter (hxB x) = [o] := by
  rw [List.filter_append, List.filter_cons, if_pos (hxB_iff.mpr ho)]
  have e1 : a.filter (hxB x) = [] := List.filter_eq_nil_iff.mpr fun s hs z => ha s hs (hxB_iff.mp z)
  have e2 : b.filter (hxB x) = [] := List.filter_eq_nil_iff.mpr fun s hs z => hb s hs (hxB_iff.mp z)
  rw [e1, e2]
  rfl
section
variable {P : Program} {w : World} {K : PySem.W.Frag} {mg : Str → Option Value} {base : Heap} {cR cM cT aS aD : Addr}
def BrPre (K : PySem.W.Frag) (a : Gr × List Int × Addr × Int) (H : Hp) : Prop := LstAt K a.2.2.1 ((rdAll a.1 a.2.1).map Spr.dat) H ∧ SpsPre a.1 a.2.1 ∧ 0 ≤ a.2.2.2 ∧ a.2.2.2 < a.2.1.length
def spByteR (K : PySem.W.Frag) : Sp := SpA K (α := Gr × List Int × Addr × Int) (fun a => [grDat a.1, bytesD a.2.1, .obj a.2.2.1, .int a.2.2.2]) (BrPre K) fun _ d => d = .bl true
theorem w_byte_right (T : Tp K mg w cR cM cT aS aD) (G_law_turned : Cl P w K mg base 1 "_law_turned" (spTurned K)) (G_spreads_of : ClN P w K mg base 13 "spreads_of" (spSpreads K)) : Cl P w K mg base 14 "_law_byte_right" (spByteR K) := by
  refine Cl.of (ps := ["_law_grammar_here", "_law_some", "_law_spreads", "_law_at"]) T.d_law_byte_right (fun f fd F => ?_) fun _ _ _ _ _ _ us hl => match us, hl with | [_, _, _, _], _ => rfl
  refine F.ok sc_law_byte_right (fun vs H Q E h => ?_) (fun cdv A outer sh H vs Q E hr h => ?_)
  · obtain ⟨⟨G, bs, q, x⟩, al, _⟩ := h
    exact al.len
  obtain ⟨⟨G, bs, q, x⟩, al, pre, k⟩ := h
  try dsimp only at pre
  have hu := hu_of hr
  refine ⟨_, (pss_cons (ps_set (i := 4) sc_law_byte_right.nd rfl (Or.inr rfl) (pe_ix (k_ixL K) (pe_lc (g := (gName 7)) rfl sc_law_byte_right.nd (k_forL K (pv 2)) (blkOk_by (own := [("_law_spread", 7)]) (N := ["_law_grammar_here", "_law_some", "_law_spreads", "_law_at", "_law_own", "_law_later", "_law_due", "_law_spread"]) (sc := defScope s_law_byte_right) (by decide +kernel)) (fun _ _ _ _ _ => (pg_name (i := 7) sc_law_byte_right.nd rfl (Or.inl rfl))) (fun _ _ _ _ _ => (pts_one (pt_chain op_le op_lt (pe_ix (k_ixT K) (pv 7) pe_int (fun _ _ => rfl)) (pv 3) (pe_ix (k_ixT K) (pv 7) pe_int (fun _ _ => rfl))))) (fun _ _ _ _ _ => (pv 7))) pe_int (fun _ _ => rfl)))
      (pss_cons (ps_set (i := 5) sc_law_byte_right.nd rfl (Or.inl rfl) (k_callN G_spreads_of (hr.mono (by decide)) (pa_cons (pv 0) (pa_cons (k_call G_law_turned (hr.mono (by decide)) (pa_cons (pv 1) (pa_cons (pv 3) pa_nil))) pa_nil))))
      (pss_cons (ps_if (pt_cmpR op_eq (pe_ix (k_ixT K) (pv 4) pe_int (fun _ _ => rfl)) pe_str (nomark _)) (pss_cons (ps_set (i := 6) sc_law_byte_right.nd rfl (Or.inr rfl) (pe_op (k_cat K) (pe_slice (k_slT K) (pv 4) po_none (po_some pe_int)) (pe_tupF (pa_cons (k_call G_law_turned (hr.mono (by decide)) (pa_cons (pe_ix (k_ixT K) (pv 4) pe_int (fun _ _ => rfl)) (pa_cons (pe_op op_sub (pv 3) (pe_ix (k_ixT K) (pv 4) pe_int (fun _ _ => rfl))) pa_nil))) pa_nil))))
      (pss_one (ps_ret (pe_cmpR (k_eqD K hr.units) (pv 5) (pe_lc (g := (gName 7)) rfl sc_law_byte_right.nd (k_forL K (pv 2)) (blkOk_by (own := [("_law_spread", 7)]) (N := ["_law_grammar_here", "_law_some", "_law_spreads", "_law_at", "_law_own", "_law_later", "_law_due", "_law_spread"]) (sc := defScope s_law_byte_right) (by decide +kernel)) (fun _ _ _ _ _ => (pg_name (i := 7) sc_law_byte_right.nd rfl (Or.inl rfl))) (fun _ _ _ _ _ => pts_nil) (fun _ _ _ _ _ => (pe_ix (k_ixL K) (pe_lst (pa_cons (pv 7) (pa_cons (pv 6) pa_nil))) (pe_callTy k_intB (by rfl) T.n_int (by decide +kernel) (pa_cons (pe_cmpR (k_eqD K hr.units) (pv 7) (pv 4) (nomark _)) pa_nil)) (fun _ _ => rfl)))) (nomark _))))) pss_nil)
      (pss_cons (ps_if (PW.pt (pw_or (pt_cmpR op_eq (pe_ix (k_ixT K) (pv 4) pe_int (fun _ _ => rfl)) pe_str (nomark _)) (pw_or1 (PW.pt (pw_and (pt_cmpR op_eq (pe_ix (k_ixT K) (pv 4) pe_int (fun _ _ => rfl)) pe_str (nomark _)) (pw_and1 (pt_cmpR (k_neD K hr.units) (pe_ix (k_ixT K) (pv 4) pe_int (fun _ _ => rfl)) pe_str (nomark _)))))))) (pss_one (ps_ret (pe_cmpR (k_eqD K hr.units) (pv 5) (pv 2) (nomark _)))) pss_nil)
      (pss_one (ps_ret pe_bl)))))), ?_⟩
  unfold BrPre at pre
  dsimp only at pre
  obtain ⟨hq, sp, x0, x1⟩ := pre
  have hq' : ∀ {j : Unit} {H' : Hp}, (Wd.base H).I j H' → LstAt K q ((rdAll G bs).map Spr.dat) H' := fun I => hq.off (A := []) (by simp) (Off.of_same I)
  have hxn : ((x.toNat : Nat) : Int) = x := by omega
  have hlt : x.toNat < bs.length := by omega
  obtain ⟨tl, own, ni⟩ := rdAll_good sp.gr (turn_sim hlt) sp.byt
  have okS := rdAll_spr sp.gr (bs := bs)
  have okS' := rdAll_spr sp.gr (bs := turnB bs x.toNat)
  have hlen := rdAll_len sp.gr sp.byt sp.len
  have hmem := tl.mem
  obtain ⟨a, o, b, hsp, ho, ha, hb⟩ := tile_own (x := x) tl x0 (by omega)
  have hpost : SpsPre G (turnB bs x.toNat) := ⟨sp.gr, by rw [turn_len hlt]; exact sp.len, fun y hy => by
    obtain ⟨i, hi⟩ := List.mem_iff_getElem?.mp hy
    rw [turn_get hlt] at hi
    split at hi
    · cases hi
      have := Int.emod_nonneg (bs[x.toNat] + 1) (show (256 : Int) ≠ 0 by decide)
      have := Int.emod_lt_of_pos (bs[x.toNat] + 1) (show (0 : Int) < 256 by decide)
      omega
    · exact sp.byt y (List.mem_of_getElem? hi)⟩
  generalize hlt' : rdAll G (turnB bs x.toNat) = later at ni okS'
  generalize rdAll G bs = sps at *
  have hom : o ∈ sps := by rw [hsp]; simp
  obtain ⟨oo, od⟩ := (okS o hom).dat
  have ow := own o hom
  have ob := hmem o hom
  refine nx_go (W := .base H) (i := ()) ?_ (fun b o e => e) (Sls.start al _ rfl)
  refine sq_set (ev_ixN (el_lcL (ev_var rfl ⟨q, _, rfl, fun I => hq' I, ?_⟩)))
  refine lc_name (k := 7) (wk_lst fun I => hq' I) (by rw [List.length_map]; omega) (fun m _ acc => acc = ((sps.take m).filter (hxB x)).map Spr.dat) rfl (by decide) ?_ ?_
  · rintro m _ acc d p np hm hd rfl
    obtain ⟨s, hs, rfl⟩ := get_map hd
    have e : ((sps.take (m + 1)).filter (hxB x)).map Spr.dat = if hxB x s = true then ((sps.take m).filter (hxB x)).map Spr.dat ++ [s.dat] else ((sps.take m).filter (hxB x)).map Spr.dat := by
      rw [take_snoc hs, List.filter_append, List.map_append, List.filter_cons]
      split <;> simp
    refine et_test (ev_chain (ev_ix (ds := [.int s.b, .int s.e, .tup s.path, .str s.what, s.worth]) rfl rfl (ev_var rfl (op_bl0 ⟨_, rfl, ifD (fun c1 => ?_) fun c1 => ?_⟩))))
    · refine ev_ix (ds := [.int s.b, .int s.e, .tup s.path, .str s.what, s.worth]) rfl rfl (op_bl0 ⟨_, rfl, ifD (fun c2 => ?_) fun c2 => ?_⟩)
      · refine ev_var rfl ?_
        rw [e, if_pos (by simp [hxB, c1, c2])]
      · rw [e, if_neg (by simp [hxB, c2])]
    · refine ⟨false, rfl, ifF rfl ?_⟩
      rw [e, if_neg (by simp [hxB, c1])]
  rintro _ acc rfl
  have ef : ((sps.take (sps.map Spr.dat).length).filter (hxB x)).map Spr.dat = [o.dat] := by
    rw [List.length_map, List.take_length, hsp, hxB_own ho ha hb]
    rfl
  rw [ef]
  refine ev_int ⟨0, _, rfl, rfl, ?_⟩
  have hld : (bs.map Dat.int).length = bs.length := List.length_map ..
  refine sq_setL (el_callN (ea_cons (ev_var rfl (ea_cons (ev_call (ea_cons (ev_var rfl (ea_cons (ev_var rfl (ea_nil ?_))))))))))
  refine call_A (bs, x) rfl (fun _ => ⟨x0, x1, sp.len⟩) ?_
  rintro _ rfl
  refine ea_nil (call_AL (G, turnB bs x.toNat) rfl (fun _ => hpost) ?_)
  intro l hl p np
  have hl' : l = later.map Spr.dat := by
    rw [← hlt']
    exact hl
  subst hl'
  have fP := sprs_fine okS'
  have fQ := sprs_fine okS
  have hxa : ∀ s ∈ a, ¬ holdsX (x.toNat : Int) s := by rw [hxn]; exact ha
  have hxb : ∀ s ∈ b, ¬ holdsX (x.toNat : Int) s := by rw [hxn]; exact hb
  have onl : ∀ s ∈ sps, s ≠ o → ¬ holdsX (x.toNat : Int) s := fun s hs hne hh => hne (own_only hxa hxb s (by rw [hsp] at hs; exact hs) hh)
  have same : ∀ s ∈ sps, s ≠ o → fixS (turnB bs x.toNat) s = s := fun s hs hne => fix_same (turn_sim hlt) (own s hs) (hmem s hs).2.1 (onl s hs hne)
  have late : ¬ badS o → later = sps.map (fixS (turnB bs x.toNat)) := fun z => ni (by rw [hsp]; exact clear_of hxa hxb z)
  refine sq_when (et_test (ev_op (ev_ix (ds := [.int o.b, .int o.e, .tup o.path, .str o.what, o.worth]) rfl rfl (ev_str (op_eqS ⟨_, rfl, ifD (fun e => ?_) fun e1 => ?_⟩)))))
  · have hw : o.worth = bytesD (cutB bs o.b (o.e - o.b)) := ow.2.2.1 e
    have hoe := ow.2.1
    have ho1 := ho.1
    have ho2 := ho.2
    have hle : (cutB bs o.b (o.e - o.b)).length = (o.e - o.b).toNat := cut_len ow.1 (by omega) (by omega)
    have hdue : Dat.tup ([.int o.b, .int o.e, .tup o.path, .str o.what] ++ [bytesD (turnB (cutB bs o.b (o.e - o.b)) (x - o.b).toNat)]) = (fixS (turnB bs x.toNat) o).dat := by
      rw [turn_cut ow.1 ho1 (by omega) (by omega)]
      unfold fixS
      rw [if_pos e]
      rfl
    refine sq_set (ev_op (ev_slT (ev_var rfl (eo_none (eo_some (ev_int ⟨4, rfl, [.int o.b, .int o.e, .tup o.path, .str o.what, o.worth], rfl, ?_⟩))))))
    rw [cut_to (by decide)]
    refine ev_tup (ea_cons (ev_call (ea_cons (ev_ix (ds := [.int o.b, .int o.e, .tup o.path, .str o.what, o.worth]) rfl rfl (ea_cons (ev_op (ev_var rfl (ev_ix (ds := [.int o.b, .int o.e, .tup o.path, .str o.what, o.worth]) rfl rfl (op_int0 (ea_nil ?_))))))))))
    refine call_A (cutB bs o.b (o.e - o.b), x - o.b) (by rw [hw]) (fun _ => ⟨by show 0 ≤ x - o.b; omega, by show x - o.b < (cutB bs o.b (o.e - o.b)).length; omega, by show (cutB bs o.b (o.e - o.b)).length ≤ 1000; have := sp.len; omega⟩) ?_
    rintro _ rfl
    refine ea_nil ⟨by show 1 ≤ 1000; decide, op_cat (by show 4 + 1 ≤ 1000000; decide) ?_⟩
    refine Eq.mpr (congrArg (fun d => Nx K _ _ (List.set _ 6 (some d)) _) hdue) ?_
    refine nx_ret (ev_eqLN (ev_var rfl (el_lcL (ev_var rfl ⟨q, _, rfl, fun I => hq' I.1, ?_⟩))))
    refine lc_name (k := 7) (wk_lst fun I => hq' I.1) (by rw [List.length_map]; omega) (fun m _ acc => acc = (sps.take m).map fun s => (fixS (turnB bs x.toNat) s).dat) rfl (by decide) ?_ ?_
    · rintro m _ acc d p' np' hm hd rfl
      obtain ⟨s, hs, rfl⟩ := get_map hd
      have hsm := List.mem_of_getElem? hs
      have e' : ((sps.take (m + 1)).map fun s => (fixS (turnB bs x.toNat) s).dat) = ((sps.take m).map fun s => (fixS (turnB bs x.toNat) s).dat) ++ [(fixS (turnB bs x.toNat) s).dat] := by
        rw [take_snoc hs, List.map_append]
        rfl
      obtain ⟨g1, g2⟩ := (okS s hsm).dat
      refine lct_yes (ev_ixN (el_lst (ea_cons (ev_var rfl (ea_cons (ev_var rfl (ea_nil ⟨by show 2 ≤ 1000; decide, ?_⟩)))))))
      refine ev_intB (ev_op (ev_var rfl (ev_var rfl (op_eqD (n := 3) (m := 3) g1 oo (by decide) (by decide) ⟨_, rfl, ?_⟩))))
      by_cases hs0 : s = o
      · rw [hs0, eqv_refl od]
        exact ⟨1, _, rfl, rfl, by rw [e', hs0]⟩
      · rw [eqv_ne g2 od fun z => hs0 (spr_inj z)]
        exact ⟨0, _, rfl, rfl, by rw [e', same s hsm hs0]⟩
    rintro _ acc rfl
    have hfin : ((sps.take (sps.map Spr.dat).length).map fun s => (fixS (turnB bs x.toNat) s).dat) = later.map Spr.dat := by
      rw [List.length_map, List.take_length, late (fun z => z.1 e), List.map_map]
      rfl
    rw [hfin]
    refine ⟨p, _, 3, rfl, fun I => I.2, fP.1, fP.1, by decide, ?_⟩
    rw [eqvL_refl fP.2]
    exact rt_of fun H' v I z => k v H' _ I.1 z rfl
  · refine sq_when (EvT.imp (Pb := fun _ b => b = true → ¬ badS o) ?_ ?_)
    · refine et_or (et_test (ev_op (ev_ix (ds := [.int o.b, .int o.e, .tup o.path, .str o.what, o.worth]) rfl rfl (ev_str (op_eqS ⟨_, rfl, ifD (fun e => ?_) fun e2 => ?_⟩)))))
      · exact fun _ z => z.2.1 e
      · refine et_and (et_test (ev_op (ev_ix (ds := [.int o.b, .int o.e, .tup o.path, .str o.what, o.worth]) rfl rfl (ev_str (op_eqS ⟨_, rfl, ifD (fun e => ?_) fun e3 => ?_⟩)))))
        · have hwo : o.worth.fine 2 = true ∧ o.worth.pure = true := (okS o hom).2.2
          refine et_test (ev_op (ev_ix (ds := [.int o.b, .int o.e, .tup o.path, .str o.what, o.worth]) rfl rfl (ev_str ?_)))
          refine op_neD (n := 2) (m := 0) hwo.1 (by decide +kernel) (by decide) (by decide) ⟨_, rfl, fun z y => ?_⟩
          refine y.2.2 ⟨e, fun w => ?_⟩
          rw [w, eqv_refl rfl] at z
          cases z
        · exact fun z => nomatch z
    · intro _ bb hbb
      refine ifB (fun e => ?_) fun e => ?_
      · refine nx_ret (ev_eqLL (ev_var rfl (ev_var rfl ⟨p, q, later.map Spr.dat, sps.map Spr.dat, 3, rfl, rfl, fun I => I.2, fun I => hq' I.1, fP.1, fQ.1, by decide, ?_⟩)))
        have hfin : later = sps := by
          rw [late (hbb e)]
          refine (List.map_congr_left fun s hs => ?_).trans (List.map_id _)
          by_cases hs0 : s = o
          · rw [hs0]
            exact fix_other e1
          · exact same s hs hs0
        rw [hfin, eqvL_refl fQ.2]
        exact rt_of fun H' v I z => k v H' _ I.1 z rfl
      · exact nx_ret (ev_bl (rt_of fun H' v I z => k v H' _ I.1 z rfl))
end
end Lb
/-! text LbS3 -/
/-! Walk: law. -/
namespace Lb
open PySem L2
section
variable {ι : Type} {K : PySem.W.Frag} {W : Wd ι} {i : ι} {Γ : Ctx}
/-- a name takes a new pool: from there on the world over the heap that stands then -/
theorem sq_pool {k : Nat} {te : TE} {D : Ends} {tr : TS} (h : EvL K W i te Γ fun j ds => (∃ x y : Int, ds = [.int x, .int y] ∧ 0 ≤ y ∧ y < 2147483647) ∧ ∀ p H1 (hp : H1 p ≠ none), ¬ W.C p → W.I j H1 → Nx K (Wd.pw K p H1 hp) () (Γ.set k (some (.obj p))) (tr D)) : Nx K W i Γ (tSeq (tAsg te (gName k)) tr D) := fun H σ I E =>
  h H σ I E _ fun p H1 j ds np o1 I1 a1 p1 => by
    obtain ⟨⟨x, y, rfl, y0, y1⟩, p2⟩ := p1
    have hp : H1 p ≠ none := (lst_shp K p _).trk a1
    exact p2 p H1 hp np I1 H1 _ ⟨Off.refl, x, y, a1, y0, y1⟩ ((E.mono o1).set k (.obj p))
end
theorem ten {L : Int} : 1 ≤ (if (if L < 10 then L else 10) > 1 then (if L < 10 then L else 10) else 1) ∧ (if (if L < 10 then L else 10) > 1 then (if L < 10 then L else 10) else 1) ≤ 10 := by
  by_cases h1 : L < 10
  · rw [if_pos h1]
    by_cases h2 : L > 1
    · rw [if_pos h2]; omega
    · rw [if_neg h2]; omega
  · rw [if_neg h1, if_pos (by decide)]; omega
section
variable {P : Program} {w : World} {K : PySem.W.Frag} {mg : Str → Option Value} {base : Heap} {cR cM cT aS aD : Addr}
def spLaw (K : PySem.W.Frag) : Sp := SpA K (α := Addr × List Int) (fun a => [.obj a.1]) (fun a H => LstR K a.1 (a.2.map Dat.int) H ∧ a.2.length ≤ 63) fun _ d => d = .bl true
theorem w_law (T : Tp K mg w cR cM cT aS aD) (G_law_pool : Cl P w K mg base 1 "_law_pool" (spPool K)) (G_law_grammar : Cl P w K mg base 5 "_law_grammar" (spGrammar K)) (G_law_without_sums : Cl P w K mg base 1 "_law_without_sums" (spNoSums K)) (G_law_made : Cl P w K mg base 7 "_law_made" (spMade K (fun _ k => k = "all") 200000)) (G_law_spoilt : Cl P w K mg base 3 "_law_spoilt" (spSpoilt K)) (G_spreads_of : ClN P w K mg base 13 "spreads_of" (spSpreads K)) (G_law_own_bytes : Cl P w K mg base 1 "_law_own_bytes" (spOwnB K)) (G_law_byte_right : Cl P w K mg base 14 "_law_byte_right" (spByteR K)) {f : Addr} {fd : FuncData} (F : Fun K "law" "law" s_law f fd) : FnOk P w K mg base CX0 15 f fd ["_law_script"] (spLaw K) := by
  refine F.ok sc_law (fun vs H Q E h => ?_) (fun cdv A outer sh H vs Q E hr h => ?_)
  · obtain ⟨⟨q, ns⟩, al, _⟩ := h
    exact al.len
  obtain ⟨⟨q, ns⟩, al, pre, k⟩ := h
  try dsimp only at pre
  have hu := hu_of hr
  refine ⟨_, (pss_cons (ps_for PassesOwn.never rfl (pi_range1 (by rfl) T.n_range (pa_cons (pe_callB (k_max rfl) (by rfl) T.n_max (by decide +kernel) (pa_cons pe_int (pa_cons (pe_callB (k_min rfl) (by rfl) T.n_min (by decide +kernel) (pa_cons pe_int (pa_cons (pe_callB (k_len K) (by rfl) T.n_len (by decide +kernel) (pa_cons (pv 0) pa_nil)) pa_nil))) pa_nil))) pa_nil)) (pg_name (i := 1) sc_law.nd rfl (Or.inl rfl)) (pss_cons (ps_set (i := 2) sc_law.nd rfl (Or.inl rfl) (k_call G_law_pool (hr.mono (by decide)) (pa_cons (pv 0) (pa_cons (pv 1) pa_nil))))
      (pss_cons (ps_set (i := 3) sc_law.nd rfl (Or.inl rfl) (k_call G_law_without_sums (hr.mono (by decide)) (pa_cons (k_call G_law_grammar (hr.mono (by decide)) (pa_cons (pv 2) pa_nil)) pa_nil)))
      (pss_one (ps_for PassesOwn.never rfl (pi_range1 (by rfl) T.n_range (pa_cons pe_int pa_nil)) (pg_name (i := 4) sc_law.nd rfl (Or.inl rfl)) (pss_cons (ps_set (i := 5) sc_law.nd rfl (Or.inl rfl) (pe_slice (k_slT K) (k_call G_law_made (hr.mono (by decide)) (pa_cons (pv 2) (pa_cons (pv 3) (pa_cons pe_str pa_nil)))) po_none (po_some pe_int)))
      (pss_one (ps_for PassesOwn.never rfl (k_forL K (pe_lst (pa_cons (pv 5) (pa_cons (k_call G_law_spoilt (hr.mono (by decide)) (pa_cons (pv 2) (pa_cons (pv 5) pa_nil))) pa_nil)))) (pg_name (i := 6) sc_law.nd rfl (Or.inl rfl)) (pss_cons (ps_set (i := 7) sc_law.nd rfl (Or.inl rfl) (k_callN G_spreads_of (hr.mono (by decide)) (pa_cons (pv 3) (pa_cons (pv 6) pa_nil))))
      (pss_cons (ps_if (pt_not (pt_val (k_call G_law_own_bytes (hr.mono (by decide)) (pa_cons (pv 6) (pa_cons (pv 7) pa_nil))))) (pss_one (ps_ret pe_bl)) pss_nil)
      (pss_one (ps_for PassesOwn.never rfl (pi_range1 (by rfl) T.n_range (pa_cons (pe_callB (k_len K) (by rfl) T.n_len (by decide +kernel) (pa_cons (pv 6) pa_nil)) pa_nil)) (pg_name (i := 8) sc_law.nd rfl (Or.inl rfl)) (pss_one (ps_if (pt_not (pt_val (k_call G_law_byte_right (hr.mono (by decide)) (pa_cons (pv 3) (pa_cons (pv 6) (pa_cons (pv 7) (pa_cons (pv 8) pa_nil))))))) (pss_one (ps_ret pe_bl)) pss_nil))))))))))))))
      (pss_one (ps_ret pe_bl))), ?_⟩
  obtain ⟨hq, hl⟩ := pre
  have hq' : ∀ {j : Unit} {H' : Hp}, (Wd.base H).I j H' → LstR K q (ns.map Dat.int) H' := fun I => hq.same I
  refine nx_go (W := .base H) (i := ()) ?_ (fun b o e => e) (Sls.start al _ rfl)
  refine sq_forR (ea_cons (ev_max2 (ev_int (ev_min2 (ev_int (ev_lenR (ev_var rfl ⟨q, _, rfl, fun I => hq' I, 10, _, rfl, rfl, 1, _, rfl, rfl, ?_⟩)))))))
  have hz := ten (L := ((ns.map Dat.int).length : Int))
  obtain ⟨n, hn⟩ : ∃ n : Int, n = (if (if ((ns.map Dat.int).length : Int) < 10 then ((ns.map Dat.int).length : Int) else 10) > 1 then (if ((ns.map Dat.int).length : Int) < 10 then ((ns.map Dat.int).length : Int) else 10) else 1) := ⟨_, rfl⟩
  rw [← hn] at hz ⊢
  refine ea_nil ⟨n, rfl, ⟨by omega, by omega⟩, ?_⟩
  refine sq_loop (κ := Unit) (Wf := fun _ => Wd.base H) (fun m _ _ Γ => ∃ x1 x2 x3 x4 x5 x6 x7 x8, Γ = [some (.obj q), x1, x2, x3, x4, x5, x6, x7, x8]) () (fun _ => wk_rng) ⟨_, _, _, _, _, _, _, _, rfl⟩ ?_ ?_
  · rintro m _ _ Γ d hm rfl ⟨x1, x2, x3, x4, x5, x6, x7, x8, rfl⟩
    refine tg_name ?_
    refine sq_pool (el_call (ea_cons (ev_var rfl (ea_cons (ev_var rfl (ea_nil ?_))))))
    refine call_AL ((q, ns), 0 + (m : Int)) rfl (fun I => ⟨hq' I, by show ns.length ≤ 1000; omega, by show 0 ≤ 0 + (m : Int); omega, by show 0 + (m : Int) ≤ 1000; omega⟩) ?_
    rintro l ⟨x, y, rfl, y0, y1⟩
    refine ⟨⟨x, y, rfl, y0, y1⟩, fun p H1 hp np I1 => ?_⟩
    have st : Stays (Wd.pw K p H1 hp) p (PoolAt K p) := pw_stays
    refine sq_set (ev_call (ea_cons (ev_call (ea_cons (ev_var rfl (ea_nil ?_))))))
    refine call_Pl st () rfl (fun _ => True.intro) ?_
    rintro _ ⟨raw, rfl, hraw⟩
    refine ea_nil (call_A raw rfl (fun _ => by exact hraw) ?_)
    rintro _ rfl
    have hG := hraw.gr
    generalize unraw raw = G at hG ⊢
    refine nx_forR (ea_cons (ev_int (ea_nil ⟨3, rfl, ⟨by decide, by decide⟩, ?_⟩)))
    refine nx_loop (κ := Unit) (Wf := fun _ => Wd.pw K p H1 hp) (Inv := fun _ _ _ Γ => ∃ x4 x5 x6 x7 x8, Γ = [some (.obj q), some (.int (0 + (m : Int))), some (.obj p), some (grDat G), x4, x5, x6, x7, x8]) (k0 := ()) (fun _ => wk_rng) ⟨_, _, _, _, _, rfl⟩ ?_ ?_
    · rintro t _ _ Γ d ht rfl ⟨x4, x5, x6, x7, x8, rfl⟩
      refine tg_name ?_
      refine sq_set (ev_slT (ev_call (ea_cons (ev_var rfl (ea_cons (ev_var rfl (ea_cons (ev_str (ea_nil ?_)))))))))
      refine call_Pl st (G, "all") rfl (fun _ => ⟨hG, rfl⟩) ?_
      rintro _ ⟨xs, rfl, hx, _⟩
      refine eo_none (eo_some (ev_int ⟨40, rfl, _, rfl, ?_⟩))
      rw [cut_to (by decide), ← List.map_take]
      have hy : ∀ y ∈ xs.take (40 : Int).toNat, 0 ≤ y ∧ y ≤ 255 := fun y z => hx y (List.mem_of_mem_take z)
      have hyl : (xs.take (40 : Int).toNat).length ≤ 40 := by rw [List.length_take]; exact Nat.min_le_left _ _
      generalize xs.take (40 : Int).toNat = ys at hy hyl ⊢
      refine nx_forN (el_lst (ea_cons (ev_var rfl (ea_cons (ev_call (ea_cons (ev_var rfl (ea_cons (ev_var rfl (ea_nil ?_))))))))))
      refine call_Pl st ys rfl (fun _ => ⟨hyl, hy⟩) ?_
      rintro _ ⟨zs, rfl, hz1, hz2⟩
      refine ea_nil ⟨by show 2 ≤ 1000; decide, fun L nL => ?_⟩
      refine nx_loop (κ := Unit) (Wf := fun _ => (Wd.pw K p H1 hp).own L (LstAt K L [bytesD ys, bytesD zs]) (lst_shp K L _) nL) (Inv := fun _ _ _ Γ => ∃ x6 x7 x8, Γ = [some (.obj q), some (.int (0 + (m : Int))), some (.obj p), some (grDat G), some (.int (0 + (t : Int))), some (bytesD ys), x6, x7, x8]) (k0 := ()) (fun _ => wk_lst fun I => I.2) ⟨_, _, _, rfl⟩ ?_ ?_
      · rintro m2 _ _ Γ d hm2 hd ⟨x6, x7, x8, rfl⟩
        have hd' : ∃ us : List Int, d = bytesD us ∧ (∀ y ∈ us, 0 ≤ y ∧ y ≤ 255) ∧ us.length ≤ 50 := by
          have hmem := List.mem_of_getElem? hd
          rcases List.mem_cons.mp hmem with e | e
          · exact ⟨ys, e, hy, by omega⟩
          · rw [List.mem_singleton.mp e]; exact ⟨zs, rfl, hz1, hz2⟩
        obtain ⟨us, rfl, hu1, hu2⟩ := hd'
        have sp : SpsPre G us := ⟨hG, by omega, hu1⟩
        obtain ⟨tl, own, _⟩ := rdAll_good hG (Sim.refl (bs := us)) hu1
        refine tg_name ?_
        refine sq_setL (el_callN (ea_cons (ev_var rfl (ea_cons (ev_var rfl (ea_nil ?_))))))
        refine call_AL (G, us) rfl (fun _ => by exact sp) ?_
        rintro _ rfl S nS
        refine sq_when (et_not (et_test (ev_call (ea_cons (ev_var rfl (ea_cons (ev_var rfl (ea_nil ?_))))))))
        refine call_A (us, S, rdAll G us) rfl (fun I => ⟨I.2, fun s hs => ⟨own s hs, (tl.mem s hs).2.1⟩⟩) ?_
        rintro _ rfl
        refine ⟨true, rfl, ifF rfl ?_⟩
        refine nx_forR (ea_cons (ev_lenT (ev_var rfl ⟨_, rfl, ea_nil ⟨_, rfl, ⟨by omega, by rw [List.length_map]; omega⟩, ?_⟩⟩)))
        rw [List.length_map]
        refine nx_loop (κ := Unit) (Wf := fun _ => ((Wd.pw K p H1 hp).own L (LstAt K L [bytesD ys, bytesD zs]) (lst_shp K L _) nL).own S (LstAt K S ((rdAll G us).map Spr.dat)) (lst_shp K S _) nS) (Inv := fun _ _ _ Γ => ∃ x8, Γ = [some (.obj q), some (.int (0 + (m : Int))), some (.obj p), some (grDat G), some (.int (0 + (t : Int))), some (bytesD ys), some (bytesD us), some (.obj S), x8]) (k0 := ()) (fun _ => wk_rng) ⟨_, rfl⟩ ?_ ?_
        · rintro c _ _ Γ d hc rfl ⟨x8, rfl⟩
          refine tg_name ?_
          refine nx_if (et_not (et_test (ev_call (ea_cons (ev_var rfl (ea_cons (ev_var rfl (ea_cons (ev_var rfl (ea_cons (ev_var rfl (ea_nil ?_))))))))))))
          refine call_A (G, us, S, 0 + (c : Int)) rfl (fun I => ⟨I.2, sp, by show 0 ≤ 0 + (c : Int); omega, by show 0 + (c : Int) < us.length; omega⟩) ?_
          rintro _ rfl
          refine ⟨true, rfl, ifF rfl ?_⟩
          exact fun H' σ I E => Lp.of () I E ⟨_, rfl⟩
        · rintro _ _ Γ ⟨x8, rfl⟩
          exact nx_forget fun H' σ I E => Lp.of () I E ⟨_, _, _, rfl⟩
      · rintro _ _ Γ ⟨x6, x7, x8, rfl⟩
        exact nx_forget fun H' σ I E => Lp.of () I E ⟨_, _, _, _, _, rfl⟩
    · rintro _ _ Γ ⟨x4, x5, x6, x7, x8, rfl⟩
      exact fun H' σ I E => Lp.of (j := ()) () (Off.late (A := []) (Off.of_same I1) (Classical.byContradiction np) I.1).same E ⟨_, _, _, _, _, _, _, _, rfl⟩
  · rintro _ _ Γ ⟨x1, x2, x3, x4, x5, x6, x7, x8, rfl⟩
    exact nx_ret (ev_bl (rt_of fun H' v I z => k v H' _ I z rfl))
/-- the whole -/
theorem w_all (T : Tp K mg w cR cM cT aS aD) {f : Addr} {fd : FuncData} (F : Fun K "law" "law" s_law f fd) : FnOk P w K mg base CX0 15 f fd ["_law_script"] (spLaw K) := by
  have take := w_take' (P := P) (base := base) T
  have len := w_length' T take
  have num := w_number' T take
  have flds := w_fields T take (w_tags T) (w_plain T take num len) (w_deep T take len)
  exact w_law T (w_pool T) (w_grammar T take flds) (w_nosums T) (w_madeAll T) (w_spoilt T take (w_garbage T take)) (w_spreads T) (w_own_bytes T) (w_byte_right T (w_turned T) (w_spreads T)) F
end
end Lb
/-! text LbHd -/
set_option maxHeartbeats 4000000
/-! The names of the top, from facts of the written part. -/
namespace Lb
open PySem L2
theorem df_mk {K : PySem.W.Frag} {h : Heap} {mg : Str → Option Value} (X : K.In h) (G : h.Ns mainGlobals mg) {x qual : Str} {st : Stmt} {f : Addr} {oc : Value} {od an : Option Addr} {osl : Array (Option Value)} {kV doc pm cdv ct : Value} (a : PySem.W.nsIn K mainGlobals x = some (some (.ref f)))
    (l : K.lookup f = some ⟨oc, od, .func (PySem.W.fnOf x qual (defArgs st) (defBody st) (defScope st) .none kV doc pm an cdv ct), osl⟩) (c : PySem.W.codeIn K cdv qual = true) (k : PySem.W.keepIn K (.ref f) = true) : Df K mg x qual st := ⟨_, _, fun_mk (st := st) l c k, PySem.W.mg_of X G a⟩
theorem tp_mk {K : PySem.W.Frag} {w : World} {h : Heap} {mg : Str → Option Value} {cR cM cT aS aD f_sp D_sp fm1 fm2 fm3 fm4 fm5 fm6 fm7 fm8 fm9 fm10 fm11 fm12 fm13 fm14 frnumber frbits frbytes frtext frsum frchoice frrow frcarried : Addr} {sS sl_sp slm1 slm2 slm3 slm4 slm5 slm6 slm7 slm8 slm9 slm10 slm11 slm12 slm13 slm14 slrnumber slrbits slrbytes slrtext slrsum slrchoice slrrow slrcarried : Array (Option Value)} {iS : Array Value} {nS nD : Nat} {eD : Array DictEntry} {t_g_BYTE t_g_LETTERS t_g_LONGEST : Tok} {od_sp an_sp odm1 anm1 odm2 anm2 odm3 anm3 odm4 anm4 odm5 anm5 odm6 anm6 odm7 anm7 odm8 anm8 odm9 anm9 odm10 anm10 odm11 anm11 odm12 anm12 odm13 anm13 odm14 anm14 odrnumber anrnumber odrbits anrbits odrbytes anrbytes odrtext anrtext odrsum anrsum odrchoice anrchoice odrrow anrrow odrcarried anrcarried : Option Addr} {oc_sp dc_sp pm_sp cd_sp ct_sp ocm1 kVm1 dcm1 pmm1 cdm1 ctm1 ocm2 kVm2 dcm2 pmm2 cdm2 ctm2 ocm3 kVm3 dcm3 pmm3 cdm3 ctm3 ocm4 kVm4 dcm4 pmm4 cdm4 ctm4 ocm5 kVm5 dcm5 pmm5 cdm5 ctm5 ocm6 kVm6 dcm6 pmm6 cdm6 ctm6 ocm7 kVm7 dcm7 pmm7 cdm7 ctm7 ocm8 kVm8 dcm8 pmm8 cdm8 ctm8 ocm9 kVm9 dcm9 pmm9 cdm9 ctm9 ocm10 kVm10 dcm10 pmm10 cdm10 ctm10 ocm11 kVm11 dcm11 pmm11 cdm11 ctm11 ocm12 kVm12 dcm12 pmm12 cdm12 ctm12 ocm13 kVm13 dcm13 pmm13 cdm13 ctm13 ocm14 kVm14 dcm14 pmm14 cdm14 ctm14 ocrnumber kVrnumber dcrnumber pmrnumber cdrnumber ctrnumber ocrbits kVrbits dcrbits pmrbits cdrbits ctrbits ocrbytes kVrbytes dcrbytes pmrbytes cdrbytes ctrbytes ocrtext kVrtext dcrtext pmrtext cdrtext ctrtext ocrsum kVrsum dcrsum pmrsum cdrsum ctrsum ocrchoice kVrchoice dcrchoice pmrchoice cdrchoice ctrchoice ocrrow kVrrow dcrrow pmrrow cdrrow ctrrow ocrcarried kVrcarried dcrcarried pmrcarried cdrcarried ctrcarried : Value} (X : K.In h) (G : h.Ns mainGlobals mg)
    (aS0 : PySem.W.nsIn K mainGlobals "REST" = some (some (.ref aS)))
    (aD0 : PySem.W.nsIn K mainGlobals "READERS" = some (some (.ref aD)))
    (lS : K.lookup aS = some ⟨.type "tuple", none, .seq iS nS, sS⟩)
    (lD : K.lookup aD = some ⟨.type "dict", none, .dict eD nD, #[]⟩)
    (n_all : PySem.W.nsIn K mainGlobals "all" = some none)
    (n_any : PySem.W.nsIn K mainGlobals "any" = some none)
    (n_dict : PySem.W.nsIn K mainGlobals "dict" = some none)
    (n_int : PySem.W.nsIn K mainGlobals "int" = some none)
    (n_isinstance : PySem.W.nsIn K mainGlobals "isinstance" = some none)
    (n_len : PySem.W.nsIn K mainGlobals "len" = some none)
    (n_list : PySem.W.nsIn K mainGlobals "list" = some none)
    (n_max : PySem.W.nsIn K mainGlobals "max" = some none)
    (n_min : PySem.W.nsIn K mainGlobals "min" = some none)
    (n_range : PySem.W.nsIn K mainGlobals "range" = some none)
    (n_str : PySem.W.nsIn K mainGlobals "str" = some none)
    (n_sum : PySem.W.nsIn K mainGlobals "sum" = some none)
    (n_tuple : PySem.W.nsIn K mainGlobals "tuple" = some none)
    (n_zip : PySem.W.nsIn K mainGlobals "zip" = some none)
    (g_BYTE : PySem.W.nsIn K mainGlobals "BYTE" = some (some (.int 256 t_g_BYTE)))
    (g_LETTERS : PySem.W.nsIn K mainGlobals "LETTERS" = some (some (.str "abcdefghijklmnopqrstuvwxyz" t_g_LETTERS)))
    (g_LONGEST : PySem.W.nsIn K mainGlobals "LONGEST" = some (some (.int 8 t_g_LONGEST)))
    (d_is_word : Df K mg "is_word" "is_word" s_is_word)
    (d_number_in : Df K mg "number_in" "number_in" s_number_in)
    (d_tags_in : Df K mg "tags_in" "tags_in" s_tags_in)
    (d_tags_of : Df K mg "tags_of" "tags_of" s_tags_of)
    (d_kinds_in : Df K mg "kinds_in" "kinds_in" s_kinds_in)
    (d_kind_table : Df K mg "kind_table" "kind_table" s_kind_table)
    (d_goes_on : Df K mg "goes_on" "goes_on" s_goes_on)
    (d_least_length : Df K mg "least_length" "least_length" s_least_length)
    (d_least_field : Df K mg "least_field" "least_field" s_least_field)
    (d_reckoned : Df K mg "reckoned" "reckoned" s_reckoned)
    (d_fields_of : Df K mg "fields_of" "fields_of" s_fields_of)
    (d_length_by : Df K mg "length_by" "length_by" s_length_by)
    (d_parts_of : Df K mg "parts_of" "parts_of" s_parts_of)
    (d_reading : Df K mg "reading" "reading" s_reading)
    (d_law_pool : Df K mg "_law_pool" "_law_pool" s_law_pool)
    (d_law_take : Df K mg "_law_take" "_law_take" s_law_take)
    (d_law_length : Df K mg "_law_length" "_law_length" s_law_length)
    (d_law_number : Df K mg "_law_number" "_law_number" s_law_number)
    (d_law_plain_field : Df K mg "_law_plain_field" "_law_plain_field" s_law_plain_field)
    (d_law_deep_field : Df K mg "_law_deep_field" "_law_deep_field" s_law_deep_field)
    (d_law_tags : Df K mg "_law_tags" "_law_tags" s_law_tags)
    (d_law_fields : Df K mg "_law_fields" "_law_fields" s_law_fields)
    (d_law_grammar : Df K mg "_law_grammar" "_law_grammar" s_law_grammar)
    (d_law_many : Df K mg "_law_many" "_law_many" s_law_many)
    (d_law_bytes : Df K mg "_law_bytes" "_law_bytes" s_law_bytes)
    (d_law_garbage : Df K mg "_law_garbage" "_law_garbage" s_law_garbage)
    (d_law_made_field : Df K mg "_law_made_field" "_law_made_field" s_law_made_field)
    (d_law_made : Df K mg "_law_made" "_law_made" s_law_made)
    (d_law_spoilt : Df K mg "_law_spoilt" "_law_spoilt" s_law_spoilt)
    (d_law_without_sums : Df K mg "_law_without_sums" "_law_without_sums" s_law_without_sums)
    (d_law_turned : Df K mg "_law_turned" "_law_turned" s_law_turned)
    (d_law_byte_right : Df K mg "_law_byte_right" "_law_byte_right" s_law_byte_right)
    (d_law_own_bytes : Df K mg "_law_own_bytes" "_law_own_bytes" s_law_own_bytes)
    (d_law : Df K mg "law" "law" s_law)
    (d_read_number : Df K mg "read_number" "read_number" s_read_number)
    (d_read_bits : Df K mg "read_bits" "read_bits" s_read_bits)
    (d_read_bytes : Df K mg "read_bytes" "read_bytes" s_read_bytes)
    (d_read_text : Df K mg "read_text" "read_text" s_read_text)
    (d_read_sum : Df K mg "read_sum" "read_sum" s_read_sum)
    (d_read_choice : Df K mg "read_choice" "read_choice" s_read_choice)
    (d_read_row : Df K mg "read_row" "read_row" s_read_row)
    (d_read_carried : Df K mg "read_carried" "read_carried" s_read_carried)
    (a_sp : PySem.W.nsIn K mainGlobals "spreads_of" = some (some (.ref f_sp)))
    (l_sp : K.lookup f_sp = some ⟨oc_sp, od_sp, .func (PySem.W.fnOf "spreads_of" "spreads_of" (defArgs s_spreads_of) (defBody s_spreads_of) (defScope s_spreads_of) .none (.ref D_sp) dc_sp pm_sp an_sp cd_sp ct_sp), sl_sp⟩)
    (c_sp : PySem.W.codeIn K cd_sp "spreads_of" = true)
    (k_sp : PySem.W.keepIn K (.ref f_sp) = true)
    (e_sp : PySem.W.nsIn K D_sp "kind" = some (some .none))
    (a_Reader : PySem.W.nsIn K mainGlobals "Reader" = some (some (.ref cR)))
    (pgReader : PySem.W.plainGet K cR Str.empty = true)
    (hdReader : PySem.W.hasDictIn K cR = true)
    (poReader : PySem.W.plainOver K cR = true)
    (saReader : PySem.W.findIn K (.ref cR) "__setattr__" = some (some (.builtin "object.__setattr__")))
    (mkReader : PySem.W.makesIn K cR = true)
    (kcReader : PySem.W.keepIn K (.ref cR) = true)
    (za_Reader_by_grammar : PySem.W.findIn K (.ref cR) "by_grammar" = some none)
    (za_Reader_known : PySem.W.findIn K (.ref cR) "known" = some none)
    (za_Reader_all_bytes : PySem.W.findIn K (.ref cR) "all_bytes" = some none)
    (za_Reader_found : PySem.W.findIn K (.ref cR) "found" = some none)
    (am1 : PySem.W.findIn K (.ref cR) "__init__" = some (some (.ref fm1)))
    (im1 : PySem.W.isFn K (.ref fm1) = true)
    (lm1 : K.lookup fm1 = some ⟨ocm1, odm1, .func (PySem.W.fnOf "__init__" "Reader.__init__" (defArgs s_Reader_init) (defBody s_Reader_init) (defScope s_Reader_init) .none kVm1 dcm1 pmm1 anm1 cdm1 ctm1), slm1⟩)
    (cm1 : PySem.W.codeIn K cdm1 "Reader.__init__" = true)
    (km1 : PySem.W.keepIn K (.ref fm1) = true)
    (am2 : PySem.W.findIn K (.ref cR) "tell" = some (some (.ref fm2)))
    (im2 : PySem.W.isFn K (.ref fm2) = true)
    (lm2 : K.lookup fm2 = some ⟨ocm2, odm2, .func (PySem.W.fnOf "tell" "Reader.tell" (defArgs s_Reader_tell) (defBody s_Reader_tell) (defScope s_Reader_tell) .none kVm2 dcm2 pmm2 anm2 cdm2 ctm2), slm2⟩)
    (cm2 : PySem.W.codeIn K cdm2 "Reader.tell" = true)
    (km2 : PySem.W.keepIn K (.ref fm2) = true)
    (am3 : PySem.W.findIn K (.ref cR) "stop" = some (some (.ref fm3)))
    (im3 : PySem.W.isFn K (.ref fm3) = true)
    (lm3 : K.lookup fm3 = some ⟨ocm3, odm3, .func (PySem.W.fnOf "stop" "Reader.stop" (defArgs s_Reader_stop) (defBody s_Reader_stop) (defScope s_Reader_stop) .none kVm3 dcm3 pmm3 anm3 cdm3 ctm3), slm3⟩)
    (cm3 : PySem.W.codeIn K cdm3 "Reader.stop" = true)
    (km3 : PySem.W.keepIn K (.ref fm3) = true)
    (am4 : PySem.W.findIn K (.ref cR) "read_kind" = some (some (.ref fm4)))
    (im4 : PySem.W.isFn K (.ref fm4) = true)
    (lm4 : K.lookup fm4 = some ⟨ocm4, odm4, .func (PySem.W.fnOf "read_kind" "Reader.read_kind" (defArgs s_Reader_read_kind) (defBody s_Reader_read_kind) (defScope s_Reader_read_kind) .none kVm4 dcm4 pmm4 anm4 cdm4 ctm4), slm4⟩)
    (cm4 : PySem.W.codeIn K cdm4 "Reader.read_kind" = true)
    (km4 : PySem.W.keepIn K (.ref fm4) = true)
    (am5 : PySem.W.findIn K (.ref cR) "read_room" = some (some (.ref fm5)))
    (im5 : PySem.W.isFn K (.ref fm5) = true)
    (lm5 : K.lookup fm5 = some ⟨ocm5, odm5, .func (PySem.W.fnOf "read_room" "Reader.read_room" (defArgs s_Reader_read_room) (defBody s_Reader_read_room) (defScope s_Reader_read_room) .none kVm5 dcm5 pmm5 anm5 cdm5 ctm5), slm5⟩)
    (cm5 : PySem.W.codeIn K cdm5 "Reader.read_room" = true)
    (km5 : PySem.W.keepIn K (.ref fm5) = true)
    (a_Room : PySem.W.nsIn K mainGlobals "Room" = some (some (.ref cM)))
    (pgRoom : PySem.W.plainGet K cM Str.empty = true)
    (hdRoom : PySem.W.hasDictIn K cM = true)
    (poRoom : PySem.W.plainOver K cM = true)
    (saRoom : PySem.W.findIn K (.ref cM) "__setattr__" = some (some (.builtin "object.__setattr__")))
    (mkRoom : PySem.W.makesIn K cM = true)
    (kcRoom : PySem.W.keepIn K (.ref cM) = true)
    (za_Room_place : PySem.W.findIn K (.ref cM) "place" = some none)
    (za_Room_limit : PySem.W.findIn K (.ref cM) "limit" = some none)
    (za_Room_end : PySem.W.findIn K (.ref cM) "end" = some none)
    (am6 : PySem.W.findIn K (.ref cM) "__init__" = some (some (.ref fm6)))
    (im6 : PySem.W.isFn K (.ref fm6) = true)
    (lm6 : K.lookup fm6 = some ⟨ocm6, odm6, .func (PySem.W.fnOf "__init__" "Room.__init__" (defArgs s_Room_init) (defBody s_Room_init) (defScope s_Room_init) .none kVm6 dcm6 pmm6 anm6 cdm6 ctm6), slm6⟩)
    (cm6 : PySem.W.codeIn K cdm6 "Room.__init__" = true)
    (km6 : PySem.W.keepIn K (.ref fm6) = true)
    (a_Thing : PySem.W.nsIn K mainGlobals "Thing" = some (some (.ref cT)))
    (pgThing : PySem.W.plainGet K cT Str.empty = true)
    (hdThing : PySem.W.hasDictIn K cT = true)
    (poThing : PySem.W.plainOver K cT = true)
    (saThing : PySem.W.findIn K (.ref cT) "__setattr__" = some (some (.builtin "object.__setattr__")))
    (mkThing : PySem.W.makesIn K cT = true)
    (kcThing : PySem.W.keepIn K (.ref cT) = true)
    (za_Thing_reader : PySem.W.findIn K (.ref cT) "reader" = some none)
    (za_Thing_begin : PySem.W.findIn K (.ref cT) "begin" = some none)
    (za_Thing_place : PySem.W.findIn K (.ref cT) "place" = some none)
    (za_Thing_limit : PySem.W.findIn K (.ref cT) "limit" = some none)
    (za_Thing_end : PySem.W.findIn K (.ref cT) "end" = some none)
    (za_Thing_path : PySem.W.findIn K (.ref cT) "path" = some none)
    (za_Thing_tags : PySem.W.findIn K (.ref cT) "tags" = some none)
    (za_Thing_fields : PySem.W.findIn K (.ref cT) "fields" = some none)
    (am7 : PySem.W.findIn K (.ref cT) "__init__" = some (some (.ref fm7)))
    (im7 : PySem.W.isFn K (.ref fm7) = true)
    (lm7 : K.lookup fm7 = some ⟨ocm7, odm7, .func (PySem.W.fnOf "__init__" "Thing.__init__" (defArgs s_Thing_init) (defBody s_Thing_init) (defScope s_Thing_init) .none kVm7 dcm7 pmm7 anm7 cdm7 ctm7), slm7⟩)
    (cm7 : PySem.W.codeIn K cdm7 "Thing.__init__" = true)
    (km7 : PySem.W.keepIn K (.ref fm7) = true)
    (am8 : PySem.W.findIn K (.ref cT) "read" = some (some (.ref fm8)))
    (im8 : PySem.W.isFn K (.ref fm8) = true)
    (lm8 : K.lookup fm8 = some ⟨ocm8, odm8, .func (PySem.W.fnOf "read" "Thing.read" (defArgs s_Thing_read) (defBody s_Thing_read) (defScope s_Thing_read) .none kVm8 dcm8 pmm8 anm8 cdm8 ctm8), slm8⟩)
    (cm8 : PySem.W.codeIn K cdm8 "Thing.read" = true)
    (km8 : PySem.W.keepIn K (.ref fm8) = true)
    (am9 : PySem.W.findIn K (.ref cT) "room" = some (some (.ref fm9)))
    (im9 : PySem.W.isFn K (.ref fm9) = true)
    (lm9 : K.lookup fm9 = some ⟨ocm9, odm9, .func (PySem.W.fnOf "room" "Thing.room" (defArgs s_Thing_room) (defBody s_Thing_room) (defScope s_Thing_room) .none kVm9 dcm9 pmm9 anm9 cdm9 ctm9), slm9⟩)
    (cm9 : PySem.W.codeIn K cdm9 "Thing.room" = true)
    (km9 : PySem.W.keepIn K (.ref fm9) = true)
    (am10 : PySem.W.findIn K (.ref cT) "lacks" = some (some (.ref fm10)))
    (im10 : PySem.W.isFn K (.ref fm10) = true)
    (lm10 : K.lookup fm10 = some ⟨ocm10, odm10, .func (PySem.W.fnOf "lacks" "Thing.lacks" (defArgs s_Thing_lacks) (defBody s_Thing_lacks) (defScope s_Thing_lacks) .none kVm10 dcm10 pmm10 anm10 cdm10 ctm10), slm10⟩)
    (cm10 : PySem.W.codeIn K cdm10 "Thing.lacks" = true)
    (km10 : PySem.W.keepIn K (.ref fm10) = true)
    (am11 : PySem.W.findIn K (.ref cT) "fails" = some (some (.ref fm11)))
    (im11 : PySem.W.isFn K (.ref fm11) = true)
    (lm11 : K.lookup fm11 = some ⟨ocm11, odm11, .func (PySem.W.fnOf "fails" "Thing.fails" (defArgs s_Thing_fails) (defBody s_Thing_fails) (defScope s_Thing_fails) .none kVm11 dcm11 pmm11 anm11 cdm11 ctm11), slm11⟩)
    (cm11 : PySem.W.codeIn K cdm11 "Thing.fails" = true)
    (km11 : PySem.W.keepIn K (.ref fm11) = true)
    (am12 : PySem.W.findIn K (.ref cT) "take" = some (some (.ref fm12)))
    (im12 : PySem.W.isFn K (.ref fm12) = true)
    (lm12 : K.lookup fm12 = some ⟨ocm12, odm12, .func (PySem.W.fnOf "take" "Thing.take" (defArgs s_Thing_take) (defBody s_Thing_take) (defScope s_Thing_take) .none kVm12 dcm12 pmm12 anm12 cdm12 ctm12), slm12⟩)
    (cm12 : PySem.W.codeIn K cdm12 "Thing.take" = true)
    (km12 : PySem.W.keepIn K (.ref fm12) = true)
    (am13 : PySem.W.findIn K (.ref cT) "bytes_there" = some (some (.ref fm13)))
    (im13 : PySem.W.isFn K (.ref fm13) = true)
    (lm13 : K.lookup fm13 = some ⟨ocm13, odm13, .func (PySem.W.fnOf "bytes_there" "Thing.bytes_there" (defArgs s_Thing_bytes_there) (defBody s_Thing_bytes_there) (defScope s_Thing_bytes_there) .none kVm13 dcm13 pmm13 anm13 cdm13 ctm13), slm13⟩)
    (cm13 : PySem.W.codeIn K cdm13 "Thing.bytes_there" = true)
    (km13 : PySem.W.keepIn K (.ref fm13) = true)
    (am14 : PySem.W.findIn K (.ref cT) "is_short" = some (some (.ref fm14)))
    (im14 : PySem.W.isFn K (.ref fm14) = true)
    (lm14 : K.lookup fm14 = some ⟨ocm14, odm14, .func (PySem.W.fnOf "is_short" "Thing.is_short" (defArgs s_Thing_is_short) (defBody s_Thing_is_short) (defScope s_Thing_is_short) .none kVm14 dcm14 pmm14 anm14 cdm14 ctm14), slm14⟩)
    (cm14 : PySem.W.codeIn K cdm14 "Thing.is_short" = true)
    (km14 : PySem.W.keepIn K (.ref fm14) = true)
    (arnumber : PySem.W.nsIn K aD "number" = some (some (.ref frnumber)))
    (lrnumber : K.lookup frnumber = some ⟨ocrnumber, odrnumber, .func (PySem.W.fnOf "read_number" "read_number" (defArgs s_read_number) (defBody s_read_number) (defScope s_read_number) .none kVrnumber dcrnumber pmrnumber anrnumber cdrnumber ctrnumber), slrnumber⟩)
    (crnumber : PySem.W.codeIn K cdrnumber "read_number" = true)
    (krnumber : PySem.W.keepIn K (.ref frnumber) = true)
    (arbits : PySem.W.nsIn K aD "bits" = some (some (.ref frbits)))
    (lrbits : K.lookup frbits = some ⟨ocrbits, odrbits, .func (PySem.W.fnOf "read_bits" "read_bits" (defArgs s_read_bits) (defBody s_read_bits) (defScope s_read_bits) .none kVrbits dcrbits pmrbits anrbits cdrbits ctrbits), slrbits⟩)
    (crbits : PySem.W.codeIn K cdrbits "read_bits" = true)
    (krbits : PySem.W.keepIn K (.ref frbits) = true)
    (arbytes : PySem.W.nsIn K aD "bytes" = some (some (.ref frbytes)))
    (lrbytes : K.lookup frbytes = some ⟨ocrbytes, odrbytes, .func (PySem.W.fnOf "read_bytes" "read_bytes" (defArgs s_read_bytes) (defBody s_read_bytes) (defScope s_read_bytes) .none kVrbytes dcrbytes pmrbytes anrbytes cdrbytes ctrbytes), slrbytes⟩)
    (crbytes : PySem.W.codeIn K cdrbytes "read_bytes" = true)
    (krbytes : PySem.W.keepIn K (.ref frbytes) = true)
    (artext : PySem.W.nsIn K aD "text" = some (some (.ref frtext)))
    (lrtext : K.lookup frtext = some ⟨ocrtext, odrtext, .func (PySem.W.fnOf "read_text" "read_text" (defArgs s_read_text) (defBody s_read_text) (defScope s_read_text) .none kVrtext dcrtext pmrtext anrtext cdrtext ctrtext), slrtext⟩)
    (crtext : PySem.W.codeIn K cdrtext "read_text" = true)
    (krtext : PySem.W.keepIn K (.ref frtext) = true)
    (arsum : PySem.W.nsIn K aD "sum" = some (some (.ref frsum)))
    (lrsum : K.lookup frsum = some ⟨ocrsum, odrsum, .func (PySem.W.fnOf "read_sum" "read_sum" (defArgs s_read_sum) (defBody s_read_sum) (defScope s_read_sum) .none kVrsum dcrsum pmrsum anrsum cdrsum ctrsum), slrsum⟩)
    (crsum : PySem.W.codeIn K cdrsum "read_sum" = true)
    (krsum : PySem.W.keepIn K (.ref frsum) = true)
    (archoice : PySem.W.nsIn K aD "choice" = some (some (.ref frchoice)))
    (lrchoice : K.lookup frchoice = some ⟨ocrchoice, odrchoice, .func (PySem.W.fnOf "read_choice" "read_choice" (defArgs s_read_choice) (defBody s_read_choice) (defScope s_read_choice) .none kVrchoice dcrchoice pmrchoice anrchoice cdrchoice ctrchoice), slrchoice⟩)
    (crchoice : PySem.W.codeIn K cdrchoice "read_choice" = true)
    (krchoice : PySem.W.keepIn K (.ref frchoice) = true)
    (arrow : PySem.W.nsIn K aD "row" = some (some (.ref frrow)))
    (lrrow : K.lookup frrow = some ⟨ocrrow, odrrow, .func (PySem.W.fnOf "read_row" "read_row" (defArgs s_read_row) (defBody s_read_row) (defScope s_read_row) .none kVrrow dcrrow pmrrow anrrow cdrrow ctrrow), slrrow⟩)
    (crrow : PySem.W.codeIn K cdrrow "read_row" = true)
    (krrow : PySem.W.keepIn K (.ref frrow) = true)
    (arcarried : PySem.W.nsIn K aD "carried" = some (some (.ref frcarried)))
    (lrcarried : K.lookup frcarried = some ⟨ocrcarried, odrcarried, .func (PySem.W.fnOf "read_carried" "read_carried" (defArgs s_read_carried) (defBody s_read_carried) (defScope s_read_carried) .none kVrcarried dcrcarried pmrcarried anrcarried cdrcarried ctrcarried), slrcarried⟩)
    (crcarried : PySem.W.codeIn K cdrcarried "read_carried" = true)
    (krcarried : PySem.W.keepIn K (.ref frcarried) = true)
    (ne_TM : cT ≠ cM)
    (ne_TR : cT ≠ cR)
    (vS : Vals [.str "rest"] iS.toList ∧ iS.size ≤ sizeLine)
    (kD : PySem.W.KeysLit w.params eD.toList) : Tp K mg w cR cM cT aS aD where
  n_all := PySem.W.mg_none_of X G n_all
  n_any := PySem.W.mg_none_of X G n_any
  n_dict := PySem.W.mg_none_of X G n_dict
  n_int := PySem.W.mg_none_of X G n_int
  n_isinstance := PySem.W.mg_none_of X G n_isinstance
  n_len := PySem.W.mg_none_of X G n_len
  n_list := PySem.W.mg_none_of X G n_list
  n_max := PySem.W.mg_none_of X G n_max
  n_min := PySem.W.mg_none_of X G n_min
  n_range := PySem.W.mg_none_of X G n_range
  n_str := PySem.W.mg_none_of X G n_str
  n_sum := PySem.W.mg_none_of X G n_sum
  n_tuple := PySem.W.mg_none_of X G n_tuple
  n_zip := PySem.W.mg_none_of X G n_zip
  g_BYTE := ⟨_, PySem.W.mg_of X G g_BYTE⟩
  g_LETTERS := ⟨_, PySem.W.mg_of X G g_LETTERS⟩
  g_LONGEST := ⟨_, PySem.W.mg_of X G g_LONGEST⟩
  ne_TM := ne_TM
  ne_TR := ne_TR
  r_REST := fun _ => .inr ⟨_, _, _, lS, rfl, rfl, rfl, vS.2, vS.1⟩
  g_REST := PySem.W.mg_of X G aS0
  g_READERS := PySem.W.mg_of X G aD0
  d_is_word := d_is_word
  d_number_in := d_number_in
  d_tags_in := d_tags_in
  d_tags_of := d_tags_of
  d_kinds_in := d_kinds_in
  d_kind_table := d_kind_table
  d_goes_on := d_goes_on
  d_least_length := d_least_length
  d_least_field := d_least_field
  d_reckoned := d_reckoned
  d_fields_of := d_fields_of
  d_length_by := d_length_by
  d_parts_of := d_parts_of
  d_reading := d_reading
  d_law_pool := d_law_pool
  d_law_take := d_law_take
  d_law_length := d_law_length
  d_law_number := d_law_number
  d_law_plain_field := d_law_plain_field
  d_law_deep_field := d_law_deep_field
  d_law_tags := d_law_tags
  d_law_fields := d_law_fields
  d_law_grammar := d_law_grammar
  d_law_many := d_law_many
  d_law_bytes := d_law_bytes
  d_law_garbage := d_law_garbage
  d_law_made_field := d_law_made_field
  d_law_made := d_law_made
  d_law_spoilt := d_law_spoilt
  d_law_without_sums := d_law_without_sums
  d_law_turned := d_law_turned
  d_law_byte_right := d_law_byte_right
  d_law_own_bytes := d_law_own_bytes
  d_law := d_law
  d_read_number := d_read_number
  d_read_bits := d_read_bits
  d_read_bytes := d_read_bytes
  d_read_text := d_read_text
  d_read_sum := d_read_sum
  d_read_choice := d_read_choice
  d_read_row := d_read_row
  d_read_carried := d_read_carried
  d_spreads_of := ⟨_, _, ⟨⟨_, _, _, _, _, _, _, _, _, _, rfl, l_sp, c_sp, .inl ⟨rfl, rfl⟩, .inr ⟨_, rfl, fun q hq => by
    rw [List.mem_singleton.mp hq]
    exact ⟨_, e_sp, rfl⟩⟩⟩, k_sp⟩, PySem.W.mg_of X G a_sp⟩
  c_Reader := ⟨⟨pgReader, hdReader, poReader, saReader⟩, PySem.W.mg_of X G a_Reader⟩
  a_Reader_by_grammar := za_Reader_by_grammar
  a_Reader_known := za_Reader_known
  a_Reader_all_bytes := za_Reader_all_bytes
  a_Reader_found := za_Reader_found
  m_Reader_init := ⟨_, _, fun_mk (st := s_Reader_init) lm1 cm1 km1, ⟨mkReader, am1, im1, kcReader⟩⟩
  m_Reader_tell := ⟨_, _, fun_mk (st := s_Reader_tell) lm2 cm2 km2, ⟨am2, im2, km2⟩⟩
  m_Reader_stop := ⟨_, _, fun_mk (st := s_Reader_stop) lm3 cm3 km3, ⟨am3, im3, km3⟩⟩
  m_Reader_read_kind := ⟨_, _, fun_mk (st := s_Reader_read_kind) lm4 cm4 km4, ⟨am4, im4, km4⟩⟩
  m_Reader_read_room := ⟨_, _, fun_mk (st := s_Reader_read_room) lm5 cm5 km5, ⟨am5, im5, km5⟩⟩
  c_Room := ⟨⟨pgRoom, hdRoom, poRoom, saRoom⟩, PySem.W.mg_of X G a_Room⟩
  a_Room_place := za_Room_place
  a_Room_limit := za_Room_limit
  a_Room_end := za_Room_end
  m_Room_init := ⟨_, _, fun_mk (st := s_Room_init) lm6 cm6 km6, ⟨mkRoom, am6, im6, kcRoom⟩⟩
  c_Thing := ⟨⟨pgThing, hdThing, poThing, saThing⟩, PySem.W.mg_of X G a_Thing⟩
  a_Thing_reader := za_Thing_reader
  a_Thing_begin := za_Thing_begin
  a_Thing_place := za_Thing_place
  a_Thing_limit := za_Thing_limit
  a_Thing_end := za_Thing_end
  a_Thing_path := za_Thing_path
  a_Thing_tags := za_Thing_tags
  a_Thing_fields := za_Thing_fields
  m_Thing_init := ⟨_, _, fun_mk (st := s_Thing_init) lm7 cm7 km7, ⟨mkThing, am7, im7, kcThing⟩⟩
  m_Thing_read := ⟨_, _, fun_mk (st := s_Thing_read) lm8 cm8 km8, ⟨am8, im8, km8⟩⟩
  m_Thing_room := ⟨_, _, fun_mk (st := s_Thing_room) lm9 cm9 km9, ⟨am9, im9, km9⟩⟩
  m_Thing_lacks := ⟨_, _, fun_mk (st := s_Thing_lacks) lm10 cm10 km10, ⟨am10, im10, km10⟩⟩
  m_Thing_fails := ⟨_, _, fun_mk (st := s_Thing_fails) lm11 cm11 km11, ⟨am11, im11, km11⟩⟩
  m_Thing_take := ⟨_, _, fun_mk (st := s_Thing_take) lm12 cm12 km12, ⟨am12, im12, km12⟩⟩
  m_Thing_bytes_there := ⟨_, _, fun_mk (st := s_Thing_bytes_there) lm13 cm13 km13, ⟨am13, im13, km13⟩⟩
  m_Thing_is_short := ⟨_, _, fun_mk (st := s_Thing_is_short) lm14 cm14 km14, ⟨am14, im14, km14⟩⟩
  f_number := ⟨_, _, fun_mk (st := s_read_number) lrnumber crnumber krnumber, ⟨_, _, _, lD, kD, arnumber, rfl⟩⟩
  f_bits := ⟨_, _, fun_mk (st := s_read_bits) lrbits crbits krbits, ⟨_, _, _, lD, kD, arbits, rfl⟩⟩
  f_bytes := ⟨_, _, fun_mk (st := s_read_bytes) lrbytes crbytes krbytes, ⟨_, _, _, lD, kD, arbytes, rfl⟩⟩
  f_text := ⟨_, _, fun_mk (st := s_read_text) lrtext crtext krtext, ⟨_, _, _, lD, kD, artext, rfl⟩⟩
  f_sum := ⟨_, _, fun_mk (st := s_read_sum) lrsum crsum krsum, ⟨_, _, _, lD, kD, arsum, rfl⟩⟩
  f_choice := ⟨_, _, fun_mk (st := s_read_choice) lrchoice crchoice krchoice, ⟨_, _, _, lD, kD, archoice, rfl⟩⟩
  f_row := ⟨_, _, fun_mk (st := s_read_row) lrrow crrow krrow, ⟨_, _, _, lD, kD, arrow, rfl⟩⟩
  f_carried := ⟨_, _, fun_mk (st := s_read_carried) lrcarried crcarried krcarried, ⟨_, _, _, lD, kD, arcarried, rfl⟩⟩
theorem law_walk {l : PySem.W.OpenLaw} {w : World} {K : PySem.W.Frag} {mg : Str → Option Value} {fa cR cM cT aS aD : Addr} (hfa : mg "law" = some (.ref fa)) (T : Tp K mg w cR cM cT aS aD) :
    ∃ fd : FuncData, (∀ (s : Shared) (v : Value), BindsTo s fd ⟨[v], []⟩ [("_law_script", v)]) ∧ ∀ base : Heap, K.In base → base.Ns mainGlobals mg → FnOk l.prog w K mg base CX0 15 fa fd ["_law_script"] (spLaw K) := by
  obtain ⟨f, fd, F, m⟩ := T.d_law
  have e := hfa.symm.trans m
  cases e
  obtain ⟨oc, od, kV, doc, pm, an, cdv, ct, osl, e2, _⟩ := F.ex
  subst e2
  exact ⟨_, fun s v => .of_eq rfl, fun base _ _ => w_all T F⟩
theorem law_hsp {K : PySem.W.Frag} {H : Hp} {a : Addr} {ns : List Int} (hl : ns.length ≤ 63) (hS : SqL K H a (ns.map V.int)) : spLaw K [.ref a] H (fun v _ => v = .bl true) fun _ _ _ => False :=
  ⟨(a, ns), .cons (.obj a) .nil, ⟨⟨_, hS, AtL.of_ints ns⟩, hl⟩, fun v H' d _ at' e => by subst e; exact at'.bl_inv⟩
end Lb
/-! text HdTop -/
open PySem PySem.W PyProof.Rows
set_option maxHeartbeats 0
open_top LbHead for PySem.Challenge.rw_letterbench_k14_whole_only_what_hangs_tu
/-! text HdLaw -/
open PySem PySem.W PyProof.Rows
set_option maxHeartbeats 0 in
theorem PySem.Challenge.cw_letterbench_k14_whole_only_what_hangs_tu_holds : PySem.Challenge.rw_letterbench_k14_whole_only_what_hangs_tu.Holds := by
  refine LbHead ?_
  k_fill
  refine L2.walk_of (l := PySem.Challenge.rw_letterbench_k14_whole_only_what_hangs_tu) (n := 63) (k := 15) (x := "_law_script") (CX := fun _ => L2.CX0) (sp := fun w => Lb.spLaw _) rfl (by decide) rfl ⟨rfl, by decide, by decide⟩ (fun w h Y => PySem.W.kIn_of Y) ?F (fun _ _ _ _ hl _ hS => Lb.law_hsp hl hS) fun _ _ _ _ _ z => z
  case F =>
    intro w mg fa h KX G hmg
    have d_is_word : Lb.Df (L2.KOf KX) mg "is_word" "is_word" Lb.s_is_word := by
      refine' Lb.df_mk KX G ?a ?l ?c ?k
      (case a => k_is); (case l => k_is); (case c => k_is); (case k => k_is)
    have d_number_in : Lb.Df (L2.KOf KX) mg "number_in" "number_in" Lb.s_number_in := by
      refine' Lb.df_mk KX G ?a ?l ?c ?k
      (case a => k_is); (case l => k_is); (case c => k_is); (case k => k_is)
    have d_tags_in : Lb.Df (L2.KOf KX) mg "tags_in" "tags_in" Lb.s_tags_in := by
      refine' Lb.df_mk KX G ?a ?l ?c ?k
      (case a => k_is); (case l => k_is); (case c => k_is); (case k => k_is)
    have d_tags_of : Lb.Df (L2.KOf KX) mg "tags_of" "tags_of" Lb.s_tags_of := by
      refine' Lb.df_mk KX G ?a ?l ?c ?k
      (case a => k_is); (case l => k_is); (case c => k_is); (case k => k_is)
    have d_kinds_in : Lb.Df (L2.KOf KX) mg "kinds_in" "kinds_in" Lb.s_kinds_in := by
      refine' Lb.df_mk KX G ?a ?l ?c ?k
      (case a => k_is); (case l => k_is); (case c => k_is); (case k => k_is)
    have d_kind_table : Lb.Df (L2.KOf KX) mg "kind_table" "kind_table" Lb.s_kind_table := by
      refine' Lb.df_mk KX G ?a ?l ?c ?k
      (case a => k_is); (case l => k_is); (case c => k_is); (case k => k_is)
    have d_goes_on : Lb.Df (L2.KOf KX) mg "goes_on" "goes_on" Lb.s_goes_on := by
      refine' Lb.df_mk KX G ?a ?l ?c ?k
      (case a => k_is); (case l => k_is); (case c => k_is); (case k => k_is)
    have d_least_length : Lb.Df (L2.KOf KX) mg "least_length" "least_length" Lb.s_least_length := by
      refine' Lb.df_mk KX G ?a ?l ?c ?k
      (case a => k_is); (case l => k_is); (case c => k_is); (case k => k_is)
    have d_least_field : Lb.Df (L2.KOf KX) mg "least_field" "least_field" Lb.s_least_field := by
      refine' Lb.df_mk KX G ?a ?l ?c ?k
      (case a => k_is); (case l => k_is); (case c => k_is); (case k => k_is)
    have d_reckoned : Lb.Df (L2.KOf KX) mg "reckoned" "reckoned" Lb.s_reckoned := by
      refine' Lb.df_mk KX G ?a ?l ?c ?k
      (case a => k_is); (case l => k_is); (case c => k_is); (case k => k_is)
    have d_fields_of : Lb.Df (L2.KOf KX) mg "fields_of" "fields_of" Lb.s_fields_of := by
      refine' Lb.df_mk KX G ?a ?l ?c ?k
      (case a => k_is); (case l => k_is); (case c => k_is); (case k => k_is)
    have d_length_by : Lb.Df (L2.KOf KX) mg "length_by" "length_by" Lb.s_length_by := by
      refine' Lb.df_mk KX G ?a ?l ?c ?k
      (case a => k_is); (case l => k_is); (case c => k_is); (case k => k_is)
    have d_parts_of : Lb.Df (L2.KOf KX) mg "parts_of" "parts_of" Lb.s_parts_of := by
      refine' Lb.df_mk KX G ?a ?l ?c ?k
      (case a => k_is); (case l => k_is); (case c => k_is); (case k => k_is)
    have d_reading : Lb.Df (L2.KOf KX) mg "reading" "reading" Lb.s_reading := by
      refine' Lb.df_mk KX G ?a ?l ?c ?k
      (case a => k_is); (case l => k_is); (case c => k_is); (case k => k_is)
    have d_law_pool : Lb.Df (L2.KOf KX) mg "_law_pool" "_law_pool" Lb.s_law_pool := by
      refine' Lb.df_mk KX G ?a ?l ?c ?k
      (case a => k_is); (case l => k_is); (case c => k_is); (case k => k_is)
    have d_law_take : Lb.Df (L2.KOf KX) mg "_law_take" "_law_take" Lb.s_law_take := by
      refine' Lb.df_mk KX G ?a ?l ?c ?k
      (case a => k_is); (case l => k_is); (case c => k_is); (case k => k_is)
    have d_law_length : Lb.Df (L2.KOf KX) mg "_law_length" "_law_length" Lb.s_law_length := by
      refine' Lb.df_mk KX G ?a ?l ?c ?k
      (case a => k_is); (case l => k_is); (case c => k_is); (case k => k_is)
    have d_law_number : Lb.Df (L2.KOf KX) mg "_law_number" "_law_number" Lb.s_law_number := by
      refine' Lb.df_mk KX G ?a ?l ?c ?k
      (case a => k_is); (case l => k_is); (case c => k_is); (case k => k_is)
    have d_law_plain_field : Lb.Df (L2.KOf KX) mg "_law_plain_field" "_law_plain_field" Lb.s_law_plain_field := by
      refine' Lb.df_mk KX G ?a ?l ?c ?k
      (case a => k_is); (case l => k_is); (case c => k_is); (case k => k_is)
    have d_law_deep_field : Lb.Df (L2.KOf KX) mg "_law_deep_field" "_law_deep_field" Lb.s_law_deep_field := by
      refine' Lb.df_mk KX G ?a ?l ?c ?k
      (case a => k_is); (case l => k_is); (case c => k_is); (case k => k_is)
    have d_law_tags : Lb.Df (L2.KOf KX) mg "_law_tags" "_law_tags" Lb.s_law_tags := by
      refine' Lb.df_mk KX G ?a ?l ?c ?k
      (case a => k_is); (case l => k_is); (case c => k_is); (case k => k_is)
    have d_law_fields : Lb.Df (L2.KOf KX) mg "_law_fields" "_law_fields" Lb.s_law_fields := by
      refine' Lb.df_mk KX G ?a ?l ?c ?k
      (case a => k_is); (case l => k_is); (case c => k_is); (case k => k_is)
    have d_law_grammar : Lb.Df (L2.KOf KX) mg "_law_grammar" "_law_grammar" Lb.s_law_grammar := by
      refine' Lb.df_mk KX G ?a ?l ?c ?k
      (case a => k_is); (case l => k_is); (case c => k_is); (case k => k_is)
    have d_law_many : Lb.Df (L2.KOf KX) mg "_law_many" "_law_many" Lb.s_law_many := by
      refine' Lb.df_mk KX G ?a ?l ?c ?k
      (case a => k_is); (case l => k_is); (case c => k_is); (case k => k_is)
    have d_law_bytes : Lb.Df (L2.KOf KX) mg "_law_bytes" "_law_bytes" Lb.s_law_bytes := by
      refine' Lb.df_mk KX G ?a ?l ?c ?k
      (case a => k_is); (case l => k_is); (case c => k_is); (case k => k_is)
    have d_law_garbage : Lb.Df (L2.KOf KX) mg "_law_garbage" "_law_garbage" Lb.s_law_garbage := by
      refine' Lb.df_mk KX G ?a ?l ?c ?k
      (case a => k_is); (case l => k_is); (case c => k_is); (case k => k_is)
    have d_law_made_field : Lb.Df (L2.KOf KX) mg "_law_made_field" "_law_made_field" Lb.s_law_made_field := by
      refine' Lb.df_mk KX G ?a ?l ?c ?k
      (case a => k_is); (case l => k_is); (case c => k_is); (case k => k_is)
    have d_law_made : Lb.Df (L2.KOf KX) mg "_law_made" "_law_made" Lb.s_law_made := by
      refine' Lb.df_mk KX G ?a ?l ?c ?k
      (case a => k_is); (case l => k_is); (case c => k_is); (case k => k_is)
    have d_law_spoilt : Lb.Df (L2.KOf KX) mg "_law_spoilt" "_law_spoilt" Lb.s_law_spoilt := by
      refine' Lb.df_mk KX G ?a ?l ?c ?k
      (case a => k_is); (case l => k_is); (case c => k_is); (case k => k_is)
    have d_law_without_sums : Lb.Df (L2.KOf KX) mg "_law_without_sums" "_law_without_sums" Lb.s_law_without_sums := by
      refine' Lb.df_mk KX G ?a ?l ?c ?k
      (case a => k_is); (case l => k_is); (case c => k_is); (case k => k_is)
    have d_law_turned : Lb.Df (L2.KOf KX) mg "_law_turned" "_law_turned" Lb.s_law_turned := by
      refine' Lb.df_mk KX G ?a ?l ?c ?k
      (case a => k_is); (case l => k_is); (case c => k_is); (case k => k_is)
    have d_law_byte_right : Lb.Df (L2.KOf KX) mg "_law_byte_right" "_law_byte_right" Lb.s_law_byte_right := by
      refine' Lb.df_mk KX G ?a ?l ?c ?k
      (case a => k_is); (case l => k_is); (case c => k_is); (case k => k_is)
    have d_law_own_bytes : Lb.Df (L2.KOf KX) mg "_law_own_bytes" "_law_own_bytes" Lb.s_law_own_bytes := by
      refine' Lb.df_mk KX G ?a ?l ?c ?k
      (case a => k_is); (case l => k_is); (case c => k_is); (case k => k_is)
    have d_law : Lb.Df (L2.KOf KX) mg "law" "law" Lb.s_law := by
      refine' Lb.df_mk KX G ?a ?l ?c ?k
      (case a => k_is); (case l => k_is); (case c => k_is); (case k => k_is)
    have d_read_number : Lb.Df (L2.KOf KX) mg "read_number" "read_number" Lb.s_read_number := by
      refine' Lb.df_mk KX G ?a ?l ?c ?k
      (case a => k_is); (case l => k_is); (case c => k_is); (case k => k_is)
    have d_read_bits : Lb.Df (L2.KOf KX) mg "read_bits" "read_bits" Lb.s_read_bits := by
      refine' Lb.df_mk KX G ?a ?l ?c ?k
      (case a => k_is); (case l => k_is); (case c => k_is); (case k => k_is)
    have d_read_bytes : Lb.Df (L2.KOf KX) mg "read_bytes" "read_bytes" Lb.s_read_bytes := by
      refine' Lb.df_mk KX G ?a ?l ?c ?k
      (case a => k_is); (case l => k_is); (case c => k_is); (case k => k_is)
    have d_read_text : Lb.Df (L2.KOf KX) mg "read_text" "read_text" Lb.s_read_text := by
      refine' Lb.df_mk KX G ?a ?l ?c ?k
      (case a => k_is); (case l => k_is); (case c => k_is); (case k => k_is)
    have d_read_sum : Lb.Df (L2.KOf KX) mg "read_sum" "read_sum" Lb.s_read_sum := by
      refine' Lb.df_mk KX G ?a ?l ?c ?k
      (case a => k_is); (case l => k_is); (case c => k_is); (case k => k_is)
    have d_read_choice : Lb.Df (L2.KOf KX) mg "read_choice" "read_choice" Lb.s_read_choice := by
      refine' Lb.df_mk KX G ?a ?l ?c ?k
      (case a => k_is); (case l => k_is); (case c => k_is); (case k => k_is)
    have d_read_row : Lb.Df (L2.KOf KX) mg "read_row" "read_row" Lb.s_read_row := by
      refine' Lb.df_mk KX G ?a ?l ?c ?k
      (case a => k_is); (case l => k_is); (case c => k_is); (case k => k_is)
    have d_read_carried : Lb.Df (L2.KOf KX) mg "read_carried" "read_carried" Lb.s_read_carried := by
      refine' Lb.df_mk KX G ?a ?l ?c ?k
      (case a => k_is); (case l => k_is); (case c => k_is); (case k => k_is)
    refine' Lb.law_walk hmg (Lb.tp_mk KX G ?aS0 ?aD0 ?lS ?lD ?n_all ?n_any ?n_dict ?n_int ?n_isinstance ?n_len ?n_list ?n_max ?n_min ?n_range ?n_str ?n_sum ?n_tuple ?n_zip ?g_BYTE ?g_LETTERS ?g_LONGEST d_is_word d_number_in d_tags_in d_tags_of d_kinds_in d_kind_table d_goes_on d_least_length d_least_field d_reckoned d_fields_of d_length_by d_parts_of d_reading d_law_pool d_law_take d_law_length d_law_number d_law_plain_field d_law_deep_field d_law_tags d_law_fields d_law_grammar d_law_many d_law_bytes d_law_garbage d_law_made_field d_law_made d_law_spoilt d_law_without_sums d_law_turned d_law_byte_right d_law_own_bytes d_law d_read_number d_read_bits d_read_bytes d_read_text d_read_sum d_read_choice d_read_row d_read_carried ?a_sp ?l_sp ?c_sp ?k_sp ?e_sp ?a_Reader ?pgReader ?hdReader ?poReader ?saReader ?mkReader ?kcReader ?za_Reader_by_grammar ?za_Reader_known ?za_Reader_all_bytes ?za_Reader_found ?am1 ?im1 ?lm1 ?cm1 ?km1 ?am2 ?im2 ?lm2 ?cm2 ?km2 ?am3 ?im3 ?lm3 ?cm3 ?km3 ?am4 ?im4 ?lm4 ?cm4 ?km4 ?am5 ?im5 ?lm5 ?cm5 ?km5 ?a_Room ?pgRoom ?hdRoom ?poRoom ?saRoom ?mkRoom ?kcRoom ?za_Room_place ?za_Room_limit ?za_Room_end ?am6 ?im6 ?lm6 ?cm6 ?km6 ?a_Thing ?pgThing ?hdThing ?poThing ?saThing ?mkThing ?kcThing ?za_Thing_reader ?za_Thing_begin ?za_Thing_place ?za_Thing_limit ?za_Thing_end ?za_Thing_path ?za_Thing_tags ?za_Thing_fields ?am7 ?im7 ?lm7 ?cm7 ?km7 ?am8 ?im8 ?lm8 ?cm8 ?km8 ?am9 ?im9 ?lm9 ?cm9 ?km9 ?am10 ?im10 ?lm10 ?cm10 ?km10 ?am11 ?im11 ?lm11 ?cm11 ?km11 ?am12 ?im12 ?lm12 ?cm12 ?km12 ?am13 ?im13 ?lm13 ?cm13 ?km13 ?am14 ?im14 ?lm14 ?cm14 ?km14 ?arnumber ?lrnumber ?crnumber ?krnumber ?arbits ?lrbits ?crbits ?krbits ?arbytes ?lrbytes ?crbytes ?krbytes ?artext ?lrtext ?crtext ?krtext ?arsum ?lrsum ?crsum ?krsum ?archoice ?lrchoice ?crchoice ?krchoice ?arrow ?lrrow ?crrow ?krrow ?arcarried ?lrcarried ?crcarried ?krcarried ?ne_TM ?ne_TR ?vS ?kD)
    (case aS0 => k_is)
    (case aD0 => k_is)
    (case lS => k_is)
    (case lD => k_is)
    (case n_all => k_is)
    (case n_any => k_is)
    (case n_dict => k_is)
    (case n_int => k_is)
    (case n_isinstance => k_is)
    (case n_len => k_is)
    (case n_list => k_is)
    (case n_max => k_is)
    (case n_min => k_is)
    (case n_range => k_is)
    (case n_str => k_is)
    (case n_sum => k_is)
    (case n_tuple => k_is)
    (case n_zip => k_is)
    (case g_BYTE => k_is)
    (case g_LETTERS => k_is)
    (case g_LONGEST => k_is)
    (case a_sp => k_is)
    (case l_sp => k_is)
    (case c_sp => k_is)
    (case k_sp => k_is)
    (case e_sp => k_is)
    (case a_Reader => k_is)
    (case pgReader => k_is)
    (case hdReader => k_is)
    (case poReader => k_is)
    (case saReader => k_is)
    (case mkReader => k_is)
    (case kcReader => k_is)
    (case za_Reader_by_grammar => k_is)
    (case za_Reader_known => k_is)
    (case za_Reader_all_bytes => k_is)
    (case za_Reader_found => k_is)
    (case am1 => k_is)
    (case im1 => k_is)
    (case lm1 => k_is)
    (case cm1 => k_is)
    (case km1 => k_is)
    (case am2 => k_is)
    (case im2 => k_is)
    (case lm2 => k_is)
    (case cm2 => k_is)
    (case km2 => k_is)
    (case am3 => k_is)
    (case im3 => k_is)
    (case lm3 => k_is)
    (case cm3 => k_is)
    (case km3 => k_is)
    (case am4 => k_is)
    (case im4 => k_is)
    (case lm4 => k_is)
    (case cm4 => k_is)
    (case km4 => k_is)
    (case am5 => k_is)
    (case im5 => k_is)
    (case lm5 => k_is)
    (case cm5 => k_is)
    (case km5 => k_is)
    (case a_Room => k_is)
    (case pgRoom => k_is)
    (case hdRoom => k_is)
    (case poRoom => k_is)
    (case saRoom => k_is)
    (case mkRoom => k_is)
    (case kcRoom => k_is)
    (case za_Room_place => k_is)
    (case za_Room_limit => k_is)
    (case za_Room_end => k_is)
    (case am6 => k_is)
    (case im6 => k_is)
    (case lm6 => k_is)
    (case cm6 => k_is)
    (case km6 => k_is)
    (case a_Thing => k_is)
    (case pgThing => k_is)
    (case hdThing => k_is)
    (case poThing => k_is)
    (case saThing => k_is)
    (case mkThing => k_is)
    (case kcThing => k_is)
    (case za_Thing_reader => k_is)
    (case za_Thing_begin => k_is)
    (case za_Thing_place => k_is)
    (case za_Thing_limit => k_is)
    (case za_Thing_end => k_is)
    (case za_Thing_path => k_is)
    (case za_Thing_tags => k_is)
    (case za_Thing_fields => k_is)
    (case am7 => k_is)
    (case im7 => k_is)
    (case lm7 => k_is)
    (case cm7 => k_is)
    (case km7 => k_is)
    (case am8 => k_is)
    (case im8 => k_is)
    (case lm8 => k_is)
    (case cm8 => k_is)
    (case km8 => k_is)
    (case am9 => k_is)
    (case im9 => k_is)
    (case lm9 => k_is)
    (case cm9 => k_is)
    (case km9 => k_is)
    (case am10 => k_is)
    (case im10 => k_is)
    (case lm10 => k_is)
    (case cm10 => k_is)
    (case km10 => k_is)
    (case am11 => k_is)
    (case im11 => k_is)
    (case lm11 => k_is)
    (case cm11 => k_is)
    (case km11 => k_is)
    (case am12 => k_is)
    (case im12 => k_is)
    (case lm12 => k_is)
    (case cm12 => k_is)
    (case km12 => k_is)
    (case am13 => k_is)
    (case im13 => k_is)
    (case lm13 => k_is)
    (case cm13 => k_is)
    (case km13 => k_is)
    (case am14 => k_is)
    (case im14 => k_is)
    (case lm14 => k_is)
    (case cm14 => k_is)
    (case km14 => k_is)
    (case arnumber => k_is)
    (case lrnumber => k_is)
    (case crnumber => k_is)
    (case krnumber => k_is)
    (case arbits => k_is)
    (case lrbits => k_is)
    (case crbits => k_is)
    (case krbits => k_is)
    (case arbytes => k_is)
    (case lrbytes => k_is)
    (case crbytes => k_is)
    (case krbytes => k_is)
    (case artext => k_is)
    (case lrtext => k_is)
    (case crtext => k_is)
    (case krtext => k_is)
    (case arsum => k_is)
    (case lrsum => k_is)
    (case crsum => k_is)
    (case krsum => k_is)
    (case archoice => k_is)
    (case lrchoice => k_is)
    (case crchoice => k_is)
    (case krchoice => k_is)
    (case arrow => k_is)
    (case lrrow => k_is)
    (case crrow => k_is)
    (case krrow => k_is)
    (case arcarried => k_is)
    (case lrcarried => k_is)
    (case crcarried => k_is)
    (case krcarried => k_is)
    (case kD => k_keys)
    (case vS => exact ⟨.cons ⟨_, rfl⟩ .nil, by decide⟩)
    (case ne_TM => decide)
    (case ne_TR => decide)
